import PyProof.Rows.All
import Wide.All
import OpenK.AllK
import Wide.FinOn
import PyProof.EqAt
import PyProof.EqKinds
import PyProof.TupleCall
import PyProof.ReprReads
import HandS.ForMost
import HandS.Style
import HandS.Flow
import HandS.Zip
import HandS.TupAny
import HandS.IsInst
import HandS.Deep
import HandS.Defaults
import HandS.WordsExc
import KE.GoesEnum
import PyProof.ReprRoads
import HandS.Ends
import HandS.Wide
import HandS.Text
import HandS.TupMul
import HandS.RaiseMore
import KE.LtData
import PyProof.NeData
import KE.KRevSl
import HandS.Conv
import PyProof.ListStr
import HandS.SetKeys
import HandS.SetFor
import HandS.Strs
import HandS.StrMore
import KE.SortData
import HandS.Dict
import HandS.DictComp
import HandS.Iter
import PyProof.CompUse
import HandS.TupLe
import KE.KStrOpen
import PyProof.Ascii
import PyProof.ReprLen
import KE.KStateDown
import Lean
import HandS.Words
import HandS.Head0
import HandS.Head1
import HandS.Head2
import HandS.HeadEnd
import HandS.HeadHook1
import HandS.HeadHook2
import PySem.Challenge.RW_gridupgrade_k13_nodes_of_grids
set_option Elab.async false
set_option linter.all false
set_option maxRecDepth 100000
set_option maxHeartbeats 4000000
/-! THE DATA LAYER, part 0: values as trees, owned objects, the state's relation. -/
namespace DL
open PySem PySem.Spec L2
open PyProof.Rows hiding St

abbrev T := PyData

/-! ### a value is a tree -/
mutual
/-- v is the tree t in the tracked heap; the last place: the addresses of its lists and dicts -/
inductive RV (K : PySem.W.Frag) (H : Hp) : V → T → List Addr → Prop
  | non : RV K H .non .none []
  | bl (b : Bool) : RV K H (.bl b) (.bool b) []
  | int (i : Int) : RV K H (.int i) (.int i) []
  | str (x : Str) : RV K H (.str x) (.str x) []
  | tup {a : Addr} {vs : List V} {ts : List T} {as : List Addr} : SqT K H a vs → RVs K H vs ts as → RV K H (.ref a) (.tuple ts) as
  | lst {a : Addr} {vs : List V} {ts : List T} {as : List Addr} : Rd H a (.lst vs) → RVs K H vs ts as → RV K H (.ref a) (.list ts) (a :: as)
  | lstK {a : Addr} {vs : List V} {ts : List T} {as : List Addr} {o : Obj} {its : Array Value} {n : Nat} :
      K.lookup a = some o → o.cls = .type "list" → o.dict = none → o.data = .seq its n → its.size ≤ sizeLine → Vals vs its.toList → RVs K H vs ts as → RV K H (.ref a) (.list ts) as
  | dct {a : Addr} {kvs : List (Key × V)} {ts : List T} {as : List Addr} : Rd H a (.dK kvs) → RVs K H (kvs.map (·.2)) ts as →
      RV K H (.ref a) (.dict (List.zipWith (fun (p : Key × V) (t : T) => ((match p.1 with | .inl i => .int i | .inr x => .str x), t)) kvs ts)) (a :: as)
inductive RVs (K : PySem.W.Frag) (H : Hp) : List V → List T → List Addr → Prop
  | nil : RVs K H [] [] []
  | cons {v : V} {vs : List V} {t : T} {ts : List T} {as bs : List Addr} : RV K H v t as → RVs K H vs ts bs → RVs K H (v :: vs) (t :: ts) (as ++ bs)
end

abbrev keyT : Key → T
  | .inl i => .int i
  | .inr x => .str x

theorem RVs.length {K : PySem.W.Frag} {H : Hp} : ∀ {vs : List V} {ts : List T} {as : List Addr}, RVs K H vs ts as → vs.length = ts.length
  | _, _, _, .nil => rfl
  | _, _, _, .cons _ h => congrArg (· + 1) h.length

/-- what a change of the tracked heap keeps: all but F -/
structure Ext (H : Hp) (F : Addr → Prop) (H' : Hp) (F' : Addr → Prop) : Prop where
  keep : ∀ a o, H a = some o → ¬ F a → H' a = some o
  tups : ∀ a xs, H a = some (.tup xs) → H' a = some (.tup xs)
  frzs : ∀ a o u, H a = some (.frz o u) → H' a = some (.frz o u)
  new : ∀ a, F' a → F a ∨ H a = none
  dom : ∀ a, H' a = none → H a = none
theorem Ext.refl {H : Hp} {F : Addr → Prop} : Ext H F H F := ⟨fun _ _ h _ => h, fun _ _ h => h, fun _ _ _ h => h, fun _ h => .inl h, fun _ h => h⟩
theorem Ext.trans {H H1 H2 : Hp} {F F1 F2 : Addr → Prop} (h : Ext H F H1 F1) (k : Ext H1 F1 H2 F2) : Ext H F H2 F2 where
  keep a o e n := k.keep a o (h.keep a o e n) fun z => (h.new a z).elim n fun q => by rw [q] at e; cases e
  tups a xs e := k.tups a xs (h.tups a xs e)
  frzs a o u e := k.frzs a o u (h.frzs a o u e)
  new a z := (k.new a z).elim (h.new a) fun q => .inr (h.dom a q)
  dom a z := h.dom a (k.dom a z)
theorem Ext.weak {H H1 : Hp} {F F1 F' F1' : Addr → Prop} (h : Ext H F H1 F1) (w : ∀ a, F a → F' a) (w1 : ∀ a, F1' a → F1 a) : Ext H F' H1 F1' where
  keep a o e n := h.keep a o e fun z => n (w a z)
  tups := h.tups
  frzs := h.frzs
  new a z := (h.new a (w1 a z)).elim (fun q => .inl (w a q)) .inr
  dom := h.dom
/-- everything is kept -/
def Pres (H H' : Hp) : Prop := ∀ a o, H a = some o → H' a = some o
theorem Pres.refl {H : Hp} : Pres H H := fun _ _ h => h
theorem Pres.trans {H H1 H2 : Hp} (h : Pres H H1) (k : Pres H1 H2) : Pres H H2 := fun a o e => k a o (h a o e)
theorem Pres.upd {H : Hp} {p : Addr} {o : HO} (n : H p = none) : Pres H (upd H p o) := fun a u e => by
  rw [upd_ne (ne_of_none e n)]; exact e
theorem Pres.ext {H H' : Hp} {F : Addr → Prop} (h : Pres H H') : Ext H F H' F :=
  ⟨fun a o e _ => h a o e, fun a xs e => h a _ e, fun a o u e => h a _ e, fun _ z => .inl z, fun a z => by
    cases q : H a with
    | none => rfl
    | some o => rw [h a o q] at z; cases z⟩
theorem Pres.extA {H H' : Hp} {F : Addr → Prop} {A : List Addr} (h : Pres H H') (n : ∀ a ∈ A, H a = none) : Ext H F H' (fun a => F a ∨ a ∈ A) :=
  ⟨fun a o e _ => h a o e, fun a xs e => h a _ e, fun a o u e => h a _ e, fun a z => z.imp (fun q => q) (n a), (h.ext (F := F)).dom⟩

theorem Rd.tupE {H H' : Hp} {F F' : Addr → Prop} (x : Ext H F H' F') {a : Addr} {vs : List V} (h : Rd H a (.tup vs)) : Rd H' a (.tup vs) := by
  rcases h with h | ⟨o, h⟩
  · exact .inl (x.tups a vs h)
  · exact .inr ⟨o, x.frzs a o _ h⟩
theorem Rd.keepE {H H' : Hp} {F F' : Addr → Prop} (x : Ext H F H' F') {a : Addr} {u : HO} (h : Rd H a u) (n : ¬ F a) : Rd H' a u := by
  rcases h with h | ⟨o, h⟩
  · exact .inl (x.keep a u h n)
  · exact .inr ⟨o, x.keep a _ h n⟩
theorem Rd.some {H : Hp} {a : Addr} {u : HO} (h : Rd H a u) : ∃ o, H a = some o := by
  rcases h with h | ⟨o, h⟩ <;> exact ⟨_, h⟩
theorem SqT.keepE {K : PySem.W.Frag} {H H' : Hp} {F F' : Addr → Prop} (x : Ext H F H' F') {a : Addr} {vs : List V} (h : SqT K H a vs) : SqT K H' a vs := h.imp (Rd.tupE x) fun h => h

mutual
theorem RV.ext {K : PySem.W.Frag} {H H' : Hp} {F F' : Addr → Prop} (x : Ext H F H' F') : ∀ {v : V} {t : T} {as : List Addr}, RV K H v t as → (∀ a ∈ as, ¬ F a) → RV K H' v t as
  | _, _, _, .non, _ => .non
  | _, _, _, .bl b, _ => .bl b
  | _, _, _, .int i, _ => .int i
  | _, _, _, .str z, _ => .str z
  | _, _, _, .tup h r, n => .tup (SqT.keepE x h) (RVs.ext x r n)
  | _, _, _, .lst h r, n => .lst (Rd.keepE x h (n _ List.mem_cons_self)) (RVs.ext x r fun a m => n a (List.mem_cons_of_mem _ m))
  | _, _, _, .lstK h1 h2 h3 h4 h5 h6 r, n => .lstK h1 h2 h3 h4 h5 h6 (RVs.ext x r n)
  | _, _, _, .dct h r, n => .dct (Rd.keepE x h (n _ List.mem_cons_self)) (RVs.ext x r fun a m => n a (List.mem_cons_of_mem _ m))
theorem RVs.ext {K : PySem.W.Frag} {H H' : Hp} {F F' : Addr → Prop} (x : Ext H F H' F') : ∀ {vs : List V} {ts : List T} {as : List Addr}, RVs K H vs ts as → (∀ a ∈ as, ¬ F a) → RVs K H' vs ts as
  | _, _, _, .nil, _ => .nil
  | _, _, _, .cons h r, n => .cons (RV.ext x h fun a m => n a (List.mem_append_left _ m)) (RVs.ext x r fun a m => n a (List.mem_append_right _ m))
end
mutual
/-- the lists and dicts of a tree stand -/
theorem RV.there {K : PySem.W.Frag} {H : Hp} : ∀ {v : V} {t : T} {as : List Addr}, RV K H v t as → ∀ a ∈ as, ∃ o, H a = some o
  | _, _, _, .non, _, m => nomatch m
  | _, _, _, .bl b, _, m => nomatch m
  | _, _, _, .int i, _, m => nomatch m
  | _, _, _, .str z, _, m => nomatch m
  | _, _, _, .tup h r, a, m => RVs.there r a m
  | _, _, _, .lst h r, a, m => (List.mem_cons.mp m).elim (fun e => e ▸ Rd.some h) (RVs.there r a)
  | _, _, _, .lstK h1 h2 h3 h4 h5 h6 r, a, m => RVs.there r a m
  | _, _, _, .dct h r, a, m => (List.mem_cons.mp m).elim (fun e => e ▸ Rd.some h) (RVs.there r a)
theorem RVs.there {K : PySem.W.Frag} {H : Hp} : ∀ {vs : List V} {ts : List T} {as : List Addr}, RVs K H vs ts as → ∀ a ∈ as, ∃ o, H a = some o
  | _, _, _, .nil, _, m => nomatch m
  | _, _, _, .cons h r, a, m => (List.mem_append.mp m).elim (RV.there h a) (RVs.there r a)
end

/-- a tree whose lists and dicts are none of F -/
def RP (K : PySem.W.Frag) (H : Hp) (F : Addr → Prop) (v : V) (t : T) : Prop := ∃ as, RV K H v t as ∧ ∀ a ∈ as, ¬ F a
section
variable {K : PySem.W.Frag} {H H' : Hp} {F F' : Addr → Prop} {v : V} {t : T} {vs : List V} {ts : List T}
theorem RP.ext (h : RP K H F v t) (x : Ext H F H' F') : RP K H' F' v t := by
  obtain ⟨as, r, n⟩ := h
  refine ⟨as, r.ext x n, fun a m z => (x.new a z).elim (n a m) fun q => ?_⟩
  obtain ⟨o, e⟩ := r.there a m
  rw [q] at e; cases e
theorem RP.weak (h : RP K H F v t) (w : ∀ a, F' a → F a) : RP K H F' v t := let ⟨as, r, n⟩ := h; ⟨as, r, fun a m z => n a m (w a z)⟩
theorem RP.pres (h : RP K H F v t) (p : Pres H H') : RP K H' F v t := h.ext p.ext
/-- F may grow by what is new -/
theorem RP.grow (h : RP K H F v t) (w : ∀ a, F' a → F a ∨ H a = none) : RP K H F' v t := by
  obtain ⟨as, r, n⟩ := h
  refine ⟨as, r, fun a m z => (w a z).elim (n a m) fun q => ?_⟩
  obtain ⟨o, e⟩ := r.there a m
  rw [q] at e; cases e
abbrev RPs (K : PySem.W.Frag) (H : Hp) (F : Addr → Prop) : List V → List T → Prop := Paired (RP K H F)
theorem RPs.of : ∀ {vs : List V} {ts : List T} {as : List Addr}, RVs K H vs ts as → (∀ a ∈ as, ¬ F a) → RPs K H F vs ts
  | _, _, _, .nil, _ => .nil
  | _, _, _, .cons h r, n => .cons ⟨_, h, fun a m => n a (List.mem_append_left _ m)⟩ (RPs.of r fun a m => n a (List.mem_append_right _ m))
theorem RPs.rvs : ∀ {vs : List V} {ts : List T}, RPs K H F vs ts → ∃ as, RVs K H vs ts as ∧ ∀ a ∈ as, ¬ F a
  | _, _, .nil => ⟨[], .nil, fun _ m => nomatch m⟩
  | _, _, .cons ⟨as, h, n⟩ r => let ⟨bs, q, m⟩ := RPs.rvs r; ⟨as ++ bs, .cons h q, fun a z => (List.mem_append.mp z).elim (n a) (m a)⟩
theorem RPs.ext (x : Ext H F H' F') : ∀ {vs : List V} {ts : List T}, RPs K H F vs ts → RPs K H' F' vs ts
  | _, _, .nil => .nil
  | _, _, .cons h r => .cons (h.ext x) (RPs.ext x r)
theorem RPs.mapP {G : V → T → Prop} (w : ∀ v t, RP K H F v t → G v t) : ∀ {vs : List V} {ts : List T}, RPs K H F vs ts → Paired G vs ts
  | _, _, .nil => .nil
  | _, _, .cons h r => .cons (w _ _ h) (RPs.mapP w r)
theorem RPs.weak (h : RPs K H F vs ts) (w : ∀ a, F' a → F a) : RPs K H F' vs ts := h.mapP fun _ _ q => q.weak w
theorem RPs.grow (h : RPs K H F vs ts) (w : ∀ a, F' a → F a ∨ H a = none) : RPs K H F' vs ts := h.mapP fun _ _ q => q.grow w
theorem Paired.len {α β : Type} {G : α → β → Prop} : ∀ {l : List α} {r : List β}, Paired G l r → l.length = r.length
  | _, _, .nil => rfl
  | _, _, .cons _ h => congrArg (· + 1) (Paired.len h)
theorem Paired.app {α β : Type} {G : α → β → Prop} : ∀ {l l' : List α} {r r' : List β}, Paired G l r → Paired G l' r' → Paired G (l ++ l') (r ++ r')
  | _, _, _, _, .nil, k => k
  | _, _, _, _, .cons h t, k => .cons h (Paired.app t k)
theorem Paired.at {α β : Type} {G : α → β → Prop} : ∀ {l : List α} {r : List β} {i : Nat} {b : β}, Paired G l r → r[i]? = some b → ∃ a, l[i]? = some a ∧ G a b
  | _, _, _, _, .nil, e => by simp at e
  | _, _, 0, _, .cons h _, e => by simp at e; subst e; exact ⟨_, rfl, h⟩
  | _, _, i + 1, _, .cons _ t, e => by
    obtain ⟨a, h1, h2⟩ := Paired.at (i := i) t (by simpa using e)
    exact ⟨a, by simpa using h1, h2⟩
theorem Paired.atL {α β : Type} {G : α → β → Prop} : ∀ {l : List α} {r : List β} {i : Nat} {a : α}, Paired G l r → l[i]? = some a → ∃ b, r[i]? = some b ∧ G a b
  | _, _, _, _, .nil, e => by simp at e
  | _, _, 0, _, .cons h _, e => by simp at e; subst e; exact ⟨_, rfl, h⟩
  | _, _, i + 1, _, .cons _ t, e => by
    obtain ⟨a, h1, h2⟩ := Paired.atL (i := i) t (by simpa using e)
    exact ⟨a, by simpa using h1, h2⟩
theorem Paired.takeP {α β : Type} {G : α → β → Prop} : ∀ {l : List α} {r : List β} (n : Nat), Paired G l r → Paired G (l.take n) (r.take n)
  | _, _, 0, _ => by simp only [List.take_zero]; exact .nil
  | _, _, _ + 1, .nil => .nil
  | _, _, n + 1, .cons h t => .cons h (Paired.takeP n t)
theorem Paired.dropP {α β : Type} {G : α → β → Prop} : ∀ {l : List α} {r : List β} (n : Nat), Paired G l r → Paired G (l.drop n) (r.drop n)
  | _, _, 0, h => h
  | _, _, _ + 1, .nil => .nil
  | _, _, n + 1, .cons _ t => Paired.dropP n t
theorem Paired.setP {α β : Type} {G : α → β → Prop} {a : α} {b : β} (g : G a b) : ∀ {l : List α} {r : List β} (n : Nat), Paired G l r → Paired G (l.set n a) (r.set n b)
  | _, _, _, .nil => .nil
  | _, _, 0, .cons _ t => .cons g t
  | _, _, n + 1, .cons h t => .cons h (Paired.setP g n t)
theorem Paired.eraseP {α β : Type} {G : α → β → Prop} : ∀ {l : List α} {r : List β} (n : Nat), Paired G l r → Paired G (l.eraseIdx n) (r.eraseIdx n)
  | _, _, _, .nil => .nil
  | _, _, 0, .cons _ t => t
  | _, _, n + 1, .cons h t => .cons h (Paired.eraseP n t)
theorem Paired.revP {α β : Type} {G : α → β → Prop} : ∀ {l : List α} {r : List β}, Paired G l r → Paired G l.reverse r.reverse
  | _, _, .nil => .nil
  | _, _, .cons h t => by rw [List.reverse_cons, List.reverse_cons]; exact Paired.app (Paired.revP t) (.cons h .nil)
/-- a tuple, a list made of stable items is stable -/
theorem RP.tup {a : Addr} (h : SqT K H a vs) (r : RPs K H F vs ts) : RP K H F (.ref a) (.tuple ts) := let ⟨as, q, n⟩ := r.rvs; ⟨as, .tup h q, n⟩
theorem RP.lst {a : Addr} (h : Rd H a (.lst vs)) (r : RPs K H F vs ts) (n : ¬ F a) : RP K H F (.ref a) (.list ts) :=
  let ⟨as, q, m⟩ := r.rvs; ⟨a :: as, .lst h q, fun b z => (List.mem_cons.mp z).elim (fun e => e ▸ n) (m b)⟩
theorem RP.non : RP K H F .non .none := ⟨[], .non, fun _ m => nomatch m⟩
theorem RP.bl (b : Bool) : RP K H F (.bl b) (.bool b) := ⟨[], .bl b, fun _ m => nomatch m⟩
theorem RP.int (i : Int) : RP K H F (.int i) (.int i) := ⟨[], .int i, fun _ m => nomatch m⟩
theorem RP.str (x : Str) : RP K H F (.str x) (.str x) := ⟨[], .str x, fun _ m => nomatch m⟩
/-- read a tree off -/
theorem RP.tupE (h : RP K H F v (.tuple ts)) : ∃ a vs, v = .ref a ∧ SqT K H a vs ∧ RPs K H F vs ts := by
  obtain ⟨as, r, n⟩ := h
  cases r with
  | tup h r => exact ⟨_, _, rfl, h, RPs.of r n⟩
theorem RP.lstE (h : RP K H F v (.list ts)) : ∃ a vs, v = .ref a ∧ SqL K H a vs ∧ RPs K H F vs ts ∧ (F a → ∃ o, K.lookup a = some o) := by
  obtain ⟨as, r, n⟩ := h
  cases r with
  | lst h r => exact ⟨_, _, rfl, .inl h, RPs.of r fun a m => n a (List.mem_cons_of_mem _ m), fun z => absurd z (n _ List.mem_cons_self)⟩
  | lstK h1 h2 h3 h4 h5 h6 r => exact ⟨_, _, rfl, .inr ⟨_, _, _, h1, h2, h3, h4, h5, h6⟩, RPs.of r n, fun _ => ⟨_, h1⟩⟩
theorem RP.noneE (h : RP K H F v .none) : v = .non := by obtain ⟨_, r, _⟩ := h; cases r; rfl
theorem RP.boolE {b : Bool} (h : RP K H F v (.bool b)) : v = .bl b := by obtain ⟨_, r, _⟩ := h; cases r; rfl
theorem RP.intE {i : Int} (h : RP K H F v (.int i)) : v = .int i := by obtain ⟨_, r, _⟩ := h; cases r; rfl
theorem RP.strE {x : Str} (h : RP K H F v (.str x)) : v = .str x := by obtain ⟨_, r, _⟩ := h; cases r; rfl
theorem RP.dctE {kts : List (T × T)} (h : RP K H F v (.dict kts)) : ∃ a kvs ts, v = .ref a ∧ Rd H a (.dK kvs) ∧ RPs K H F (kvs.map (·.2)) ts ∧ ¬ F a ∧ kts = List.zipWith (fun (p : Key × V) (t : T) => (keyT p.1, t)) kvs ts := by
  obtain ⟨as, r, n⟩ := h
  cases r with
  | dct h r => exact ⟨_, _, _, rfl, h, RPs.of r fun a m => n a (List.mem_cons_of_mem _ m), n _ List.mem_cons_self, rfl⟩
end

/-! ### what a name holds -/
inductive O where
  | pure (t : T)
  | lst (ts : List T)
  | dct (kts : List (Key × T))
  | dcl (kts : List (Key × List T))
abbrev AEnv := List (Option O)
/-- what it is as a tree -/
def O.frz : O → T
  | .pure t => t
  | .lst ts => .list ts
  | .dct kts => .dict (kts.map fun p => (keyT p.1, p.2))
  | .dcl kts => .dict (kts.map fun p => (keyT p.1, .list p.2))

/-- a dict of lists: entries, contents, the lists' addresses -/
inductive RDL (K : PySem.W.Frag) (H : Hp) (F : Addr → Prop) : List (Key × V) → List (Key × List T) → List Addr → Prop
  | nil : RDL K H F [] [] []
  | cons {k : Key} {b : Addr} {vs : List V} {ts : List T} {kvs : List (Key × V)} {kts : List (Key × List T)} {bs : List Addr} :
      H b = some (.lst vs) → RPs K H F vs ts → RDL K H F kvs kts bs → RDL K H F ((k, .ref b) :: kvs) ((k, ts) :: kts) (b :: bs)

/-- v holds o; A: the addresses that are o's own -/
def RO (K : PySem.W.Frag) (H : Hp) (F : Addr → Prop) (v : V) : O → List Addr → Prop
  | .pure t, A => A = [] ∧ RP K H F v t
  | .lst ts, A => ∃ a vs, v = .ref a ∧ A = [a] ∧ H a = some (.lst vs) ∧ RPs K H F vs ts
  | .dct kts, A => ∃ a kvs, v = .ref a ∧ A = [a] ∧ H a = some (.dK kvs) ∧ Paired (fun (p : Key × V) (q : Key × T) => p.1 = q.1 ∧ RP K H F p.2 q.2) kvs kts
  | .dcl kts, A => ∃ a kvs bs, v = .ref a ∧ A = a :: bs ∧ H a = some (.dK kvs) ∧ RDL K H F kvs kts bs
/-- .. without the addresses -/
def RW (K : PySem.W.Frag) (H : Hp) (F : Addr → Prop) (v : V) : O → Prop
  | .pure t => RP K H F v t
  | .lst ts => ∃ a vs, v = .ref a ∧ H a = some (.lst vs) ∧ RPs K H F vs ts
  | .dct kts => ∃ a kvs, v = .ref a ∧ H a = some (.dK kvs) ∧ Paired (fun (p : Key × V) (q : Key × T) => p.1 = q.1 ∧ RP K H F p.2 q.2) kvs kts
  | .dcl kts => ∃ a kvs bs, v = .ref a ∧ H a = some (.dK kvs) ∧ RDL K H F kvs kts bs
section
variable {K : PySem.W.Frag} {H H' : Hp} {F F' : Addr → Prop} {v : V} {o : O} {A : List Addr}
theorem RDL.there : ∀ {kvs : List (Key × V)} {kts : List (Key × List T)} {bs : List Addr}, RDL K H F kvs kts bs → ∀ b ∈ bs, ∃ vs, H b = some (.lst vs)
  | _, _, _, .nil, _, m => nomatch m
  | _, _, _, .cons h _ r, b, m => (List.mem_cons.mp m).elim (fun e => ⟨_, e ▸ h⟩) (RDL.there r b)
theorem RDL.imp (w : ∀ vs ts, RPs K H F vs ts → RPs K H' F' vs ts) : ∀ {kvs : List (Key × V)} {kts : List (Key × List T)} {bs : List Addr}, RDL K H F kvs kts bs → (∀ b ∈ bs, ∀ vs, H b = some (.lst vs) → H' b = some (.lst vs)) → RDL K H' F' kvs kts bs
  | _, _, _, .nil, _ => .nil
  | _, _, _, .cons h q r, k => .cons (k _ List.mem_cons_self _ h) (w _ _ q) (RDL.imp w r fun b m => k b (List.mem_cons_of_mem _ m))
theorem RO.rw (h : RO K H F v o A) : RW K H F v o := by
  cases o with
  | pure t => exact h.2
  | lst ts => obtain ⟨a, vs, e, _, q⟩ := h; exact ⟨a, vs, e, q⟩
  | dct kts => obtain ⟨a, vs, e, _, q⟩ := h; exact ⟨a, vs, e, q⟩
  | dcl kts => obtain ⟨a, vs, bs, e, _, q⟩ := h; exact ⟨a, vs, bs, e, q⟩
/-- its own addresses stand -/
theorem RO.there (h : RO K H F v o A) : ∀ a ∈ A, ∃ u, H a = some u ∧ Mut (some u) := by
  cases o with
  | pure t => intro a m; rw [h.1] at m; cases m
  | lst ts => obtain ⟨a, vs, _, e, q, _⟩ := h; intro b m; rw [e] at m; obtain rfl := List.mem_singleton.mp m; exact ⟨_, q, trivial⟩
  | dct kts => obtain ⟨a, vs, _, e, q, _⟩ := h; intro b m; rw [e] at m; obtain rfl := List.mem_singleton.mp m; exact ⟨_, q, trivial⟩
  | dcl kts =>
    obtain ⟨a, vs, bs, _, e, q, r⟩ := h
    intro b m; rw [e] at m
    rcases List.mem_cons.mp m with rfl | m
    · exact ⟨_, q, trivial⟩
    · obtain ⟨us, z⟩ := r.there b m
      exact ⟨_, z, trivial⟩
/-- a change of the heap that keeps F's trees and o's own addresses -/
theorem RO.imp (h : RO K H F v o A) (w : ∀ v t, RP K H F v t → RP K H' F' v t) (k : ∀ a ∈ A, ∀ u, H a = some u → H' a = some u) : RO K H' F' v o A := by
  have ws : ∀ vs ts, RPs K H F vs ts → RPs K H' F' vs ts := fun vs ts q => q.mapP w
  cases o with
  | pure t => exact ⟨h.1, w _ _ h.2⟩
  | lst ts => obtain ⟨a, vs, e, e2, q, r⟩ := h; exact ⟨a, vs, e, e2, k a (e2 ▸ List.mem_singleton.mpr rfl) _ q, ws _ _ r⟩
  | dct kts =>
    obtain ⟨a, vs, e, e2, q, r⟩ := h
    exact ⟨a, vs, e, e2, k a (e2 ▸ List.mem_singleton.mpr rfl) _ q, Paired.mapP r fun p q z => ⟨z.1, w _ _ z.2⟩⟩
  | dcl kts =>
    obtain ⟨a, vs, bs, e, e2, q, r⟩ := h
    exact ⟨a, vs, bs, e, e2, k a (e2 ▸ List.mem_cons_self) _ q, r.imp ws fun b m us z => k b (e2 ▸ List.mem_cons_of_mem _ m) _ z⟩
theorem RO.ext (h : RO K H F v o A) (x : Ext H F H' F') (n : ∀ a ∈ A, ¬ F a) : RO K H' F' v o A := h.imp (fun _ _ q => q.ext x) fun a m u e => x.keep a u e (n a m)
theorem RO.weak (h : RO K H F v o A) (w : ∀ a, F' a → F a) : RO K H F' v o A := h.imp (fun _ _ q => q.weak w) fun _ _ _ e => e
theorem RO.grow (h : RO K H F v o A) (w : ∀ a, F' a → F a ∨ H a = none) : RO K H F' v o A := h.imp (fun _ _ q => q.grow w) fun _ _ _ e => e
theorem RO.pres (h : RO K H F v o A) (p : Pres H H') : RO K H' F v o A := h.imp (fun _ _ q => q.pres p) fun a _ u e => p a u e
theorem zip_kt : ∀ {kvs : List (Key × V)} {kts : List (Key × T)}, Paired (fun (p : Key × V) (q : Key × T) => p.1 = q.1 ∧ RP K H F p.2 q.2) kvs kts →
    (kts.map fun p => (keyT p.1, p.2)) = List.zipWith (fun (p : Key × V) (t : T) => (keyT p.1, t)) kvs (kts.map (·.2)) ∧ RPs K H F (kvs.map (·.2)) (kts.map (·.2))
  | _, _, .nil => ⟨rfl, .nil⟩
  | _, _, .cons h r => by
    obtain ⟨e, q⟩ := zip_kt r
    exact ⟨by simp only [List.map_cons, List.zipWith_cons_cons, e, h.1], .cons h.2 q⟩
theorem zip_kl (F' : Addr → Prop) (hF : ∀ a, F' a → F a) : ∀ {kvs : List (Key × V)} {kts : List (Key × List T)} {bs : List Addr}, RDL K H F kvs kts bs → (∀ b ∈ bs, ¬ F' b) →
    (kts.map fun p => (keyT p.1, PyData.list p.2)) = List.zipWith (fun (p : Key × V) (t : T) => (keyT p.1, t)) kvs (kts.map fun p => PyData.list p.2) ∧ RPs K H F' (kvs.map (·.2)) (kts.map fun p => PyData.list p.2)
  | _, _, _, .nil, _ => ⟨rfl, .nil⟩
  | _, _, _, .cons h q r, n => by
    obtain ⟨e, z⟩ := zip_kl F' hF r fun b m => n b (List.mem_cons_of_mem _ m)
    exact ⟨by simp only [List.map_cons, List.zipWith_cons_cons, e], .cons (RP.lst (.inl h) (q.weak hF) (n _ List.mem_cons_self)) z⟩
/-- given up: what was owned is a tree -/
theorem RO.frz (h : RO K H F v o A) (w : ∀ a, F' a → F a) (n : ∀ a ∈ A, ¬ F' a) : RP K H F' v o.frz := by
  cases o with
  | pure t => exact h.2.weak w
  | lst ts =>
    obtain ⟨a, vs, rfl, rfl, q, r⟩ := h
    exact RP.lst (.inl q) (r.weak w) (n a (List.mem_singleton.mpr rfl))
  | dct kts =>
    obtain ⟨a, kvs, rfl, rfl, q, r⟩ := h
    obtain ⟨e, z⟩ := zip_kt r
    obtain ⟨as, z, m⟩ := (z.weak w).rvs
    refine ⟨a :: as, ?_, fun b y => (List.mem_cons.mp y).elim (fun e => e ▸ n a (List.mem_singleton.mpr rfl)) (m b)⟩
    show RV K H (.ref a) (.dict (kts.map fun p => (keyT p.1, p.2))) (a :: as)
    rw [e]
    exact .dct (.inl q) z
  | dcl kts =>
    obtain ⟨a, kvs, bs, rfl, rfl, q, r⟩ := h
    obtain ⟨e, z⟩ := zip_kl F' w r fun b m => n b (List.mem_cons_of_mem _ m)
    obtain ⟨as, z, m⟩ := z.rvs
    refine ⟨a :: as, ?_, fun b y => (List.mem_cons.mp y).elim (fun e => e ▸ n a List.mem_cons_self) (m b)⟩
    show RV K H (.ref a) (.dict (kts.map fun p => (keyT p.1, PyData.list p.2))) (a :: as)
    rw [e]
    exact .dct (.inl q) z
/-- seen as a tree now -/
theorem RW.view (h : RW K H F v o) : ∃ as, RV K H v o.frz as := by
  cases o with
  | pure t => exact ⟨_, h.choose_spec.1⟩
  | lst ts =>
    obtain ⟨a, vs, rfl, q, r⟩ := h
    obtain ⟨as, z, _⟩ := r.rvs
    exact ⟨_, .lst (.inl q) z⟩
  | dct kts =>
    obtain ⟨a, kvs, rfl, q, r⟩ := h
    obtain ⟨e, z⟩ := zip_kt r
    obtain ⟨as, z, m⟩ := z.rvs
    refine ⟨a :: as, ?_⟩
    show RV K H (.ref a) (.dict (kts.map fun p => (keyT p.1, p.2))) (a :: as)
    rw [e]
    exact .dct (.inl q) z
  | dcl kts =>
    obtain ⟨a, kvs, bs, rfl, q, r⟩ := h
    obtain ⟨e, z⟩ := zip_kl (fun _ => False) (fun _ z => z.elim) r fun b m z => z
    obtain ⟨as, z, m⟩ := z.rvs
    refine ⟨a :: as, ?_⟩
    show RV K H (.ref a) (.dict (kts.map fun p => (keyT p.1, PyData.list p.2))) (a :: as)
    rw [e]
    exact .dct (.inl q) z
end

/-! ### the state -/
/-- what is owned by some slot -/
def Fo (fp : Nat → List Addr) : Addr → Prop := fun a => ∃ i, a ∈ fp i
def Or1 (F : Addr → Prop) (A : List Addr) : Addr → Prop := fun a => F a ∨ a ∈ A
/-- the slots hold what the environment says; G: addresses that others own -/
structure RS (K : PySem.W.Frag) (σ : St) (H : Hp) (ρ : AEnv) (fp : Nat → List Addr) (G : List Addr) : Prop where
  ex : ∀ i o, ρ[i]? = some (some o) → ∃ v, σ[i]? = some (some v) ∧ RO K H (Or1 (Fo fp) G) v o (fp i)
  non : ∀ i, (∀ o, ρ[i]? ≠ some (some o)) → fp i = []
  dj : ∀ i j a, a ∈ fp i → a ∈ fp j → i = j
  nd : ∀ i, (fp i).Nodup
  gf : ∀ a ∈ G, ¬ Fo fp a
  gi : ∀ a ∈ G, ∃ u, H a = some u
  len : ρ.length = σ.length
section
variable {K : PySem.W.Frag} {σ : St} {H H' : Hp} {ρ : AEnv} {fp : Nat → List Addr} {G G' : List Addr}
theorem RS.there (R : RS K σ H ρ fp G) : ∀ a, Fo fp a → ∃ u, H a = some u ∧ Mut (some u) := by
  rintro a ⟨i, m⟩
  by_cases h : ∃ o, ρ[i]? = some (some o)
  · obtain ⟨o, h⟩ := h
    obtain ⟨v, _, r⟩ := R.ex i o h
    exact r.there a m
  · rw [R.non i fun o e => h ⟨o, e⟩] at m
    cases m
theorem RS.pres (R : RS K σ H ρ fp G) (p : Pres H H') : RS K σ H' ρ fp G :=
  ⟨fun i o e => let ⟨v, h, r⟩ := R.ex i o e; ⟨v, h, r.pres p⟩, R.non, R.dj, R.nd, R.gf, fun a m => let ⟨u, e⟩ := R.gi a m; ⟨u, p a u e⟩, R.len⟩
theorem RS.fresh (R : RS K σ H ρ fp G) {a : Addr} (n : H a = none) : ¬ Or1 (Fo fp) G a := fun z => by
  rcases z with z | z
  · obtain ⟨u, e, _⟩ := R.there a z
    rw [n] at e; cases e
  · obtain ⟨u, e⟩ := R.gi a z
    rw [n] at e; cases e
/-- G by its members -/
theorem RS.sub (R : RS K σ H ρ fp G) (h : ∀ a ∈ G', a ∈ G) : RS K σ H ρ fp G' :=
  ⟨fun i o e => let ⟨v, q, r⟩ := R.ex i o e; ⟨v, q, r.weak fun a z => z.imp (fun q => q) (h a)⟩, R.non, R.dj, R.nd, fun a m => R.gf a (h a m), fun a m => R.gi a (h a m), R.len⟩
/-- G grows by what is new -/
theorem RS.new (R : RS K σ H ρ fp G) (p : Pres H H') {A : List Addr} (n : ∀ a ∈ A, H a = none) (i : ∀ a ∈ A, ∃ u, H' a = some u) : RS K σ H' ρ fp (A ++ G) :=
  ⟨fun i o e => let ⟨v, q, r⟩ := R.ex i o e; ⟨v, q, (r.grow fun a z => z.elim (fun q => .inl (.inl q)) fun m => (List.mem_append.mp m).elim (fun m => .inr (n a m)) fun m => .inl (.inr m)).pres p⟩, R.non, R.dj, R.nd,
    fun a m z => (List.mem_append.mp m).elim (fun m => R.fresh (n a m) (.inl z)) fun m => R.gf a m z, fun a m => (List.mem_append.mp m).elim (i a) fun m => let ⟨u, e⟩ := R.gi a m; ⟨u, p a u e⟩, R.len⟩
/-- the slots' values elsewhere -/
theorem RS.vals (R : RS K σ H ρ fp G) {σ' : St} (h : ∀ (i : Nat) (o : O) (v : V), ρ[i]? = some (some o) → σ[i]? = some (some v) → σ'[i]? = some (some v)) (hl : σ'.length = σ.length) : RS K σ' H ρ fp G :=
  ⟨fun i o e => let ⟨v, q, r⟩ := R.ex i o e; ⟨v, h i o v e q, r⟩, R.non, R.dj, R.nd, R.gf, R.gi, R.len.trans hl.symm⟩
end
theorem Ext.addG {H H' : Hp} {F F' : Addr → Prop} (x : Ext H F H' F') (G : List Addr) : Ext H (Or1 F G) H' (Or1 F' G) where
  keep a o e n := x.keep a o e fun z => n (.inl z)
  tups := x.tups
  frzs := x.frzs
  new a z := z.elim (fun z => (x.new a z).imp .inl (fun q => q)) fun m => .inl (.inr m)
  dom := x.dom
theorem Or1.app {F : Addr → Prop} {A G : List Addr} {a : Addr} : Or1 F (A ++ G) a ↔ Or1 (Or1 F A) G a :=
  ⟨fun z => z.elim (fun q => .inl (.inl q)) fun m => (List.mem_append.mp m).elim (fun m => .inl (.inr m)) .inr,
   fun z => z.elim (fun q => q.elim .inl fun m => .inr (List.mem_append_left _ m)) fun m => .inr (List.mem_append_right _ m)⟩
theorem Or1.perm {F : Addr → Prop} {A G : List Addr} {a : Addr} : Or1 F (A ++ G) a ↔ Or1 F (G ++ A) a :=
  ⟨fun z => z.imp (fun q => q) fun m => (List.mem_append.mp m).elim (List.mem_append_right _) (List.mem_append_left _),
   fun z => z.imp (fun q => q) fun m => (List.mem_append.mp m).elim (List.mem_append_right _) (List.mem_append_left _)⟩
end DL

set_option Elab.async false
set_option linter.all false
set_option maxRecDepth 100000
set_option maxHeartbeats 4000000
/-! THE DATA LAYER, part 1: expressions, tests, calls of built-ins. -/
namespace DL
open PySem PySem.Spec L2
open PyProof.Rows hiding St

/-- an operand: a value of its own, or what slot j holds -/
inductive Opd where
  | val (o : O)
  | slot (j : Nat)
def AEnv.at (ρ : AEnv) (j : Nat) : Option O := match ρ[j]? with
  | some (some o) => some o
  | _ => none
def Opd.get (ρ : AEnv) : Opd → Option O
  | .val o => some o
  | .slot j => ρ.at j
theorem AEnv.at_iff {ρ : AEnv} {j : Nat} {o : O} (h : ρ.at j = some o) : ρ[j]? = some (some o) := by
  unfold AEnv.at at h
  split at h
  · rename_i o' e; cases h; exact e
  · cases h
abbrev XT := AEnv → (Opd → AEnv → Prop) → Prop
abbrev XTs := AEnv → (List Opd → AEnv → Prop) → Prop
abbrev BT := AEnv → (Bool → AEnv → Prop) → Prop
def ROp (K : PySem.W.Frag) (σ : St) (H : Hp) (fp : Nat → List Addr) (ρ : AEnv) (G : List Addr) (v : V) : Opd → List Addr → Prop
  | .val o, A => RO K H (Or1 (Fo fp) (A ++ G)) v o A ∧ A.Nodup ∧ ∀ a ∈ A, a ∉ G
  | .slot j, A => A = [] ∧ σ[j]? = some (some v) ∧ ∃ o, ρ[j]? = some (some o)
def LX (K : PySem.W.Frag) (t : XT) : TE := fun σ H Q => ∃ ρ fp G Qa, RS K σ H ρ fp G ∧ t ρ Qa ∧
  ∀ v p A H' ρ' fp', RS K σ H' ρ' fp' (A ++ G) → ROp K σ H' fp' ρ' G v p A → Ext H (Fo fp) H' (Or1 (Fo fp') A) → Qa p ρ' → Q v H'
structure EX (X : Cx) (e : Expr) (t : XT) : Prop where
  pe : PE X e (LX X.K t)
theorem noMem {P : Addr → Prop} : ∀ a, a ∈ ([] : List Addr) → P a := fun _ m => nomatch m
theorem rop_pure {K : PySem.W.Frag} {σ : St} {H : Hp} {fp : Nat → List Addr} {ρ : AEnv} {G : List Addr} {v : V} {t : T} (r : RP K H (Or1 (Fo fp) G) v t) : ROp K σ H fp ρ G v (.val (.pure t)) [] :=
  ⟨⟨rfl, r⟩, .nil, noMem⟩
/-- arguments that have been evaluated; A: what is new and their own -/
inductive RArgs (K : PySem.W.Frag) (σ : St) (H : Hp) (F : Addr → Prop) (ρ : AEnv) : List V → List Opd → List Addr → Prop
  | nil : RArgs K σ H F ρ [] [] []
  | val {v : V} {o : O} {B A : List Addr} {vs : List V} {ps : List Opd} : RO K H F v o B → RArgs K σ H F ρ vs ps A → RArgs K σ H F ρ (v :: vs) (.val o :: ps) (B ++ A)
  | slot {v : V} {j : Nat} {A : List Addr} {vs : List V} {ps : List Opd} : σ[j]? = some (some v) → (∃ o, ρ[j]? = some (some o)) → RArgs K σ H F ρ vs ps A → RArgs K σ H F ρ (v :: vs) (.slot j :: ps) A
def LA (K : PySem.W.Frag) (n : Nat) (t : XTs) : TA := fun σ H Q => ∃ ρ fp G Qa, RS K σ H ρ fp G ∧ t ρ Qa ∧
  ∀ vs ps A H' ρ' fp', vs.length = n → RS K σ H' ρ' fp' (A ++ G) → RArgs K σ H' (Or1 (Fo fp') (A ++ G)) ρ' vs ps A → A.Nodup → (∀ a ∈ A, a ∉ G) → Ext H (Fo fp) H' (Or1 (Fo fp') A) → Qa ps ρ' → Q vs H'
structure EXs (X : Cx) (es : List Expr) (t : XTs) : Prop where
  pa : PA X es (LA X.K es.length t)
def LT (K : PySem.W.Frag) (t : BT) : TT := fun σ H Q => ∃ ρ fp G Qa, RS K σ H ρ fp G ∧ t ρ Qa ∧
  ∀ b H' ρ' fp', RS K σ H' ρ' fp' G → Ext H (Fo fp) H' (Fo fp') → Qa b ρ' → Q b H'
structure TX (X : Cx) (e : Expr) (t : BT) : Prop where
  pt : PT X e (LT X.K t)
structure WX (X : Cx) (e : Expr) (t : BT) : Prop where
  pw : PW X e (LT X.K t)

section
variable {X : Cx}
theorem PE.imp {e : Expr} {t t' : TE} (h : PE X e t) (w : ∀ σ H Q, t' σ H Q → t σ H Q) : PE X e t' := ⟨fun pins s σ H Q I q => h.run pins s σ H Q I (w σ H Q q)⟩
theorem PT.imp {e : Expr} {t t' : TT} (h : PT X e t) (w : ∀ σ H Q, t' σ H Q → t σ H Q) : PT X e t' := ⟨fun pins s σ H Q I q => h.run pins s σ H Q I (w σ H Q q)⟩
theorem PW.imp {e : Expr} {t t' : TT} (h : PW X e t) (w : ∀ σ H Q, t' σ H Q → t σ H Q) : PW X e t' := ⟨fun wh pins s σ H Q I q => h.run wh pins s σ H Q I (w σ H Q q)⟩
theorem PA.imp {es : List Expr} {t t' : TA} (h : PA X es t) (w : ∀ σ H Q, t' σ H Q → t σ H Q) : PA X es t' := ⟨fun pos pins s σ H Q I q => h.run pos pins s σ H Q I (w σ H Q q)⟩
theorem PS.imp {st : Stmt} {t t' : TS} (h : PS X st t) (w : ∀ D σ H, t' D σ H → t D σ H) : PS X st t' := ⟨fun pins s σ H D I q => h.run pins s σ H D I (w D σ H q)⟩
theorem PSs.imp {st : List Stmt} {t t' : TS} (h : PSs X st t) (w : ∀ D σ H, t' D σ H → t D σ H) : PSs X st t' := ⟨fun pins s σ H D I q => h.run pins s σ H D I (w D σ H q)⟩
theorem PI.imp {tg e : Expr} {t t' : TI} (h : PI X tg e t) (w : ∀ σ H R, t' σ H R → t σ H R) : PI X tg e t' := ⟨fun pins s σ H R I q => h.run pins s σ H R I (w σ H R q)⟩
theorem PG.imp {tg : Expr} {t t' : TG} (h : PG X tg t) (w : ∀ v σ H Q, t' v σ H Q → t v σ H Q) : PG X tg t' := ⟨fun pins s σ H v u Q I r q => h.run pins s σ H v u Q I r (w v σ H Q q)⟩
end

section
variable {K : PySem.W.Frag} {σ : St} {H H1 H2 : Hp} {fp fp1 fp2 : Nat → List Addr} {ρ ρ1 ρ2 : AEnv} {v : V} {p : Opd} {A B G : List Addr} {o : O} {F F' : Addr → Prop}
theorem Ext.or (x : Ext H F H1 (Or1 F' A)) : Ext H F H1 F' := x.weak (fun _ z => z) fun _ z => .inl z
theorem RS.at (R : RS K σ H ρ fp G) {j : Nat} (hv : σ[j]? = some (some v)) (ho : ρ.at j = some o) : RO K H (Or1 (Fo fp) G) v o (fp j) := by
  obtain ⟨v', e, r⟩ := R.ex j o (AEnv.at_iff ho)
  rw [hv] at e; cases e; exact r
/-- .. through a further step: its trees avoid what is new -/
theorem RO.step (h : RO K H1 (Or1 (Fo fp1) G) v o A) (x : Ext H1 (Fo fp1) H2 (Or1 (Fo fp2) B)) (n : ∀ a ∈ A, ¬ Fo fp1 a) : RO K H2 (Or1 (Fo fp2) (B ++ G)) v o A := by
  refine RO.imp h (fun v t q => ?_) fun a m u e => x.keep a u e (n a m)
  exact (q.ext (x.addG G)).weak fun a z => Or1.app.mp z
/-- what an operand is, later -/
theorem ROp.rw (h : ROp K σ H1 fp1 ρ1 G v p A) (R1 : RS K σ H1 ρ1 fp1 (A ++ G)) (x : Ext H1 (Fo fp1) H2 (Or1 (Fo fp2) B)) (R : RS K σ H2 ρ2 fp2 (B ++ (A ++ G))) (e : p.get ρ2 = some o) : RW K H2 (Or1 (Fo fp2) (B ++ (A ++ G))) v o := by
  cases p with
  | val o' =>
    obtain rfl : o' = o := Option.some.inj e
    exact (RO.step h.1 x fun a m => R1.gf a (List.mem_append_left _ m)).rw
  | slot j => exact (R.at h.2.1 e).rw
theorem ROp.rw0 (h : ROp K σ H1 fp1 ρ1 G v p A) (R1 : RS K σ H1 ρ1 fp1 (A ++ G)) (e : p.get ρ1 = some o) : RW K H1 (Or1 (Fo fp1) (A ++ G)) v o := by
  cases p with
  | val o' =>
    obtain rfl : o' = o := Option.some.inj e
    exact h.1.rw
  | slot j => exact (R1.at h.2.1 e).rw
theorem RArgs.len {vs : List V} {ps : List Opd} (h : RArgs K σ H F ρ vs ps A) : vs.length = ps.length := by
  induction h with
  | nil => rfl
  | val _ _ ih => exact congrArg (· + 1) ih
  | slot _ _ _ ih => exact congrArg (· + 1) ih
theorem RArgs.there {vs : List V} {ps : List Opd} (h : RArgs K σ H F ρ vs ps A) : ∀ a ∈ A, ∃ u, H a = some u := by
  induction h with
  | nil => exact noMem
  | val r _ ih => exact fun a m => (List.mem_append.mp m).elim (fun m => let ⟨u, e, _⟩ := r.there a m; ⟨u, e⟩) (ih a)
  | slot _ _ _ ih => exact ih
end

/-! ### the end of an operation: a new value, all else kept -/
def FinV (K : PySem.W.Frag) (H : Hp) (F : Addr → Prop) (Qa : O → Prop) (Q : VK) : Prop :=
  ∀ v o A H', Pres H H' → RO K H' (Or1 F A) v o A → (∀ a ∈ A, H a = none) → A.Nodup → Qa o → Q v H'
section
variable {K : PySem.W.Frag} {σ : St} {H H' : Hp} {F : Addr → Prop} {Qa : O → Prop} {Q : VK} {v : V} {t : T}
theorem Or1.nil : ∀ a, Or1 F [] a → F a := fun a z => z.elim (fun q => q) fun m => nomatch m
theorem FinV.pure (f : FinV K H F Qa Q) (r : RP K H F v t) (q : Qa (.pure t)) : Q v H := f v (.pure t) [] H Pres.refl ⟨rfl, r.weak Or1.nil⟩ (fun _ m => nomatch m) .nil q
theorem FinV.bl (f : FinV K H F Qa Q) {b : Bool} (q : Qa (.pure (.bool b))) : Q (.bl b) H := f.pure (RP.bl b) q
theorem FinV.int (f : FinV K H F Qa Q) {i : Int} (q : Qa (.pure (.int i))) : Q (.int i) H := f.pure (RP.int i) q
theorem FinV.str (f : FinV K H F Qa Q) {x : Str} (q : Qa (.pure (.str x))) : Q (.str x) H := f.pure (RP.str x) q
theorem FinV.lst (f : FinV K H F Qa Q) {p : Addr} {vs : List V} {ts : List T} (n : H p = none) (r : RPs K H F vs ts) (q : Qa (.lst ts)) : Q (.ref p) (upd H p (.lst vs)) := by
  refine f _ (.lst ts) [p] _ (Pres.upd n) ⟨p, vs, rfl, rfl, upd_same, ?_⟩ (fun a m => by rw [List.mem_singleton.mp m]; exact n) (by simp) q
  exact RPs.ext (Pres.upd n).ext (r.grow fun a z => z.imp (fun q => q) fun m => by rw [List.mem_singleton.mp m]; exact n)
theorem FinV.tup (f : FinV K H F Qa Q) {p : Addr} {vs : List V} {ts : List T} (n : H p = none) (r : RPs K H F vs ts) (q : Qa (.pure (.tuple ts))) : Q (.ref p) (upd H p (.tup vs)) :=
  f _ (.pure (.tuple ts)) [] _ (Pres.upd n) ⟨rfl, RP.tup (SqT.of upd_same) ((RPs.ext (F := F) (Pres.upd n).ext r).weak Or1.nil)⟩ (fun _ m => nomatch m) .nil q
end

/-! ### operations by values -/
abbrev G1 := O → (O → Prop) → Prop
abbrev G2 := O → O → (O → Prop) → Prop
abbrev GN := List O → (O → Prop) → Prop
def OpA (X : Cx) (f : Value → Value → Sem Value) (g : G2) : Prop := ∃ r, OpR X f r ∧ ∀ H F v u x y Q Qa, RW X.K H F v x → RW X.K H F u y → g x y Qa → FinV X.K H F Qa Q → r v u H Q
def UnA (X : Cx) (f : Value → Sem Value) (g : G1) : Prop := ∃ r, UnR X f r ∧ ∀ H F v x Q Qa, RW X.K H F v x → g x Qa → FinV X.K H F Qa Q → r v H Q
def CallA (X : Cx) (f : Value) (g : GN) : Prop := ∃ r, CallR X f r ∧ ∀ H F vs xs Q Qa, Paired (RW X.K H F) vs xs → g xs Qa → FinV X.K H F Qa Q → r vs H Q
def IxA (X : Cx) (g : G2) : Prop := ∃ r, IxR X r ∧ ∀ H F v u x y Q Qa, RW X.K H F v x → RW X.K H F u y → g x y Qa → FinV X.K H F Qa Q → r v u H Q
/-- one of several rules, by what the operands are -/
theorem OpA.alt {X : Cx} {f : Value → Value → Sem Value} {g g' g'' : G2} (h : OpA X f g) (h' : OpA X f g') (w : ∀ x y Qa, g'' x y Qa → g x y Qa ∨ g' x y Qa) : OpA X f g'' := by
  obtain ⟨r, hr, k⟩ := h
  obtain ⟨r', hr', k'⟩ := h'
  exact ⟨_, hr.or hr', fun H F v u x y Q Qa a b q f => (w x y Qa q).imp (fun q => k H F v u x y Q Qa a b q f) fun q => k' H F v u x y Q Qa a b q f⟩

def tName (j : Nat) : XT := fun ρ Q => match ρ[j]? with
  | some (some (.pure t)) => Q (.val (.pure t)) ρ
  | some (some _) => Q (.slot j) ρ
  | _ => False
def tCst (t : T) : XT := fun ρ Q => Q (.val (.pure t)) ρ
def g2 (g : G2) (ρ : AEnv) (p q : Opd) (Q : O → Prop) : Prop := match p.get ρ, q.get ρ with
  | some x, some y => g x y Q
  | _, _ => False
def tBin (g : G2) (ta tb : XT) : XT := fun ρ Q => ta ρ fun p ρ1 => tb ρ1 fun q ρ2 => g2 g ρ2 p q fun o => Q (.val o) ρ2
def g1 (g : G1) (ρ : AEnv) (p : Opd) (Q : O → Prop) : Prop := match p.get ρ with
  | some x => g x Q
  | _ => False
def tUny (g : G1) (ta : XT) : XT := fun ρ Q => ta ρ fun p ρ1 => g1 g ρ1 p fun o => Q (.val o) ρ1
def tNilA : XTs := fun ρ Q => Q [] ρ
def tConsA (t : XT) (u : XTs) : XTs := fun ρ Q => t ρ fun p ρ1 => u ρ1 fun ps ρ2 => (∀ j, p = .slot j → ∃ o, ρ2[j]? = some (some o)) ∧ Q (p :: ps) ρ2
def getAll (ρ : AEnv) : List Opd → Option (List O)
  | [] => some []
  | p :: ps => match p.get ρ, getAll ρ ps with
    | some o, some os => some (o :: os)
    | _, _ => none
def gN (g : GN) (ρ : AEnv) (ps : List Opd) (Q : O → Prop) : Prop := match getAll ρ ps with
  | some os => g os Q
  | _ => False
def tCallB (g : GN) (t : XTs) : XT := fun ρ Q => t ρ fun ps ρ1 => gN g ρ1 ps fun o => Q (.val o) ρ1

theorem fin_of {K : PySem.W.Frag} {σ : St} {H H2 : Hp} {fp fp2 : Nat → List Addr} {ρ2 : AEnv} {G G2 : List Addr} {Qa : Opd → AEnv → Prop} {Q : VK} (R2 : RS K σ H2 ρ2 fp2 G2) (hG : ∀ a ∈ G, a ∈ G2) (x : Ext H (Fo fp) H2 (Fo fp2))
    (fin : ∀ v p A H' ρ' fp', RS K σ H' ρ' fp' (A ++ G) → ROp K σ H' fp' ρ' G v p A → Ext H (Fo fp) H' (Or1 (Fo fp') A) → Qa p ρ' → Q v H') : FinV K H2 (Or1 (Fo fp2) G2) (fun o => Qa (.val o) ρ2) Q :=
  fun v o A H' p r n d q => by
    have i : ∀ a ∈ A, ∃ u, H' a = some u := fun a m => let ⟨u, e, _⟩ := r.there a m; ⟨u, e⟩
    refine fin v (.val o) A H' ρ2 fp2 ((R2.sub hG).new p n i) ⟨r.weak fun a z => ?_, d, fun a m z => ?_⟩ (x.trans (p.extA n)) q
    · rcases z with z | z
      · exact .inl (.inl z)
      · exact (List.mem_append.mp z).elim .inr fun m => .inl (.inr (hG a m))
    · exact R2.fresh (n a m) (.inr (hG a z))

section
variable {X : Cx} {a b e : Expr} {es : List Expr} {ta tb t : XT} {ts : XTs} {pos : Pos}
theorem ex_name (j : Nat) {x : Str} (hN : X.N[j]? = some x := by rfl) (hv : Vis X.env.scope x := by first | exact Or.inl rfl | exact Or.inr (Or.inl rfl) | exact Or.inr (Or.inr rfl)) (hd : (x == ("__debug__" : Str)) = false := by decide)
    (hcd : (x == ("__classdict__" : Str)) = false := by decide) : EX X (.Name x pos) (tName j) := by
  refine ⟨PE.imp (pe_var hN hv hd hcd) ?_⟩
  rintro σ H Q ⟨ρ, fp, G, Qa, R, h, fin⟩
  unfold tName at h
  have go : ∀ o, ρ[j]? = some (some o) → ∃ v, σ[j]? = some (some v) ∧ RO X.K H (Or1 (Fo fp) G) v o (fp j) := fun o e => R.ex j o e
  split at h
  · rename_i t e
    obtain ⟨v, hv, r⟩ := go _ e
    exact ⟨v, hv, fin v (.val (.pure t)) [] H ρ fp R (rop_pure r.2) (Pres.refl.extA noMem) h⟩
  · rename_i o _ e
    obtain ⟨v, hv, r⟩ := go _ e
    exact ⟨v, hv, fin v (.slot j) [] H ρ fp R ⟨rfl, hv, o, e⟩ (Pres.refl.extA noMem) h⟩
  · exact h.elim
theorem ex_cst {v : V} {t : T} (h : PE X e (tC v)) (r : ∀ K H F, RP K H F v t) : EX X e (tCst t) := by
  refine ⟨PE.imp h ?_⟩
  rintro σ H Q ⟨ρ, fp, G, Qa, R, h, fin⟩
  exact fin v (.val (.pure t)) [] H ρ fp R (rop_pure (r _ _ _)) (Pres.refl.extA noMem) h
theorem ex_int {i : Int} {j} : EX X (.Constant (.int i) j pos) (tCst (.int i)) := ex_cst pe_int fun _ _ _ => RP.int i
theorem ex_bl {i : Bool} {j} : EX X (.Constant (.bool i) j pos) (tCst (.bool i)) := ex_cst pe_bl fun _ _ _ => RP.bl i
theorem ex_non {j} : EX X (.Constant .none j pos) (tCst .none) := ex_cst pe_non fun _ _ _ => RP.non
theorem ex_str {x : Str} {j} : EX X (.Constant (.str x) j pos) (tCst (.str x)) := ex_cst pe_str fun _ _ _ => RP.str x
theorem ex_bin {op : Operator} {g : G2} (ho : OpA X (binaryOp op) g) (ha : EX X a ta) (hb : EX X b tb) : EX X (.BinOp a op b pos) (tBin g ta tb) := by
  obtain ⟨r, hr, hg⟩ := ho
  refine ⟨PE.imp (pe_op hr ha.pe hb.pe) ?_⟩
  rintro σ H Q ⟨ρ, fp, G, Qa, R, h, fin⟩
  refine ⟨ρ, fp, G, _, R, h, fun v p A H1 ρ1 fp1 R1 r1 x1 h1 => ?_⟩
  refine ⟨ρ1, fp1, A ++ G, _, R1, h1, fun u q B H2 ρ2 fp2 R2 r2 x2 h2 => ?_⟩
  unfold g2 at h2
  split at h2
  · rename_i x y e1 e2
    exact hg H2 (Or1 (Fo fp2) (B ++ (A ++ G))) v u x y Q _ (r1.rw R1 x2 R2 e1) (r2.rw0 R2 e2) h2 (fin_of R2 (fun a m => List.mem_append_right _ (List.mem_append_right _ m)) (x1.or.trans x2.or) fin)
  · exact h2.elim
theorem ex_cmp {op : CmpOp} {g : G2} (ho : OpA X (compareOp op) g) (ha : EX X a ta) (hb : EX X b tb) (hm : behindInMarks op b = false) : EX X (.Compare a [op] [b] pos) (tBin g ta tb) := by
  obtain ⟨r, hr, hg⟩ := ho
  refine ⟨PE.imp (pe_cmpR hr ha.pe hb.pe hm) ?_⟩
  rintro σ H Q ⟨ρ, fp, G, Qa, R, h, fin⟩
  refine ⟨ρ, fp, G, _, R, h, fun v p A H1 ρ1 fp1 R1 r1 x1 h1 => ?_⟩
  refine ⟨ρ1, fp1, A ++ G, _, R1, h1, fun u q B H2 ρ2 fp2 R2 r2 x2 h2 => ?_⟩
  unfold g2 at h2
  split at h2
  · rename_i x y e1 e2
    exact hg H2 (Or1 (Fo fp2) (B ++ (A ++ G))) v u x y Q _ (r1.rw R1 x2 R2 e1) (r2.rw0 R2 e2) h2 (fin_of R2 (fun a m => List.mem_append_right _ (List.mem_append_right _ m)) (x1.or.trans x2.or) fin)
  · exact h2.elim
theorem ex_un {op : UnaryOp} {g : G1} (ho : UnA X (unaryOp op) g) (ha : EX X a ta) : EX X (.UnaryOp op a pos) (tUny g ta) := by
  obtain ⟨r, hr, hg⟩ := ho
  refine ⟨PE.imp (pe_un hr ha.pe) ?_⟩
  rintro σ H Q ⟨ρ, fp, G, Qa, R, h, fin⟩
  refine ⟨ρ, fp, G, _, R, h, fun v p A H1 ρ1 fp1 R1 r1 x1 h1 => ?_⟩
  unfold g1 at h1
  split at h1
  · rename_i x e1
    exact hg H1 (Or1 (Fo fp1) (A ++ G)) v x Q _ (r1.rw0 R1 e1) h1 (fin_of R1 (fun a m => List.mem_append_right _ m) x1.or fin)
  · exact h1.elim
theorem ex_ix {g : G2} (ho : IxA X g) (ha : EX X a ta) (hb : EX X b tb) (hs : PlainIx b) : EX X (.Subscript a b pos) (tBin g ta tb) := by
  obtain ⟨r, hr, hg⟩ := ho
  refine ⟨PE.imp (pe_ix hr ha.pe hb.pe hs) ?_⟩
  rintro σ H Q ⟨ρ, fp, G, Qa, R, h, fin⟩
  refine ⟨ρ, fp, G, _, R, h, fun v p A H1 ρ1 fp1 R1 r1 x1 h1 => ?_⟩
  refine ⟨ρ1, fp1, A ++ G, _, R1, h1, fun u q B H2 ρ2 fp2 R2 r2 x2 h2 => ?_⟩
  unfold g2 at h2
  split at h2
  · rename_i x y e1 e2
    exact hg H2 (Or1 (Fo fp2) (B ++ (A ++ G))) v u x y Q _ (r1.rw R1 x2 R2 e1) (r2.rw0 R2 e2) h2 (fin_of R2 (fun a m => List.mem_append_right _ (List.mem_append_right _ m)) (x1.or.trans x2.or) fin)
  · exact h2.elim
theorem exs_nil : EXs X [] tNilA := by
  refine ⟨PA.imp pa_nil ?_⟩
  rintro σ H Q ⟨ρ, fp, G, Qa, R, h, fin⟩
  exact fin [] [] [] H ρ fp rfl R .nil .nil noMem (Pres.refl.extA noMem) h
theorem exs_cons (h1 : EX X e t) (h2 : EXs X es ts) (hs : starEach (e :: es) X.env = (false, eval e X.env) :: starEach es X.env := by rfl) : EXs X (e :: es) (tConsA t ts) := by
  refine ⟨PA.imp (pa_cons h1.pe h2.pa hs) ?_⟩
  rintro σ H Q ⟨ρ, fp, G, Qa, R, h, fin⟩
  refine ⟨ρ, fp, G, _, R, h, fun v p A H1 ρ1 fp1 R1 r1 x1 h1 => ?_⟩
  refine ⟨ρ1, fp1, A ++ G, _, R1, h1, fun vs ps B H2 ρ2 fp2 hl R2 r2 nd2 ng2 x2 h2 => ?_⟩
  have m1 : ∀ a, a ∈ B ++ (A ++ G) ↔ a ∈ A ++ (B ++ G) := fun a => by simp only [List.mem_append]; exact ⟨fun z => by rcases z with z | z | z <;> simp [z], fun z => by rcases z with z | z | z <;> simp [z]⟩
  have w1 : ∀ a, Or1 (Fo fp2) ((A ++ B) ++ G) a → Or1 (Fo fp2) (B ++ (A ++ G)) a := fun a z => z.imp (fun q => q) fun m => (m1 a).mpr (by rw [List.append_assoc] at m; exact m)
  have x' : Ext H (Fo fp) H2 (Or1 (Fo fp2) (A ++ B)) := by
    have := x1.trans (x2.addG A)
    exact this.weak (fun _ z => z) fun a z => Or1.app.mp (Or1.perm.mp z)
  have R2' : RS X.K σ H2 ρ2 fp2 ((A ++ B) ++ G) := R2.sub fun a m => (m1 a).mpr (by rw [List.append_assoc] at m; exact m)
  have low : ∀ {vs : List V} {ps : List Opd} {C : List Addr}, RArgs X.K σ H2 (Or1 (Fo fp2) (B ++ (A ++ G))) ρ2 vs ps C → RArgs X.K σ H2 (Or1 (Fo fp2) ((A ++ B) ++ G)) ρ2 vs ps C := fun r => by
    induction r with
    | nil => exact .nil
    | val r _ ih => exact .val (r.weak w1) ih
    | slot a b _ ih => exact .slot a b ih
  cases p with
  | val o =>
    have ndA : (A ++ B).Nodup := List.nodup_append.mpr ⟨r1.2.1, nd2, fun a m b n e => ng2 b n (e ▸ List.mem_append_left _ m)⟩
    refine fin (v :: vs) (.val o :: ps) (A ++ B) H2 ρ2 fp2 (congrArg (· + 1) hl) R2' (.val ?_ (low r2)) ndA (fun a m z => ?_) x' h2.2
    · exact (RO.step r1.1 x2 fun a m => R1.gf a (List.mem_append_left _ m)).weak w1
    · exact (List.mem_append.mp m).elim (fun m => r1.2.2 a m z) fun m => ng2 a m (List.mem_append_right _ z)
  | slot j =>
    obtain ⟨rfl, hv, _⟩ := r1
    exact fin (v :: vs) (.slot j :: ps) B H2 ρ2 fp2 (congrArg (· + 1) hl) R2' (.slot hv (h2.1 j rfl) (low r2)) nd2 (fun a m z => ng2 a m (by simpa using z)) x' h2.2
theorem getAll_rw {K : PySem.W.Frag} {σ : St} {H : Hp} {fp : Nat → List Addr} {ρ : AEnv} {G : List Addr} (R : RS K σ H ρ fp G) {vs : List V} {ps : List Opd} {A : List Addr} (h : RArgs K σ H (Or1 (Fo fp) G) ρ vs ps A) : ∀ {os : List O}, getAll ρ ps = some os → Paired (RW K H (Or1 (Fo fp) G)) vs os := by
  induction h with
  | nil => intro os e; cases e; exact .nil
  | val r _ ih =>
    intro os e
    unfold getAll at e
    split at e
    · rename_i o os e1 e2
      cases e
      cases e1
      exact .cons r.rw (ih e2)
    · cases e
  | slot hv _ _ ih =>
    intro os e
    unfold getAll at e
    split at e
    · rename_i o os e1 e2
      cases e
      exact .cons (R.at hv e1).rw (ih e2)
    · cases e
theorem ex_callB {x : Str} {p : Pos} {id : String} {g : GN} (hc : CallA X (.builtin id) g) (hg : Gl X x) (hm : X.mg x = none) (hv : bootBuiltins x = some (.builtin id)) (ha : EXs X (e :: es) ts) (hn : x ≠ "__name__" := by decide) (hdb : (x == ("__debug__" : Str)) = false := by decide)
    (he : starEach (e :: es) X.env = (false, eval e X.env) :: starEach es X.env := by rfl) (hpl : (backTo pos (starEach es X.env)).any (·.1) = false := by rfl) : EX X (.Call (.Name x p) (e :: es) [] pos) (tCallB g ts) := by
  obtain ⟨r, hr, hgg⟩ := hc
  refine ⟨PE.imp (pe_callB hr hg hm hv ha.pa hn hdb he hpl) ?_⟩
  rintro σ H Q ⟨ρ, fp, G, Qa, R, h, fin⟩
  refine ⟨ρ, fp, G, _, R, h, fun vs ps A H1 ρ1 fp1 hl R1 r1 nd1 ng1 x1 h1 => ?_⟩
  unfold gN at h1
  split at h1
  · rename_i os e1
    exact hgg H1 (Or1 (Fo fp1) (A ++ G)) vs os Q _ (getAll_rw R1 r1 e1) h1 (fin_of R1 (fun a m => List.mem_append_right _ m) x1.or fin)
  · exact h1.elim
theorem ex_callTy {x : Str} {p : Pos} {id : String} {g : GN} (hc : CallA X (.type id) g) (hg : Gl X x) (hm : X.mg x = none) (hv : bootBuiltins x = some (.type id)) (ha : EXs X (e :: es) ts) (hn : x ≠ "__name__" := by decide) (hdb : (x == ("__debug__" : Str)) = false := by decide)
    (he : starEach (e :: es) X.env = (false, eval e X.env) :: starEach es X.env := by rfl) (hpl : (backTo pos (starEach es X.env)).any (·.1) = false := by rfl) : EX X (.Call (.Name x p) (e :: es) [] pos) (tCallB g ts) := by
  obtain ⟨r, hr, hgg⟩ := hc
  refine ⟨PE.imp (pe_callTy hr hg hm hv ha.pa hn hdb he hpl) ?_⟩
  rintro σ H Q ⟨ρ, fp, G, Qa, R, h, fin⟩
  refine ⟨ρ, fp, G, _, R, h, fun vs ps A H1 ρ1 fp1 hl R1 r1 nd1 ng1 x1 h1 => ?_⟩
  unfold gN at h1
  split at h1
  · rename_i os e1
    exact hgg H1 (Or1 (Fo fp1) (A ++ G)) vs os Q _ (getAll_rw R1 r1 e1) h1 (fin_of R1 (fun a m => List.mem_append_right _ m) x1.or fin)
  · exact h1.elim
end

end DL

set_option Elab.async false
set_option linter.all false
set_option maxRecDepth 100000
set_option maxHeartbeats 4000000
/-! THE DATA LAYER, part 2: displays, truth, statements. -/
namespace DL
open PySem PySem.Spec L2
open PyProof.Rows hiding St

/-! ### what a slot owns: given up, replaced -/
def fpSet (fp : Nat → List Addr) (j : Nat) (A : List Addr) : Nat → List Addr := fun i => if i = j then A else fp i
theorem fpSet_at {fp : Nat → List Addr} {j : Nat} {A : List Addr} : fpSet fp j A j = A := by unfold fpSet; rw [if_pos rfl]
theorem fpSet_ne {fp : Nat → List Addr} {j i : Nat} {A : List Addr} (h : i ≠ j) : fpSet fp j A i = fp i := by unfold fpSet; rw [if_neg h]
section
variable {K : PySem.W.Frag} {σ : St} {H H1 : Hp} {fp : Nat → List Addr} {ρ : AEnv} {v : V} {p : Opd} {o : O} {j : Nat} {A G : List Addr} {t : T}
theorem Fo.set {a : Addr} (h : Fo (fpSet fp j A) a) : Fo fp a ∨ a ∈ A := by
  obtain ⟨i, m⟩ := h
  unfold fpSet at m
  split at m
  · exact .inr m
  · exact .inl ⟨i, m⟩
theorem AEnv.get_set (ρ : AEnv) (j i : Nat) (x : Option O) : (ρ.set j x)[i]? = if j = i then (if j < ρ.length then some x else none) else ρ[i]? := by
  by_cases h : j = i
  · subst h
    rw [if_pos rfl]
    by_cases k : j < ρ.length
    · rw [if_pos k, List.getElem?_set_self k]
    · rw [if_neg k, List.getElem?_eq_none (by simpa using k)]
  · rw [if_neg h, List.getElem?_set_ne h]
/-- the footprint of slot j becomes A, its content o (of the same object or of another one) -/
theorem RS.upd {σ' : St} (R : RS K σ H ρ fp (A ++ G)) (hA : ∀ a ∈ A, a ∉ G) (d : A.Nodup) (hj : j < ρ.length)
    (hσ : ∀ i v, i ≠ j → σ[i]? = some (some v) → σ'[i]? = some (some v)) (hv : σ'[j]? = some (some v)) (hl : σ'.length = σ.length) (r : RO K H (Or1 (Fo (fpSet fp j A)) G) v o A) : RS K σ' H (ρ.set j (some o)) (fpSet fp j A) G := by
  have w : ∀ a, Or1 (Fo (fpSet fp j A)) G a → Or1 (Fo fp) (A ++ G) a := fun a z => z.elim (fun z => z.set.elim .inl fun m => .inr (List.mem_append_left _ m)) fun m => .inr (List.mem_append_right _ m)
  refine ⟨fun i u h => ?_, fun i h => ?_, fun i k a m z => ?_, fun i => ?_, fun a m z => ?_, fun a m => R.gi a (List.mem_append_right _ m), by rw [List.length_set, R.len, hl]⟩
  · rw [AEnv.get_set] at h
    by_cases q : j = i
    · subst q
      rw [if_pos rfl, if_pos hj] at h
      cases h
      exact ⟨v, hv, by rw [fpSet_at]; exact r⟩
    · rw [if_neg q] at h
      obtain ⟨x, hx, r'⟩ := R.ex i u h
      exact ⟨x, hσ i x (fun z => q z.symm) hx, by rw [fpSet_ne fun z => q z.symm]; exact r'.weak w⟩
  · by_cases q : i = j
    · subst q
      exact absurd (by rw [AEnv.get_set, if_pos rfl, if_pos hj]) (h o)
    · rw [fpSet_ne q]
      refine R.non i fun o' z => h o' ?_
      rw [AEnv.get_set, if_neg fun y => q y.symm]
      exact z
  · by_cases q : i = j
    · by_cases q' : k = j
      · rw [q, q']
      · rw [q, fpSet_at] at m
        rw [fpSet_ne q'] at z
        exact absurd ⟨k, z⟩ (R.gf a (List.mem_append_left _ m))
    · by_cases q' : k = j
      · rw [q', fpSet_at] at z
        rw [fpSet_ne q] at m
        exact absurd ⟨i, m⟩ (R.gf a (List.mem_append_left _ z))
      · rw [fpSet_ne q] at m
        rw [fpSet_ne q'] at z
        exact R.dj i k a m z
  · by_cases q : i = j
    · rw [q, fpSet_at]; exact d
    · rw [fpSet_ne q]; exact R.nd i
  · rcases z.set with z | z
    · exact R.gf a (List.mem_append_right _ m) z
    · exact hA a z m
/-- given up -/
theorem RS.freeze (R : RS K σ H ρ fp G) (e : ρ[j]? = some (some o)) : RS K σ H (ρ.set j (some (.pure o.frz))) (fpSet fp j []) G ∧ ∀ v, σ[j]? = some (some v) → RP K H (Or1 (Fo (fpSet fp j [])) G) v o.frz := by
  obtain ⟨v, hv, r⟩ := R.ex j o e
  have w : ∀ a, Or1 (Fo (fpSet fp j [])) G a → Or1 (Fo fp) G a := fun a z => z.imp (fun z => z.set.elim (fun q => q) fun m => nomatch m) fun m => m
  have q : RP K H (Or1 (Fo (fpSet fp j [])) G) v o.frz := by
    refine r.frz w fun a m z => ?_
    rcases z with ⟨i, z⟩ | z
    · by_cases q : i = j
      · subst q; rw [fpSet_at] at z; cases z
      · rw [fpSet_ne q] at z
        exact q (R.dj i j a z m)
    · exact R.gf a z ⟨j, m⟩
  refine ⟨RS.upd (A := []) R noMem .nil (List.getElem?_eq_some_iff.mp e).1 (fun i v _ h => h) hv rfl ⟨rfl, q⟩, fun v' h => ?_⟩
  rw [hv] at h; cases h; exact q
/-- a name is stored -/
theorem RS.put (R : RS K σ H ρ fp (A ++ G)) (hj : j < ρ.length) (r : RO K H (Or1 (Fo fp) (A ++ G)) v o A) (d : A.Nodup) (hA : ∀ a ∈ A, a ∉ G) : RS K (σ.set j (some v)) H (ρ.set j (some o)) (fpSet fp j A) G :=
  R.upd hA d hj (fun i v h e => by rw [List.getElem?_set_ne (Ne.symm h)]; exact e) (List.getElem?_set_self (by rw [← R.len]; exact hj)) (by rw [List.length_set]) (r.weak fun a z => z.elim (fun z => z.set.elim .inl fun m => .inr (List.mem_append_left _ m)) fun m => .inr (List.mem_append_right _ m))
/-- a slot is forgotten -/
theorem RS.drop {σ' : St} (R : RS K σ H ρ fp G) (hσ : ∀ (i : Nat) (v : V), i ≠ j → σ[i]? = some (some v) → σ'[i]? = some (some v)) (hl : σ'.length = σ.length) : RS K σ' H (ρ.set j none) (fpSet fp j []) G := by
  have w : ∀ a, Or1 (Fo (fpSet fp j [])) G a → Or1 (Fo fp) G a := fun a z => z.imp (fun z => z.set.elim (fun q => q) fun m => nomatch m) fun m => m
  refine ⟨fun i u h => ?_, fun i h => ?_, fun i k a m z => ?_, fun i => ?_, fun a m z => R.gf a m (z.set.elim (fun q => q) fun m => nomatch m), R.gi, by rw [List.length_set, R.len, hl]⟩
  · rw [AEnv.get_set] at h
    by_cases q : j = i
    · rw [if_pos q] at h
      split at h <;> cases h
    · rw [if_neg q] at h
      obtain ⟨x, hx, r'⟩ := R.ex i u h
      exact ⟨x, hσ i x (fun z => q z.symm) hx, by rw [fpSet_ne fun z => q z.symm]; exact r'.weak w⟩
  · by_cases q : i = j
    · rw [q, fpSet_at]
    · rw [fpSet_ne q]
      refine R.non i fun o' z => h o' ?_
      rw [AEnv.get_set, if_neg fun y => q y.symm]
      exact z
  · by_cases q : i = j
    · rw [q, fpSet_at] at m; cases m
    · by_cases q' : k = j
      · rw [q', fpSet_at] at z; cases z
      · rw [fpSet_ne q] at m
        rw [fpSet_ne q'] at z
        exact R.dj i k a m z
  · by_cases q : i = j
    · rw [q, fpSet_at]; exact .nil
    · rw [fpSet_ne q]; exact R.nd i
theorem Ext.del {j : Nat} : Ext H (Fo fp) H (Fo (fpSet fp j [])) := Ext.refl.weak (fun _ z => z) fun a z => z.set.elim (fun q => q) fun m => nomatch m
theorem Ext.putE {j : Nat} {F : Addr → Prop} (x : Ext H F H1 (Or1 (Fo fp) A)) : Ext H F H1 (Fo (fpSet fp j A)) := x.weak (fun _ z => z) fun a z => z.set.elim .inl .inr
end

/-! ### operands as trees -/
/-- an owned slot is given up -/
def take1 : Opd → AEnv → (T → AEnv → Prop) → Prop
  | .val o, ρ, Q => Q o.frz ρ
  | .slot j, ρ, Q => match ρ[j]? with
    | some (some o) => Q o.frz (ρ.set j (some (.pure o.frz)))
    | _ => False
def takeAll : List Opd → AEnv → (List T → AEnv → Prop) → Prop
  | [], ρ, Q => Q [] ρ
  | p :: ps, ρ, Q => take1 p ρ fun t ρ1 => takeAll ps ρ1 fun ts ρ2 => Q (t :: ts) ρ2
section
variable {K : PySem.W.Frag} {σ : St} {H H1 : Hp} {fp : Nat → List Addr} {ρ : AEnv} {v : V} {p : Opd} {o : O} {j : Nat} {A B G : List Addr} {F F' : Addr → Prop}
theorem RArgs.weak {ρ' : AEnv} (w : ∀ a, F' a → F a) (hh : ∀ (j : Nat) (o : O), ρ[j]? = some (some o) → ∃ o', ρ'[j]? = some (some o')) {vs : List V} {ps : List Opd} (h : RArgs K σ H F ρ vs ps A) : RArgs K σ H F' ρ' vs ps A := by
  induction h with
  | nil => exact .nil
  | val r _ ih => exact .val (r.weak w) ih
  | slot a b _ ih => exact .slot a (let ⟨o, e⟩ := b; hh _ o e) ih
theorem held_set {ρ : AEnv} {j : Nat} {o : O} (e : ρ[j]? = some (some o)) {o' : O} : ∀ (i : Nat) (u : O), ρ[i]? = some (some u) → ∃ u', (ρ.set j (some o'))[i]? = some (some u') := fun i u h => by
  rw [AEnv.get_set]
  by_cases q : j = i
  · rw [if_pos q, if_pos (List.getElem?_eq_some_iff.mp e).1]; exact ⟨_, rfl⟩
  · rw [if_neg q]; exact ⟨u, h⟩
theorem take1_ok (R : RS K σ H ρ fp (B ++ G)) (r : ROp K σ H fp ρ G v p B) {Q : T → AEnv → Prop} (h : take1 p ρ Q) : ∃ t ρ' fp', RS K σ H ρ' fp' G ∧ RP K H (Or1 (Fo fp') G) v t ∧ (∀ a, Fo fp' a → Fo fp a) ∧ Q t ρ' := by
  cases p with
  | val o =>
    refine ⟨o.frz, ρ, fp, R.sub fun a m => List.mem_append_right _ m, ?_, fun _ z => z, h⟩
    exact r.1.frz (fun a z => z.imp (fun q => q) (List.mem_append_right _)) fun a m z => z.elim (R.gf a (List.mem_append_left _ m)) (r.2.2 a m)
  | slot j =>
    simp only [take1] at h
    split at h
    · rename_i o e
      obtain ⟨hB, hv, _⟩ := r
      subst hB
      obtain ⟨R', q⟩ := (R.sub (G' := G) fun a m => m).freeze e
      exact ⟨_, _, _, R', q v hv, fun a z => z.set.elim (fun q => q) fun m => (List.not_mem_nil m).elim, h⟩
    · exact h.elim
theorem takeAll_ok {ρ0 : AEnv} {F : Addr → Prop} {vs : List V} {ps : List Opd} {A : List Addr} (rr : RArgs K σ H F ρ0 vs ps A) : ∀ {ρ : AEnv} {fp : Nat → List Addr} {Q : List T → AEnv → Prop}, RS K σ H ρ fp (A ++ G) → (∀ a, Or1 (Fo fp) (A ++ G) a → F a) →
    (∀ (j : Nat) (o : O), ρ0[j]? = some (some o) → ∃ o', ρ[j]? = some (some o')) → (∀ a ∈ A, a ∉ G) → A.Nodup → takeAll ps ρ Q →
    ∃ ts ρ' fp', RS K σ H ρ' fp' G ∧ RPs K H (Or1 (Fo fp') G) vs ts ∧ (∀ a, Fo fp' a → Fo fp a) ∧ Q ts ρ' := by
  induction rr with
  | nil => intro ρ fp Q R w hh hA d h; exact ⟨[], ρ, fp, R, .nil, fun _ z => z, h⟩
  | @val v o B A vs ps r rr ih =>
    intro ρ fp Q R w hh hA d h
    have w1 : ∀ a, Or1 (Fo fp) (A ++ G) a → Or1 (Fo fp) (B ++ A ++ G) a := fun a z => z.imp (fun q => q) fun m => by simp only [List.mem_append] at m ⊢; rcases m with m | m <;> simp [m]
    obtain ⟨ts, ρ', fp', R', q, i, h'⟩ := ih (R.sub fun a m => by simp only [List.mem_append] at m ⊢; rcases m with m | m <;> simp [m]) (fun a z => w a (w1 a z)) hh (fun a m => hA a (List.mem_append_right _ m)) (List.nodup_append.mp d).2.1 (show takeAll _ ρ _ from h)
    refine ⟨_, ρ', fp', R', .cons ?_ q, i, h'⟩
    exact r.frz (fun a z => w a (z.elim (fun z => .inl (i a z)) fun m => .inr (List.mem_append_right _ m))) fun a m z => z.elim (fun z => R.gf a (List.mem_append_left _ (List.mem_append_left _ m)) (i a z)) (hA a (List.mem_append_left _ m))
  | @slot v j A vs ps hv hs rr ih =>
    intro ρ fp Q R w hh hA d h
    simp only [takeAll, take1] at h
    split at h
    · rename_i o e
      obtain ⟨R1, q1⟩ := R.freeze e
      have dl : ∀ a, Fo (fpSet fp j []) a → Fo fp a := fun a z => z.set.elim (fun q => q) fun m => (List.not_mem_nil m).elim
      obtain ⟨ts, ρ', fp', R', q, i, h'⟩ := ih R1 (fun a z => w a (z.imp (dl a) fun m => m)) (fun i u k => by obtain ⟨o', k⟩ := hh i u k; exact held_set e i o' k) hA d h
      exact ⟨_, ρ', fp', R', .cons ((q1 _ hv).weak fun a z => z.imp (i a) (List.mem_append_right _)) q, fun a z => dl a (i a z), h'⟩
    · exact h.elim
end

/-! ### displays -/
def tTupD (t : XTs) : XT := fun ρ Q => t ρ fun ps ρ1 => takeAll ps ρ1 fun ts ρ2 => Q (.val (.pure (.tuple ts))) ρ2
def tLstD (t : XTs) : XT := fun ρ Q => t ρ fun ps ρ1 => takeAll ps ρ1 fun ts ρ2 => Q (.val (.lst ts)) ρ2
section
variable {X : Cx} {a b e : Expr} {es : List Expr} {ta tb t : XT} {ts : XTs} {pos : Pos}
theorem ex_tup {x1} (h : EXs X es ts) (hl : es.length ≤ 1000 := by decide) : EX X (.Tuple es x1 pos) (tTupD ts) := by
  refine ⟨PE.imp (pe_tup h.pa) ?_⟩
  rintro σ H Q ⟨ρ, fp, G, Qa, R, h, fin⟩
  refine ⟨ρ, fp, G, _, R, h, fun vs ps A H1 ρ1 fp1 hl1 R1 r1 nd1 ng1 x1 h1 => ?_⟩
  obtain ⟨ts, ρ2, fp2, R2, q2, i2, h2⟩ := takeAll_ok r1 R1 (fun a z => z) (fun j o e => ⟨o, e⟩) ng1 nd1 h1
  refine ⟨by rw [sizeLine_eq]; omega, fun p np => ?_⟩
  exact FinV.tup (fin_of (G := G) R2 (fun a m => m) (x1.or.weak (fun _ z => z) i2) fin) np q2 h2
theorem ex_lst (h : EXs X es ts) (hl : es.length ≤ 1000 := by decide) : EX X (.List es pos) (tLstD ts) := by
  refine ⟨PE.imp (pe_lst h.pa) ?_⟩
  rintro σ H Q ⟨ρ, fp, G, Qa, R, h, fin⟩
  refine ⟨ρ, fp, G, _, R, h, fun vs ps A H1 ρ1 fp1 hl1 R1 r1 nd1 ng1 x1 h1 => ?_⟩
  obtain ⟨ts, ρ2, fp2, R2, q2, i2, h2⟩ := takeAll_ok r1 R1 (fun a z => z) (fun j o e => ⟨o, e⟩) ng1 nd1 h1
  refine ⟨by rw [sizeLine_eq]; omega, fun p np => ?_⟩
  exact FinV.lst (fin_of (G := G) R2 (fun a m => m) (x1.or.weak (fun _ z => z) i2) fin) np q2 h2

/-! ### tests -/
def bOf (ρ : AEnv) (p : Opd) (Q : Bool → Prop) : Prop := match p.get ρ with
  | some (.pure (.bool b)) => Q b
  | _ => False
def tTst (t : XT) : BT := fun ρ Q => t ρ fun p ρ1 => bOf ρ1 p fun b => Q b ρ1
theorem tst_go {K : PySem.W.Frag} {σ : St} {H : Hp} {Q : Bool → Hp → Prop} {t : XT} (h : LT K (tTst t) σ H Q) : LX K t σ H fun x H1 => ∃ c, x = .bl c ∧ Q c H1 := by
  obtain ⟨ρ, fp, G, Qa, R, h, fin⟩ := h
  refine ⟨ρ, fp, G, _, R, h, fun v p A H1 ρ1 fp1 R1 r1 x1 h1 => ?_⟩
  unfold bOf at h1
  split at h1
  · rename_i b e
    have q := r1.rw0 R1 e
    exact ⟨b, RP.boolE q, fin b H1 ρ1 fp1 (R1.sub fun a m => List.mem_append_right _ m) x1.or h1⟩
  · exact h1.elim
theorem tx_val (h : EX X e t) (he : ∀ whole, isTrue e X.env whole = (do let v ← whole; standAt e.pos; holding [v] (truthy v)) := by intro _; rfl) : TX X e (tTst t) := ⟨PT.imp (pt_val h.pe he) fun σ H Q q => tst_go q⟩
theorem tx_cmp {op : CmpOp} {g : G2} (ho : OpA X (compareOp op) g) (ha : EX X a ta) (hb : EX X b tb) (hm : behindInMarks op b = false) : TX X (.Compare a [op] [b] pos) (tTst (tBin g ta tb)) := by
  obtain ⟨r, hr, hg⟩ := ho
  refine ⟨PT.imp (pt_cmpR hr ha.pe hb.pe hm) ?_⟩
  rintro σ H Q h
  obtain ⟨ρ, fp, G, Qa, R, h, fin⟩ := tst_go h
  show tOp r _ _ σ H _
  refine ⟨ρ, fp, G, _, R, h, fun v p A H1 ρ1 fp1 R1 r1 x1 h1 => ?_⟩
  refine ⟨ρ1, fp1, A ++ G, _, R1, h1, fun u q B H2 ρ2 fp2 R2 r2 x2 h2 => ?_⟩
  unfold g2 at h2
  split at h2
  · rename_i x y e1 e2
    exact hg H2 (Or1 (Fo fp2) (B ++ (A ++ G))) v u x y _ _ (r1.rw R1 x2 R2 e1) (r2.rw0 R2 e2) h2 (fin_of R2 (fun a m => List.mem_append_right _ (List.mem_append_right _ m)) (x1.or.trans x2.or) fin)
  · exact h2.elim
def bAnd (t u : BT) : BT := fun ρ Q => t ρ fun c ρ1 => if c = true then u ρ1 Q else Q false ρ1
def bOr (t u : BT) : BT := fun ρ Q => t ρ fun c ρ1 => if c = true then Q true ρ1 else u ρ1 Q
def bNot (t : BT) : BT := fun ρ Q => t ρ fun c ρ1 => Q (!c) ρ1
variable {tA tB : BT} {rest : List Expr}
theorem WX.tx (h : WX X e tA) : TX X e tA := ⟨h.pw.pt⟩
theorem wx_and1 (ha : TX X a tA) : WX X (.BoolOp .And [a] pos) tA := ⟨pw_and1 ha.pt⟩
theorem wx_or1 (ha : TX X a tA) : WX X (.BoolOp .Or [a] pos) tA := ⟨pw_or1 ha.pt⟩
theorem lt_and {K : PySem.W.Frag} {σ : St} {H : Hp} {Q : Bool → Hp → Prop} (h : LT K (bAnd tA tB) σ H Q) : tAnd (LT K tA) (LT K tB) σ H Q := by
  obtain ⟨ρ, fp, G, Qa, R, h, fin⟩ := h
  refine ⟨ρ, fp, G, _, R, h, fun c H1 ρ1 fp1 R1 x1 h1 => ?_⟩
  cases c with
  | true => exact iteT ⟨ρ1, fp1, G, _, R1, (by simpa using h1), fun b H2 ρ2 fp2 R2 x2 h2 => fin b H2 ρ2 fp2 R2 (x1.trans x2) h2⟩
  | false => exact iteF (fin false H1 ρ1 fp1 R1 x1 (by simpa using h1))
theorem lt_or {K : PySem.W.Frag} {σ : St} {H : Hp} {Q : Bool → Hp → Prop} (h : LT K (bOr tA tB) σ H Q) : tOr (LT K tA) (LT K tB) σ H Q := by
  obtain ⟨ρ, fp, G, Qa, R, h, fin⟩ := h
  refine ⟨ρ, fp, G, _, R, h, fun c H1 ρ1 fp1 R1 x1 h1 => ?_⟩
  cases c with
  | false => exact iteF ⟨ρ1, fp1, G, _, R1, (by simpa using h1), fun b H2 ρ2 fp2 R2 x2 h2 => fin b H2 ρ2 fp2 R2 (x1.trans x2) h2⟩
  | true => exact iteT (fin true H1 ρ1 fp1 R1 x1 (by simpa using h1))
theorem wx_and (ha : TX X a tA) (hb : WX X (.BoolOp .And (b :: rest) pos) tB) : WX X (.BoolOp .And (a :: b :: rest) pos) (bAnd tA tB) := ⟨PW.imp (pw_and ha.pt hb.pw) fun _ _ _ h => lt_and h⟩
theorem wx_or (ha : TX X a tA) (hb : WX X (.BoolOp .Or (b :: rest) pos) tB) : WX X (.BoolOp .Or (a :: b :: rest) pos) (bOr tA tB) := ⟨PW.imp (pw_or ha.pt hb.pw) fun _ _ _ h => lt_or h⟩
theorem tx_not (ha : TX X a tA) : TX X (.UnaryOp .Not a pos) (bNot tA) := by
  refine ⟨PT.imp (pt_not ha.pt) ?_⟩
  rintro σ H Q ⟨ρ, fp, G, Qa, R, h, fin⟩
  exact ⟨ρ, fp, G, _, R, h, fun c H1 ρ1 fp1 R1 x1 h1 => fin (!c) H1 ρ1 fp1 R1 x1 h1⟩
/-- a chain of two comparisons -/
def bO (o : O) (Q : Bool → Prop) : Prop := match o with
  | .pure (.bool b) => Q b
  | _ => False
def tChainA (g g' : G2) (ta tb tc : XT) : BT := fun ρ Q => ta ρ fun p ρ1 => tb ρ1 fun q ρ2 => g2 g ρ2 p q fun o => bO o fun c => if c = true then (tc ρ2 fun r ρ3 => (∀ j, q = .slot j → ∃ o, ρ3[j]? = some (some o)) ∧ g2 g' ρ3 q r fun o => bO o fun b => Q b ρ3) else Q false ρ2
/-! ### bools as values -/
def tAndE (ta tb : XT) : XT := fun ρ Q => ta ρ fun p ρ1 => bOf ρ1 p fun c => if c = true then tb ρ1 Q else Q (.val (.pure (.bool false))) ρ1
def tOrE (ta tb : XT) : XT := fun ρ Q => ta ρ fun p ρ1 => bOf ρ1 p fun c => if c = true then Q (.val (.pure (.bool true))) ρ1 else tb ρ1 Q
def tNotE (ta : XT) : XT := fun ρ Q => ta ρ fun p ρ1 => bOf ρ1 p fun c => Q (.val (.pure (.bool (!c)))) ρ1
theorem ex_one {op} (h : EX X a t) : EX X (.BoolOp op [a] pos) t := ⟨pe_one h.pe⟩
/-- from the middle: the rest is run at a later state -/
theorem lx_later {K : PySem.W.Frag} {σ : St} {H H1 : Hp} {Q : VK} {t : XT} {ρ1 : AEnv} {fp fp1 : Nat → List Addr} {G A : List Addr} {Qa : Opd → AEnv → Prop} (R1 : RS K σ H1 ρ1 fp1 (A ++ G)) (x1 : Ext H (Fo fp) H1 (Or1 (Fo fp1) A)) (h : t ρ1 Qa)
    (fin : ∀ v p A H' ρ' fp', RS K σ H' ρ' fp' (A ++ G) → ROp K σ H' fp' ρ' G v p A → Ext H (Fo fp) H' (Or1 (Fo fp') A) → Qa p ρ' → Q v H') : LX K t σ H1 Q :=
  ⟨ρ1, fp1, G, Qa, R1.sub fun a m => List.mem_append_right _ m, h, fun v p B H2 ρ2 fp2 R2 r2 x2 h2 => fin v p B H2 ρ2 fp2 R2 r2 (x1.or.trans x2) h2⟩
theorem fin_pure {K : PySem.W.Frag} {σ : St} {H H1 : Hp} {Q : VK} {ρ1 : AEnv} {fp fp1 : Nat → List Addr} {G A : List Addr} {Qa : Opd → AEnv → Prop} {v : V} {t : T} (R1 : RS K σ H1 ρ1 fp1 (A ++ G)) (x1 : Ext H (Fo fp) H1 (Or1 (Fo fp1) A)) (r : RP K H1 (Or1 (Fo fp1) G) v t)
    (fin : ∀ v p A H' ρ' fp', RS K σ H' ρ' fp' (A ++ G) → ROp K σ H' fp' ρ' G v p A → Ext H (Fo fp) H' (Or1 (Fo fp') A) → Qa p ρ' → Q v H') (q : Qa (.val (.pure t)) ρ1) : Q v H1 :=
  fin v (.val (.pure t)) [] H1 ρ1 fp1 (R1.sub fun a m => List.mem_append_right _ m) (rop_pure r) (x1.or.weak (fun _ z => z) fun a z => z.elim (fun q => q) fun m => nomatch m) q
theorem ex_and (ha : EX X a ta) (hb : EX X (.BoolOp .And (b :: rest) pos) tb) : EX X (.BoolOp .And (a :: b :: rest) pos) (tAndE ta tb) := by
  refine ⟨PE.imp (pe_and ha.pe hb.pe) ?_⟩
  rintro σ H Q ⟨ρ, fp, G, Qa, R, h, fin⟩
  refine ⟨ρ, fp, G, _, R, h, fun v p A H1 ρ1 fp1 R1 r1 x1 h1 => ?_⟩
  unfold bOf at h1
  split at h1
  · rename_i c e
    refine ⟨c, RP.boolE (r1.rw0 R1 e), ?_⟩
    cases c with
    | true => exact iteT (lx_later R1 x1 (by simpa using h1) fin)
    | false => exact iteF (fin_pure R1 x1 (RP.bl false) fin (by simpa using h1))
  · exact h1.elim
theorem ex_or (ha : EX X a ta) (hb : EX X (.BoolOp .Or (b :: rest) pos) tb) : EX X (.BoolOp .Or (a :: b :: rest) pos) (tOrE ta tb) := by
  refine ⟨PE.imp (pe_or ha.pe hb.pe) ?_⟩
  rintro σ H Q ⟨ρ, fp, G, Qa, R, h, fin⟩
  refine ⟨ρ, fp, G, _, R, h, fun v p A H1 ρ1 fp1 R1 r1 x1 h1 => ?_⟩
  unfold bOf at h1
  split at h1
  · rename_i c e
    refine ⟨c, RP.boolE (r1.rw0 R1 e), ?_⟩
    cases c with
    | false => exact iteF (lx_later R1 x1 (by simpa using h1) fin)
    | true => exact iteT (fin_pure R1 x1 (RP.bl true) fin (by simpa using h1))
  · exact h1.elim
theorem ex_not (ha : EX X a ta) : EX X (.UnaryOp .Not a pos) (tNotE ta) := by
  refine ⟨PE.imp (pe_not ha.pe) ?_⟩
  rintro σ H Q ⟨ρ, fp, G, Qa, R, h, fin⟩
  refine ⟨ρ, fp, G, _, R, h, fun v p A H1 ρ1 fp1 R1 r1 x1 h1 => ?_⟩
  unfold bOf at h1
  split at h1
  · rename_i c e
    exact ⟨c, RP.boolE (r1.rw0 R1 e), fin_pure R1 x1 (RP.bl _) fin h1⟩
  · exact h1.elim
def tIfE (tc : BT) (ta tb : XT) : XT := fun ρ Q => tc ρ fun c ρ1 => if c = true then ta ρ1 Q else tb ρ1 Q
theorem ex_ifExp {c : Expr} (hc : TX X c tA) (ha : EX X a ta) (hb : EX X b tb) : EX X (.IfExp c a b pos) (tIfE tA ta tb) := by
  refine ⟨PE.imp (pe_ifExp hc.pt ha.pe hb.pe) ?_⟩
  rintro σ H Q ⟨ρ, fp, G, Qa, R, h, fin⟩
  refine ⟨ρ, fp, G, _, R, h, fun c H1 ρ1 fp1 R1 x1 h1 => ?_⟩
  cases c with
  | true => exact iteT ⟨ρ1, fp1, G, Qa, R1, (by simpa using h1), fun v p B H2 ρ2 fp2 R2 r2 x2 h2 => fin v p B H2 ρ2 fp2 R2 r2 (x1.trans x2) h2⟩
  | false => exact iteF ⟨ρ1, fp1, G, Qa, R1, (by simpa using h1), fun v p B H2 ρ2 fp2 R2 r2 x2 h2 => fin v p B H2 ρ2 fp2 R2 r2 (x1.trans x2) h2⟩
end
end DL

set_option Elab.async false
set_option linter.all false
set_option maxRecDepth 100000
set_option maxHeartbeats 4000000
/-! THE DATA LAYER, part 3: statements, targets, loops. -/
namespace DL
open PySem PySem.Spec L2
open PyProof.Rows hiding St

theorem ro_pure {K : PySem.W.Frag} {H : Hp} {F : Addr → Prop} {v : V} {t : T} (r : RP K H F v t) : RO K H F v (.pure t) [] := ⟨rfl, r⟩
/-! ### what an operand is taken for -/
def takeO : Opd → AEnv → (O → AEnv → Prop) → Prop
  | .val o, ρ, Q => Q o ρ
  | .slot j, ρ, Q => match ρ[j]? with
    | some (some o) => Q (.pure o.frz) (ρ.set j (some (.pure o.frz)))
    | _ => False
/-- .. by return: a slot of one's own is moved out -/
def takeR (P : Nat → Bool) : Opd → AEnv → (O → AEnv → Prop) → Prop
  | .val o, ρ, Q => Q o ρ
  | .slot j, ρ, Q => match ρ[j]? with
    | some (some o) => if P j = true then Q (.pure o.frz) (ρ.set j (some (.pure o.frz))) else Q o (ρ.set j none)
    | _ => False
section
variable {K : PySem.W.Frag} {σ : St} {H H1 : Hp} {fp : Nat → List Addr} {ρ : AEnv} {v : V} {p : Opd} {o : O} {j : Nat} {A B G : List Addr} {F F' : Addr → Prop}
theorem takeO_ok (R : RS K σ H ρ fp (B ++ G)) (r : ROp K σ H fp ρ G v p B) {Q : O → AEnv → Prop} (h : takeO p ρ Q) :
    ∃ o A ρ' fp', RS K σ H ρ' fp' (A ++ G) ∧ RO K H (Or1 (Fo fp') (A ++ G)) v o A ∧ A.Nodup ∧ (∀ a ∈ A, a ∉ G) ∧ (∀ a, Or1 (Fo fp') A a → Or1 (Fo fp) B a) ∧ Q o ρ' := by
  cases p with
  | val o => exact ⟨o, B, ρ, fp, R, r.1, r.2.1, r.2.2, fun _ z => z, h⟩
  | slot j =>
    simp only [takeO] at h
    split at h
    · rename_i o e
      obtain ⟨hB, hv, _⟩ := r
      subst hB
      obtain ⟨R', q⟩ := (R.sub (G' := G) fun a m => m).freeze e
      exact ⟨_, [], _, _, R', ro_pure (q v hv), .nil, noMem, fun a z => z.elim (fun z => .inl (z.set.elim (fun q => q) fun m => (List.not_mem_nil m).elim)) fun m => (List.not_mem_nil m).elim, h⟩
    · exact h.elim
/-- a slot's content leaves it -/
theorem RS.move (R : RS K σ H ρ fp G) (e : ρ[j]? = some (some o)) (hv : σ[j]? = some (some v)) : RS K σ H (ρ.set j none) (fpSet fp j []) (fp j ++ G) ∧ RO K H (Or1 (Fo (fpSet fp j [])) (fp j ++ G)) v o (fp j) := by
  have dl : ∀ a, Fo (fpSet fp j []) a → Fo fp a := fun a z => z.set.elim (fun q => q) fun m => (List.not_mem_nil m).elim
  have w : ∀ a, Or1 (Fo (fpSet fp j [])) (fp j ++ G) a → Or1 (Fo fp) G a := fun a z => z.elim (fun z => .inl (dl a z)) fun m => (List.mem_append.mp m).elim (fun m => .inl ⟨j, m⟩) .inr
  obtain ⟨v', hv', r⟩ := R.ex j o e
  rw [hv] at hv'; cases hv'
  have D := R.drop (j := j) (σ' := σ) (fun _ _ _ h => h) rfl
  have nf : ∀ a ∈ fp j, ¬ Fo (fpSet fp j []) a := fun a m ⟨i, z⟩ => by
    by_cases q : i = j
    · subst q; rw [fpSet_at] at z; cases z
    · rw [fpSet_ne q] at z
      exact q (R.dj i j a z m)
  refine ⟨⟨fun i u h => ?_, D.non, D.dj, D.nd, fun a m => (List.mem_append.mp m).elim (nf a) (D.gf a), fun a m => (List.mem_append.mp m).elim (fun m => let ⟨u, e, _⟩ := r.there a m; ⟨u, e⟩) (R.gi a), D.len⟩, r.weak w⟩
  rw [AEnv.get_set] at h
  by_cases q : j = i
  · rw [if_pos q] at h
    split at h <;> cases h
  · rw [if_neg q] at h
    obtain ⟨x, hx, r'⟩ := R.ex i u h
    exact ⟨x, hx, by rw [fpSet_ne fun z => q z.symm]; exact r'.weak w⟩
theorem takeR_ok {P : Nat → Bool} (R : RS K σ H ρ fp (B ++ G)) (r : ROp K σ H fp ρ G v p B) {Q : O → AEnv → Prop} (h : takeR P p ρ Q) :
    ∃ o A ρ' fp', RS K σ H ρ' fp' (A ++ G) ∧ RO K H (Or1 (Fo fp') (A ++ G)) v o A ∧ A.Nodup ∧ (∀ a ∈ A, a ∉ G) ∧ (∀ a, Or1 (Fo fp') A a → Or1 (Fo fp) B a) ∧ Q o ρ' := by
  cases p with
  | val o => exact ⟨o, B, ρ, fp, R, r.1, r.2.1, r.2.2, fun _ z => z, h⟩
  | slot j =>
    simp only [takeR] at h
    split at h
    · rename_i o e
      obtain ⟨hB, hv, _⟩ := r
      subst hB
      split at h
      · obtain ⟨R', q⟩ := (R.sub (G' := G) fun a m => m).freeze e
        exact ⟨_, [], _, _, R', ro_pure (q v hv), .nil, noMem, fun a z => z.elim (fun z => .inl (z.set.elim (fun q => q) fun m => (List.not_mem_nil m).elim)) fun m => (List.not_mem_nil m).elim, h⟩
      · obtain ⟨R', q⟩ := (R.sub (G' := G) fun a m => m).move e hv
        exact ⟨_, _, _, _, R', q, R.nd j, fun a m z => R.gf a z ⟨j, m⟩, fun a z => z.elim (fun z => .inl (z.set.elim (fun q => q) fun m => (List.not_mem_nil m).elim)) fun m => .inl ⟨j, m⟩, h⟩
    · exact h.elim
end

/-! ### statements -/
structure AEnds where
  nx : AEnv → Prop
  rt : O → AEnv → Prop
  bk : AEnv → Prop := fun _ => False
  ct : AEnv → Prop := fun _ => False
abbrev ST := AEnds → AEnv → Prop
def PinEq (P : Nat → Bool) (σ σ' : St) : Prop := ∀ (j : Nat), P j = true → σ'[j]? = σ[j]?
theorem PinEq.refl {P : Nat → Bool} {σ : St} : PinEq P σ σ := fun _ _ => rfl
theorem PinEq.trans {P : Nat → Bool} {σ σ1 σ2 : St} (h : PinEq P σ σ1) (k : PinEq P σ1 σ2) : PinEq P σ σ2 := fun j m => (k j m).trans (h j m)
structure FinS (K : PySem.W.Frag) (P : Nat → Bool) (σ : St) (H : Hp) (fp : Nat → List Addr) (G : List Addr) (Da : AEnds) (D : Ends) : Prop where
  nx : ∀ σ' H' ρ' fp', RS K σ' H' ρ' fp' G → Ext H (Fo fp) H' (Fo fp') → PinEq P σ σ' → Da.nx ρ' → D.nx σ' H'
  bk : ∀ σ' H' ρ' fp', RS K σ' H' ρ' fp' G → Ext H (Fo fp) H' (Fo fp') → PinEq P σ σ' → Da.bk ρ' → D.bk σ' H'
  ct : ∀ σ' H' ρ' fp', RS K σ' H' ρ' fp' G → Ext H (Fo fp) H' (Fo fp') → PinEq P σ σ' → Da.ct ρ' → D.ct σ' H'
  rt : ∀ v o A σ' H' ρ' fp', RS K σ' H' ρ' fp' (A ++ G) → RO K H' (Or1 (Fo fp') (A ++ G)) v o A → A.Nodup → (∀ a ∈ A, a ∉ G) → Ext H (Fo fp) H' (Or1 (Fo fp') A) → PinEq P σ σ' → Da.rt o ρ' → D.rt v H'
def LS (K : PySem.W.Frag) (P : Nat → Bool) (t : ST) : TS := fun D σ H => ∃ ρ fp G Da, RS K σ H ρ fp G ∧ t Da ρ ∧ FinS K P σ H fp G Da D
theorem FinS.later {K : PySem.W.Frag} {P : Nat → Bool} {σ σ1 : St} {H H1 : Hp} {fp fp1 : Nat → List Addr} {G : List Addr} {Da : AEnds} {D : Ends} (f : FinS K P σ H fp G Da D) (x : Ext H (Fo fp) H1 (Fo fp1)) (p : PinEq P σ σ1) : FinS K P σ1 H1 fp1 G Da D :=
  ⟨fun σ' H' ρ' fp' R y q h => f.nx σ' H' ρ' fp' R (x.trans y) (p.trans q) h, fun σ' H' ρ' fp' R y q h => f.bk σ' H' ρ' fp' R (x.trans y) (p.trans q) h, fun σ' H' ρ' fp' R y q h => f.ct σ' H' ρ' fp' R (x.trans y) (p.trans q) h,
    fun v o A σ' H' ρ' fp' R r d n y q h => f.rt v o A σ' H' ρ' fp' R r d n (x.trans y) (p.trans q) h⟩
structure SX (X : Cx) (P : Nat → Bool) (st : Stmt) (t : ST) : Prop where
  ps : PS X st (LS X.K P t)
structure SXs (X : Cx) (P : Nat → Bool) (st : List Stmt) (t : ST) : Prop where
  pss : PSs X st (LS X.K P t)
def sSeq (t u : ST) : ST := fun D ρ => t { D with nx := u D } ρ
def sNext : ST := fun D ρ => D.nx ρ
def sRet (P : Nat → Bool) (t : XT) : ST := fun D ρ => t ρ fun p ρ1 => takeR P p ρ1 D.rt
def sRetN : ST := fun D ρ => D.rt (.pure .none) ρ
def sDrop (t : XT) : ST := fun D ρ => t ρ fun _ ρ1 => D.nx ρ1
def sIf (c : BT) (t u : ST) : ST := fun D ρ => c ρ fun b ρ1 => if b = true then t D ρ1 else u D ρ1
def sSet (j : Nat) (t : XT) : ST := fun D ρ => t ρ fun p ρ1 => takeO p ρ1 fun o ρ2 => (Nat.blt j ρ2.length = true) ∧ D.nx (ρ2.set j (some o))
section
variable {X : Cx} {P : Nat → Bool} {st : Stmt} {rest : List Stmt} {t u : ST} {e : Expr} {te : XT} {tc : BT} {pos : Pos}
theorem sxs_nil : SXs X P [] sNext := by
  refine ⟨PSs.imp pss_nil ?_⟩
  rintro D σ H ⟨ρ, fp, G, Da, R, h, f⟩
  exact f.nx σ H ρ fp R Ext.refl .refl h
theorem ls_seq {K : PySem.W.Frag} {D : Ends} {σ : St} {H : Hp} (h : LS K P (sSeq t u) D σ H) : tSeq (LS K P t) (LS K P u) D σ H := by
  obtain ⟨ρ, fp, G, Da, R, h, f⟩ := h
  exact ⟨ρ, fp, G, _, R, h, fun σ' H' ρ' fp' R' x p q => ⟨ρ', fp', G, Da, R', q, f.later x p⟩, f.bk, f.ct, f.rt⟩
theorem sxs_cons (h1 : SX X P st t) (h2 : SXs X P rest u) : SXs X P (st :: rest) (sSeq t u) := ⟨PSs.imp (pss_cons h1.ps h2.pss) fun _ _ _ h => ls_seq h⟩
theorem sxs_one (h1 : SX X P st t) : SXs X P [st] t := ⟨pss_one h1.ps⟩
theorem sx_pass : SX X P (.Pass pos) sNext := by
  refine ⟨PS.imp ps_pass ?_⟩
  rintro D σ H ⟨ρ, fp, G, Da, R, h, f⟩
  exact f.nx σ H ρ fp R Ext.refl .refl h
theorem sx_break : SX X P (.Break pos) (fun D ρ => D.bk ρ) := by
  refine ⟨PS.imp ps_break ?_⟩
  rintro D σ H ⟨ρ, fp, G, Da, R, h, f⟩
  exact f.bk σ H ρ fp R Ext.refl .refl h
theorem sx_continue : SX X P (.Continue pos) (fun D ρ => D.ct ρ) := by
  refine ⟨PS.imp ps_continue ?_⟩
  rintro D σ H ⟨ρ, fp, G, Da, R, h, f⟩
  exact f.ct σ H ρ fp R Ext.refl .refl h
theorem sx_ret (h : EX X e te) : SX X P (.Return (some e) pos) (sRet P te) := by
  refine ⟨PS.imp (ps_ret h.pe) ?_⟩
  rintro D σ H ⟨ρ, fp, G, Da, R, h, f⟩
  refine ⟨ρ, fp, G, _, R, h, fun v p A H1 ρ1 fp1 R1 r1 x1 h1 => ?_⟩
  obtain ⟨o, B, ρ2, fp2, R2, r2, d2, n2, i2, h2⟩ := takeR_ok R1 r1 h1
  exact f.rt v o B σ H1 ρ2 fp2 R2 r2 d2 n2 (x1.weak (fun _ z => z) i2) .refl h2
theorem sx_retN : SX X P (.Return none pos) sRetN := by
  refine ⟨PS.imp ps_retN ?_⟩
  rintro D σ H ⟨ρ, fp, G, Da, R, h, f⟩
  exact f.rt .non (.pure .none) [] σ H ρ fp R ⟨rfl, RP.non⟩ .nil noMem (Pres.refl.extA noMem) .refl h
theorem sx_expr (h : EX X e te) (hs : swapsWith e none pos.line X.env = pure false := by rfl) : SX X P (.Expr e pos) (sDrop te) := by
  refine ⟨PS.imp (ps_expr h.pe hs) ?_⟩
  rintro D σ H ⟨ρ, fp, G, Da, R, h, f⟩
  exact ⟨ρ, fp, G, _, R, h, fun v p A H1 ρ1 fp1 R1 r1 x1 h1 => f.nx σ H1 ρ1 fp1 (R1.sub fun a m => List.mem_append_right _ m) x1.or .refl h1⟩
theorem sx_if {c : Expr} {a b : List Stmt} (hc : TX X c tc) (ha : SXs X P a t) (hb : SXs X P b u) : SX X P (.If c a b pos) (sIf tc t u) := by
  refine ⟨PS.imp (ps_if hc.pt ha.pss hb.pss) ?_⟩
  rintro D σ H ⟨ρ, fp, G, Da, R, h, f⟩
  refine ⟨ρ, fp, G, _, R, h, fun c H1 ρ1 fp1 R1 x1 h1 => ?_⟩
  cases c with
  | true => exact iteT ⟨ρ1, fp1, G, Da, R1, (by simpa using h1), f.later x1 .refl⟩
  | false => exact iteF ⟨ρ1, fp1, G, Da, R1, (by simpa using h1), f.later x1 .refl⟩
theorem pinSet {j : Nat} {σ : St} {x : Option V} (hj : P j = false) : PinEq P σ (σ.set j x) := fun i m => by
  rw [List.getElem?_set_ne]
  rintro rfl
  rw [m] at hj
  cases hj
theorem set_go {K : PySem.W.Frag} {D : Ends} {σ : St} {H : Hp} {j : Nat} (hp : P j = false) (h : LS K P (sSet j te) D σ H) : tAsg (LX K te) (gName j) D σ H := by
  obtain ⟨ρ, fp, G, Da, R, h, f⟩ := h
  refine ⟨ρ, fp, G, _, R, h, fun v p A H1 ρ1 fp1 R1 r1 x1 h1 => ?_⟩
  obtain ⟨o, B, ρ2, fp2, R2, r2, d2, n2, i2, hl, h2⟩ := takeO_ok R1 r1 h1
  have hj : j < ρ2.length := Nat.le_of_ble_eq_true hl
  exact f.nx _ H1 _ _ (R2.put hj r2 d2 n2) ((x1.weak (fun _ z => z) i2).putE) (pinSet hp) h2
theorem sx_set {x : Str} {pos' : Pos} (j : Nat) (hN : X.N.Nodup) (hi : X.N[j]? = some x) (hx : Loc X.env.scope x) (he : EX X e te) (hp : P j = false := by rfl) (hs : swapsWith e (some (.Name x pos')) pos.line X.env = pure false := by rfl) (hf : X.fn x = true ∨ X.env.scope.names.lookup x = some .local := by first | exact .inl rfl | exact .inr rfl | assumption) :
    SX X P (.Assign [.Name x pos'] e pos) (sSet j te) := ⟨PS.imp (ps_set hN hi hx he.pe hs hf) fun _ _ _ h => set_go hp h⟩
end

/-! ### targets -/
abbrev GT := T → AEnv → (AEnv → Prop) → Prop
abbrev GTs := List T → AEnv → (AEnv → Prop) → Prop
def LG (K : PySem.W.Frag) (P : Nat → Bool) (g : GT) : TG := fun v σ H Q => ∃ ρ fp G Qa t, RS K σ H ρ fp G ∧ RP K H (Or1 (Fo fp) G) v t ∧ g t ρ Qa ∧
  ∀ σ' ρ' fp', RS K σ' H ρ' fp' G → (∀ a, Fo fp' a → Fo fp a) → PinEq P σ σ' → σ'.length = σ.length → Qa ρ' → Q σ' H
structure GX (X : Cx) (P : Nat → Bool) (tg : Expr) (g : GT) : Prop where
  pg : PG X tg (LG X.K P g)
def LGs (K : PySem.W.Frag) (P : Nat → Bool) (g : GTs) : TGs := fun vs σ H Q => ∃ ρ fp G Qa ts, RS K σ H ρ fp G ∧ RPs K H (Or1 (Fo fp) G) vs ts ∧ g ts ρ Qa ∧
  ∀ σ' ρ' fp', RS K σ' H ρ' fp' G → (∀ a, Fo fp' a → Fo fp a) → PinEq P σ σ' → σ'.length = σ.length → Qa ρ' → Q σ' H
structure GXs (X : Cx) (P : Nat → Bool) (tg : List Expr) (g : GTs) : Prop where
  pg : PGs X tg (LGs X.K P g)
theorem PGs.imp {X : Cx} {ts : List Expr} {t t' : TGs} (h : PGs X ts t) (w : ∀ v σ H Q, t' v σ H Q → t v σ H Q) : PGs X ts t' := ⟨fun pins s σ H v u Q I r q => h.run pins s σ H v u Q I r (w v σ H Q q)⟩
def tgName (j : Nat) : GT := fun t ρ Q => (Nat.blt j ρ.length = true) ∧ Q (ρ.set j (some (.pure t)))
def tgNil : GTs := fun ts ρ Q => match ts with
  | [] => Q ρ
  | _ => False
def tgCons (g : GT) (h : GTs) : GTs := fun ts ρ Q => match ts with
  | t :: r => g t ρ fun ρ1 => h r ρ1 Q
  | _ => False
def tgTup (n : Nat) (h : GTs) : GT := fun t ρ Q => match t with
  | .tuple ts => ts.length = n ∧ h ts ρ Q
  | _ => False
section
variable {X : Cx} {P : Nat → Bool} {pos : Pos} {e : Expr} {es : List Expr} {g : GT} {h : GTs}
theorem gx_name {x : Str} (j : Nat) (hN : X.N.Nodup) (hi : X.N[j]? = some x) (hx : Loc X.env.scope x) (hp : P j = false := by rfl) (hf : X.fn x = true ∨ X.env.scope.names.lookup x = some .local := by first | exact .inl rfl | exact .inr rfl | assumption) : GX X P (.Name x pos) (tgName j) := by
  refine ⟨PG.imp (pg_name hN hi hx hf) ?_⟩
  rintro v σ H Q ⟨ρ, fp, G, Qa, t, R, r, ⟨hl, h⟩, fin⟩
  exact fin _ _ _ (RS.put (A := []) R (Nat.le_of_ble_eq_true hl) (ro_pure r) .nil noMem) (fun a z => z.set.elim (fun q => q) fun m => (List.not_mem_nil m).elim) (pinSet hp) (by rw [List.length_set]) h
theorem gxs_nil : GXs X P [] tgNil := by
  refine ⟨PGs.imp pgs_nil ?_⟩
  rintro vs σ H Q ⟨ρ, fp, G, Qa, ts, R, r, h, fin⟩
  unfold tgNil at h
  split at h
  · cases r
    exact ⟨rfl, fin σ ρ fp R (fun _ z => z) .refl rfl h⟩
  · exact h.elim
theorem gxs_cons (h1 : GX X P e g) (h2 : GXs X P es h) (hs : (assignEach (e :: es) X.env).map (·.2) = assign e X.env :: (assignEach es X.env).map (·.2) := by rfl) : GXs X P (e :: es) (tgCons g h) := by
  refine ⟨PGs.imp (pgs_cons h1.pg h2.pg hs) ?_⟩
  rintro vs σ H Q ⟨ρ, fp, G, Qa, ts, R, r, h, fin⟩
  unfold tgCons at h
  split at h
  · cases r with
    | cons r0 rr =>
      refine ⟨_, _, rfl, ρ, fp, G, _, _, R, r0, h, fun σ1 ρ1 fp1 R1 i1 p1 l1 h1 => ?_⟩
      exact ⟨ρ1, fp1, G, Qa, _, R1, RPs.weak rr fun a z => z.imp (i1 a) fun m => m, h1, fun σ2 ρ2 fp2 R2 i2 p2 l2 h2 => fin σ2 ρ2 fp2 R2 (fun a z => i1 a (i2 a z)) (p1.trans p2) (l2.trans l1) h2⟩
  · exact h.elim
theorem gx_tup {k : Nat} {n : Nat} (hc : X.calm = true) (h1 : GXs X P es h) (hn : (assignEach es X.env).length = n := by rfl) (hst : (assignEach es X.env).findIdx? (·.1) = none := by rfl) : GX X P (.Tuple es k pos) (tgTup n h) := by
  refine ⟨PG.imp (pg_tup hc h1.pg hn hst) ?_⟩
  rintro v σ H Q ⟨ρ, fp, G, Qa, t, R, r, h, fin⟩
  unfold tgTup at h
  split at h
  · obtain ⟨a, vs, rfl, hq, rr⟩ := r.tupE
    exact ⟨a, vs, rfl, hq, by rw [Paired.len rr, h.1], ρ, fp, G, Qa, _, R, rr, h.2, fin⟩
  · exact h.elim
/-- target = value, the value as a tree -/
def sAsg (g : GT) (t : XT) : ST := fun D ρ => t ρ fun p ρ1 => take1 p ρ1 fun y ρ2 => g y ρ2 D.nx
theorem sx_asg {tg : Expr} {te : XT} (he : EX X e te) (hg : GX X P tg g) (hs : swapsWithSole [tg] e pos.line X.env = pure false := by rfl) (hw : swappedStores [tg] e X.env = pure none := by rfl)
    (h1 : (assignEach [tg] X.env).map (·.2) = [assign tg X.env] := by rfl) : SX X P (.Assign [tg] e pos) (sAsg g te) := by
  refine ⟨PS.imp (ps_asg he.pe hg.pg hs hw h1) ?_⟩
  rintro D σ H ⟨ρ, fp, G, Da, R, h, f⟩
  refine ⟨ρ, fp, G, _, R, h, fun v p A H1 ρ1 fp1 R1 r1 x1 h1 => ?_⟩
  obtain ⟨y, ρ2, fp2, R2, r2, i2, h2⟩ := take1_ok R1 r1 h1
  exact ⟨ρ2, fp2, G, _, y, R2, r2, h2, fun σ3 ρ3 fp3 R3 i3 p3 _ h3 => f.nx σ3 H1 ρ3 fp3 R3 (x1.or.weak (fun _ z => z) fun a z => i2 a (i3 a z)) p3 h3⟩
end

/-! ### what is walked -/
/-- the iterator J gives the trees ts, one after another, whatever happens to what is owned -/
def JOk (K : PySem.W.Frag) (J : It) (ts : List T) (H : Hp) (F : Addr → Prop) (G : List Addr) : Prop :=
  ∀ H' F', Ext H F H' F' → (∀ i t, ts[i]? = some t → J.go i H' ∧ ∀ x H'', J.yld i H' x H'' → Pres H' H'' ∧ RP K H'' (Or1 F' G) x t) ∧ J.stop ts.length H'
abbrev IT := AEnv → (List T → AEnv → Prop) → Prop
def LI (K : PySem.W.Frag) (ti : IT) : TI := fun σ H R => ∃ ρ fp G Qa, RS K σ H ρ fp G ∧ ti ρ Qa ∧
  ∀ ts J H' ρ' fp', RS K σ H' ρ' fp' G → JOk K J ts H' (Fo fp') G → ts.length ≤ sizeLine → Ext H (Fo fp) H' (Fo fp') → Qa ts ρ' → R J H'
structure IX (X : Cx) (tg iter : Expr) (ti : IT) : Prop where
  pi : PI X tg iter (LI X.K ti)
def forW (g : GT) (tb : ST) (D : AEnds) : List T → AEnv → Prop
  | [], ρ => D.nx ρ
  | t :: ts, ρ => g t ρ fun ρ1 => tb { nx := forW g tb D ts, ct := forW g tb D ts, bk := D.nx, rt := D.rt } ρ1
def sFor (ti : IT) (g : GT) (tb : ST) : ST := fun D ρ => ti ρ fun ts ρ1 => forW g tb D ts ρ1
section
variable {X : Cx} {P : Nat → Bool} {pos : Pos} {tg iter : Expr} {body : List Stmt} {ti : IT} {g : GT} {tb : ST}
theorem drop_at {α : Type} {l : List α} {i : Nat} {t : α} {r : List α} (h : l.drop i = t :: r) : l[i]? = some t ∧ l.drop (i + 1) = r ∧ i < l.length := by
  have h1 : i < l.length := by
    rcases Nat.lt_or_ge i l.length with q | q
    · exact q
    · rw [List.drop_eq_nil_of_le q] at h; cases h
  rw [List.drop_eq_getElem_cons h1] at h
  cases h
  exact ⟨List.getElem?_eq_getElem h1, rfl, h1⟩
theorem sx_for (hp : PassesOwn (model X.prog X.w) X.A X.env X.xe) (hc : X.calm = true) (hi : IX X tg iter ti) (hg : GX X P tg g) (hb : SXs X P body tb) (hs : ∀ x, foldedSetIterable iter X.env x = pure x := by intro _; rfl) :
    SX X P (.For tg iter body [] pos) (sFor ti g tb) := by
  refine ⟨PS.imp (ps_for hp hc hi.pi hg.pg hb.pss hs) ?_⟩
  rintro D σ H ⟨ρ, fp, G, Da, R, h, f⟩
  refine ⟨ρ, fp, G, _, R, h, fun ts J H1 ρ1 fp1 R1 j1 _ x1 h1 => ?_⟩
  refine ⟨fun i m σ' H' => ∃ ρ' fp', m = ts.length - i ∧ i ≤ ts.length ∧ RS X.K σ' H' ρ' fp' G ∧ Ext H1 (Fo fp1) H' (Fo fp') ∧ PinEq P σ σ' ∧ forW g tb Da (ts.drop i) ρ', ⟨_, ρ1, fp1, rfl, Nat.zero_le _, R1, Ext.refl, .refl, h1⟩, ?_⟩
  rintro i m σ2 H2 ⟨ρ2, fp2, rfl, hi2, R2, x2, p2, h2⟩
  obtain ⟨j2, stop⟩ := j1 H2 (Fo fp2) x2
  cases hd : ts.drop i with
  | nil =>
    have e : i = ts.length := by
      have := congrArg List.length hd
      simp at this; omega
    subst e
    rw [hd] at h2
    exact .inl ⟨stop, f.nx σ2 H2 ρ2 fp2 R2 (x1.trans x2) p2 h2⟩
  | cons t r =>
    obtain ⟨e1, e2, e3⟩ := drop_at hd
    rw [hd] at h2
    obtain ⟨go, yl⟩ := j2 i t e1
    refine .inr ⟨go, fun σ3 H3 => ∃ ρ3 fp3, RS X.K σ3 H3 ρ3 fp3 G ∧ Ext H1 (Fo fp1) H3 (Fo fp3) ∧ PinEq P σ σ3 ∧ forW g tb Da r ρ3, fun σ3 H3 ⟨ρ3, fp3, R3, x3, p3, h3⟩ => ⟨_, by omega, ρ3, fp3, rfl, e3, R3, x3, p3, by rw [e2]; exact h3⟩, fun x H3 y => ?_⟩
    obtain ⟨pr, rp⟩ := yl x H3 y
    refine ⟨ρ2, fp2, G, _, t, R2.pres pr, rp, h2, fun σ4 ρ4 fp4 R4 i4 p4 _ h4 => ?_⟩
    have x4 : Ext H1 (Fo fp1) H3 (Fo fp4) := x2.trans ((pr.ext (F := Fo fp2)).weak (fun _ z => z) i4)
    have p24 := p2.trans p4
    refine ⟨ρ4, fp4, G, _, R4, h4, fun σ5 H5 ρ5 fp5 R5 x5 p5 h5 => ⟨ρ5, fp5, R5, x4.trans x5, p24.trans p5, h5⟩, fun σ5 H5 ρ5 fp5 R5 x5 p5 h5 => ?_, fun σ5 H5 ρ5 fp5 R5 x5 p5 h5 => ⟨ρ5, fp5, R5, x4.trans x5, p24.trans p5, h5⟩, fun v o A σ5 H5 ρ5 fp5 R5 r5 d5 n5 x5 p5 h5 => ?_⟩
    · exact f.nx σ5 H5 ρ5 fp5 R5 (x1.trans (x4.trans x5)) (p24.trans p5) h5
    · exact f.rt v o A σ5 H5 ρ5 fp5 R5 r5 d5 n5 (x1.trans (x4.trans x5)) (p24.trans p5) h5

/-! ### while -/
def whileN (c : BT) (tb : ST) (D : AEnds) : Nat → AEnv → Prop
  | 0, _ => False
  | n + 1, ρ => c ρ fun b ρ1 => if b = true then tb { nx := whileN c tb D n, ct := whileN c tb D n, bk := D.nx, rt := D.rt } ρ1 else D.nx ρ1
def sWhile (c : BT) (tb : ST) : ST := fun D ρ => ∃ n, whileN c tb D n ρ
theorem sx_while {c : Expr} {tc : BT} (hp : PassesOwn (model X.prog X.w) X.A X.env X.xe) (hc : TX X c tc) (hb : SXs X P body tb) : SX X P (.While c body [] pos) (sWhile tc tb) := by
  refine ⟨PS.imp (ps_while hp hc.pt hb.pss) ?_⟩
  rintro D σ H ⟨ρ, fp, G, Da, R, ⟨n, h⟩, f⟩
  refine ⟨fun m σ' H' => ∃ ρ' fp', RS X.K σ' H' ρ' fp' G ∧ Ext H (Fo fp) H' (Fo fp') ∧ PinEq P σ σ' ∧ whileN tc tb Da m ρ', ⟨n, ρ, fp, R, Ext.refl, .refl, h⟩, ?_⟩
  rintro m σ2 H2 ⟨ρ2, fp2, R2, x2, p2, h2⟩
  cases m with
  | zero => exact h2.elim
  | succ m =>
    refine ⟨ρ2, fp2, G, _, R2, h2, fun b H3 ρ3 fp3 R3 x3 h3 => ?_⟩
    have x23 := x2.trans x3
    cases b with
    | false => exact iteF (f.nx σ2 H3 ρ3 fp3 R3 x23 p2 (by simpa using h3))
    | true =>
      refine iteT ⟨fun σ4 H4 => ∃ ρ4 fp4, RS X.K σ4 H4 ρ4 fp4 G ∧ Ext H (Fo fp) H4 (Fo fp4) ∧ PinEq P σ σ4 ∧ whileN tc tb Da m ρ4, fun σ4 H4 h4 => ⟨m, Nat.lt_succ_self m, h4⟩, ρ3, fp3, G, _, R3, (by simpa using h3), ?_⟩
      exact ⟨fun σ5 H5 ρ5 fp5 R5 x5 p5 h5 => ⟨ρ5, fp5, R5, x23.trans x5, p2.trans p5, h5⟩, fun σ5 H5 ρ5 fp5 R5 x5 p5 h5 => f.nx σ5 H5 ρ5 fp5 R5 (x23.trans x5) (p2.trans p5) h5, fun σ5 H5 ρ5 fp5 R5 x5 p5 h5 => ⟨ρ5, fp5, R5, x23.trans x5, p2.trans p5, h5⟩,
        fun v o A σ5 H5 ρ5 fp5 R5 r5 d5 n5 x5 p5 h5 => f.rt v o A σ5 H5 ρ5 fp5 R5 r5 d5 n5 (x23.trans x5) (p2.trans p5) h5⟩
end
end DL

set_option Elab.async false
set_option linter.all false
set_option maxRecDepth 100000
set_option maxHeartbeats 4000000
/-! THE DATA LAYER, part 4: list comprehensions; defs and their calls. -/
namespace DL
open PySem PySem.Spec L2
open PyProof.Rows hiding St

theorem Ext.addP {H H' : Hp} {F F' : Addr → Prop} (x : Ext H F H' F') (S : Addr → Prop) : Ext H (fun a => S a ∨ F a) H' (fun a => S a ∨ F' a) where
  keep a o e n := x.keep a o e fun z => n (.inr z)
  tups := x.tups
  frzs := x.frzs
  new a z := z.elim (fun z => .inl (.inl z)) fun z => (x.new a z).imp .inr (fun q => q)
  dom := x.dom
section
variable {K : PySem.W.Frag} {σ : St} {H H1 H' : Hp} {fp fp1 : Nat → List Addr} {ρ : AEnv} {v : V} {o : O} {j : Nat} {A B B' G : List Addr}
/-- what is held through a step that is let change B alone, and leaves B' -/
theorem RS.thru (R : RS K σ H ρ fp (B ++ G)) (x : Ext H (· ∈ B) H' (· ∈ B')) (hG : ∀ a ∈ G, a ∉ B) (hi : ∀ a ∈ B', ∃ u, H' a = some u) : RS K σ H' ρ fp (B' ++ G) := by
  have nf : ∀ a, Fo fp a → a ∉ B := fun a z m => R.gf a (List.mem_append_left _ m) z
  have up : ∀ a u, H a = some u → ∃ u', H' a = some u' := fun a u e => by
    cases q : H' a with
    | some u' => exact ⟨u', rfl⟩
    | none => rw [x.dom a q] at e; cases e
  refine ⟨fun i u h => ?_, R.non, R.dj, R.nd, fun a m z => ?_, fun a m => (List.mem_append.mp m).elim (hi a) fun m => let ⟨u, e⟩ := R.gi a (List.mem_append_right _ m); up a u e, R.len⟩
  · obtain ⟨w, hw, r⟩ := R.ex i u h
    refine ⟨w, hw, r.imp (fun v t q => ?_) fun a m u e => x.keep a u e (nf a ⟨i, m⟩)⟩
    have q1 : RP K H (fun a => Or1 (Fo fp) G a ∨ a ∈ B) v t := q.weak fun a z => z.elim (fun z => z.imp (fun q => q) (List.mem_append_right _)) fun m => .inr (List.mem_append_left _ m)
    exact (q1.ext (x.addP (Or1 (Fo fp) G))).weak fun a z => z.elim (fun z => .inl (.inl z)) fun m => (List.mem_append.mp m).elim .inr fun m => .inl (.inr m)
  · rcases List.mem_append.mp m with m | m
    · rcases x.new a m with k | k
      · exact R.gf a (List.mem_append_left _ k) z
      · obtain ⟨u, e, _⟩ := R.there a z
        rw [k] at e; cases e
    · exact R.gf a (List.mem_append_right _ m) z
/-- one of the others' objects is written -/
theorem RS.write {D : Addr} {u : HO} (R : RS K σ H ρ fp (B ++ G)) (hB : B = [D]) (hD : ∃ o, H D = some o ∧ Mut (some o)) (hG : D ∉ G) : RS K σ (L2.upd H D u) ρ fp (B ++ G) := by
  subst hB
  obtain ⟨o, e, mu⟩ := hD
  refine R.thru ⟨fun a u h n => by rw [upd_ne fun z => n (by rw [z]; exact List.mem_singleton.mpr rfl)]; exact h, fun a xs h => ?_, fun a u w h => ?_, fun a m => .inl m, fun a h => ?_⟩ (fun a m z => hG (by rw [← List.mem_singleton.mp z]; exact m)) fun a m => ⟨u, by rw [List.mem_singleton.mp m]; exact upd_same⟩
  · by_cases q : a = D
    · subst q; rw [e] at h; cases h; exact mu.elim
    · rw [upd_ne q]; exact h
  · by_cases q : a = D
    · subst q; rw [e] at h; cases h; exact mu.elim
    · rw [upd_ne q]; exact h
  · by_cases q : a = D
    · subst q; rw [upd_same] at h; cases h
    · rw [upd_ne q] at h; exact h
theorem upd_ext {H : Hp} {D : Addr} {u o : HO} (e : H D = some o) (mu : Mut (some o)) {F F' : Addr → Prop} (hF : F D) (w : ∀ a, F' a → F a) : Ext H F (upd H D u) F' where
  keep a u h n := by rw [upd_ne fun z => n (by rw [z]; exact hF)]; exact h
  tups a xs h := by
    by_cases q : a = D
    · subst q; rw [e] at h; cases h; exact mu.elim
    · rw [upd_ne q]; exact h
  frzs a u w h := by
    by_cases q : a = D
    · subst q; rw [e] at h; cases h; exact mu.elim
    · rw [upd_ne q]; exact h
  new a z := .inl (w a z)
  dom a h := by
    by_cases q : a = D
    · subst q; rw [upd_same] at h; cases h
    · rw [upd_ne q] at h; exact h
end

/-! ### a comprehension's own names -/
def wipeA (ρ : AEnv) : List Nat → AEnv
  | [] => ρ
  | v :: vs => (wipeA ρ vs).set v none
section
variable {K : PySem.W.Frag} {σ σ' : St} {H : Hp} {fp : Nat → List Addr} {ρ : AEnv} {G : List Addr}
theorem RS.wipe : ∀ (vs : List Nat) {fp : Nat → List Addr}, RS K σ H ρ fp G → ∃ fp', RS K (L2.wipe σ vs) H (wipeA ρ vs) fp' G ∧ ∀ a, Fo fp' a → Fo fp a
  | [], fp, R => ⟨fp, R, fun _ z => z⟩
  | v :: vs, fp, R => by
    obtain ⟨fp1, R1, i1⟩ := RS.wipe vs R
    exact ⟨_, R1.drop (j := v) (fun i w h e => by unfold L2.wipe; rw [List.getElem?_set_ne (Ne.symm h)]; exact e) (by rw [wipe_length, wipe_length]), fun a z => i1 a (z.set.elim (fun q => q) fun m => (List.not_mem_nil m).elim)⟩
theorem wipe_eq : ∀ (vs : List Nat), (∀ (j : Nat), j ∉ vs → σ'[j]? = σ[j]?) → σ'.length = σ.length → wipe σ' vs = wipe σ vs := by
  intro vs h hl
  refine List.ext_getElem? fun i => ?_
  by_cases m : i ∈ vs
  · have at_ : ∀ (τ : St) (ws : List Nat), i ∈ ws → (wipe τ ws)[i]? = if i < τ.length then some none else none := by
      intro τ ws
      induction ws with
      | nil => intro m; cases m
      | cons w ws ih =>
        intro m
        unfold wipe
        by_cases q : w = i
        · subst q
          split
          · rename_i k; exact List.getElem?_set_self (by rw [wipe_length]; exact k)
          · rename_i k; exact List.getElem?_eq_none (by simp [wipe_length]; omega)
        · rw [List.getElem?_set_ne q]
          exact ih ((List.mem_cons.mp m).resolve_left fun z => q z.symm)
    rw [at_ _ _ m, at_ _ _ m, hl]
  · rw [wipe_out m, wipe_out m]
    exact h i m
theorem wipe_wipe (vs : List Nat) : wipe (wipe σ vs) vs = wipe σ vs := wipe_eq vs (fun j m => wipe_out m) (wipe_length σ vs)
theorem RS.unwipe {vs : List Nat} (R : RS K (L2.wipe σ vs) H ρ fp G) : RS K σ H ρ fp G := R.vals (fun i o v _ h => (wipe_some h).1) (wipe_length σ vs).symm
end

/-! ### list comprehensions -/
structure BXs (X : Cx) (ifs : List Expr) (t : BT) : Prop where
  pts : PTs X ifs (LT X.K t)
def bYes : BT := fun ρ Q => Q true ρ
theorem PTs.imp {X : Cx} {ifs : List Expr} {t t' : TT} (h : PTs X ifs t) (w : ∀ σ H Q, t' σ H Q → t σ H Q) : PTs X ifs t' := ⟨fun pins s σ H Q I q => h.run pins s σ H Q I (w σ H Q q)⟩
theorem bxs_nil {X : Cx} : BXs X [] bYes := by
  refine ⟨PTs.imp pts_nil ?_⟩
  rintro σ H Q ⟨ρ, fp, G, Qa, R, h, f⟩
  exact f true H ρ fp R Ext.refl h
theorem bxs_one {X : Cx} {c : Expr} {t : BT} (h : TX X c t) : BXs X [c] t := ⟨pts_one h.pt⟩
def compW (g : GT) (tt : BT) (te : XT) (vs : List Nat) : List T → List T → AEnv → (List T → AEnv → Prop) → Prop
  | [], acc, ρ, Q => Q acc ρ
  | t :: ts, acc, ρ, Q => g t ρ fun ρ1 => tt ρ1 fun b ρ2 => if b = true then te ρ2 fun p ρ3 => take1 p ρ3 fun y ρ4 => compW g tt te vs ts (acc ++ [y]) (wipeA ρ4 vs) Q else compW g tt te vs ts acc (wipeA ρ2 vs) Q
def tComp (ti : IT) (g : GT) (tt : BT) (te : XT) (vs : List Nat) : XT := fun ρ Q => ti ρ fun ts ρ1 => compW g tt te vs ts [] (wipeA ρ1 vs) fun acc ρ2 => Q (.val (.lst acc)) ρ2
theorem lc_go {K : PySem.W.Frag} {ti : IT} {g : GT} {tt : BT} {te : XT} {vs : List Nat} {σ : St} {H : Hp} {Q : VK} (h : LX K (tComp ti g tt te vs) σ H Q) : tLc (LI K ti) (LG K (fun j => !vs.contains j) g) (LT K tt) (LX K te) vs σ H Q := by
  obtain ⟨ρ, fp, G, Qa, R, h, fin⟩ := h
  refine ⟨ρ, fp, G, _, R, h, fun ts J H1 ρ1 fp1 R1 j1 hsz x1 h1 => ?_⟩
  intro D hD
  have nD : D ∉ G := fun m => by obtain ⟨u, e⟩ := R1.gi D m; rw [hD] at e; cases e
  obtain ⟨fp0, R0, i0⟩ := R1.wipe vs
  have R0' : RS K (wipe σ vs) (upd H1 D (.lst [])) (wipeA ρ1 vs) fp0 ([D] ++ G) := R0.new (Pres.upd hD) (fun a m => by rw [List.mem_singleton.mp m]; exact hD) fun a m => ⟨.lst [], by rw [List.mem_singleton.mp m]; exact upd_same⟩
  have x0 : Ext H1 (Fo fp1) (upd H1 D (.lst [])) (Or1 (Fo fp0) [D]) := ((Pres.upd hD).extA (F := Fo fp1) (A := [D]) fun a m => by rw [List.mem_singleton.mp m]; exact hD).weak (fun _ z => z) fun a z => z.imp (i0 a) fun m => m
  refine ⟨fun i m H' => ∃ ρ' fp' va acc, m = ts.length - i ∧ i ≤ ts.length ∧ RS K (wipe σ vs) H' ρ' fp' ([D] ++ G) ∧ H' D = some (.lst va) ∧ RPs K H' (Or1 (Fo fp') ([D] ++ G)) va acc ∧ acc.length ≤ i ∧ Ext H1 (Fo fp1) H' (Or1 (Fo fp') [D]) ∧
    compW g tt te vs (ts.drop i) acc ρ' (fun acc ρ2 => Qa (.val (.lst acc)) ρ2), ⟨_, _, fp0, [], [], rfl, Nat.zero_le _, R0', upd_same, .nil, Nat.le_refl _, x0, h1⟩, ?_⟩
  rintro i m H2 ⟨ρ2, fp2, va, acc, rfl, hi, R2, hD2, ra, la, x2, h2⟩
  obtain ⟨j2, stop⟩ := j1 H2 _ x2
  cases hd : ts.drop i with
  | nil =>
    have e : i = ts.length := by
      have := congrArg List.length hd
      simp at this; omega
    subst e
    rw [hd] at h2
    refine .inl ⟨stop, fin (.ref D) (.val (.lst acc)) [D] H2 ρ2 fp2 R2.unwipe ⟨⟨D, va, rfl, rfl, hD2, ra⟩, by simp, fun a m => by rw [List.mem_singleton.mp m]; exact nD⟩ (x1.trans x2) h2⟩
  | cons t r =>
    obtain ⟨e1, e2, e3⟩ := drop_at hd
    rw [hd] at h2
    obtain ⟨go, yl⟩ := j2 i t e1
    -- what a turn reaches
    refine .inr ⟨go, fun H3 => ∃ ρ3 fp3 va acc, RS K (wipe σ vs) H3 ρ3 fp3 ([D] ++ G) ∧ H3 D = some (.lst va) ∧ RPs K H3 (Or1 (Fo fp3) ([D] ++ G)) va acc ∧ acc.length ≤ i + 1 ∧ Ext H1 (Fo fp1) H3 (Or1 (Fo fp3) [D]) ∧ compW g tt te vs r acc ρ3 (fun acc ρ2 => Qa (.val (.lst acc)) ρ2),
      fun H3 ⟨ρ3, fp3, va, acc, R3, d3, r3, l3, x3, h3⟩ => ⟨_, by omega, ρ3, fp3, va, acc, rfl, e3, R3, d3, r3, l3, x3, by rw [e2]; exact h3⟩, fun x H3 y => ?_⟩
    obtain ⟨pr, rp⟩ := yl x H3 y
    have R3 := R2.pres pr
    have d3 := pr D _ hD2
    have ra3 := RPs.ext (F := Or1 (Fo fp2) ([D] ++ G)) pr.ext ra
    have x3 : Ext H1 (Fo fp1) H3 (Or1 (Fo fp2) [D]) := x2.trans (pr.ext)
    refine ⟨ρ2, fp2, [D] ++ G, _, t, R3, rp.weak fun a z => Or1.app.mp z, h2, fun σ4 ρ4 fp4 R4 i4 p4 l4 h4 => ?_⟩
    have w4 : wipe σ4 vs = wipe σ vs := by
      have := wipe_eq (σ := wipe σ vs) (σ' := σ4) vs (fun j m => p4 j (by simp [m])) l4
      rw [this, wipe_wipe]
    have x4 : Ext H1 (Fo fp1) H3 (Or1 (Fo fp4) [D]) := x3.weak (fun _ z => z) fun a z => z.imp (i4 a) fun m => m
    refine ⟨w4, ρ4, fp4, [D] ++ G, _, R4, h4, fun b H5 ρ5 fp5 R5 x5 h5 => ?_⟩
    have kD : ∀ {H H' : Hp} {f f' : Nat → List Addr} {ρ : AEnv} {σ : St} {A : List Addr}, RS K σ H ρ f ([D] ++ G) → Ext H (Fo f) H' (Or1 (Fo f') A) → ∀ u, H D = some u → H' D = some u := fun R x u e => x.keep D u e (R.gf D (List.mem_append_left _ (List.mem_singleton.mpr rfl)))
    have d5 := kD (A := []) R4 (x5.weak (fun _ z => z) fun a z => z.elim (fun q => q) fun m => (List.not_mem_nil m).elim) _ d3
    have ra5 : RPs K H5 (Or1 (Fo fp5) ([D] ++ G)) va acc := RPs.ext (x5.addG ([D] ++ G)) (RPs.weak ra3 fun a z => z.imp (i4 a) fun m => m)
    have x15 : Ext H1 (Fo fp1) H5 (Or1 (Fo fp5) [D]) := x4.trans (x5.addG [D])
    cases b with
    | false =>
      obtain ⟨fp6, R6, i6⟩ := R5.wipe vs
      rw [w4] at R6
      exact iteF ⟨_, fp6, va, acc, R6, d5, RPs.weak ra5 fun a z => z.imp (i6 a) fun m => m, Nat.le_succ_of_le la, x15.weak (fun _ z => z) fun a z => z.imp (i6 a) fun m => m, by simpa using h5⟩
    | true =>
      refine iteT ⟨ρ5, fp5, [D] ++ G, _, R5, (by simpa using h5), fun v p A H6 ρ6 fp6 R6 r6 x6 h6 => ?_⟩
      obtain ⟨yt, ρ7, fp7, R7, r7, i7, h7⟩ := take1_ok R6 r6 h6
      have d6 := kD R5 x6 _ d5
      have x6' : Ext H5 (Fo fp5) H6 (Fo fp7) := x6.or.weak (fun _ z => z) i7
      have ra6 : RPs K H6 (Or1 (Fo fp7) ([D] ++ G)) va acc := RPs.ext (x6'.addG ([D] ++ G)) ra5
      have x16 : Ext H1 (Fo fp1) H6 (Or1 (Fo fp7) [D]) := x15.trans (x6'.addG [D])
      refine ⟨va, d6, by rw [Paired.len ra6]; omega, ?_⟩
      have R8 : RS K σ4 (upd H6 D (.lst (va ++ [v]))) ρ7 fp7 ([D] ++ G) := RS.write R7 rfl ⟨_, d6, trivial⟩ nD
      have ux : Ext H6 (Or1 (Fo fp7) ([D] ++ G)) (upd H6 D (.lst (va ++ [v]))) (Or1 (Fo fp7) ([D] ++ G)) := upd_ext d6 trivial (.inr (List.mem_append_left _ (List.mem_singleton.mpr rfl))) fun _ z => z
      obtain ⟨fp9, R9, i9⟩ := R8.wipe vs
      rw [w4] at R9
      refine ⟨_, fp9, va ++ [v], acc ++ [yt], R9, upd_same, RPs.weak (RPs.ext ux (Paired.app ra6 (.cons r7 .nil))) fun a z => z.imp (i9 a) fun m => m, by simp; omega, ?_, h7⟩
      exact x16.trans (upd_ext d6 trivial (.inr (List.mem_singleton.mpr rfl)) fun a z => z.imp (i9 a) fun m => m)
section
variable {X : Cx} {elt tg iter : Expr} {ifs : List Expr} {scope : Scope} {own : List (Str × Nat)} {pos : Pos} {ti : IT} {g : GT} {tt : BT} {te : XT}
theorem ex_lc (hc : X.calm = true) (hN : X.N.Nodup) (hi : IX X tg iter ti) (ok : BlkOk X.N X.env.scope scope own)
    (hg : ∀ (s : Shared) (H : Hp) (C : Addr) (cl : List (Str × Addr)) (fp : List Addr), GX (X.blk s H scope (compEnvC scope cl C X.env) fp) (fun j => !(own.map (·.2)).contains j) tg g)
    (ht : ∀ (s : Shared) (H : Hp) (C : Addr) (cl : List (Str × Addr)) (fp : List Addr), BXs (X.blk s H scope (compEnvC scope cl C X.env) fp) ifs tt)
    (he : ∀ (s : Shared) (H : Hp) (C : Addr) (cl : List (Str × Addr)) (fp : List Addr), EX (X.blk s H scope (compEnvC scope cl C X.env) fp) elt te) (hs : ∀ x, foldedSetIterable iter X.env x = pure x := by intro _; rfl) :
    EX X (.ListComp elt [⟨tg, iter, ifs, 0⟩] scope pos) (tComp ti g tt te (own.map (·.2))) :=
  ⟨PE.imp (pe_lc (te := LX X.K te) (tt := LT X.K tt) (g := LG X.K _ g) hc hN hi.pi ok (fun s H C cl fp => (hg s H C cl fp).pg) (fun s H C cl fp => (ht s H C cl fp).pts) (fun s H C cl fp => (he s H C cl fp).pe) hs) fun _ _ _ h => lc_go h⟩
theorem sx_setLc {P : Nat → Bool} {y : Str} {py spos : Pos} (i : Nat) (hc : X.calm = true) (hN : X.N.Nodup) (hy : X.N[i]? = some y) (hyl : X.env.scope.names.lookup y = some .local)
    (hsw : swapsWith (.ListComp elt [⟨tg, iter, ifs, 0⟩] scope pos) (some (.Name y py)) spos.line X.env = pure true) (hi : IX X tg iter ti) (ok : BlkOk X.N X.env.scope scope own)
    (hg : ∀ (s : Shared) (H : Hp) (C : Addr) (cl : List (Str × Addr)) (fp : List Addr), GX (X.blk s H scope (compEnvC scope cl C X.env) fp) (fun j => !(own.map (·.2)).contains j) tg g)
    (ht : ∀ (s : Shared) (H : Hp) (C : Addr) (cl : List (Str × Addr)) (fp : List Addr), BXs (X.blk s H scope (compEnvC scope cl C X.env) fp) ifs tt)
    (he : ∀ (s : Shared) (H : Hp) (C : Addr) (cl : List (Str × Addr)) (fp : List Addr), EX (X.blk s H scope (compEnvC scope cl C X.env) fp) elt te) (hp : P i = false := by rfl) (hs : ∀ x, foldedSetIterable iter X.env x = pure x := by intro _; rfl) :
    SX X P (.Assign [.Name y py] (.ListComp elt [⟨tg, iter, ifs, 0⟩] scope pos) spos) (sSet i (tComp ti g tt te (own.map (·.2)))) := by
  refine ⟨PS.imp (ps_setLc (te := LX X.K te) (tt := LT X.K tt) (g := LG X.K _ g) hc hN hy hyl hsw hi.pi ok (fun s H C cl fp => (hg s H C cl fp).pg) (fun s H C cl fp => (ht s H C cl fp).pts) (fun s H C cl fp => (he s H C cl fp).pe) hs) fun D σ H h => ?_⟩
  have := set_go hp h
  exact lc_go this
end
end DL

set_option Elab.async false
set_option linter.all false
set_option maxRecDepth 100000
set_option maxHeartbeats 4000000
/-! THE DATA LAYER, part 5: defs, their promises, their calls. -/
namespace DL
open PySem PySem.Spec L2
open PyProof.Rows hiding St

/-- what a def does: contents of the parameters in; the answer and the contents of the lent ones out -/
abbrev FSpec := List O → (O → List O → Prop) → Prop
def outsOf : List Bool → Nat → AEnv → Option (List O)
  | [], _, _ => some []
  | false :: fl, i, ρ => outsOf fl (i + 1) ρ
  | true :: fl, i, ρ => match ρ.at i, outsOf fl (i + 1) ρ with
    | some o, some os => some (o :: os)
    | _, _ => none
def putO : List Bool → List O → List O → List O
  | true :: fl, _ :: os, u :: us => u :: putO fl os us
  | false :: fl, o :: os, us => o :: putO fl os us
  | _, os, _ => os
/-- the promise of a def in the data layer; fl: which parameters are lent (changed in place) -/
def ASp (K : PySem.W.Frag) (fl : List Bool) (spec : FSpec) : Sp := fun vs H Q _ => ∃ os fp G Qa, vs.length = fl.length ∧ RS K (vs.map some) H (os.map some) fp G ∧ (∀ i, fl.getD i false = false → fp i = []) ∧ spec os Qa ∧
  ∀ v o A outs H' fp', RS K (vs.map some) H' ((putO fl os outs).map some) fp' (A ++ G) → (∀ i, fl.getD i false = false → fp' i = []) → RO K H' (Or1 (Fo fp') (A ++ G)) v o A → A.Nodup → (∀ a ∈ A, a ∉ G) → Ext H (Fo fp) H' (Or1 (Fo fp') A) →
    outs.length = (fl.filter id).length → Qa o outs → Q v H'

/-! ### lending -/
inductive RCs (K : PySem.W.Frag) (H : Hp) (F : Addr → Prop) : List V → List O → List (List Addr) → Prop
  | nil : RCs K H F [] [] []
  | cons {v : V} {o : O} {B : List Addr} {vs : List V} {os : List O} {Bs : List (List Addr)} : RO K H F v o B → RCs K H F vs os Bs → RCs K H F (v :: vs) (o :: os) (B :: Bs)
/-- where the lent ones come from -/
inductive Lent (σ : St) : List Bool → List V → List (Option Nat) → Prop
  | nil : Lent σ [] [] []
  | no {v : V} {fl : List Bool} {vs : List V} {js : List (Option Nat)} : Lent σ fl vs js → Lent σ (false :: fl) (v :: vs) js
  | own {v : V} {fl : List Bool} {vs : List V} {js : List (Option Nat)} : Lent σ fl vs js → Lent σ (true :: fl) (v :: vs) (none :: js)
  | slot {v : V} {j : Nat} {fl : List Bool} {vs : List V} {js : List (Option Nat)} : σ[j]? = some (some v) → j < σ.length → Lent σ fl vs js → Lent σ (true :: fl) (v :: vs) (some j :: js)
def prep : List Bool → List Opd → AEnv → (List O → List (Option Nat) → AEnv → Prop) → Prop
  | [], [], ρ, Q => Q [] [] ρ
  | true :: fl, .val o :: ps, ρ, Q => prep fl ps ρ fun os js ρ' => Q (o :: os) (none :: js) ρ'
  | true :: fl, .slot j :: ps, ρ, Q => match ρ[j]? with
    | some (some o) => prep fl ps (ρ.set j none) fun os js ρ' => Q (o :: os) (some j :: js) ρ'
    | _ => False
  | false :: fl, p :: ps, ρ, Q => take1 p ρ fun t ρ1 => prep fl ps ρ1 fun os js ρ' => Q (.pure t :: os) js ρ'
  | _, _, _, _ => False
def back : List (Option Nat) → List O → AEnv → AEnv
  | some j :: js, o :: os, ρ => back js os (ρ.set j (some o))
  | none :: js, _ :: os, ρ => back js os ρ
  | _, _, ρ => ρ
def tCallF (fl : List Bool) (spec : FSpec) (ts : XTs) : XT := fun ρ Q => ts ρ fun ps ρ1 => prep fl ps ρ1 fun os js ρ2 => spec os fun o outs => Q (.val o) (back js outs ρ2)

section
variable {K : PySem.W.Frag} {σ : St} {H H1 H' : Hp} {fp : Nat → List Addr} {ρ : AEnv} {v : V} {p : Opd} {o : O} {j : Nat} {A B G : List Addr} {F F' : Addr → Prop}
theorem RCs.weak (w : ∀ a, F' a → F a) {vs : List V} {os : List O} {Bs : List (List Addr)} (h : RCs K H F vs os Bs) : RCs K H F' vs os Bs := by
  induction h with
  | nil => exact .nil
  | cons r _ ih => exact .cons (r.weak w) ih
theorem RCs.len {vs : List V} {os : List O} {Bs : List (List Addr)} (h : RCs K H F vs os Bs) : vs.length = os.length ∧ Bs.length = os.length := by
  induction h with
  | nil => exact ⟨rfl, rfl⟩
  | cons _ _ ih => exact ⟨congrArg (· + 1) ih.1, congrArg (· + 1) ih.2⟩
theorem RCs.at {vs : List V} {os : List O} {Bs : List (List Addr)} (h : RCs K H F vs os Bs) : ∀ (i : Nat) (o : O), os[i]? = some o → ∃ v, vs[i]? = some v ∧ RO K H F v o (Bs.getD i []) := by
  induction h with
  | nil => intro i o e; simp at e
  | cons r _ ih =>
    intro i o e
    cases i with
    | zero => simp at e; subst e; exact ⟨_, rfl, r⟩
    | succ i =>
      obtain ⟨v, h1, h2⟩ := ih i o (by simpa using e)
      exact ⟨v, by simpa using h1, by simpa using h2⟩
theorem prep_ok {ρ0 : AEnv} {vs : List V} {ps : List Opd} (rr : RArgs K σ H F ρ0 vs ps A) : ∀ {fl : List Bool} {ρ : AEnv} {fp : Nat → List Addr} {G : List Addr} {Q : List O → List (Option Nat) → AEnv → Prop}, RS K σ H ρ fp (A ++ G) → (∀ a, Or1 (Fo fp) (A ++ G) a → F a) →
    (∀ a ∈ A, a ∉ G) → A.Nodup → prep fl ps ρ Q →
    ∃ os js ρ' fp' Bs, RS K σ H ρ' fp' (Bs.flatten ++ G) ∧ RCs K H (Or1 (Fo fp') (Bs.flatten ++ G)) vs os Bs ∧ Bs.flatten.Nodup ∧ (∀ a ∈ Bs.flatten, a ∉ G) ∧ (∀ a, Fo fp' a ∨ a ∈ Bs.flatten → Fo fp a ∨ a ∈ A) ∧ Lent σ fl vs js ∧ (∀ i, fl.getD i false = false → Bs.getD i [] = []) ∧ vs.length = fl.length ∧ Q os js ρ' := by
  induction rr with
  | nil =>
    intro fl ρ fp G Q R w hA d h
    cases fl with
    | nil => exact ⟨[], [], ρ, fp, [], R, .nil, .nil, noMem, fun a z => z.imp (fun q => q) fun m => m, .nil, fun i _ => by simp, rfl, h⟩
    | cons f fl => cases f <;> exact h.elim
  | @val v o B A vs ps r rr ih =>
    intro fl ρ fp G Q R w hA d h
    obtain ⟨dB, dA, dBA⟩ := List.nodup_append.mp d
    cases fl with
    | nil => exact h.elim
    | cons f fl =>
      cases f with
      | true =>
        -- own: its addresses join the others'
        have R1 : RS K σ H ρ fp (A ++ (B ++ G)) := R.sub fun a m => by simp only [List.mem_append] at m ⊢; rcases m with m | m | m <;> simp [m]
        obtain ⟨os, js, ρ', fp', Bs, R2, r2, d2, g2, i2, l2, z2, n2, h2⟩ := ih (G := B ++ G) R1 (fun a z => w a (z.imp (fun q => q) fun m => by simp only [List.mem_append] at m ⊢; rcases m with m | m | m <;> simp [m])) (fun a m z => (List.mem_append.mp z).elim (fun z => dBA a z a m rfl) (hA a (List.mem_append_right _ m))) dA h
        have sub : ∀ a, a ∈ (B :: Bs).flatten ++ G → a ∈ Bs.flatten ++ (B ++ G) := fun a m => by simp only [List.flatten_cons, List.mem_append] at m ⊢; rcases m with (m | m) | m <;> simp [m]
        refine ⟨_, _, ρ', fp', B :: Bs, R2.sub sub, .cons ?_ (r2.weak fun a z => z.imp (fun q => q) (sub a)), ?_, fun a m => ?_, fun a z => ?_, .own l2, fun i hi => ?_, congrArg (· + 1) n2, h2⟩
        · refine r.weak fun a z => w a ?_
          rcases z with z | z
          · exact (i2 a (.inl z)).imp (fun q => q) fun m => List.mem_append_left _ (List.mem_append_right _ m)
          · simp only [List.flatten_cons, List.mem_append] at z
            rcases z with (z | z) | z
            · exact .inr (by simp [z])
            · exact (i2 a (.inr z)).imp (fun q => q) fun m => by simp [m]
            · exact .inr (by simp [z])
        · simp only [List.flatten_cons]
          exact List.nodup_append.mpr ⟨dB, d2, fun a m b n e => g2 b n (e ▸ List.mem_append_left _ m)⟩
        · simp only [List.flatten_cons, List.mem_append] at m
          rcases m with m | m
          · exact hA a (List.mem_append_left _ m)
          · exact fun z => g2 a m (List.mem_append_right _ z)
        · simp only [List.flatten_cons, List.mem_append] at z ⊢
          rcases z with z | z | z
          · exact (i2 a (.inl z)).imp (fun q => q) .inr
          · exact .inr (.inl z)
          · exact (i2 a (.inr z)).imp (fun q => q) .inr
        · cases i with
          | zero => simp at hi
          | succ i => simpa using z2 i (by simpa using hi)
      | false =>
        have R1 : RS K σ H ρ fp (A ++ G) := R.sub fun a m => by simp only [List.mem_append] at m ⊢; rcases m with m | m <;> simp [m]
        obtain ⟨os, js, ρ', fp', Bs, R2, r2, d2, g2, i2, l2, z2, n2, h2⟩ := ih R1 (fun a z => w a (z.imp (fun q => q) fun m => by simp only [List.mem_append] at m ⊢; rcases m with m | m <;> simp [m])) (fun a m => hA a (List.mem_append_right _ m)) dA (show prep fl ps ρ _ from h)
        refine ⟨_, _, ρ', fp', [] :: Bs, R2, .cons (ro_pure ?_) r2, d2, g2, fun a z => (i2 a z).imp (fun q => q) (List.mem_append_right _), .no l2, fun i hi => ?_, congrArg (· + 1) n2, h2⟩
        · refine r.frz (fun a z => w a ?_) fun a m z => ?_
          · rcases z with z | z
            · exact (i2 a (.inl z)).imp (fun q => q) fun m => by simp [m]
            · simp only [List.flatten_cons, List.nil_append, List.mem_append] at z
              rcases z with z | z
              · exact (i2 a (.inr z)).imp (fun q => q) fun m => by simp [m]
              · exact .inr (by simp [z])
          · have nB : ¬ (Fo fp a ∨ a ∈ A) := fun z => z.elim (R.gf a (by simp [m])) fun z => dBA a m a z rfl
            rcases z with z | z
            · exact nB (i2 a (.inl z))
            · simp only [List.flatten_cons, List.nil_append, List.mem_append] at z
              rcases z with z | z
              · exact nB (i2 a (.inr z))
              · exact hA a (List.mem_append_left _ m) z
        · cases i with
          | zero => rfl
          | succ i => simpa using z2 i (by simpa using hi)
  | @slot v j A vs ps hv hs rr ih =>
    intro fl ρ fp G Q R w hA d h
    have hjl : j < σ.length := (List.getElem?_eq_some_iff.mp hv).1
    cases fl with
    | nil => exact h.elim
    | cons f fl =>
      cases f with
      | true =>
        simp only [prep] at h
        split at h
        · rename_i o e
          obtain ⟨R1, r1⟩ := R.move e hv
          have dl : ∀ a, Fo (fpSet fp j []) a → Fo fp a := fun a z => z.set.elim (fun q => q) fun m => (List.not_mem_nil m).elim
          have R1' : RS K σ H (ρ.set j none) (fpSet fp j []) (A ++ (fp j ++ G)) := R1.sub fun a m => by simp only [List.mem_append] at m ⊢; rcases m with m | m | m <;> simp [m]
          obtain ⟨os, js, ρ', fp', Bs, R2, r2, d2, g2, i2, l2, z2, n2, h2⟩ := ih (G := fp j ++ G) R1' (fun a z => w a (by
            rcases z with z | z
            · exact .inl (dl a z)
            · simp only [List.mem_append] at z
              rcases z with z | z | z
              · exact .inr (by simp [z])
              · exact .inl ⟨j, z⟩
              · exact .inr (by simp [z]))) (fun a m z => (List.mem_append.mp z).elim (fun z => R.gf a (List.mem_append_left _ m) ⟨j, z⟩) (hA a m)) d h
          have sub : ∀ a, a ∈ (fp j :: Bs).flatten ++ G → a ∈ Bs.flatten ++ (fp j ++ G) := fun a m => by simp only [List.flatten_cons, List.mem_append] at m ⊢; rcases m with (m | m) | m <;> simp [m]
          refine ⟨_, _, ρ', fp', fp j :: Bs, R2.sub sub, .cons ?_ (r2.weak fun a z => z.imp (fun q => q) (sub a)), ?_, fun a m => ?_, fun a z => ?_, .slot hv hjl l2, fun i hi => ?_, congrArg (· + 1) n2, h2⟩
          · refine r1.weak fun a z => ?_
            rcases z with z | z
            · rcases i2 a (.inl z) with y | y
              · exact .inl y
              · exact .inr (by simp [y])
            · simp only [List.flatten_cons, List.mem_append] at z
              rcases z with (z | z) | z
              · exact .inr (by simp [z])
              · rcases i2 a (.inr z) with y | y
                · exact .inl y
                · exact .inr (by simp [y])
              · exact .inr (by simp [z])
          · simp only [List.flatten_cons]
            exact List.nodup_append.mpr ⟨R.nd j, d2, fun a m b n e => g2 b n (e ▸ List.mem_append_left _ m)⟩
          · simp only [List.flatten_cons, List.mem_append] at m
            rcases m with m | m
            · exact fun z => R.gf a (List.mem_append_right _ z) ⟨j, m⟩
            · exact fun z => g2 a m (List.mem_append_right _ z)
          · simp only [List.flatten_cons, List.mem_append] at z ⊢
            rcases z with z | z | z
            · exact (i2 a (.inl z)).imp (dl a) fun m => m
            · exact .inl ⟨j, z⟩
            · exact (i2 a (.inr z)).imp (dl a) fun m => m
          · cases i with
            | zero => simp at hi
            | succ i => simpa using z2 i (by simpa using hi)
        · exact h.elim
      | false =>
        simp only [prep, take1] at h
        split at h
        · rename_i o e
          obtain ⟨R1, q1⟩ := R.freeze e
          have dl : ∀ a, Fo (fpSet fp j []) a → Fo fp a := fun a z => z.set.elim (fun q => q) fun m => (List.not_mem_nil m).elim
          obtain ⟨os, js, ρ', fp', Bs, R2, r2, d2, g2, i2, l2, z2, n2, h2⟩ := ih R1 (fun a z => w a (z.imp (dl a) fun m => m)) hA d h
          refine ⟨_, _, ρ', fp', [] :: Bs, R2, .cons (ro_pure ?_) r2, d2, g2, fun a z => (i2 a z).imp (dl a) fun m => m, .no l2, fun i hi => ?_, congrArg (· + 1) n2, h2⟩
          · refine (q1 _ hv).weak fun a z => ?_
            rcases z with z | z
            · exact (i2 a (.inl z)).imp (fun q => q) fun m => by simp [m]
            · simp only [List.flatten_cons, List.nil_append, List.mem_append] at z
              rcases z with z | z
              · exact (i2 a (.inr z)).imp (fun q => q) fun m => by simp [m]
              · exact .inr (by simp [z])
          · cases i with
            | zero => rfl
            | succ i => simpa using z2 i (by simpa using hi)
        · exact h.elim
theorem mem_flat {Bs : List (List Addr)} {a : Addr} : a ∈ Bs.flatten ↔ ∃ i, a ∈ Bs.getD i [] := by
  constructor
  · intro h
    obtain ⟨B, hB, m⟩ := List.mem_flatten.mp h
    obtain ⟨i, hi, e⟩ := List.getElem_of_mem hB
    exact ⟨i, by rw [List.getD_eq_getElem?_getD, List.getElem?_eq_getElem hi]; simpa [e] using m⟩
  · rintro ⟨i, m⟩
    rw [List.getD_eq_getElem?_getD] at m
    cases e : Bs[i]? with
    | none => rw [e] at m; cases m
    | some B => rw [e] at m; exact List.mem_flatten.mpr ⟨B, List.mem_of_getElem? e, m⟩
theorem flat_dj : ∀ {Bs : List (List Addr)}, Bs.flatten.Nodup → (∀ (i j : Nat) a, a ∈ Bs.getD i [] → a ∈ Bs.getD j [] → i = j) ∧ ∀ i : Nat, (Bs.getD i []).Nodup
  | [], _ => ⟨fun i j a m => by simp at m, fun i => by simp⟩
  | B :: Bs, d => by
    simp only [List.flatten_cons] at d
    obtain ⟨d1, d2, d3⟩ := List.nodup_append.mp d
    obtain ⟨h1, h2⟩ := flat_dj d2
    refine ⟨fun i j a m n => ?_, fun i => ?_⟩
    · cases i with
      | zero =>
        cases j with
        | zero => rfl
        | succ j => exact absurd rfl (d3 a (by simpa using m) a (mem_flat.mpr ⟨j, by simpa using n⟩))
      | succ i =>
        cases j with
        | zero => exact absurd rfl (d3 a (by simpa using n) a (mem_flat.mpr ⟨i, by simpa using m⟩))
        | succ j => exact congrArg (· + 1) (h1 i j a (by simpa using m) (by simpa using n))
    · cases i with
      | zero => simpa using d1
      | succ i => simpa using h2 i
/-- all that the slots own -/
def allFp (ρ : AEnv) (fp : Nat → List Addr) : List Addr := (List.range ρ.length).flatMap fp
theorem RS.all (R : RS K σ H ρ fp G) {a : Addr} : a ∈ allFp ρ fp ↔ Fo fp a := by
  constructor
  · intro h
    obtain ⟨i, _, m⟩ := List.mem_flatMap.mp h
    exact ⟨i, m⟩
  · rintro ⟨i, m⟩
    refine List.mem_flatMap.mpr ⟨i, List.mem_range.mpr ?_, m⟩
    rcases Nat.lt_or_ge i ρ.length with q | q
    · exact q
    · rw [R.non i fun o e => by rw [List.getElem?_eq_none q] at e; cases e] at m
      cases m
/-- the callee's view of its parameters -/
theorem RCs.rs {vs : List V} {os : List O} {Bs : List (List Addr)} {G' : List Addr} (R : RS K σ H ρ fp (Bs.flatten ++ G)) (h : RCs K H (Or1 (Fo fp) (Bs.flatten ++ G)) vs os Bs) (d : Bs.flatten.Nodup) (g : ∀ a ∈ Bs.flatten, a ∉ G) (hG : ∀ a, a ∈ G' ↔ Fo fp a ∨ a ∈ G) :
    RS K (vs.map some) H (os.map some) (fun i => Bs.getD i []) G' := by
  obtain ⟨dj, nd⟩ := flat_dj d
  refine ⟨fun i o e => ?_, fun i e => ?_, dj, nd, fun a m z => ?_, fun a m => ?_, by simp [h.len.1]⟩
  · rw [List.getElem?_map] at e
    cases q : os[i]? with
    | none => rw [q] at e; cases e
    | some o' =>
      rw [q] at e
      cases e
      obtain ⟨v, hv, r⟩ := h.at i _ q
      refine ⟨v, by rw [List.getElem?_map, hv]; rfl, r.weak fun a z => ?_⟩
      rcases z with ⟨k, z⟩ | z
      · exact .inr (List.mem_append_left _ (mem_flat.mpr ⟨k, z⟩))
      · exact ((hG a).mp z).imp (fun q => q) (List.mem_append_right _)
  · rcases Nat.lt_or_ge i os.length with q | q
    · exact absurd (by rw [List.getElem?_map, List.getElem?_eq_getElem q]; rfl) (e os[i])
    · rw [List.getD_eq_getElem?_getD, List.getElem?_eq_none (by rw [h.len.2]; exact q)]; rfl
  · have z' := mem_flat.mpr z
    exact ((hG a).mp m).elim (R.gf a (List.mem_append_left _ z')) (g a z')
  · exact ((hG a).mp m).elim (fun z => let ⟨u, e, _⟩ := R.there a z; ⟨u, e⟩) fun z => R.gi a (List.mem_append_right _ z)
/-- the lent contents come back -/
theorem back_ok {fl : List Bool} {vs : List V} {js : List (Option Nat)} (l : Lent σ fl vs js) : ∀ {os outs : List O} {fc : Nat → List Addr} {G2 : List Addr} {ρ : AEnv} {fp : Nat → List Addr} {W : List Addr},
    RS K (vs.map some) H ((putO fl os outs).map some) fc G2 → os.length = vs.length → outs.length = (fl.filter id).length → RS K σ H ρ fp (W ++ G) → (∀ i a, a ∈ fc i → a ∈ W) → (∀ a ∈ W, a ∉ G) → (∀ a, Fo fp a ∨ a ∈ W ∨ a ∈ G → Fo fc a ∨ a ∈ G2) →
    ∃ fp', RS K σ H (back js outs ρ) fp' G ∧ ∀ a, Fo fp' a → Fo fp a ∨ Fo fc a := by
  induction l with
  | nil => intro os outs fc G2 ρ fp W Rc lo ln R m g w; exact ⟨fp, by cases outs <;> exact R.sub fun a m => List.mem_append_right _ m, fun a z => .inl z⟩
  | @no v fl vs js l ih =>
    intro os outs fc G2 ρ fp W Rc lo ln R m g w
    cases os with
    | nil => simp at lo
    | cons o os =>
      have Rc' : RS K (vs.map some) H ((putO fl os outs).map some) (fun i => fc (i + 1)) (fc 0 ++ G2) := by
        refine ⟨fun i u e => ?_, fun i e => Rc.non (i + 1) fun o z => e o (by simpa [putO] using z), fun i k a m n => by have := Rc.dj _ _ a m n; omega, fun i => Rc.nd _, fun a m ⟨i, z⟩ => ?_, fun a m => ?_, by have := Rc.len; simp [putO] at this ⊢; omega⟩
        · obtain ⟨x, hx, r⟩ := Rc.ex (i + 1) u (by simpa [putO] using e)
          exact ⟨x, by simpa using hx, r.weak fun a z => z.elim (fun ⟨k, z⟩ => .inl ⟨k + 1, z⟩) fun z => (List.mem_append.mp z).elim (fun z => .inl ⟨0, z⟩) .inr⟩
        · rcases List.mem_append.mp m with m | m
          · have := Rc.dj _ _ a m z; omega
          · exact Rc.gf a m ⟨i + 1, z⟩
        · exact (List.mem_append.mp m).elim (fun m => let ⟨u, e, _⟩ := Rc.there a ⟨0, m⟩; ⟨u, e⟩) (Rc.gi a)
      obtain ⟨fp', R', i'⟩ := ih Rc' (by simpa using lo) (by simpa using ln) R (fun i a n => m (i + 1) a n) g fun a z => (w a z).elim (fun ⟨k, z⟩ => by
        cases k with
        | zero => exact .inr (List.mem_append_left _ z)
        | succ k => exact .inl ⟨k, z⟩) fun z => .inr (List.mem_append_right _ z)
      exact ⟨fp', R', fun a z => (i' a z).imp (fun q => q) fun ⟨k, z⟩ => ⟨k + 1, z⟩⟩
  | @own v fl vs js l ih =>
    intro os outs fc G2 ρ fp W Rc lo ln R m g w
    cases os with
    | nil => simp at lo
    | cons o os =>
      cases outs with
      | nil => simp at ln
      | cons u outs =>
        have Rc' : RS K (vs.map some) H ((putO fl os outs).map some) (fun i => fc (i + 1)) (fc 0 ++ G2) := by
          refine ⟨fun i u e => ?_, fun i e => Rc.non (i + 1) fun o z => e o (by simpa [putO] using z), fun i k a m n => by have := Rc.dj _ _ a m n; omega, fun i => Rc.nd _, fun a m ⟨i, z⟩ => ?_, fun a m => ?_, by have := Rc.len; simp [putO] at this ⊢; omega⟩
          · obtain ⟨x, hx, r⟩ := Rc.ex (i + 1) u (by simpa [putO] using e)
            exact ⟨x, by simpa using hx, r.weak fun a z => z.elim (fun ⟨k, z⟩ => .inl ⟨k + 1, z⟩) fun z => (List.mem_append.mp z).elim (fun z => .inl ⟨0, z⟩) .inr⟩
          · rcases List.mem_append.mp m with m | m
            · have := Rc.dj _ _ a m z; omega
            · exact Rc.gf a m ⟨i + 1, z⟩
          · exact (List.mem_append.mp m).elim (fun m => let ⟨u, e, _⟩ := Rc.there a ⟨0, m⟩; ⟨u, e⟩) (Rc.gi a)
        obtain ⟨fp', R', i'⟩ := ih Rc' (by simpa using lo) (by simpa using ln) R (fun i a n => m (i + 1) a n) g fun a z => (w a z).elim (fun ⟨k, z⟩ => by
          cases k with
          | zero => exact .inr (List.mem_append_left _ z)
          | succ k => exact .inl ⟨k, z⟩) fun z => .inr (List.mem_append_right _ z)
        exact ⟨fp', R', fun a z => (i' a z).imp (fun q => q) fun ⟨k, z⟩ => ⟨k + 1, z⟩⟩
  | @slot v j fl vs js hv hj l ih =>
    intro os outs fc G2 ρ fp W Rc lo ln R m g w
    cases os with
    | nil => simp at lo
    | cons o os =>
      cases outs with
      | nil => simp at ln
      | cons u outs =>
        have Rc' : RS K (vs.map some) H ((putO fl os outs).map some) (fun i => fc (i + 1)) (fc 0 ++ G2) := by
          refine ⟨fun i u e => ?_, fun i e => Rc.non (i + 1) fun o z => e o (by simpa [putO] using z), fun i k a m n => by have := Rc.dj _ _ a m n; omega, fun i => Rc.nd _, fun a m ⟨i, z⟩ => ?_, fun a m => ?_, by have := Rc.len; simp [putO] at this ⊢; omega⟩
          · obtain ⟨x, hx, r⟩ := Rc.ex (i + 1) u (by simpa [putO] using e)
            exact ⟨x, by simpa using hx, r.weak fun a z => z.elim (fun ⟨k, z⟩ => .inl ⟨k + 1, z⟩) fun z => (List.mem_append.mp z).elim (fun z => .inl ⟨0, z⟩) .inr⟩
          · rcases List.mem_append.mp m with m | m
            · have := Rc.dj _ _ a m z; omega
            · exact Rc.gf a m ⟨i + 1, z⟩
          · exact (List.mem_append.mp m).elim (fun m => let ⟨u, e, _⟩ := Rc.there a ⟨0, m⟩; ⟨u, e⟩) (Rc.gi a)
        obtain ⟨v', hv', r⟩ := Rc.ex 0 u (by simp [putO])
        have ev : v' = v := by simpa using hv'.symm
        subst ev
        -- slot j is filled
        let W' := W.filter fun a => decide (a ∉ fc 0)
        have mW' : ∀ a, a ∈ W' ↔ a ∈ W ∧ a ∉ fc 0 := fun a => by simp [W']
        have R1 : RS K σ H ρ fp (fc 0 ++ (W' ++ G)) := R.sub fun a z => by
          simp only [List.mem_append] at z ⊢
          rcases z with z | z | z
          · exact .inl (m 0 a z)
          · exact .inl ((mW' a).mp z).1
          · exact .inr z
        have hjr : j < ρ.length := by rw [R.len]; exact hj
        have R2 := R1.upd (j := j) (σ' := σ) (o := u) (v := v') (fun a z y => by
          simp only [List.mem_append] at y
          rcases y with y | y
          · exact ((mW' a).mp y).2 z
          · exact g a (m 0 a z) y) (Rc.nd 0) hjr (fun i v _ h => h) hv rfl (r.weak fun a z => by
          have : Fo fp a ∨ a ∈ W ∨ a ∈ G := by
            rcases z with z | z
            · exact z.set.elim .inl fun z => .inr (.inl (m 0 a z))
            · simp only [List.mem_append] at z
              rcases z with z | z
              · exact .inr (.inl ((mW' a).mp z).1)
              · exact .inr (.inr z)
          exact w a this)
        obtain ⟨fp', R', i'⟩ := ih Rc' (by simpa using lo) (by simpa using ln) R2 (fun i a n => (mW' a).mpr ⟨m (i + 1) a n, fun z => by have := Rc.dj _ _ a n z; omega⟩) (fun a z => g a ((mW' a).mp z).1) fun a z => by
          have : Fo fc a ∨ a ∈ G2 := by
            rcases z with z | z | z
            · rcases z.set with z | z
              · exact w a (.inl z)
              · exact .inl ⟨0, z⟩
            · exact w a (.inr (.inl ((mW' a).mp z).1))
            · exact w a (.inr (.inr z))
          rcases this with ⟨k, z⟩ | z
          · cases k with
            | zero => exact .inr (List.mem_append_left _ z)
            | succ k => exact .inl ⟨k, z⟩
          · exact .inr (List.mem_append_right _ z)
        exact ⟨fp', R', fun a z => (i' a z).elim (fun z => z.set.elim .inl fun z => .inr ⟨0, z⟩) fun ⟨k, z⟩ => .inr ⟨k + 1, z⟩⟩
end
end DL

set_option Elab.async false
set_option linter.all false
set_option maxRecDepth 100000
set_option maxHeartbeats 4000000
/-! THE DATA LAYER, part 6: a call of a def; a def keeps its promise. -/
namespace DL
open PySem PySem.Spec L2
open PyProof.Rows hiding St

section
variable {X : Cx} {k : Nat} {f : Addr} {fd : FuncData} {ps : List Str} {x : Str} {p pos : Pos} {e : Expr} {es : List Expr} {ts : XTs} {fl : List Bool} {spec : FSpec}
theorem callF_go {K : PySem.W.Frag} {n : Nat} {σ : St} {H : Hp} {Q : VK} {E : XK} (h : LX K (tCallF fl spec ts) σ H Q) : tCall (ASp K fl spec) [] E (LA K n ts) σ H Q := by
  obtain ⟨ρ, fp, G, Qa, R, h, fin⟩ := h
  refine ⟨ρ, fp, G, _, R, h, fun vs ps A H1 ρ1 fp1 hl R1 r1 nd1 ng1 x1 h1 => ?_⟩
  obtain ⟨os, js, ρ2, fp2, Bs, R2, r2, d2, g2, i2, l2, z2, n2, h2⟩ := prep_ok r1 R1 (fun a z => z) ng1 nd1 h1
  rw [List.append_nil]
  have hG : ∀ a, a ∈ allFp ρ2 fp2 ++ G ↔ Fo fp2 a ∨ a ∈ G := fun a => by rw [List.mem_append, R2.all]
  refine ⟨os, fun i => Bs.getD i [], allFp ρ2 fp2 ++ G, _, n2, RCs.rs R2 r2 d2 g2 hG, z2, h2, fun v o A' outs H' fp' R' z' ro nd' ng' x' lo q => ?_⟩
  have fa : ∀ a, a ∈ allFp ((putO fl os outs).map some) fp' ↔ Fo fp' a := fun a => R'.all
  generalize hW : allFp ((putO fl os outs).map some) fp' = W at fa
  have xs : Ext H1 (· ∈ Bs.flatten) H' (· ∈ W ++ A') := x'.weak (fun a z => mem_flat.mpr z) fun a m => (List.mem_append.mp m).elim (fun m => .inl ((fa a).mp m)) .inr
  have R3 : RS K σ H' ρ2 fp2 ((W ++ A') ++ G) := R2.thru xs (fun a m z => g2 a z m) fun a m => (List.mem_append.mp m).elim (fun m => let ⟨u, e, _⟩ := R'.there a ((fa a).mp m); ⟨u, e⟩) fun m => let ⟨u, e, _⟩ := ro.there a m; ⟨u, e⟩
  obtain ⟨fp3, R4, i3⟩ := back_ok l2 (G := A' ++ G) R' (by rw [← r2.len.1]) lo (by rw [List.append_assoc] at R3; exact R3) (fun i a m => (fa a).mpr ⟨i, m⟩) (fun a m z => R'.gf a (by
      simp only [List.mem_append] at z ⊢
      rcases z with z | z
      · exact .inl z
      · exact .inr (.inr z)) ((fa a).mp m)) (fun a z => by
      rcases z with z | z | z
      · exact .inr (List.mem_append_right _ ((hG a).mpr (.inl z)))
      · exact .inl ((fa a).mp z)
      · simp only [List.mem_append] at z ⊢
        rcases z with z | z
        · exact .inr (.inl z)
        · exact .inr (.inr (.inr z)))
  refine fin v (.val o) A' H' _ fp3 R4 ⟨ro.weak fun a z => ?_, nd', fun a m z => ng' a m (List.mem_append_right _ z)⟩ (x1.trans ((x'.addP (Fo fp2)).weak (fun a z => ?_) fun a z => ?_)) q
  · rcases z with z | z
    · rcases i3 a z with z | z
      · exact .inr (List.mem_append_right _ ((hG a).mpr (.inl z)))
      · exact .inl z
    · simp only [List.mem_append] at z ⊢
      rcases z with z | z
      · exact .inr (by simp [z])
      · exact .inr (by simp [z])
  · exact (i2 a (z.imp (fun q => q) fun z => mem_flat.mpr z))
  · rcases z with z | z
    · exact (i3 a z).imp (fun q => q) .inl
    · exact .inr (.inr z)
theorem ex_callF (F : FnOk X.prog X.w X.K X.mg X.base CX0 k f fd ps (ASp X.K fl spec)) (hr : Room k X.A) (hg : Gl X x) (hm : X.mg x = some (.ref f)) (hk : PySem.W.keepIn X.K (.ref f) = true) (hb : Binds X.K fd ps [])
    (ha : EXs X (e :: es) ts) (hdb : (x == ("__debug__" : Str)) = false := by decide) (he : starEach (e :: es) X.env = (false, eval e X.env) :: starEach es X.env := by rfl) (hpl : (backTo pos (starEach es X.env)).any (·.1) = false := by rfl) :
    EX X (.Call (.Name x p) (e :: es) [] pos) (tCallF fl spec ts) := ⟨PE.imp (pe_call F hr hg hm hk hb .nil pass0 ha.pa hdb he hpl) fun _ _ _ h => callF_go h⟩
end

/-! ### a def keeps its promise -/
def startA (n : Nat) (os : List O) : AEnv := os.map some ++ List.replicate (n - os.length) none
def endO (fl : List Bool) (ρ : AEnv) (Q : List O → Prop) : Prop := match outsOf fl 0 ρ with
  | some outs => Q outs
  | none => False
def endsOf (fl : List Bool) (Qa : O → List O → Prop) : AEnds := { nx := fun ρ => endO fl ρ (Qa (.pure .none)), rt := fun o ρ => endO fl ρ (Qa o) }
theorem outs_len : ∀ {fl : List Bool} {i : Nat} {ρ : AEnv} {outs : List O}, outsOf fl i ρ = some outs → outs.length = (fl.filter id).length
  | [], _, _, _, h => by cases h; rfl
  | false :: fl, i, ρ, outs, h => by simpa using outs_len (fl := fl) (i := i + 1) h
  | true :: fl, i, ρ, outs, h => by
    unfold outsOf at h
    split at h
    · rename_i o os e1 e2
      cases h
      simpa using outs_len e2
    · cases h
theorem putO_at : ∀ {fl : List Bool} {i : Nat} {ρ : AEnv} {os outs : List O}, outsOf fl i ρ = some outs → os.length = fl.length → (putO fl os outs).length = os.length ∧ ∀ (j : Nat), (fl.getD j false = true → (putO fl os outs)[j]? = ρ.at (i + j)) ∧ (fl.getD j false = false → (putO fl os outs)[j]? = os[j]?)
  | [], i, ρ, os, outs, h, hl => by
    have : os = [] := List.eq_nil_of_length_eq_zero hl
    subst this
    exact ⟨rfl, fun j => ⟨fun z => by simp at z, fun _ => rfl⟩⟩
  | false :: fl, i, ρ, [], outs, h, hl => by simp at hl
  | true :: fl, i, ρ, [], outs, h, hl => by simp at hl
  | false :: fl, i, ρ, o :: os, outs, h, hl => by
    obtain ⟨h1, h2⟩ := putO_at (fl := fl) (i := i + 1) (os := os) h (by simpa using hl)
    refine ⟨by simp [putO, h1], fun j => ?_⟩
    cases j with
    | zero => exact ⟨fun z => by simp at z, fun _ => rfl⟩
    | succ j => simpa [putO, Nat.add_assoc, Nat.add_comm 1 j] using h2 j
  | true :: fl, i, ρ, o :: os, outs, h, hl => by
    unfold outsOf at h
    split at h
    · rename_i u us e1 e2
      cases h
      obtain ⟨h1, h2⟩ := putO_at (os := os) e2 (by simpa using hl)
      refine ⟨by simp [putO, h1], fun j => ?_⟩
      cases j with
      | zero => exact ⟨fun _ => by simp [putO, e1], fun z => by simp at z⟩
      | succ j => simpa [putO, Nat.add_assoc, Nat.add_comm 1 j] using h2 j
    · cases h
theorem get_pad {α : Type} {l : List (Option α)} {m i : Nat} {o : α} : (l ++ List.replicate m none)[i]? = some (some o) ↔ l[i]? = some (some o) := by
  rcases Nat.lt_or_ge i l.length with h | h
  · rw [List.getElem?_append_left h]
  · rw [List.getElem?_append_right h, List.getElem?_replicate, List.getElem?_eq_none h]
    constructor
    · intro z; split at z <;> cases z
    · intro z; cases z
section
variable {P : Program} {w : World} {K : PySem.W.Frag} {mg : Str → Option Value} {base : Heap} {x qual : Str} {params : Arguments} {body : List Stmt} {scope : Scope} {f : Addr} {fd : FuncData}
def fpc (fl : List Bool) (fp : Nat → List Addr) : Nat → List Addr := fun i => if fl.getD i false = true then fp i else []
theorem fpc_t {fl : List Bool} {fp : Nat → List Addr} {i : Nat} (h : fl.getD i false = true) : fpc fl fp i = fp i := by unfold fpc; rw [if_pos h]
theorem fpc_f {fl : List Bool} {fp : Nat → List Addr} {i : Nat} (h : fl.getD i false = false) : fpc fl fp i = [] := by unfold fpc; rw [if_neg (by rw [h]; decide)]
theorem fpc_mem {fl : List Bool} {fp : Nat → List Addr} {i : Nat} {a : Addr} (m : a ∈ fpc fl fp i) : a ∈ fp i := by
  unfold fpc at m
  split at m
  · exact m
  · cases m
theorem def_body {N ps : List Str} {spec : FSpec} (fl : List Bool) (tb : ST) (S : FnScope N ps scope) (rd : ∀ os Qa, os.length = fl.length → spec os Qa → tb (endsOf fl Qa) (startA N.length os)) {vs : List V} {H : Hp} {Q : VK} {E : XK} (h : ASp K fl spec vs H Q E) :
    LS K (fun j => fl.getD j false) tb { nx := fun _ H' => Q .non H', rt := Q } (L2.start N vs) H := by
  obtain ⟨os, fp, G, Qa, hl, R, z, hs, fin⟩ := h
  have hlo : os.length = vs.length := by simpa using R.len
  have R0 : RS K (L2.start N vs) H (startA N.length os) fp G := by
    unfold L2.start startA
    refine ⟨fun i o e => ?_, fun i e => R.non i fun o y => e o (get_pad.mpr y), R.dj, R.nd, R.gf, R.gi, by simp [hlo]⟩
    obtain ⟨v, hv, r⟩ := R.ex i o (get_pad.mp e)
    exact ⟨v, get_pad.mpr hv, r⟩
  have done : ∀ v o A σ' H' ρ' fp', RS K σ' H' ρ' fp' (A ++ G) → RO K H' (Or1 (Fo fp') (A ++ G)) v o A → A.Nodup → (∀ a ∈ A, a ∉ G) → Ext H (Fo fp) H' (Or1 (Fo fp') A) → PinEq (fun j => fl.getD j false) (L2.start N vs) σ' → endO fl ρ' (Qa o) → Q v H' := by
    intro v o A' σ' H' ρ' fp' R' ro nd ng x' pe hq
    unfold endO at hq
    split at hq
    · rename_i outs eo
      obtain ⟨q1, q2⟩ := putO_at (os := os) eo (by rw [hlo, hl])
      have sub : ∀ a, Fo (fpc fl fp') a → Fo fp' a := fun a ⟨i, m⟩ => ⟨i, fpc_mem m⟩
      refine fin v o A' outs H' (fpc fl fp') ?_ (fun i e => fpc_f e) (ro.weak fun a y => y.imp (sub a) fun m => m) nd ng ?_ (outs_len eo) hq
      · refine ⟨fun i u e => ?_, fun i e => ?_, fun i j a m n => R'.dj i j a (fpc_mem m) (fpc_mem n), fun i => ?_, fun a m y => R'.gf a m (sub a y), R'.gi, by simp [q1, hlo]⟩
        · rw [List.getElem?_map] at e
          cases g : (putO fl os outs)[i]? with
          | none => rw [g] at e; cases e
          | some u' =>
            rw [g] at e
            cases e
            cases b : fl.getD i false with
            | true =>
              have g2 := ((q2 i).1 b).symm.trans g
              rw [Nat.zero_add] at g2
              obtain ⟨y, hy, r⟩ := R'.ex i _ (AEnv.at_iff g2)
              have hp := pe i b
              rw [hp] at hy
              unfold L2.start at hy
              exact ⟨y, get_pad.mp hy, by rw [fpc_t b]; exact r.weak fun a y => y.imp (sub a) fun m => m⟩
            | false =>
              have g2 := ((q2 i).2 b).symm.trans g
              obtain ⟨y, hy, r⟩ := R.ex i _ (by rw [List.getElem?_map, g2]; rfl)
              rw [z i b] at r
              refine ⟨y, hy, ?_⟩
              rw [fpc_f b]
              exact (r.ext (x'.addG G) noMem).weak fun a y => y.elim (fun y => .inl (.inl (sub a y))) fun m => (List.mem_append.mp m).elim (fun m => .inl (.inr m)) .inr
        · cases b : fl.getD i false with
          | false => exact fpc_f b
          | true =>
            rw [fpc_t b]
            refine R'.non i fun o y => ?_
            have hi : i < (putO fl os outs).length := by
              rw [q1, hlo, hl]
              rcases Nat.lt_or_ge i fl.length with h | h
              · exact h
              · rw [List.getD_eq_getElem?_getD, List.getElem?_eq_none h] at b; cases b
            exact e _ (by rw [List.getElem?_map, List.getElem?_eq_getElem hi]; rfl)
        · cases b : fl.getD i false with
          | false => rw [fpc_f b]; exact .nil
          | true => rw [fpc_t b]; exact R'.nd i
      · exact x'.weak (fun _ y => y) fun a y => y.imp (sub a) fun m => m
    · exact hq.elim
  refine ⟨startA N.length os, fp, G, endsOf fl Qa, R0, rd os Qa (by rw [hlo, hl]) hs, fun σ' H' ρ' fp' R' x' pe hq => ?_, fun _ _ _ _ _ _ _ hq => hq.elim, fun _ _ _ _ _ _ _ hq => hq.elim, done⟩
  exact done .non (.pure .none) [] σ' H' ρ' fp' R' (ro_pure RP.non) .nil noMem (x'.weak (fun _ y => y) fun a y => y.elim (fun q => q) fun m => (List.not_mem_nil m).elim) pe hq
theorem fna_ok {N ps : List Str} {k : Nat} {spec : FSpec} (fl : List Bool) (tb : ST) (F : FunD K x qual params body scope [] [] f fd) (S : FnScope N ps scope) (hfl : fl.length = ps.length)
    (hbody : ∀ (cdv : Value) (A : Around) (outer : List Env) (s : Shared) (H : Hp) (E : XK), Room k (A.deeper (envOfC qual scope s.heap.objs.size f cdv)) →
      SXs (cxOf CX0 P w K mg base N qual scope f cdv A outer s H E).nox (fun j => fl.getD j false) body tb)
    (rd : ∀ os Qa, os.length = fl.length → spec os Qa → tb (endsOf fl Qa) (startA N.length os)) : FnOk P w K mg base CX0 (k + 1) f fd ps (ASp K fl spec) := by
  refine F.ok S (fun vs H Q E h => ?_) fun cdv A outer s H vs Q E hr h => ⟨LS K (fun j => fl.getD j false) tb, PSs.nox (hbody cdv A outer s H E hr).pss, def_body fl tb S rd h⟩
  obtain ⟨os, fp, G, Qa, h, _⟩ := h
  rw [h, hfl]
end
end DL

set_option Elab.async false
set_option linter.all false
set_option maxRecDepth 100000
set_option maxHeartbeats 4000000
/-! THE DATA LAYER, part 7: what is walked. -/
namespace DL
open PySem PySem.Spec L2
open PyProof.Rows hiding St

section
variable {K : PySem.W.Frag} {H H' : Hp} {F F' : Addr → Prop} {G : List Addr} {a b : Addr} {vs us : List V} {ts rs : List T}
/-- a list that stands: it is not F's, or it is of the written part -/
def StL (K : PySem.W.Frag) (H : Hp) (F : Addr → Prop) (a : Addr) (vs : List V) : Prop :=
  (Rd H a (.lst vs) ∧ ¬ F a) ∨ ∃ (o : Obj) (its : Array Value) (n : Nat), K.lookup a = some o ∧ o.cls = .type "list" ∧ o.dict = none ∧ o.data = .seq its n ∧ its.size ≤ sizeLine ∧ Vals vs its.toList
theorem StL.sq (h : StL K H F a vs) : SqL K H a vs := h.imp (fun h => h.1) fun h => h
theorem StL.ext (h : StL K H F a vs) (x : Ext H F H' F') : StL K H' F' a vs := by
  rcases h with ⟨h, n⟩ | h
  · refine .inl ⟨Rd.keepE x h n, fun z => (x.new a z).elim n fun q => ?_⟩
    obtain ⟨o, e⟩ := DL.Rd.some h
    rw [q] at e; cases e
  · exact .inr h
theorem RP.stL {v : V} (h : RP K H (Or1 F G) v (.list ts)) : ∃ a vs, v = .ref a ∧ StL K H F a vs ∧ RPs K H (Or1 F G) vs ts := by
  obtain ⟨as, r, n⟩ := h
  cases r with
  | lst h r => exact ⟨_, _, rfl, .inl ⟨h, fun z => n _ List.mem_cons_self (.inl z)⟩, RPs.of r fun a m => n a (List.mem_cons_of_mem _ m)⟩
  | lstK h1 h2 h3 h4 h5 h6 r => exact ⟨_, _, rfl, .inr ⟨_, _, _, h1, h2, h3, h4, h5, h6⟩, RPs.of r n⟩
theorem RPs.extG (x : Ext H F H' F') (r : RPs K H (Or1 F G) vs ts) : RPs K H' (Or1 F' G) vs ts := RPs.ext (x.addG G) r
theorem jok_list (h : StL K H F a vs) (r : RPs K H (Or1 F G) vs ts) : JOk K (Itl K a) ts H F G := by
  intro H' F' x
  have h' := (h.ext x).sq
  have r' := RPs.extG x r
  refine ⟨fun i t e => ?_, ⟨vs, h', Nat.le_of_eq (Paired.len r')⟩⟩
  obtain ⟨v, hv, rv⟩ := Paired.at r' e
  refine ⟨⟨vs, v, h', hv⟩, fun x H'' y => ?_⟩
  obtain ⟨rfl, y⟩ := y
  have e2 := y vs h'
  rw [hv] at e2; cases e2
  exact ⟨Pres.refl, rv⟩
theorem jok_tup (h : SqT K H a vs) (r : RPs K H (Or1 F G) vs ts) : JOk K (Itt K a) ts H F G := by
  intro H' F' x
  have h' := SqT.keepE x h
  have r' := RPs.extG x r
  refine ⟨fun i t e => ?_, ⟨vs, h', Nat.le_of_eq (Paired.len r')⟩⟩
  obtain ⟨v, hv, rv⟩ := Paired.at r' e
  refine ⟨⟨vs, v, h', hv⟩, fun x H'' y => ?_⟩
  obtain ⟨rfl, y⟩ := y
  have e2 := y vs h'
  rw [hv] at e2; cases e2
  exact ⟨Pres.refl, rv⟩
def strItems (x : Str) : List T := x.cps.toList.map fun c => .str ⟨#[c]⟩
theorem jok_str (x : Str) : JOk K (Its x) (strItems x) H F G := by
  intro H' F' _
  refine ⟨fun i t e => ?_, by unfold strItems; simp [Its]⟩
  unfold strItems at e
  rw [List.getElem?_map] at e
  have hi : i < x.cps.size := by
    rcases Nat.lt_or_ge i x.cps.size with h | h
    · exact h
    · rw [List.getElem?_eq_none (by simpa using h)] at e; cases e
  refine ⟨hi, fun v H'' y => ?_⟩
  obtain ⟨rfl, c, hc, rfl⟩ := y
  have e2 : x.cps.toList[i]? = some c := by simpa using hc
  rw [e2] at e
  cases e
  exact ⟨Pres.refl, RP.str _⟩
def rngItems (lo : Int) (n : Nat) : List T := (List.range n).map fun (i : Nat) => .int (lo + i)
theorem jok_range (lo : Int) (n : Nat) : JOk K (Itr lo n) (rngItems lo n) H F G := by
  intro H' F' _
  refine ⟨fun i t e => ?_, by unfold rngItems; simp [Itr]⟩
  unfold rngItems at e
  rw [List.getElem?_map] at e
  have hi : i < n := by
    rcases Nat.lt_or_ge i n with h | h
    · exact h
    · rw [List.getElem?_eq_none (by simpa using h)] at e; cases e
  refine ⟨hi, fun v H'' y => ?_⟩
  obtain ⟨rfl, rfl⟩ := y
  rw [List.getElem?_range hi] at e
  cases e
  exact ⟨Pres.refl, RP.int _⟩
def enumItems (ts : List T) : List T := (List.range ts.length).zipWith (fun (i : Nat) t => .tuple [.int i, t]) ts
def zipItems (ts rs : List T) : List T := List.zipWith (fun t r => .tuple [t, r]) ts rs
theorem RP.newTup {H : Hp} {F : Addr → Prop} {p : Addr} {vs : List V} {ts : List T} (n : H p = none) (r : RPs K H F vs ts) : RP K (upd H p (.tup vs)) F (.ref p) (.tuple ts) :=
  RP.tup (SqT.of upd_same) (RPs.ext (Pres.upd n).ext r)
theorem jok_enum (h : StL K H F a vs) (r : RPs K H (Or1 F G) vs ts) : JOk K (Ite K a) (enumItems ts) H F G := by
  intro H' F' x
  have h' := (h.ext x).sq
  have r' := RPs.extG x r
  have hl : (enumItems ts).length = ts.length := by unfold enumItems; simp
  refine ⟨fun i t e => ?_, ⟨vs, h', by rw [hl]; exact Nat.le_of_eq (Paired.len r')⟩⟩
  unfold enumItems at e
  rw [List.getElem?_zipWith] at e
  have hi : i < ts.length := by
    rcases Nat.lt_or_ge i ts.length with h | h
    · exact h
    · rw [List.getElem?_eq_none (l := ts) h] at e
      split at e
      · rename_i q; cases q
      · cases e
  rw [List.getElem?_range hi] at e
  obtain ⟨v, hv, rv⟩ := Paired.at r' (List.getElem?_eq_getElem hi)
  rw [List.getElem?_eq_getElem hi] at e
  simp only [Option.some.injEq] at e
  subst e
  refine ⟨⟨vs, v, h', hv⟩, fun x H'' y => ?_⟩
  obtain ⟨T, u, rfl, hn, rfl, y⟩ := y
  have e2 := y vs h'
  rw [hv] at e2; cases e2
  exact ⟨Pres.upd hn, RP.newTup hn (.cons (RP.int _) (.cons rv .nil))⟩
theorem zip_at {α β γ : Type} {f : α → β → γ} {xs : List α} {ys : List β} {i : Nat} {z : γ} (e : (List.zipWith f xs ys)[i]? = some z) : ∃ x y, xs[i]? = some x ∧ ys[i]? = some y ∧ f x y = z := by
  rw [List.getElem?_zipWith] at e
  split at e
  · rename_i x y e1 e2; exact ⟨x, y, e1, e2, Option.some.inj e⟩
  · cases e
theorem jok_zip (h : StL K H F a vs) (r : RPs K H (Or1 F G) vs ts) (h2 : StL K H F b us) (r2 : RPs K H (Or1 F G) us rs) : JOk K (Itz K a b) (zipItems ts rs) H F G := by
  intro H' F' x
  have h' := (h.ext x).sq
  have r' := RPs.extG x r
  have h2' := (h2.ext x).sq
  have r2' := RPs.extG x r2
  refine ⟨fun i t e => ?_, ⟨vs, us, h', h2', by unfold zipItems; rw [List.length_zipWith, Paired.len r', Paired.len r2']; omega⟩⟩
  obtain ⟨p, q, e1, e2, rfl⟩ := zip_at e
  obtain ⟨v, hv, rv⟩ := Paired.at r' e1
  obtain ⟨u, hu, ru⟩ := Paired.at r2' e2
  refine ⟨⟨vs, us, v, u, h', h2', hv, hu⟩, fun x H'' y => ?_⟩
  obtain ⟨T, x1, x2, rfl, hn, rfl, y1, y2⟩ := y
  have z1 := y1 vs h'
  rw [hv] at z1; cases z1
  have z2 := y2 us h2'
  rw [hu] at z2; cases z2
  exact ⟨Pres.upd hn, RP.newTup hn (.cons rv (.cons ru .nil))⟩
theorem jok_zipT (h : SqT K H a vs) (r : RPs K H (Or1 F G) vs ts) (h2 : SqT K H b us) (r2 : RPs K H (Or1 F G) us rs) : JOk K (RZ.ItzT K a b) (zipItems ts rs) H F G := by
  intro H' F' x
  have h' := SqT.keepE x h
  have r' := RPs.extG x r
  have h2' := SqT.keepE x h2
  have r2' := RPs.extG x r2
  refine ⟨fun i t e => ?_, ⟨vs, us, h', h2', by unfold zipItems; rw [List.length_zipWith, Paired.len r', Paired.len r2']; omega⟩⟩
  obtain ⟨p, q, e1, e2, rfl⟩ := zip_at e
  obtain ⟨v, hv, rv⟩ := Paired.at r' e1
  obtain ⟨u, hu, ru⟩ := Paired.at r2' e2
  refine ⟨⟨vs, us, v, u, h', h2', hv, hu⟩, fun x H'' y => ?_⟩
  obtain ⟨T, x1, x2, rfl, hn, rfl, y1, y2⟩ := y
  have z1 := y1 vs h'
  rw [hv] at z1; cases z1
  have z2 := y2 us h2'
  rw [hu] at z2; cases z2
  exact ⟨Pres.upd hn, RP.newTup hn (.cons rv (.cons ru .nil))⟩
end

/-! ### the rules -/
/-- a list, a tuple, a text -/
def iAny (K : PySem.W.Frag) (tl : TE) : TI := fun σ H R => tl σ H fun x H1 => (∃ a, x = .ref a ∧ (∃ xs, SqL K H1 a xs) ∧ ((∀ xs, SqL K H1 a xs → xs.length ≤ sizeLine) → R (Itl K a) H1)) ∨ (∃ a, x = .ref a ∧ (∃ xs, SqT K H1 a xs) ∧ ((∀ xs, SqT K H1 a xs → xs.length ≤ sizeLine) → R (Itt K a) H1)) ∨ ∃ z, x = .str z ∧ R (Its z) H1
section
variable {X : Cx} {tg : Expr}
theorem pi_any {l : Expr} {tl : TE} (hl : PE X l tl) : PI X tg l (iAny X.K tl) := by
  refine ⟨fun pins s σ H R I h => ?_⟩
  refine thn (hl.run pins s σ H _ I h) fun v s1 ⟨x, H1, I1, r1, q1⟩ => ?_
  rcases q1 with ⟨a, e, ⟨xs, hq⟩, q⟩ | ⟨a, e, ⟨xs, hq⟩, q⟩ | ⟨z, e, q⟩
  · subst e
    cases r1
    obtain ⟨its, rv, p, hz⟩ := I1.list hq
    have q := q fun ys hy => (I1.list hy).choose_spec.2.2
    refine wpAny_pyIter_list p.isList ?_
    refine ⟨s1.heap.objs.size, [s1.heap.objs.size], _, _, H1, rfl, I1.kept (t' := s1.toks) fun b o e => Heap.get?_push_of_some _ e, turn_list a _, ⟨_, Heap.get?_push_size _ rfl, rfl, rfl⟩, fun b hb => ?_, q⟩
    have e : b = s1.heap.objs.size := by simpa using hb
    subst e
    exact I1.fpOk (Nat.le_refl _) (I1.hok.fresh (Nat.le_refl _))
  · subst e
    cases r1
    obtain ⟨its, rv, p, hz⟩ := I1.tuple hq
    have q := q fun ys hy => (I1.tuple hy).choose_spec.2.2
    refine wpAny_pyIter_tuple (show s1.heap.IsTuple a its.toArray from p) ?_
    refine ⟨s1.heap.objs.size, [s1.heap.objs.size], _, _, H1, rfl, I1.kept (t' := s1.toks) fun b o e => Heap.get?_push_of_some _ e, turn_tuple a _, ⟨_, Heap.get?_push_size _ rfl, rfl, rfl⟩, fun b hb => ?_, q⟩
    have e : b = s1.heap.objs.size := by simpa using hb
    subst e
    exact I1.fpOk (Nat.le_refl _) (I1.hok.fresh (Nat.le_refl _))
  · subst e
    obtain ⟨t, rfl⟩ := r1
    cases ha : z.cps.all (· < 128)
    · exact wpAny_pyIter_wide ha (pi_one (tk := s1.toks) I1 _ (turn_str _ z t "str_iterator" (.inr rfl)) ⟨_, Heap.get?_push_size _ rfl, rfl, rfl⟩ q)
    · exact wpAny_pyIter_ascii ha (pi_one (tk := s1.toks) I1 _ (turn_str _ z t "str_ascii_iterator" (.inl rfl)) ⟨_, Heap.get?_push_size _ rfl, rfl, rfl⟩ q)
/-- what is walked as a list of trees -/
def itemsOf : T → Option (List T)
  | .list ts => some ts
  | .tuple ts => some ts
  | .str x => if x.cps.size ≤ 1000000 then some (strItems x) else none
  | _ => none
def tIter (te : XT) : IT := fun ρ Q => te ρ fun p ρ1 => take1 p ρ1 fun t ρ2 => match itemsOf t with
  | some ts => Q ts ρ2
  | none => False
theorem it_go {K : PySem.W.Frag} {te : XT} {σ : St} {H : Hp} {R : It → Hp → Prop} (h : LI K (tIter te) σ H R) : iAny K (LX K te) σ H R := by
  obtain ⟨ρ, fp, G, Qa, R0, h, fin⟩ := h
  refine ⟨ρ, fp, G, _, R0, h, fun v p A H1 ρ1 fp1 R1 r1 x1 h1 => ?_⟩
  obtain ⟨y, ρ2, fp2, R2, r2, i2, h2⟩ := take1_ok R1 r1 h1
  have x2 : Ext H (Fo fp) H1 (Fo fp2) := x1.or.weak (fun _ z => z) i2
  cases y with
  | list ts =>
    obtain ⟨a, vs, rfl, sl, rp⟩ := r2.stL
    refine .inl ⟨a, rfl, ⟨vs, sl.sq⟩, fun hz => fin ts _ H1 ρ2 fp2 R2 (jok_list sl rp) (by rw [← Paired.len rp]; exact hz _ sl.sq) x2 h2⟩
  | tuple ts =>
    obtain ⟨a, vs, rfl, sl, rp⟩ := r2.tupE
    refine .inr (.inl ⟨a, rfl, ⟨vs, sl⟩, fun hz => fin ts _ H1 ρ2 fp2 R2 (jok_tup sl rp) (by rw [← Paired.len rp]; exact hz _ sl) x2 h2⟩)
  | str x =>
    have e := r2.strE
    subst e
    simp only [itemsOf] at h2
    split at h2
    · rename_i ts e
      split at e
      · rename_i hx
        cases e
        exact .inr (.inr ⟨x, rfl, fin _ _ H1 ρ2 fp2 R2 (jok_str x) (by unfold strItems; simp; rw [sizeLine_eq]; omega) x2 h2⟩)
      · cases e
    · exact h2.elim
  | none => exact h2.elim
  | bool _ => exact h2.elim
  | int _ => exact h2.elim
  | dict _ => exact h2.elim
theorem ix_any {l : Expr} {te : XT} (h : EX X l te) : IX X tg l (tIter te) := ⟨PI.imp (pi_any h.pe) fun _ _ _ h => it_go h⟩

/-! range -/
def intsOf (ρ : AEnv) (ps : List Opd) (Q : List Int → Prop) : Prop := match getAll ρ ps with
  | some [.pure (.int i)] => Q [i]
  | some [.pure (.int i), .pure (.int j)] => Q [i, j]
  | _ => False
def tRange (ts : XTs) : IT := fun ρ Q => ts ρ fun ps ρ1 => intsOf ρ1 ps fun ns => match ns with
  | [j] => j ≤ 1000000 ∧ -1000000 ≤ j ∧ Q (rngItems 0 j.toNat) ρ1
  | [i, j] => (j ≤ 1000000 ∧ -1000000 ≤ j ∧ i ≤ 1000000 ∧ -1000000 ≤ i) ∧ Q (rngItems i (j - i).toNat) ρ1
  | _ => False
theorem ix_range1 {a : Expr} {ts : XTs} {p pos : Pos} (hg : Gl X "range") (hm : X.mg "range" = none) (ha : EXs X [a] ts) (hs : starEach [a] X.env = [(false, eval a X.env)] := by rfl) : IX X tg (.Call (.Name "range" p) [a] [] pos) (tRange ts) := by
  refine ⟨PI.imp (pi_range1 hg hm ha.pa hs) ?_⟩
  rintro σ H R ⟨ρ, fp, G, Qa, R0, h, fin⟩
  refine ⟨ρ, fp, G, _, R0, h, fun vs ps A H1 ρ1 fp1 hl R1 r1 nd1 ng1 x1 h1 => ?_⟩
  unfold intsOf at h1
  split at h1
  · rename_i i e
    obtain ⟨h1, h2, h3⟩ := h1
    have q := getAll_rw R1 r1 e
    cases q with
    | cons q q2 =>
      cases q2
      exact ⟨i, by rw [RP.intE q], by omega, by omega, fin _ _ H1 ρ1 fp1 (R1.sub fun a m => List.mem_append_right _ m) (jok_range 0 i.toNat) (by unfold rngItems; simp; rw [sizeLine_eq]; omega) x1.or h3⟩
  · rename_i i j e
    have q := getAll_rw R1 r1 e
    have := Paired.len q
    simp at hl this; omega
  · exact h1.elim
theorem ix_range2 {a b : Expr} {ts : XTs} {p pos : Pos} (hg : Gl X "range") (hm : X.mg "range" = none) (ha : EXs X [a, b] ts) (hs : starEach [a, b] X.env = [(false, eval a X.env), (false, eval b X.env)] := by rfl) (hs2 : starEach [b] X.env = [(false, eval b X.env)] := by rfl) :
    IX X tg (.Call (.Name "range" p) [a, b] [] pos) (tRange ts) := by
  refine ⟨PI.imp (pi_range2 hg hm ha.pa hs hs2) ?_⟩
  rintro σ H R ⟨ρ, fp, G, Qa, R0, h, fin⟩
  refine ⟨ρ, fp, G, _, R0, h, fun vs ps A H1 ρ1 fp1 hl R1 r1 nd1 ng1 x1 h1 => ?_⟩
  unfold intsOf at h1
  split at h1
  · rename_i i e
    have q := getAll_rw R1 r1 e
    have := Paired.len q
    simp at hl this; omega
  · rename_i i j e
    obtain ⟨⟨h1, h2, h3, h4⟩, h5⟩ := h1
    have q := getAll_rw R1 r1 e
    cases q with
    | cons q q2 =>
      cases q2 with
      | cons q2 q3 =>
        cases q3
        exact ⟨i, j, by rw [RP.intE q, RP.intE q2], ⟨by omega, by omega, by omega, by omega⟩, fin _ _ H1 ρ1 fp1 (R1.sub fun a m => List.mem_append_right _ m) (jok_range i _) (by unfold rngItems; simp; rw [sizeLine_eq]; omega) x1.or h5⟩
  · exact h1.elim

/-! enumerate of a list or a text, zip -/
def IteS (x : Str) : It := ⟨fun i _ => i < x.cps.size, fun i H v H' => ∃ T c, v = .ref T ∧ H T = none ∧ H' = upd H T (.tup [.int (i : Nat), .str ⟨#[c]⟩]) ∧ x.cps[i]? = some c, fun i _ => i = x.cps.size⟩
theorem turn_enumS {P : Program} {w : World} {K : PySem.W.Frag} {elts : List Expr} {kk : Nat} {tpos : Pos} (x : Str) (t : Tok) (e it : Addr) :
    Turn P w K (.Tuple elts kk tpos) (IteS x) [e, it] e (fun i h => (∃ old, IsEnum h e it ((i : Nat) : Int) old) ∧ h.IsStrIter it (strIterType x) x t i ∧ e ≠ it) where
  mem := by simp
  obj := fun i h st b hb => by
    obtain ⟨⟨old, he⟩, ⟨o, ho, hc, hd⟩, _⟩ := st
    have e' : b = e ∨ b = it := by simpa using hb
    rcases e' with z | z
    · rw [z]; exact ⟨_, he, fun v q => nomatch q⟩
    · rw [z]; exact ⟨o, ho, fun v q => by rw [hd] at q; cases q⟩
  keep := fun i h h' st k => let ⟨⟨old, he⟩, ⟨o, ho, r⟩, hne⟩ := st; ⟨⟨old, k e (by simp) _ he⟩, ⟨o, k it (by simp) _ ho, r⟩, hne⟩
  item := by
    intro X hP hw hK hc i pins s σ H E I hf st hg
    subst hP hw hK
    obtain ⟨⟨old, he⟩, hit, hne⟩ := st
    have hlt : i < x.cps.size := hg
    have hel : e < s.heap.objs.size := Heap.lt_size he
    have hil : it < s.heap.objs.size := by obtain ⟨_, q, _⟩ := hit; exact Heap.lt_size q
    have D := Draws.text (prog := X.prog) (w := X.w) (A := X.A.in1) (I.ok.hd hc) it x t
    refine wpAny_pyNext_enum_itemD D he hit hlt hne (by simpa using hne) fun u h' tk hP ho hit' hT hsz hk => ?_
    obtain ⟨c, tu, hcx, rfl⟩ := hP
    refine ⟨_, rfl, wpAny_letOwnedTupleGo_enum (s := { s with heap := h', toks := tk + 1 }) ho fun h'' he' sb => ?_⟩
    have hT2 : h''.get? s.heap.objs.size = some { cls := .type "tuple", data := .seq #[.int i tk, .str ⟨#[c]⟩ tu] } := (sb.2 _ (Nat.ne_of_gt hel)).trans hT
    have new : ObjOk X.prog X.w (upd H s.heap.objs.size (.tup [.int (i : Nat), .str ⟨#[c]⟩])) h'' s.heap.objs.size (.tup [.int (i : Nat), .str ⟨#[c]⟩]) :=
      ⟨by show 2 ≤ sizeLine; decide, [.int i tk, .str ⟨#[c]⟩ tu], .cons ⟨_, rfl⟩ (.cons ⟨_, rfl⟩ .nil), ⟨_, hT2, rfl, _, rfl⟩⟩
    have I1 : Inv X pins σ (upd H s.heap.objs.size (.tup [.int (i : Nat), .str ⟨#[c]⟩])) { s with heap := h'', toks := tk + 1 } :=
      I.turnedNew (ch := [e, it]) (fun b ob hb q => (sb.2 b (fun z => hb (by simp [z]))).trans (hk b ob (fun z => hb (by simp [z])) (fun z => hb (by simp [z])) q)) hf (Nat.le_refl _) new
    refine ⟨.ref s.heap.objs.size, _, I1, rfl, ⟨_, c, rfl, I.hok.fresh (Nat.le_refl _), rfl, hcx⟩, ⟨⟨Value.str ⟨#[c]⟩ tu, ?_⟩, let ⟨o, q, r⟩ := hit'; ⟨o, (sb.2 it (Ne.symm hne)).trans q, r⟩, hne⟩, fun b hb => ?_⟩
    · have e1 : ((i + 1 : Nat) : Int) = (i : Int) + 1 := by omega
      rw [e1]; exact he'
    · have hb' : b < s.heap.objs.size := by
        have e' : b = e ∨ b = it := by simpa using hb
        rcases e' with z | z
        · rw [z]; exact hel
        · rw [z]; exact hil
      rw [upd_ne (Nat.ne_of_lt hb')]
      exact (hf b hb).1
  done := by
    intro X hP hw hK hc i pins s σ H E I hf st hg
    subst hP hw hK
    obtain ⟨⟨old, he⟩, hit, hne⟩ := st
    obtain ⟨f0, f1, f2, f3, f4, f5⟩ := hf it (by simp)
    have D := Draws.text (prog := X.prog) (w := X.w) (A := X.A.in1) (I.ok.hd hc) it x t
    have hi : i = x.cps.size := hg
    subst hi
    exact wpAny_pyNext_enum_endD D he hit fun h' eb => ⟨rfl, I.turned (t' := s.toks) (fun b o hb q => eb b o hb q) f0 f1 f3 f4 f5⟩
  self := fun A i s Q E st h => let ⟨⟨_, he⟩, _⟩ := st; wpAny_pyIter_enum he h
def IteT (K : PySem.W.Frag) (a : Addr) : It :=
  ⟨fun i H => ∃ (xs : List V) (x : V), SqT K H a xs ∧ xs[i]? = some x, fun i H v H' => ∃ T x, v = .ref T ∧ H T = none ∧ H' = upd H T (.tup [.int (i : Nat), x]) ∧ ∀ xs, SqT K H a xs → xs[i]? = some x, fun i H => ∃ xs : List V, SqT K H a xs ∧ xs.length = i⟩
theorem turn_enumT {P : Program} {w : World} {K : PySem.W.Frag} {elts : List Expr} {kk : Nat} {tpos : Pos} (a e it : Addr) :
    Turn P w K (.Tuple elts kk tpos) (IteT K a) [e, it] e (fun i h => (∃ old, IsEnum h e it ((i : Nat) : Int) old) ∧ h.IsTupleIter it a i ∧ e ≠ it) where
  mem := by simp
  obj := fun i h st b hb => by
    obtain ⟨⟨old, he⟩, ⟨o, ho, hc, hd⟩, _⟩ := st
    have e' : b = e ∨ b = it := by simpa using hb
    rcases e' with z | z
    · rw [z]; exact ⟨_, he, fun v q => nomatch q⟩
    · rw [z]; exact ⟨o, ho, fun v q => by rw [hd] at q; cases q⟩
  keep := fun i h h' st k => let ⟨⟨old, he⟩, hi, hne⟩ := st; ⟨⟨old, k e (by simp) _ he⟩, hi.at fun o q => k it (by simp) o q, hne⟩
  item := by
    intro X hP hw hK hc i pins s σ H E I hf st hg
    subst hP hw hK
    obtain ⟨⟨old, he⟩, hit, hne⟩ := st
    obtain ⟨xs, x, hq, hx⟩ := hg
    obtain ⟨its, rv, p, hz⟩ := I.tuple hq
    obtain ⟨u, hu, ru⟩ := rv.get hx
    have hlt : i < its.toArray.size := by
      rcases Nat.lt_or_ge i its.length with q | q
      · simpa using q
      · rw [List.getElem?_eq_none q] at hu; cases hu
    have hel : e < s.heap.objs.size := Heap.lt_size he
    have hil : it < s.heap.objs.size := by obtain ⟨_, q, _⟩ := hit; exact Heap.lt_size q
    have hai : a ≠ it := fun z => by
      obtain ⟨o, ho, hc, _⟩ := hit
      obtain ⟨o', ho', hc', _⟩ := (show s.heap.IsTuple a its.toArray from p)
      rw [z, ho] at ho'; cases ho'
      rw [hc] at hc'; injection hc' with q; exact absurd q (by decide)
    have hae : a ≠ e := fun z => by
      obtain ⟨o', ho', hc', _⟩ := (show s.heap.IsTuple a its.toArray from p)
      have he' : s.heap.get? e = _ := he
      rw [z, he'] at ho'; cases ho'
      have hc2 : Value.type "enumerate" = Value.type "tuple" := hc'
      injection hc2 with q; exact absurd q (by decide)
    have D := Draws.tuple (prog := X.prog) (w := X.w) (A := X.A.in1) (I.ok.hd hc) it a hai its.toArray
    refine wpAny_pyNext_enum_itemD D he ⟨hit, show s.heap.IsTuple a its.toArray from p⟩ hlt hne (by simp; exact ⟨hne, fun z => hae z.symm⟩) fun u' h' tk hP ho hit' hT hsz hk => ?_
    have eu : u' = u := by
      have hP : its.toArray[i]? = some u' := hP
      have : its[i]? = some u' := by simpa using hP
      rw [hu] at this; exact (Option.some.inj this).symm
    subst eu
    refine ⟨_, rfl, wpAny_letOwnedTupleGo_enum (s := { s with heap := h', toks := tk + 1 }) ho fun h'' he' sb => ?_⟩
    have hT2 : h''.get? s.heap.objs.size = some { cls := .type "tuple", data := .seq #[.int i tk, u'] } := (sb.2 _ (Nat.ne_of_gt hel)).trans hT
    have new : ObjOk X.prog X.w (upd H s.heap.objs.size (.tup [.int (i : Nat), x])) h'' s.heap.objs.size (.tup [.int (i : Nat), x]) :=
      ⟨by show 2 ≤ sizeLine; decide, [.int i tk, u'], .cons ⟨_, rfl⟩ (.cons ru .nil), ⟨_, hT2, rfl, _, rfl⟩⟩
    have I1 : Inv X pins σ (upd H s.heap.objs.size (.tup [.int (i : Nat), x])) { s with heap := h'', toks := tk + 1 } :=
      I.turnedNew (ch := [e, it]) (fun b ob hb q => (sb.2 b (fun z => hb (by simp [z]))).trans (hk b ob (fun z => hb (by simp [z])) (fun z => hb (by simp [z])) q)) hf (Nat.le_refl _) new
    refine ⟨.ref s.heap.objs.size, _, I1, rfl, ⟨_, x, rfl, I.hok.fresh (Nat.le_refl _), rfl, fun ys hy => by rw [I.tuple_inj hy hq]; exact hx⟩, ⟨⟨u', ?_⟩, hit'.1.at fun o q => (sb.2 it (Ne.symm hne)).trans q, hne⟩, fun b hb => ?_⟩
    · have e1 : ((i + 1 : Nat) : Int) = (i : Int) + 1 := by omega
      rw [e1]; exact he'
    · have hb' : b < s.heap.objs.size := by
        have e' : b = e ∨ b = it := by simpa using hb
        rcases e' with z | z
        · rw [z]; exact hel
        · rw [z]; exact hil
      rw [upd_ne (Nat.ne_of_lt hb')]
      exact (hf b hb).1
  done := by
    intro X hP hw hK hc i pins s σ H E I hf st hg
    subst hP hw hK
    obtain ⟨⟨old, he⟩, hit, hne⟩ := st
    obtain ⟨xs, hq, hx⟩ := hg
    obtain ⟨its, rv, p, hz⟩ := I.tuple hq
    obtain ⟨f0, f1, f2, f3, f4, f5⟩ := hf it (by simp)
    have hai : a ≠ it := fun z => by
      obtain ⟨o, ho, hc, _⟩ := hit
      obtain ⟨o', ho', hc', _⟩ := (show s.heap.IsTuple a its.toArray from p)
      rw [z, ho] at ho'; cases ho'
      rw [hc] at hc'; injection hc' with q; exact absurd q (by decide)
    have D := Draws.tuple (prog := X.prog) (w := X.w) (A := X.A.in1) (I.ok.hd hc) it a hai its.toArray
    have hi : i = its.toArray.size := by rw [← hx, rv.length]; simp
    subst hi
    exact wpAny_pyNext_enum_endD D he ⟨hit, show s.heap.IsTuple a its.toArray from p⟩ fun h' eb => ⟨rfl, I.turned (t' := s.toks) (fun b o hb q => eb b o hb q) f0 f1 f3 f4 f5⟩
  self := fun A i s Q E st h => let ⟨⟨_, he⟩, _⟩ := st; wpAny_pyIter_enum he h

set_option maxHeartbeats 1000000 in
theorem meets_enumerate_new1 {v : Value} {o : Obj} {H : Heap → Prop} (B : Begins v o H) :
    Meets (Builtin.«enumerate.__new__» ⟨[.type "enumerate", v], []⟩) (fun _ R s => H s.heap ∧
      R (.ok (.ret (.ref (s.heap.push o).objs.size))) { s with heap := (s.heap.push o).push { cls := .type "enumerate", data := .fields #[.none, .bool false, .ref s.heap.objs.size, rawInt 0, .none, .none] } }) :=
  .of_wp fun prog w A R s h => by
    obtain ⟨hp, g, d, tk, os⟩ := s; obtain ⟨h1, h⟩ := h
    have hsub := sub_enumerate
    have q1 : ∀ {A' : Around} {E : Value → Shared → Prop} {Q : Value → Shared → Prop}, Q (.ref hp.objs.size) ⟨hp.push o, g, d, tk, os⟩ → wpAny (model prog w) A' (pyIter v) Q E ⟨hp, g, d, tk, os⟩ :=
      fun q => B.iter prog w _ _ ⟨hp, g, d, tk, os⟩ _ h1 q
    wp_walk using q1
    refine wpAny_stack_any fun st => wpAny_pure ?_
    split
    · rename_i c _ _ _ _ _
      cases (c == Value.type "enumerate")
      · wp_walk using q1
        exact ⟨_, rfl, h⟩
      · wp_walk using q1
        exact ⟨_, rfl, h⟩
    · wp_walk using q1
      exact ⟨_, rfl, h⟩
theorem enum_begins1 {prog : Program} {w : World} {A : Around} {E : Value → Shared → Prop} {s : Shared} {v : Value} {o : Obj} {H : Heap → Prop} {Q : Value → Shared → Prop} (B : Begins v o H) (h1 : H s.heap)
    (h : ∀ h', IsEnum h' (s.heap.objs.size + 1) s.heap.objs.size 0 .none → h'.get? s.heap.objs.size = some o → h'.objs.size = s.heap.objs.size + 2 →
      (∀ b o, s.heap.get? b = some o → h'.get? b = some o) → Q (.ref (s.heap.objs.size + 1)) { s with heap := h' }) :
    wpAny (model prog w) A (call (.type "enumerate") [v]) Q E s := by
  refine callType_new F.called_enumerate (by decide) (F.typeCall_enumerate_1 _) (F.newCall_enumerate_1 _) (fun obj => F.args_object_init_2 obj _) F.entry_enumerate_new
    (meets_enumerate_new1 B) ⟨h1, ?_⟩
  have hz : (s.heap.push o).objs.size = s.heap.objs.size + 1 := Heap.size_push ..
  show _ ∧ _
  rw [hz]
  have he : IsEnum ((s.heap.push o).push { cls := .type "enumerate", data := .fields #[.none, .bool false, .ref s.heap.objs.size, rawInt 0, .none, .none] }) (s.heap.objs.size + 1) s.heap.objs.size 0 .none := by
    have := Heap.get?_push_size (s.heap.push o) (o := { cls := .type "enumerate", data := .fields #[.none, .bool false, .ref s.heap.objs.size, rawInt 0, .none, .none] }) rfl
    rw [hz] at this; exact this
  refine ⟨⟨_, he, rfl⟩, h _ he (Heap.get?_push_of_some _ (Heap.get?_push_size _ B.free)) (by rw [Heap.size_push, hz]) fun b o x => Heap.get?_push_of_some _ (Heap.get?_push_of_some _ x)⟩
def iEnumA (K : PySem.W.Frag) (ta : TA) : TI := fun σ H R => ta σ H fun vs H1 => (∃ a xs, vs = [.ref a] ∧ SqL K H1 a xs ∧ R (Ite K a) H1) ∨ (∃ a xs, vs = [.ref a] ∧ SqT K H1 a xs ∧ R (IteT K a) H1) ∨ ∃ x, vs = [.str x] ∧ R (IteS x) H1
theorem pi_enumA {X : Cx} {e : Expr} {ta : TA} {p pos tpos : Pos} {elts : List Expr} {kk : Nat} (hg : Gl X "enumerate") (hm : X.mg "enumerate" = none) (ha : PA X [e] ta) (hs : starEach [e] X.env = [(false, eval e X.env)] := by rfl) :
    PI X (.Tuple elts kk tpos) (.Call (.Name "enumerate" p) [e] [] pos) (iEnumA X.K ta) := by
  refine ⟨fun pins s σ H R I h => ?_⟩
  refine Call_ (ld_blt I hg hm boot_enumerate (PyProof.Rows.callWith_type1 (thn (ha.run pos pins s σ H _ I h) fun us s1 ⟨vs, H1, I1, r1, q1⟩ => ?_) hs rfl))
  have fps : ∀ {h' : Heap}, h'.objs.size = s1.heap.objs.size + 2 → ∀ b ∈ [s1.heap.objs.size + 1, s1.heap.objs.size], FpOk X pins H1 b := fun _ b hb => by
    have e' : b = s1.heap.objs.size + 1 ∨ b = s1.heap.objs.size := by simpa using hb
    have hle : s1.heap.objs.size ≤ b := by
      rcases e' with z | z
      · rw [z]; exact Nat.le_add_right _ _
      · rw [z]; exact Nat.le_refl _
    exact I1.fpOk hle (I1.hok.fresh hle)
  rcases q1 with ⟨a, xs, ex, hq, q⟩ | ⟨a, xs, ex, hq, q⟩ | ⟨x, ex, q⟩
  · subst ex
    cases r1 with
    | cons r rr =>
      cases rr
      cases r
      obtain ⟨its, rv, p', hz⟩ := I1.list hq
      refine enum_begins1 (begins_list a its.toArray) p'.isList fun h' he hit hsz hk => wpAny_pyIter_enum he ?_
      exact ⟨s1.heap.objs.size + 1, [s1.heap.objs.size + 1, s1.heap.objs.size], _, _, H1, rfl, I1.kept (t' := s1.toks) hk, turn_enum a (s1.heap.objs.size + 1) s1.heap.objs.size, ⟨⟨.none, he⟩, ⟨_, hit, rfl, rfl⟩, Nat.succ_ne_self _⟩, fps hsz, q⟩
  · subst ex
    cases r1 with
    | cons r rr =>
      cases rr
      cases r
      obtain ⟨its, rv, p', hz⟩ := I1.tuple hq
      refine enum_begins1 (begins_tuple a its.toArray) (show s1.heap.IsTuple a its.toArray from p') fun h' he hit hsz hk => wpAny_pyIter_enum he ?_
      exact ⟨s1.heap.objs.size + 1, [s1.heap.objs.size + 1, s1.heap.objs.size], _, _, H1, rfl, I1.kept (t' := s1.toks) hk, turn_enumT a (s1.heap.objs.size + 1) s1.heap.objs.size, ⟨⟨.none, he⟩, ⟨_, hit, rfl, rfl⟩, Nat.succ_ne_self _⟩, fps hsz, q⟩
  · subst ex
    cases r1 with
    | cons r rr =>
      cases rr
      obtain ⟨t, rfl⟩ := r
      refine enum_begins1 (begins_text x t) trivial fun h' he hit hsz hk => wpAny_pyIter_enum he ?_
      exact ⟨s1.heap.objs.size + 1, [s1.heap.objs.size + 1, s1.heap.objs.size], _, _, H1, rfl, I1.kept (t' := s1.toks) hk, turn_enumS x t (s1.heap.objs.size + 1) s1.heap.objs.size, ⟨⟨.none, he⟩, ⟨_, hit, rfl, rfl⟩, Nat.succ_ne_self _⟩, fps hsz, q⟩
theorem jok_enumT {K : PySem.W.Frag} {H : Hp} {F : Addr → Prop} {G : List Addr} {a : Addr} {vs : List V} {ts : List T} (h : SqT K H a vs) (r : RPs K H (Or1 F G) vs ts) : JOk K (IteT K a) (enumItems ts) H F G := by
  intro H' F' x
  have h' := SqT.keepE x h
  have r' := RPs.extG x r
  have hl : (enumItems ts).length = ts.length := by unfold enumItems; simp
  refine ⟨fun i t e => ?_, ⟨vs, h', by rw [hl]; exact Paired.len r'⟩⟩
  unfold enumItems at e
  obtain ⟨k, t', e1, e2, rfl⟩ := zip_at e
  have ek : k = i := by
    have := List.getElem?_range (n := ts.length) (i := i) (by
      rcases Nat.lt_or_ge i ts.length with h | h
      · exact h
      · rw [List.getElem?_eq_none h] at e2; cases e2)
    rw [this] at e1; exact (Option.some.inj e1).symm
  subst ek
  obtain ⟨v, hv, rv⟩ := Paired.at r' e2
  refine ⟨⟨vs, v, h', hv⟩, fun x H'' y => ?_⟩
  obtain ⟨T, u, rfl, hn, rfl, y⟩ := y
  have e2 := y vs h'
  rw [hv] at e2; cases e2
  exact ⟨Pres.upd hn, RP.newTup hn (.cons (RP.int _) (.cons rv .nil))⟩
theorem jok_enumS {K : PySem.W.Frag} {H : Hp} {F : Addr → Prop} {G : List Addr} (x : Str) : JOk K (IteS x) (enumItems (strItems x)) H F G := by
  intro H' F' _
  have hs : (strItems x).length = x.cps.size := by unfold strItems; simp
  have hl : (enumItems (strItems x)).length = x.cps.size := by unfold enumItems; simp [hs]
  refine ⟨fun i t e => ?_, hl⟩
  unfold enumItems at e
  obtain ⟨k, t', e1, e2, rfl⟩ := zip_at e
  have hi : i < x.cps.size := by
    rcases Nat.lt_or_ge i x.cps.size with h | h
    · exact h
    · rw [List.getElem?_eq_none (by rw [hs]; exact h)] at e2; cases e2
  have ek : k = i := by
    rw [List.getElem?_range (by rw [hs]; exact hi)] at e1; exact (Option.some.inj e1).symm
  subst ek
  refine ⟨hi, fun v H'' y => ?_⟩
  obtain ⟨T, c, rfl, hn, rfl, hc⟩ := y
  have e3 : (strItems x)[k]? = some (.str ⟨#[c]⟩) := by unfold strItems; simp [hc]
  rw [e3] at e2; cases e2
  exact ⟨Pres.upd hn, RP.newTup hn (.cons (RP.int _) (.cons (RP.str _) .nil))⟩
/-- enumerate(e) -/
def tEnum (ts : XTs) : IT := fun ρ Q => ts ρ fun ps ρ1 => takeAll ps ρ1 fun ts ρ2 => match ts with
  | [t] => match itemsOf t with
    | some ts => Q (enumItems ts) ρ2
    | none => False
  | _ => False
theorem items_inv {t : T} {ts : List T} (e : itemsOf t = some ts) : t = .list ts ∨ t = .tuple ts ∨ ∃ x, t = .str x ∧ ts = strItems x ∧ x.cps.size ≤ 1000000 := by
  cases t with
  | list ts' => cases e; exact .inl rfl
  | tuple ts' => cases e; exact .inr (.inl rfl)
  | str x =>
    simp only [itemsOf] at e
    split at e
    · rename_i h; cases e; exact .inr (.inr ⟨x, rfl, rfl, h⟩)
    · cases e
  | _ => cases e
def SzOk (K : PySem.W.Frag) (H : Hp) : Prop := (∀ a xs, SqL K H a xs → xs.length ≤ sizeLine) ∧ ∀ a xs, SqT K H a xs → xs.length ≤ sizeLine
theorem PA.sz {X : Cx} {es : List Expr} {t : TA} (h : PA X es t) : PA X es (fun σ H Q => t σ H fun vs H1 => SzOk X.K H1 → Q vs H1) :=
  ⟨fun pos pins s σ H Q I q => thn (h.run pos pins s σ H _ I q) fun us s' ⟨vs, H', I', r, q⟩ => ⟨vs, H', I', r, q ⟨fun a xs h => (I'.list h).choose_spec.2.2, fun a xs h => (I'.tuple h).choose_spec.2.2⟩⟩⟩
theorem PE.sz {X : Cx} {e : Expr} {t : TE} (h : PE X e t) : PE X e (fun σ H Q => t σ H fun v H1 => SzOk X.K H1 → Q v H1) :=
  ⟨fun pins s σ H Q I q => thn (h.run pins s σ H _ I q) fun us s' ⟨vs, H', I', r, q⟩ => ⟨vs, H', I', r, q ⟨fun a xs h => (I'.list h).choose_spec.2.2, fun a xs h => (I'.tuple h).choose_spec.2.2⟩⟩⟩
theorem enumLen (ts : List T) : (enumItems ts).length = ts.length := by unfold enumItems; simp
theorem zipLen (ts rs : List T) : (zipItems ts rs).length ≤ ts.length := by unfold zipItems; rw [List.length_zipWith]; omega
theorem ix_enum {X : Cx} {e : Expr} {ts : XTs} {p pos tpos : Pos} {elts : List Expr} {kk : Nat} (hg : Gl X "enumerate") (hm : X.mg "enumerate" = none) (ha : EXs X [e] ts) (hs : starEach [e] X.env = [(false, eval e X.env)] := by rfl) :
    IX X (.Tuple elts kk tpos) (.Call (.Name "enumerate" p) [e] [] pos) (tEnum ts) := by
  refine ⟨PI.imp (pi_enumA hg hm (PA.sz ha.pa) hs) ?_⟩
  rintro σ H R ⟨ρ, fp, G, Qa, R0, h, fin⟩
  refine ⟨ρ, fp, G, _, R0, h, fun vs ps A H1 ρ1 fp1 hl R1 r1 nd1 ng1 x1 h1 sz => ?_⟩
  obtain ⟨ts, ρ2, fp2, R2, q2, i2, h2⟩ := takeAll_ok r1 R1 (fun a z => z) (fun j o e => ⟨o, e⟩) ng1 nd1 h1
  have x2 : Ext H (Fo fp) H1 (Fo fp2) := x1.or.weak (fun _ z => z) i2
  split at h2
  · rename_i t
    split at h2
    · rename_i us e
      cases q2 with
      | cons q q3 =>
        cases q3
        rcases items_inv e with rfl | rfl | ⟨x, rfl, rfl, hx⟩
        · obtain ⟨a, vs, rfl, sl, rp⟩ := q.stL
          exact .inl ⟨a, vs, rfl, sl.sq, fin _ _ H1 ρ2 fp2 R2 (jok_enum sl rp) (by rw [enumLen, ← Paired.len rp]; exact sz.1 _ _ sl.sq) x2 h2⟩
        · obtain ⟨a, vs, rfl, sl, rp⟩ := q.tupE
          exact .inr (.inl ⟨a, vs, rfl, sl, fin _ _ H1 ρ2 fp2 R2 (jok_enumT sl rp) (by rw [enumLen, ← Paired.len rp]; exact sz.2 _ _ sl) x2 h2⟩)
        · exact .inr (.inr ⟨x, by rw [q.strE], fin _ _ H1 ρ2 fp2 R2 (jok_enumS x) (by rw [enumLen]; unfold strItems; simp; rw [sizeLine_eq]; omega) x2 h2⟩)
    · exact h2.elim
  · exact h2.elim
/-- zip(a, b) of two lists, of two tuples -/
def tZip (ts : XTs) : IT := fun ρ Q => ts ρ fun ps ρ1 => takeAll ps ρ1 fun ts ρ2 => match ts with
  | [.list ts, .list us] => Q (zipItems ts us) ρ2
  | [.tuple ts, .tuple us] => Q (zipItems ts us) ρ2
  | _ => False
theorem ix_zip {X : Cx} {e e2 : Expr} {ts : XTs} {p pos tpos : Pos} {elts : List Expr} {kk : Nat} (hg : Gl X "zip") (hm : X.mg "zip" = none) (ha : EXs X [e, e2] ts)
    (hs : starEach [e, e2] X.env = (false, eval e X.env) :: starEach [e2] X.env := by rfl) (hpl : (backTo pos (starEach [e2] X.env)).any (·.1) = false := by rfl) :
    IX X (.Tuple elts kk tpos) (.Call (.Name "zip" p) [e, e2] [] pos) (tZip ts) := by
  refine ⟨PI.imp (RZ.pi_zipA hg hm (PA.sz ha.pa) hs hpl) ?_⟩
  rintro σ H R ⟨ρ, fp, G, Qa, R0, h, fin⟩
  refine ⟨ρ, fp, G, _, R0, h, fun vs ps A H1 ρ1 fp1 hl R1 r1 nd1 ng1 x1 h1 sz => ?_⟩
  obtain ⟨ts, ρ2, fp2, R2, q2, i2, h2⟩ := takeAll_ok r1 R1 (fun a z => z) (fun j o e => ⟨o, e⟩) ng1 nd1 h1
  have x2 : Ext H (Fo fp) H1 (Fo fp2) := x1.or.weak (fun _ z => z) i2
  split at h2
  · rename_i us rs
    cases q2 with
    | cons q q3 =>
      cases q3 with
      | cons q3 q4 =>
        cases q4
        obtain ⟨a, vs, rfl, sl, rp⟩ := q.stL
        obtain ⟨b, us', rfl, sl2, rp2⟩ := q3.stL
        exact ⟨a, b, vs, us', rfl, .inl ⟨sl.sq, sl2.sq, fin _ _ H1 ρ2 fp2 R2 (jok_zip sl rp sl2 rp2) (Nat.le_trans (zipLen _ _) (by rw [← Paired.len rp]; exact sz.1 _ _ sl.sq)) x2 h2⟩⟩
  · rename_i us rs
    cases q2 with
    | cons q q3 =>
      cases q3 with
      | cons q3 q4 =>
        cases q4
        obtain ⟨a, vs, rfl, sl, rp⟩ := q.tupE
        obtain ⟨b, us', rfl, sl2, rp2⟩ := q3.tupE
        exact ⟨a, b, vs, us', rfl, .inr ⟨sl, sl2, fin _ _ H1 ρ2 fp2 R2 (jok_zipT sl rp sl2 rp2) (Nat.le_trans (zipLen _ _) (by rw [← Paired.len rp]; exact sz.2 _ _ sl)) x2 h2⟩⟩
  · exact h2.elim
end
end DL

set_option Elab.async false
set_option linter.all false
set_option maxRecDepth 100000
set_option maxHeartbeats 4000000
/-! THE DATA LAYER, part 8: what is changed in place; two or three names at once. -/
namespace DL
open PySem PySem.Spec L2
open PyProof.Rows hiding St

section
variable {K : PySem.W.Frag} {σ : St} {H H1 : Hp} {fp : Nat → List Addr} {ρ : AEnv} {v : V} {o o' : O} {j : Nat} {a : Addr} {u u' : HO} {A G : List Addr}
/-- the object of slot j is changed -/
theorem RS.mut (R : RS K σ H ρ fp G) (e : ρ[j]? = some (some o)) (hv : σ[j]? = some (some v)) (hf : fp j = [a]) (hu : H a = some u) (mu : Mut (some u)) (r : RO K (L2.upd H a u') (Or1 (Fo fp) G) v o' [a]) :
    RS K σ (L2.upd H a u') (ρ.set j (some o')) fp G ∧ Ext H (Fo fp) (L2.upd H a u') (Fo fp) := by
  have hj : j < ρ.length := (List.getElem?_eq_some_iff.mp e).1
  have ha : Fo fp a := ⟨j, by rw [hf]; exact List.mem_singleton.mpr rfl⟩
  have x : Ext H (Fo fp) (L2.upd H a u') (Fo fp) := upd_ext hu mu ha fun _ z => z
  refine ⟨⟨fun i w h => ?_, fun i h => ?_, R.dj, R.nd, R.gf, fun b m => ?_, by rw [List.length_set]; exact R.len⟩, x⟩
  · rw [AEnv.get_set] at h
    by_cases q : j = i
    · subst q
      rw [if_pos rfl, if_pos hj] at h
      cases h
      exact ⟨v, hv, by rw [hf]; exact r⟩
    · rw [if_neg q] at h
      obtain ⟨y, hy, r'⟩ := R.ex i w h
      refine ⟨y, hy, r'.imp (fun v t z => (z.ext (x.addG G))) fun b m w h => ?_⟩
      rw [upd_ne]
      · exact h
      · rintro rfl
        exact q (R.dj j i b (by rw [hf]; exact List.mem_singleton.mpr rfl) m)
  · by_cases q : i = j
    · subst q
      exact absurd (by rw [AEnv.get_set, if_pos rfl, if_pos hj]) (h o')
    · refine R.non i fun o'' z => h o'' ?_
      rw [AEnv.get_set, if_neg fun y => q y.symm]
      exact z
  · obtain ⟨w, h⟩ := R.gi b m
    by_cases q : b = a
    · exact ⟨u', by rw [q]; exact upd_same⟩
    · exact ⟨w, by rw [upd_ne q]; exact h⟩
theorem RS.lstE {ts : List T} (R : RS K σ H ρ fp G) (e : ρ[j]? = some (some (.lst ts))) : ∃ a vs, σ[j]? = some (some (.ref a)) ∧ fp j = [a] ∧ H a = some (.lst vs) ∧ RPs K H (Or1 (Fo fp) G) vs ts := by
  obtain ⟨v, hv, a, vs, rfl, h1, h2, h3⟩ := R.ex j _ e
  exact ⟨a, vs, hv, h1, h2, h3⟩
end

/-! ### lists changed in place -/
def lstAt (ρ : AEnv) (j : Nat) (Q : List T → Prop) : Prop := match ρ[j]? with
  | some (some (.lst ts)) => Q ts
  | _ => False
theorem lstAt_iff {ρ : AEnv} {j : Nat} {Q : List T → Prop} (h : lstAt ρ j Q) : ∃ ts, ρ[j]? = some (some (.lst ts)) ∧ Q ts := by
  unfold lstAt at h
  split at h
  · exact ⟨_, by assumption, h⟩
  · exact h.elim
def tAppend (j : Nat) (te : XT) : XT := fun ρ Q => lstAt ρ j fun _ => te ρ fun p ρ1 => take1 p ρ1 fun y ρ2 => lstAt ρ2 j fun ts => ts.length < 16777216 ∧ Q (.val (.pure .none)) (ρ2.set j (some (.lst (ts ++ [y]))))
def tExtend (j : Nat) (te : XT) : XT := fun ρ Q => lstAt ρ j fun _ => te ρ fun p ρ1 => match p.get ρ1 with
  | some (.lst us) => lstAt ρ1 j fun ts => ts.length + us.length ≤ 16777216 ∧ Q (.val (.pure .none)) (ρ1.set j (some (.lst (ts ++ us))))
  | _ => False
def tPopAt (j : Nat) (te : XT) : XT := fun ρ Q => lstAt ρ j fun _ => te ρ fun p ρ1 => match p.get ρ1 with
  | some (.pure (.int i)) => lstAt ρ1 j fun ts => match ixN ts.length i with
    | some k => match ts[k]? with
      | some y => Q (.val (.pure y)) (ρ1.set j (some (.lst (ts.eraseIdx k))))
      | none => False
    | none => False
  | _ => False
def tPop (j : Nat) : XT := fun ρ Q => lstAt ρ j fun ts => match ts[ts.length - 1]? with
  | some y => Q (.val (.pure y)) (ρ.set j (some (.lst ts.dropLast)))
  | none => False
def sSetIx (j : Nat) (te ti : XT) : ST := fun D ρ => te ρ fun p ρ1 => take1 p ρ1 fun y ρ2 => lstAt ρ2 j fun _ => ti ρ2 fun q ρ3 => match q.get ρ3 with
  | some (.pure (.int k)) => lstAt ρ3 j fun ts => match ixN ts.length k with
    | some m => D.nx (ρ3.set j (some (.lst (ts.set m y))))
    | none => False
  | _ => False
section
variable {X : Cx} {x : Str} {e : Expr} {te ti : XT} {px apos cpos pos : Pos}
theorem Paired.dropL {α β : Type} {G : α → β → Prop} : ∀ {l : List α} {r : List β}, Paired G l r → Paired G l.dropLast r.dropLast
  | _, _, .nil => .nil
  | _, _, .cons _ .nil => .nil
  | _, _, .cons h (.cons k t) => .cons h (Paired.dropL (.cons k t))
theorem ex_append (j : Nat) (hN : X.N[j]? = some x) (he : EX X e te)
    (hv : Vis X.env.scope x := by first | exact Or.inl rfl | exact Or.inr (Or.inl rfl) | exact Or.inr (Or.inr rfl)) (hd : (x == ("__debug__" : Str)) = false := by decide) (hcd : (x == ("__classdict__" : Str)) = false := by decide)
    (hbase : attributeBase (.Name x px) "append" X.env (eval (.Name x px) X.env) = eval (.Name x px) X.env := by rfl)
    (hfew : ((backTo cpos (starEach [e] X.env)).all (fun x => !x.1) && (backToKw cpos (keywordEach [] X.env)).all (fun x => x.1.isSome)
      && decide (([e] : List Expr).length + ([] : List Keyword).length + (if ([] : List Keyword).isEmpty then 0 else 1) < 30)) = true := by rfl)
    (hline : (apos.endLine == cpos.line) = true := by rfl) (hs : starEach [e] X.env = (false, eval e X.env) :: starEach [] X.env := by rfl) (hplain : (backTo cpos (starEach [] X.env)).any (·.1) = false := by rfl) :
    EX X (.Call (.Attribute (.Name x px) "append" apos) [e] [] cpos) (tAppend j te) := by
  refine ⟨PE.imp (pe_bm PySem.F.plainAttrs_list PySem.F.slot_list_append PySem.F.type_list_append mt_append (pe_var hN hv hd hcd) (pa_cons he.pe pa_nil hs) hbase hfew hline hs hplain) ?_⟩
  rintro σ H Q ⟨ρ, fp, G, Qa, R, h, fin⟩
  obtain ⟨ts0, e0, h⟩ := lstAt_iff h
  obtain ⟨a, vs0, hv0, f0, h0, r0⟩ := R.lstE e0
  refine ⟨.ref a, hv0, .inl ⟨rfl, _, SqL.of h0⟩, ρ, fp, G, _, R, h, fun v p A H1 ρ1 fp1 R1 r1 x1 h1 => ?_⟩
  obtain ⟨y, ρ2, fp2, R2, r2, i2, h2⟩ := take1_ok R1 r1 h1
  obtain ⟨ts, e2, hz, h2⟩ := lstAt_iff h2
  obtain ⟨b, vs, hv2, f2, hb, rb⟩ := R2.lstE e2
  rw [hv0] at hv2; cases hv2
  refine ⟨a, vs, v, rfl, rfl, hb, by rw [Paired.len rb, sizeLine_eq]; exact hz, ?_⟩
  have x2 : Ext H (Fo fp) H1 (Fo fp2) := x1.or.weak (fun _ z => z) i2
  have ux : Ext H1 (Fo fp2) (upd H1 a (.lst (vs ++ [v]))) (Fo fp2) := upd_ext hb trivial ⟨j, by rw [f2]; exact List.mem_singleton.mpr rfl⟩ fun _ z => z
  obtain ⟨R3, x3⟩ := R2.mut (u' := .lst (vs ++ [v])) (o' := .lst (ts ++ [y])) e2 hv0 f2 hb trivial ⟨a, _, rfl, rfl, upd_same, RPs.extG ux (Paired.app rb (.cons r2 .nil))⟩
  exact fin .non (.val (.pure .none)) [] _ _ fp2 R3 (rop_pure RP.non) ((x2.trans x3).weak (fun _ z => z) fun a z => z.elim (fun q => q) fun m => (List.not_mem_nil m).elim) h2
theorem ex_extend (j : Nat) (hN : X.N[j]? = some x) (he : EX X e te)
    (hv : Vis X.env.scope x := by first | exact Or.inl rfl | exact Or.inr (Or.inl rfl) | exact Or.inr (Or.inr rfl)) (hd : (x == ("__debug__" : Str)) = false := by decide) (hcd : (x == ("__classdict__" : Str)) = false := by decide)
    (hbase : attributeBase (.Name x px) "extend" X.env (eval (.Name x px) X.env) = eval (.Name x px) X.env := by rfl)
    (hfew : ((backTo cpos (starEach [e] X.env)).all (fun x => !x.1) && (backToKw cpos (keywordEach [] X.env)).all (fun x => x.1.isSome)
      && decide (([e] : List Expr).length + ([] : List Keyword).length + (if ([] : List Keyword).isEmpty then 0 else 1) < 30)) = true := by rfl)
    (hline : (apos.endLine == cpos.line) = true := by rfl) (hs : starEach [e] X.env = (false, eval e X.env) :: starEach [] X.env := by rfl) (hplain : (backTo cpos (starEach [] X.env)).any (·.1) = false := by rfl) :
    EX X (.Call (.Attribute (.Name x px) "extend" apos) [e] [] cpos) (tExtend j te) := by
  refine ⟨PE.imp (pe_bm PySem.F.plainAttrs_list PySem.F.slot_list_extend PySem.F.type_list_extend mt_extend (pe_var hN hv hd hcd) (pa_cons he.pe pa_nil hs) hbase hfew hline hs hplain) ?_⟩
  rintro σ H Q ⟨ρ, fp, G, Qa, R, h, fin⟩
  obtain ⟨ts0, e0, h⟩ := lstAt_iff h
  obtain ⟨a, vs0, hv0, f0, h0, r0⟩ := R.lstE e0
  refine ⟨.ref a, hv0, .inl ⟨rfl, _, SqL.of h0⟩, ρ, fp, G, _, R, h, fun v p A H1 ρ1 fp1 R1 r1 x1 h1 => ?_⟩
  split at h1
  · rename_i us ep
    obtain ⟨ts, e2, hz, h2⟩ := lstAt_iff h1
    obtain ⟨b, vs, hv2, f2, hb, rb⟩ := R1.lstE e2
    rw [hv0] at hv2; cases hv2
    obtain ⟨c, ws, rfl, hc, rc⟩ := r1.rw0 R1 ep
    refine ⟨a, c, vs, ws, rfl, rfl, hb, hc, by rw [Paired.len rb, Paired.len rc, sizeLine_eq]; exact hz, ?_⟩
    have ux : Ext H1 (Fo fp1) (upd H1 a (.lst (vs ++ ws))) (Fo fp1) := upd_ext hb trivial ⟨j, by rw [f2]; exact List.mem_singleton.mpr rfl⟩ fun _ z => z
    obtain ⟨R3, x3⟩ := (R1.sub (G' := G) fun a m => List.mem_append_right _ m).mut (u' := .lst (vs ++ ws)) (o' := .lst (ts ++ us)) e2 hv0 f2 hb trivial
      ⟨a, _, rfl, rfl, upd_same, RPs.weak (RPs.extG ux (Paired.app rb rc)) fun a z => z.imp (fun q => q) (List.mem_append_right _)⟩
    exact fin .non (.val (.pure .none)) [] _ _ fp1 R3 (rop_pure RP.non) ((x1.or.trans x3).weak (fun _ z => z) fun a z => z.elim (fun q => q) fun m => (List.not_mem_nil m).elim) h2
  · exact h1.elim
theorem ex_popAt (j : Nat) (hN : X.N[j]? = some x) (he : EX X e te)
    (hv : Vis X.env.scope x := by first | exact Or.inl rfl | exact Or.inr (Or.inl rfl) | exact Or.inr (Or.inr rfl)) (hd : (x == ("__debug__" : Str)) = false := by decide) (hcd : (x == ("__classdict__" : Str)) = false := by decide)
    (hbase : attributeBase (.Name x px) "pop" X.env (eval (.Name x px) X.env) = eval (.Name x px) X.env := by rfl)
    (hfew : ((backTo cpos (starEach [e] X.env)).all (fun x => !x.1) && (backToKw cpos (keywordEach [] X.env)).all (fun x => x.1.isSome)
      && decide (([e] : List Expr).length + ([] : List Keyword).length + (if ([] : List Keyword).isEmpty then 0 else 1) < 30)) = true := by rfl)
    (hline : (apos.endLine == cpos.line) = true := by rfl) (hs : starEach [e] X.env = (false, eval e X.env) :: starEach [] X.env := by rfl) (hplain : (backTo cpos (starEach [] X.env)).any (·.1) = false := by rfl) :
    EX X (.Call (.Attribute (.Name x px) "pop" apos) [e] [] cpos) (tPopAt j te) := by
  refine ⟨PE.imp (pe_bm PySem.F.plainAttrs_list PySem.F.slot_list_pop PySem.F.type_list_pop mt_popAt (pe_var hN hv hd hcd) (pa_cons (PE.sz he.pe) pa_nil hs) hbase hfew hline hs hplain) ?_⟩
  rintro σ H Q ⟨ρ, fp, G, Qa, R, h, fin⟩
  obtain ⟨ts0, e0, h⟩ := lstAt_iff h
  obtain ⟨a, vs0, hv0, f0, h0, r0⟩ := R.lstE e0
  refine ⟨.ref a, hv0, .inl ⟨rfl, _, SqL.of h0⟩, ?_⟩
  show LX X.K te σ H fun v H1 => SzOk X.K H1 → rPopAt (.ref a) [v] H1 Q
  refine ⟨ρ, fp, G, _, R, h, fun v p A H1 ρ1 fp1 R1 r1 x1 h1 sz => ?_⟩
  split at h1
  · rename_i i ep
    obtain ⟨ts, e2, h2⟩ := lstAt_iff h1
    obtain ⟨b, vs, hv2, f2, hb, rb⟩ := R1.lstE e2
    rw [hv0] at hv2; cases hv2
    have ev : v = .int i := RP.intE (r1.rw0 R1 ep)
    subst ev
    split at h2
    · rename_i k ek
      split at h2
      · rename_i y ey
        obtain ⟨q1, q2, q3, q4⟩ := ixN_seq ek
        have hl := Paired.len rb
        obtain ⟨w, hw, rw_⟩ := Paired.at rb ey
        have szv := sz.1 _ _ (SqL.of hb)
        rw [sizeLine_eq] at szv
        refine ⟨a, vs, i, k, w, rfl, rfl, hb, by omega, by omega, by rw [hl]; exact q1, hw, ?_⟩
        have ux : Ext H1 (Fo fp1) (upd H1 a (.lst (vs.eraseIdx k))) (Fo fp1) := upd_ext hb trivial ⟨j, by rw [f2]; exact List.mem_singleton.mpr rfl⟩ fun _ z => z
        obtain ⟨R3, x3⟩ := (R1.sub (G' := G) fun a m => List.mem_append_right _ m).mut (u' := .lst (vs.eraseIdx k)) (o' := .lst (ts.eraseIdx k)) e2 hv0 f2 hb trivial
          ⟨a, _, rfl, rfl, upd_same, RPs.weak (RPs.extG ux (Paired.eraseP k rb)) fun a z => z.imp (fun q => q) (List.mem_append_right _)⟩
        exact fin w (.val (.pure y)) [] _ _ fp1 R3 (rop_pure ((rw_.ext (ux.addG (A ++ G))).weak fun a z => z.imp (fun q => q) (List.mem_append_right _))) ((x1.or.trans x3).weak (fun _ z => z) fun a z => z.elim (fun q => q) fun m => (List.not_mem_nil m).elim) h2
      · exact h2.elim
    · exact h2.elim
  · exact h1.elim
theorem sx_setIx {P : Nat → Bool} {ei : Expr} {spos : Pos} (j : Nat) (hN : X.N[j]? = some x) (he : EX X e te) (hi : EX X ei ti)
    (hv : Vis X.env.scope x := by first | exact Or.inl rfl | exact Or.inr (Or.inl rfl) | exact Or.inr (Or.inr rfl)) (hd : (x == ("__debug__" : Str)) = false := by decide) (hcd : (x == ("__classdict__" : Str)) = false := by decide)
    (hs : swapsWithSole [.Subscript (.Name x px) ei spos] e pos.line X.env = pure false := by rfl) (hw : swappedStores [.Subscript (.Name x px) ei spos] e X.env = pure none := by rfl)
    (h1 : (assignEach [.Subscript (.Name x px) ei spos] X.env).map (·.2) = [assign (.Subscript (.Name x px) ei spos) X.env] := by rfl)
    (ha : ∀ v, assign (.Subscript (.Name x px) ei spos) X.env v = (do
      let ov ← holding [v] (eval (.Name x px) X.env)
      let iv ← holding [v, ov] (eval ei X.env)
      standAt spos
      holding [v, ov, iv] (setItem ov iv v)
      release [v, ov, iv] []) := by intro _; rfl) :
    SX X P (.Assign [.Subscript (.Name x px) ei spos] e pos) (sSetIx j te ti) := by
  refine ⟨PS.imp (ps_asg he.pe (pg_sub (pe_var hN hv hd hcd) hi.pe set_list ha) hs hw h1) ?_⟩
  rintro D σ H ⟨ρ, fp, G, Da, R, h, f⟩
  refine ⟨ρ, fp, G, _, R, h, fun v p A H1 ρ1 fp1 R1 r1 x1 h1 => ?_⟩
  obtain ⟨y, ρ2, fp2, R2, r2, i2, h2⟩ := take1_ok R1 r1 h1
  obtain ⟨ts0, e0, h2⟩ := lstAt_iff h2
  obtain ⟨a, vs0, hv0, f0, h0, r0⟩ := R2.lstE e0
  have x2 : Ext H (Fo fp) H1 (Fo fp2) := x1.or.weak (fun _ z => z) i2
  refine ⟨.ref a, hv0, ρ2, fp2, G, _, R2, h2, fun u q B H3 ρ3 fp3 R3 r3 x3 h3 => ?_⟩
  split at h3
  · rename_i k ek
    obtain ⟨ts, e3, h3⟩ := lstAt_iff h3
    obtain ⟨b, vs, hv3, f3, hb, rb⟩ := (R3.sub (G' := G) fun a m => List.mem_append_right _ m).lstE e3
    rw [hv0] at hv3; cases hv3
    have eu : u = .int k := RP.intE (r3.rw0 R3 ek)
    subst eu
    split at h3
    · rename_i m em
      refine ⟨a, vs, k, m, rfl, rfl, hb, by rw [Paired.len rb]; exact em, ?_⟩
      have ux : Ext H3 (Fo fp3) (upd H3 a (.lst (vs.set m v))) (Fo fp3) := upd_ext hb trivial ⟨j, by rw [f3]; exact List.mem_singleton.mpr rfl⟩ fun _ z => z
      have rv : RP X.K (upd H3 a (.lst (vs.set m v))) (Or1 (Fo fp3) G) v y := ((r2.ext (x3.or.addG G)).ext (ux.addG G))
      obtain ⟨R4, x4⟩ := (R3.sub (G' := G) fun a m => List.mem_append_right _ m).mut (u' := .lst (vs.set m v)) (o' := .lst (ts.set m y)) e3 hv0 f3 hb trivial ⟨a, _, rfl, rfl, upd_same, Paired.setP rv m (RPs.extG ux rb)⟩
      exact f.nx σ _ _ fp3 R4 ((x2.trans x3.or).trans x4) .refl h3
    · exact h3.elim
  · exact h3.elim
end

/-! ### two or three names at once -/
def setV : St → List Nat → List V → St
  | σ, j :: js, v :: vs => setV (σ.set j (some v)) js vs
  | σ, _, _ => σ
def setO : AEnv → List Nat → List O → AEnv
  | ρ, j :: js, o :: os => setO (ρ.set j (some o)) js os
  | ρ, _, _ => ρ
theorem puts_ok {K : PySem.W.Frag} {H : Hp} {G : List Addr} {P : Nat → Bool} : ∀ {js : List Nat} {vs : List V} {os : List O} {Bs : List (List Addr)} {σ : St} {ρ : AEnv} {fp : Nat → List Addr}, RS K σ H ρ fp (Bs.flatten ++ G) → RCs K H (Or1 (Fo fp) (Bs.flatten ++ G)) vs os Bs → Bs.flatten.Nodup → (∀ a ∈ Bs.flatten, a ∉ G) →
    js.length = os.length → (∀ j ∈ js, j < ρ.length) → (∀ j ∈ js, P j = false) → ∃ fp', RS K (setV σ js vs) H (setO ρ js os) fp' G ∧ (∀ a, Fo fp' a → Fo fp a ∨ a ∈ Bs.flatten) ∧ PinEq P σ (setV σ js vs)
  | [], _, _, _, σ, ρ, fp, R, r, d, n, hl, _, _ => by
    cases r with
    | nil => exact ⟨fp, R, fun a z => .inl z, .refl⟩
    | cons => cases hl
  | j :: js, _, _, _, σ, ρ, fp, R, r, d, n, hl, hj, hp => by
    cases r with
    | nil => cases hl
    | @cons v o B vs os Bs r rr =>
      simp only [List.flatten_cons] at d n R r rr ⊢
      obtain ⟨dB, dBs, dd⟩ := List.nodup_append.mp d
      have R' : RS K σ H ρ fp (B ++ (Bs.flatten ++ G)) := by rw [List.append_assoc] at R; exact R
      have R1 := R'.put (v := v) (o := o) (hj j List.mem_cons_self) (r.weak fun a z => z.imp (fun q => q) fun m => by rw [List.append_assoc]; exact m) dB (fun a m z => (List.mem_append.mp z).elim (fun z => dd a m a z rfl) (n a (List.mem_append_left _ m)))
      obtain ⟨fp', R2, i2, p2⟩ := puts_ok (js := js) (P := P) R1 (rr.weak fun a z => by
        rcases z with z | z
        · exact z.set.elim .inl fun m => .inr (by simp [m])
        · exact .inr (by rw [List.append_assoc]; exact List.mem_append_right _ z)) dBs (fun a m => n a (List.mem_append_right _ m)) (Nat.succ.inj hl) (fun i m => by rw [List.length_set]; exact hj i (List.mem_cons_of_mem _ m)) fun i m => hp i (List.mem_cons_of_mem _ m)
      refine ⟨fp', R2, fun a z => ?_, (pinSet (hp j List.mem_cons_self)).trans p2⟩
      rcases i2 a z with z | z
      · exact z.set.imp (fun q => q) fun m => List.mem_append_left _ m
      · exact .inr (List.mem_append_right _ z)
def sPar (js : List Nat) (ts : XTs) : ST := fun D ρ => ts ρ fun ps ρ1 => prep (js.map fun _ => true) ps ρ1 fun os _ ρ2 => (js.all fun j => Nat.blt j ρ2.length) = true ∧ D.nx (setO ρ2 js os)
theorem par_go {K : PySem.W.Frag} {P : Nat → Bool} {js : List Nat} {ts : XTs} {n : Nat} (hn : js.length = n) (hp : (js.all fun j => !P j) = true) {D : Ends} {σ : St} {H : Hp} (h : LS K P (sPar js ts) D σ H) : LA K n ts σ H fun vs H1 => vs.length = n ∧ D.nx (setV σ js vs) H1 := by
  obtain ⟨ρ, fp, G, Da, R, h, f⟩ := h
  refine ⟨ρ, fp, G, _, R, h, fun vs ps A H1 ρ1 fp1 hl R1 r1 nd1 ng1 x1 h1 => ⟨hl, ?_⟩⟩
  obtain ⟨os, js', ρ2, fp2, Bs, R2, r2, d2, n2, i2, _, _, _, hall, h2⟩ := prep_ok r1 R1 (fun a z => z) ng1 nd1 h1
  obtain ⟨fp3, R3, i3, p3⟩ := puts_ok (P := P) R2 r2 d2 n2 (by rw [hn, ← hl, r2.len.1]) (fun j m => Nat.le_of_ble_eq_true (List.all_eq_true.mp hall j m)) fun j m => by simpa using List.all_eq_true.mp hp j m
  refine f.nx _ H1 _ fp3 R3 (x1.weak (fun _ z => z) fun a z => ?_) p3 h2
  exact i2 a (i3 a z)
section
variable {X : Cx} {P : Nat → Bool} {x y z : Str} {a b c : Expr} {ts : XTs} {px py pz pt pos : Pos}
theorem sx_par2 {kt k2 pt2} (i j : Nat) (hc : X.calm = true) (hN : X.N.Nodup) (hi : X.N[i]? = some x) (hj : X.N[j]? = some y) (hx : X.env.scope.names.lookup x = some .local) (hy : X.env.scope.names.lookup y = some .local) (ha : EXs X [a, b] ts)
    (hw : swappedStores [.Tuple [.Name x px, .Name y py] kt pt] (.Tuple [a, b] k2 pt2) X.env = pure (some [x, y])) (hij : i ≠ j := by decide) (hp : (([i, j] : List Nat).all fun j => !P j) = true := by rfl)
    (hs : swapsWithSole [.Tuple [.Name x px, .Name y py] kt pt] (.Tuple [a, b] k2 pt2) pos.line X.env = pure false := by rfl) :
    SX X P (.Assign [.Tuple [.Name x px, .Name y py] kt pt] (.Tuple [a, b] k2 pt2) pos) (sPar [i, j] ts) := by
  refine ⟨PS.imp (ps_par hc hN hi hj hij hx hy ha.pa hw hs) fun D σ H h => ?_⟩
  obtain ⟨ρ, fp, G, Qa, R, h, f⟩ := par_go (n := 2) rfl hp h
  refine ⟨ρ, fp, G, Qa, R, h, fun vs ps A H1 ρ1 fp1 hl R1 r1 nd1 ng1 x1 h1 => ?_⟩
  obtain ⟨_, q⟩ := f vs ps A H1 ρ1 fp1 hl R1 r1 nd1 ng1 x1 h1
  match vs, hl with
  | [v, w], _ => exact ⟨v, w, rfl, q⟩
theorem sx_par3 {kt k2 pt2} (i j l : Nat) (hc : X.calm = true) (hN : X.N.Nodup) (hi : X.N[i]? = some x) (hj : X.N[j]? = some y) (hl : X.N[l]? = some z) (hx : X.env.scope.names.lookup x = some .local) (hy : X.env.scope.names.lookup y = some .local) (hz : X.env.scope.names.lookup z = some .local)
    (ha : EXs X [a, b, c] ts)
    (hw : swappedStores [.Tuple [.Name x px, .Name y py, .Name z pz] kt pt] (.Tuple [a, b, c] k2 pt2) X.env = pure (some [x, y, z])) (hij : i ≠ j := by decide) (hil : i ≠ l := by decide) (hjl : j ≠ l := by decide) (hp : (([i, j, l] : List Nat).all fun j => !P j) = true := by rfl)
    (hs : swapsWithSole [.Tuple [.Name x px, .Name y py, .Name z pz] kt pt] (.Tuple [a, b, c] k2 pt2) pos.line X.env = pure false := by rfl) :
    SX X P (.Assign [.Tuple [.Name x px, .Name y py, .Name z pz] kt pt] (.Tuple [a, b, c] k2 pt2) pos) (sPar [i, j, l] ts) := by
  refine ⟨PS.imp (ps_par3 hc hN hi hj hl hij hil hjl hx hy hz ha.pa hw hs) fun D σ H h => ?_⟩
  obtain ⟨ρ, fp, G, Qa, R, h, f⟩ := par_go (n := 3) rfl hp h
  refine ⟨ρ, fp, G, Qa, R, h, fun vs ps A H1 ρ1 fp1 hl R1 r1 nd1 ng1 x1 h1 => ?_⟩
  obtain ⟨_, q⟩ := f vs ps A H1 ρ1 fp1 hl R1 r1 nd1 ng1 x1 h1
  match vs, hl with
  | [u, v, w], _ => exact ⟨u, v, w, rfl, q⟩
end
end DL

set_option Elab.async false
set_option linter.all false
set_option maxRecDepth 100000
set_option maxHeartbeats 4000000
/-! THE DATA LAYER, part 9: trees as the library reads them; ==. -/
namespace DL
open PySem PySem.Spec L2
open PyProof.Rows hiding St

/-! ### a tree is read -/
theorem keys_read {P : Program} {w : World} {h : Heap} : ∀ {es : List DictEntry} {vs : List (Key × Value)}, Pairs (mixKind P w) es vs → ∃ as, ReadsAll h (es.map (·.key)) (vs.map fun p => keyT p.1) as
  | _, _, .nil => ⟨_, .nil⟩
  | _, _, .cons (e := e) (kv := kv) hk hv r => by
    obtain ⟨as, ih⟩ := keys_read (h := h) r
    rcases keyIs_shape hk with ⟨i, t, e1, e2⟩ | ⟨x, t, e1, e2⟩
    · have q : Reads h e.key (keyT kv.1) [] := by rw [e2, e1]; exact .int i t
      exact ⟨_, .cons q ih⟩
    · have q : Reads h e.key (keyT kv.1) [] := by rw [e2, e1]; exact .str x t
      exact ⟨_, .cons q ih⟩
theorem vals_of_pairs {P : Program} {w : World} : ∀ {es : List DictEntry} {vs : List (Key × Value)}, Pairs (mixKind P w) es vs → es.map (·.val) = vs.map (·.2)
  | _, _, .nil => rfl
  | _, _, .cons hk hv r => by simp only [List.map_cons]; rw [hv, vals_of_pairs r]
theorem kv_vals : ∀ {kvs : List (Key × V)} {vs : List (Key × Value)}, KV kvs vs → Vals (kvs.map (·.2)) (vs.map (·.2)) ∧ kvs.map (·.1) = vs.map (·.1)
  | _, _, .nil => ⟨.nil, rfl⟩
  | _, _, .cons h r => by
    obtain ⟨h1, h2⟩ := kv_vals r
    exact ⟨.cons h.2 h1, by simp only [List.map_cons]; rw [h.1, h2]⟩
theorem zipT : ∀ {kvs : List (Key × V)} {ts : List T}, kvs.length = ts.length → (List.zipWith (fun (p : Key × V) (t : T) => (keyT p.1, t)) kvs ts).map (·.1) = kvs.map (fun p => keyT p.1) ∧ (List.zipWith (fun (p : Key × V) (t : T) => (keyT p.1, t)) kvs ts).map (·.2) = ts
  | [], [], _ => ⟨rfl, rfl⟩
  | [], _ :: _, h => by cases h
  | _ :: _, [], h => by cases h
  | k :: kvs, t :: ts, h => by
    obtain ⟨h1, h2⟩ := zipT (kvs := kvs) (ts := ts) (Nat.succ.inj h)
    exact ⟨by simp only [List.zipWith_cons_cons, List.map_cons, h1], by simp only [List.zipWith_cons_cons, List.map_cons, h2]⟩
/-- none of a tree's addresses is the table of modules -/
def NoSys (as : List Addr) : Prop := sysModules ∉ as
section
variable {X : Cx} {pins : List (Addr × Obj)} {σ : St} {H : Hp} {s : Shared}
mutual
theorem RV.reads (I : Inv X pins σ H s) : ∀ {v : V} {t : T} {as : List Addr} {u : Value}, RV X.K H v t as → RelV v u → ∃ bs, Reads s.heap u t bs
  | _, _, _, _, .non, r => by cases r; exact ⟨_, .none⟩
  | _, _, _, _, .bl b, r => by cases r; exact ⟨_, .bool b⟩
  | _, _, _, _, .int i, r => by obtain ⟨t, rfl⟩ := r; exact ⟨_, .int i t⟩
  | _, _, _, _, .str x, r => by obtain ⟨t, rfl⟩ := r; exact ⟨_, .str x t⟩
  | _, _, _, _, .tup h q, r => by
    cases r
    obtain ⟨its, rv, ⟨o, ho, hc, n, hd⟩, _⟩ := I.tuple h
    obtain ⟨bs, z⟩ := RVs.reads I q rv
    exact ⟨_, .tuple ho hc hd (by simpa using z)⟩
  | _, _, _, _, .lst h q, r => by
    cases r
    obtain ⟨its, rv, ⟨o, n, ho, hc, _, hd⟩, _⟩ := I.list (.inl h)
    obtain ⟨bs, z⟩ := RVs.reads I q rv
    exact ⟨_, .list ho hc hd (by simpa using z)⟩
  | _, _, _, _, .lstK h1 h2 h3 h4 h5 h6 q, r => by
    cases r
    obtain ⟨bs, z⟩ := RVs.reads I q h6
    exact ⟨_, .list (I.kIn _ _ h1) h2 h4 z⟩
  | _, _, _, _, .dct (kvs := kvs) (ts := ts) h q, r => by
    cases r
    obtain ⟨_, hs, vs, kv, o, es, ep, h1, h2, h3, h4, h5, _⟩ := dk_rd I.hok h
    obtain ⟨v1, v2⟩ := kv_vals kv
    obtain ⟨bs, z⟩ := RVs.reads I q v1
    obtain ⟨as, zk⟩ := keys_read (h := s.heap) h5
    have hl : kvs.length = ts.length := by have := RVs.length q; simpa using this
    obtain ⟨e1, e2⟩ := zipT hl
    refine ⟨_, .dict (as := as) (bs := bs) h1 h2.1 h3 ?_ ?_⟩
    · have : vs.map (fun p => keyT p.1) = kvs.map (fun p => keyT p.1) := by
        have := congrArg (List.map keyT) v2
        simp only [List.map_map] at this
        exact this.symm
      rw [this] at zk
      exact e1 ▸ zk
    · rw [vals_of_pairs h5]
      exact e2.symm ▸ z
theorem RVs.reads (I : Inv X pins σ H s) : ∀ {vs : List V} {ts : List T} {as : List Addr} {us : List Value}, RVs X.K H vs ts as → Vals vs us → ∃ bs, ReadsAll s.heap us ts bs
  | _, _, _, _, .nil, r => by cases r; exact ⟨_, .nil⟩
  | _, _, _, _, .cons h q, r => by
    cases r with
    | cons r1 r2 =>
      obtain ⟨bs, z⟩ := RV.reads I h r1
      obtain ⟨cs, y⟩ := RVs.reads I q r2
      exact ⟨_, .cons z y⟩
end
theorem RW.reads (I : Inv X pins σ H s) {F : Addr → Prop} {v : V} {o : O} {u : Value} (h : RW X.K H F v o) (r : RelV v u) : ∃ bs, Reads s.heap u o.frz bs := let ⟨_, q⟩ := h.view; q.reads I r
end

/-! ### == of trees -/
section
variable {A : Around} {s : Shared}
open PySem.SeqAt
theorem str_eq_dict (b : Str) (u : Tok) (l : Addr) (c : Value) (es : Array DictEntry) (n : Nat) (dd : Option Addr) (sl : Array (Option Value)) :
    Meets (Builtin.«str.__eq__» ⟨[.str b u, .ref l], []⟩) (fun _ R s => s.heap.get? l = some { cls := c, dict := dd, data := .dict es n, slots := sl } ∧ R (.ok (.ret .notImplemented)) s) :=
  .of_wp fun prog w A R s h => by obtain ⟨hp, g, d, tk, os⟩ := s; obtain ⟨hl, h⟩ := h; wp_walk using AutoSeq1.wpAny_loadPart' hl, wpAny_load hl; exact ⟨_, rfl, h⟩
theorem dict_eq_str (b : Str) (u : Tok) (l : Addr) (es : Array DictEntry) (n : Nat) (dd : Option Addr) (sl : Array (Option Value)) :
    Meets (Builtin.«dict.__eq__» ⟨[.ref l, .str b u], []⟩) (fun _ R s => s.heap.get? l = some { cls := .type "dict", dict := dd, data := .dict es n, slots := sl } ∧ R (.ok (.ret .notImplemented)) s) :=
  .of_wp fun prog w A R s h => by obtain ⟨hp, g, d, tk, os⟩ := s; obtain ⟨hl, h⟩ := h; have f1 := F.sub_str_dict; wp_walk using AutoSeq1.wpAny_loadPart' hl, wpAny_load hl; exact ⟨_, rfl, h⟩
def IsDc (h : Heap) (a : Addr) : Prop := ∃ o es n, h.get? a = some o ∧ o.cls = .type "dict" ∧ o.data = .dict es n
theorem RcAt.str_dict {l : Addr} (b : Str) (u : Tok) (hl : IsDc s.heap l) (hu : A.units < cLine) : RcAt A s (.str b u) (.ref l) false := fun prog w E Q h => by
  obtain ⟨⟨cls, dd, data, sl⟩, es, n, ho, hc, hd⟩ := hl
  simp only at hc hd
  subst hc hd
  exact rc_eq_decline_or (k := false) (typeIs_str s b u) ⟨_, ho, rfl⟩ (by decide) F.sub_dict_str F.slot_str_eq F.slot_dict_eq_refl
    (fun _ hq => call_meets F.slot_str_eq (typeIs_str s b u) F.entry_str_eq (F.args_str_eq_2 _ _) (str_eq_dict b u l (.type "dict") es n dd sl) ⟨ho, hq⟩)
    (fun _ hq => call_meets F.slot_dict_eq_refl ⟨_, ho, rfl⟩ F.entry_dict_eq (F.args_dict_eq_2 _ _) (dict_eq_str b u l es n dd sl) ⟨ho, hq⟩)
    (fun _ hq => wpAny_of_eq (rfl : isSame (.str b u) (.ref l) = pure false) hq) (.inr hu) h
theorem RcAt.dict_str {l : Addr} (b : Str) (u : Tok) (hl : IsDc s.heap l) (hu : A.units < cLine) : RcAt A s (.ref l) (.str b u) false := fun prog w E Q h => by
  obtain ⟨⟨cls, dd, data, sl⟩, es, n, ho, hc, hd⟩ := hl
  simp only at hc hd
  subst hc hd
  exact rc_eq_decline_or (k := false) ⟨_, ho, rfl⟩ (typeIs_str s b u) (by decide) F.sub_str_dict F.slot_dict_eq F.slot_str_eq_refl
    (fun _ hq => call_meets F.slot_dict_eq ⟨_, ho, rfl⟩ F.entry_dict_eq (F.args_dict_eq_2 _ _) (dict_eq_str b u l es n dd sl) ⟨ho, hq⟩)
    (fun _ hq => call_meets F.slot_str_eq_refl (typeIs_str s b u) F.entry_str_eq (F.args_str_eq_2 _ _) (str_eq_dict b u l (.type "dict") es n dd sl) ⟨ho, hq⟩)
    (fun _ hq => wpAny_of_eq (rfl : isSame (.ref l) (.str b u) = pure false) hq) (.inr hu) h
theorem EqAt.str_dict {l : Addr} (b : Str) (u : Tok) (hl : IsDc s.heap l) (hu : A.units < cLine) : EqAt A s (.str b u) (.ref l) false := fun prog w E Q h => by
  unfold eqBool
  refine wpAny_holding ?_
  refine wpAny_ite_split (fun hab => absurd (eq_of_beq hab) nofun) (fun _ => ?_)
  exact wpAny_bind (RcAt.str_dict b u hl hu prog w E _ (wpAny_truthy_bool h))
theorem EqAt.dict_str {l : Addr} (b : Str) (u : Tok) (hl : IsDc s.heap l) (hu : A.units < cLine) : EqAt A s (.ref l) (.str b u) false := fun prog w E Q h => by
  unfold eqBool
  refine wpAny_holding ?_
  refine wpAny_ite_split (fun hab => absurd (eq_of_beq hab) nofun) (fun _ => ?_)
  exact wpAny_bind (RcAt.dict_str b u hl hu prog w E _ (wpAny_truthy_bool h))
end

mutual
/-- no two dicts meet -/
def cmpOk : T → T → Bool
  | .dict _, .str _ => true
  | .str _, .dict _ => true
  | .dict _, _ => false
  | _, .dict _ => false
  | .list xs, .list ys => xs.length != ys.length || cmpOks xs ys
  | .tuple xs, .tuple ys => cmpOks xs ys
  | _, _ => true
def cmpOks : List T → List T → Bool
  | x :: xs, y :: ys => cmpOk x y && cmpOks xs ys
  | _, _ => true
end
theorem eq_flat {A : Around} {s : Shared} {a b : Value} {d e : T} {as bs : List Addr} (ra : Reads s.heap a d as) (rb : Reads s.heap b e bs) (hc : cmpOk d e = true) (hu : A.units < cLine)
    (hl : ∀ xs ys, ¬ (d = .list xs ∧ e = .list ys)) (ht : ∀ xs ys, ¬ (d = .tuple xs ∧ e = .tuple ys)) : SeqAt.EqAt A s a b (PyData.eqv d e) ∧ SeqAt.RcAt A s a b (PyData.eqv d e) := by
  open PySem.SeqAt in
  cases ra with
  | none =>
    cases rb with
    | none => exact ⟨EqAt.same _, RcAt.none_none⟩
    | bool y => exact ⟨EqAt.none_bool y, RcAt.none_bool y⟩
    | int y u => exact ⟨EqAt.none_int y u, RcAt.none_int y u⟩
    | str y u => exact ⟨EqAt.none_str y u, RcAt.none_str y u⟩
    | list k1 k2 k3 k4 => exact ⟨EqAt.none_list ⟨_, k1, k2, _, k3⟩ hu, RcAt.none_list ⟨_, k1, k2, _, k3⟩ hu⟩
    | tuple k1 k2 k3 k4 => exact ⟨EqAt.none_tuple ⟨_, k1, k2, _, k3⟩ hu, RcAt.none_tuple ⟨_, k1, k2, _, k3⟩ hu⟩
    | dict => exact absurd hc (by simp [cmpOk])
  | bool x =>
    cases rb with
    | none => exact ⟨EqAt.bool_none x, RcAt.bool_none x⟩
    | bool y => exact ⟨EqAt.bool_bool x y, RcAt.bool_bool x y⟩
    | int y u => exact ⟨EqAt.bool_int x y u, RcAt.bool_int x y u⟩
    | str y u => exact ⟨EqAt.bool_str x y u, RcAt.bool_str x y u⟩
    | list k1 k2 k3 k4 => exact ⟨EqAt.bool_list x ⟨_, k1, k2, _, k3⟩ hu, RcAt.bool_list x ⟨_, k1, k2, _, k3⟩ hu⟩
    | tuple k1 k2 k3 k4 => exact ⟨EqAt.bool_tuple x ⟨_, k1, k2, _, k3⟩ hu, RcAt.bool_tuple x ⟨_, k1, k2, _, k3⟩ hu⟩
    | dict => exact absurd hc (by simp [cmpOk])
  | int x t =>
    cases rb with
    | none => exact ⟨EqAt.int_none x t, RcAt.int_none x t⟩
    | bool y => exact ⟨EqAt.int_bool x t y, RcAt.int_bool x t y⟩
    | int y u => exact ⟨EqAt.int_int x t y u, RcAt.int_int x t y u⟩
    | str y u => exact ⟨EqAt.int_str x t y u, RcAt.int_str x t y u⟩
    | list k1 k2 k3 k4 => exact ⟨EqAt.int_list x t ⟨_, k1, k2, _, k3⟩ hu, RcAt.int_list x t ⟨_, k1, k2, _, k3⟩ hu⟩
    | tuple k1 k2 k3 k4 => exact ⟨EqAt.int_tuple x t ⟨_, k1, k2, _, k3⟩ hu, RcAt.int_tuple x t ⟨_, k1, k2, _, k3⟩ hu⟩
    | dict => exact absurd hc (by simp [cmpOk])
  | str x t =>
    cases rb with
    | none => exact ⟨EqAt.str_none x t, RcAt.str_none x t⟩
    | bool y => exact ⟨EqAt.str_bool x t y, RcAt.str_bool x t y⟩
    | int y u => exact ⟨EqAt.str_int x t y u, RcAt.str_int x t y u⟩
    | str y u => exact ⟨EqAt.str_str x t y u, RcAt.str_str x t y u⟩
    | list k1 k2 k3 k4 => exact ⟨EqAt.str_list x t ⟨_, k1, k2, _, k3⟩ hu, RcAt.str_list x t ⟨_, k1, k2, _, k3⟩ hu⟩
    | tuple k1 k2 k3 k4 => exact ⟨EqAt.str_tuple x t ⟨_, k1, k2, _, k3⟩ hu, RcAt.str_tuple x t ⟨_, k1, k2, _, k3⟩ hu⟩
    | dict k1 k2 k3 => exact ⟨DL.EqAt.str_dict x t ⟨_, _, _, k1, k2, k3⟩ hu, DL.RcAt.str_dict x t ⟨_, _, _, k1, k2, k3⟩ hu⟩
  | list h1 h2 h3 h4 =>
    cases rb with
    | none => exact ⟨EqAt.list_none ⟨_, h1, h2, _, h3⟩ hu, RcAt.list_none ⟨_, h1, h2, _, h3⟩ hu⟩
    | bool y => exact ⟨EqAt.list_bool y ⟨_, h1, h2, _, h3⟩ hu, RcAt.list_bool y ⟨_, h1, h2, _, h3⟩ hu⟩
    | int y u => exact ⟨EqAt.list_int y u ⟨_, h1, h2, _, h3⟩ hu, RcAt.list_int y u ⟨_, h1, h2, _, h3⟩ hu⟩
    | str y u => exact ⟨EqAt.list_str y u ⟨_, h1, h2, _, h3⟩ hu, RcAt.list_str y u ⟨_, h1, h2, _, h3⟩ hu⟩
    | tuple k1 k2 k3 k4 => exact ⟨EqAt.list_tuple ⟨_, h1, h2, _, h3⟩ ⟨_, k1, k2, _, k3⟩ hu, RcAt.list_tuple ⟨_, h1, h2, _, h3⟩ ⟨_, k1, k2, _, k3⟩ hu⟩
    | list => exact absurd ⟨rfl, rfl⟩ (hl _ _)
    | dict => exact absurd hc (by simp [cmpOk])
  | tuple h1 h2 h3 h4 =>
    cases rb with
    | none => exact ⟨EqAt.tuple_none ⟨_, h1, h2, _, h3⟩ hu, RcAt.tuple_none ⟨_, h1, h2, _, h3⟩ hu⟩
    | bool y => exact ⟨EqAt.tuple_bool y ⟨_, h1, h2, _, h3⟩ hu, RcAt.tuple_bool y ⟨_, h1, h2, _, h3⟩ hu⟩
    | int y u => exact ⟨EqAt.tuple_int y u ⟨_, h1, h2, _, h3⟩ hu, RcAt.tuple_int y u ⟨_, h1, h2, _, h3⟩ hu⟩
    | str y u => exact ⟨EqAt.tuple_str y u ⟨_, h1, h2, _, h3⟩ hu, RcAt.tuple_str y u ⟨_, h1, h2, _, h3⟩ hu⟩
    | list k1 k2 k3 k4 => exact ⟨EqAt.tuple_list ⟨_, h1, h2, _, h3⟩ ⟨_, k1, k2, _, k3⟩ hu, RcAt.tuple_list ⟨_, h1, h2, _, h3⟩ ⟨_, k1, k2, _, k3⟩ hu⟩
    | tuple => exact absurd ⟨rfl, rfl⟩ (ht _ _)
    | dict => exact absurd hc (by simp [cmpOk])
  | dict h1 h2 h3 =>
    cases rb with
    | str y u => exact ⟨DL.EqAt.dict_str y u ⟨_, _, _, h1, h2, h3⟩ hu, DL.RcAt.dict_str y u ⟨_, _, _, h1, h2, h3⟩ hu⟩
    | none => exact absurd hc (by simp [cmpOk])
    | bool y => exact absurd hc (by simp [cmpOk])
    | int y u => exact absurd hc (by simp [cmpOk])
    | list => exact absurd hc (by simp [cmpOk])
    | tuple => exact absurd hc (by simp [cmpOk])
    | dict => exact absurd hc (by simp [cmpOk])
mutual
theorem reads_one {h : Heap} : ∀ {d e : T} {v : Value} {as bs : List Addr}, Reads h v d as → Reads h v e bs → d = e
  | _, _, _, _, _, .none, k => by cases k; rfl
  | _, _, _, _, _, .bool b, k => by cases k; rfl
  | _, _, _, _, _, .int i t, k => by cases k; rfl
  | _, _, _, _, _, .str x t, k => by cases k; rfl
  | _, _, _, _, _, .list h1 h2 h3 h4, k => by
    cases k with
    | list k1 k2 k3 k4 =>
      rw [h1] at k1; cases k1; rw [h3] at k3; cases k3
      rw [readsAll_one h4 k4]
    | tuple k1 k2 k3 k4 => rw [h1] at k1; cases k1; exact absurd (Value.type.inj (h2.symm.trans k2)) (by decide)
    | dict k1 k2 k3 k4 => rw [h1] at k1; cases k1; exact absurd (Value.type.inj (h2.symm.trans k2)) (by decide)
  | _, _, _, _, _, .tuple h1 h2 h3 h4, k => by
    cases k with
    | tuple k1 k2 k3 k4 =>
      rw [h1] at k1; cases k1; rw [h3] at k3; cases k3
      rw [readsAll_one h4 k4]
    | list k1 k2 k3 k4 => rw [h1] at k1; cases k1; exact absurd (Value.type.inj (h2.symm.trans k2)) (by decide)
    | dict k1 k2 k3 k4 => rw [h1] at k1; cases k1; exact absurd (Value.type.inj (h2.symm.trans k2)) (by decide)
  | _, _, _, _, _, .dict h1 h2 h3 h4 h5, k => by
    cases k with
    | dict k1 k2 k3 k4 k5 =>
      rw [h1] at k1; cases k1; rw [h3] at k3; cases k3
      have e1 := readsAll_one h4 k4
      have e2 := readsAll_one h5 k5
      congr 1
      refine List.ext_getElem? fun i => ?_
      have f1 := congrArg (fun l => l[i]?) e1
      have f2 := congrArg (fun l => l[i]?) e2
      simp only [List.getElem?_map] at f1 f2
      revert f1 f2
      generalize (_ : List (T × T))[i]? = x
      generalize (_ : List (T × T))[i]? = y
      intro f1 f2
      cases x <;> cases y <;> simp_all
      rename_i p q
      exact Prod.ext f1 f2
    | list k1 k2 k3 k4 => rw [h1] at k1; cases k1; exact absurd (Value.type.inj (h2.symm.trans k2)) (by decide)
    | tuple k1 k2 k3 k4 => rw [h1] at k1; cases k1; exact absurd (Value.type.inj (h2.symm.trans k2)) (by decide)
theorem readsAll_one {h : Heap} : ∀ {ds es : List T} {vs : List Value} {as bs : List Addr}, ReadsAll h vs ds as → ReadsAll h vs es bs → ds = es
  | _, _, _, _, _, .nil, k => by cases k; rfl
  | _, _, _, _, _, .cons h1 h2, k => by
    cases k with
    | cons k1 k2 => rw [reads_one h1 k1, readsAll_one h2 k2]
end
mutual
theorem cmpOk_refl : ∀ d : T, cmpOk d d = true → PyData.eqv d d = true
  | .none, _ => by simp [PyData.eqv]
  | .bool b, _ => by simp [PyData.eqv]
  | .int i, _ => by simp [PyData.eqv]
  | .str x, _ => by simp [PyData.eqv]
  | .list xs, h => by simp only [PyData.eqv]; exact cmpOks_refl xs (by simpa [cmpOk] using h)
  | .tuple xs, h => by simp only [PyData.eqv]; exact cmpOks_refl xs (by simpa [cmpOk] using h)
  | .dict _, h => by simp [cmpOk] at h
theorem cmpOks_refl : ∀ xs : List T, cmpOks xs xs = true → PyData.eqvAll xs xs = true
  | [], _ => by simp [PyData.eqvAll]
  | x :: xs, h => by
    have h' : cmpOk x x = true ∧ cmpOks xs xs = true := by simpa [cmpOks] using h
    simp [PyData.eqvAll, cmpOk_refl x h'.1, cmpOks_refl xs h'.2]
end
theorem cmpOks_at : ∀ {xs ys : List T} (j : Nat) (h1 : j < xs.length) (h2 : j < ys.length), cmpOks xs ys = true → cmpOk xs[j] ys[j] = true
  | [], _, _, h, _, _ => absurd h (Nat.not_lt_zero _)
  | _ :: _, [], _, _, h, _ => absurd h (Nat.not_lt_zero _)
  | x :: xs, y :: ys, 0, _, _, h => by simp [cmpOks] at h; exact h.1
  | x :: xs, y :: ys, j + 1, h1, h2, h => by
    simp [cmpOks] at h
    exact cmpOks_at (xs := xs) (ys := ys) j (Nat.lt_of_succ_lt_succ h1) (Nat.lt_of_succ_lt_succ h2) h.2
mutual
theorem eq_trees : ∀ (d e : T) (A : Around) (s : Shared) (a b : Value) (as bs : List Addr), Reads s.heap a d as → Reads s.heap b e bs → cmpOk d e = true → A.units + min d.depth e.depth < cLine →
    SeqAt.EqAt A s a b (PyData.eqv d e) ∧ SeqAt.RcAt A s a b (PyData.eqv d e)
  | .list xs, .list ys, A, s, _, _, _, _, .list (a := l) (vs := vs) h1 h2 h3 h4, .list (a := l') (vs := vs') k1 k2 k3 k4, hc, hu => by
    have hl : s.heap.IsList l vs := ⟨_, h1, h2, _, h3⟩
    have hl' : s.heap.IsList l' vs' := ⟨_, k1, k2, _, k3⟩
    have n1 : vs.size = xs.length := by simpa using SeqAt.ReadsAll.length _ _ _ h4
    have n2 : vs'.size = ys.length := by simpa using SeqAt.ReadsAll.length _ _ _ k4
    simp only [PyData.eqv]
    have rc : SeqAt.RcAt A s (.ref l) (.ref l') (PyData.eqvAll xs ys) := by
      by_cases hsz : vs.size = vs'.size
      · rw [← SeqAt.eqvAll_same_length (by omega : xs.length = ys.length), ← n1]
        have hc' : cmpOks xs ys = true := by
          simp only [cmpOk, Bool.or_eq_true, bne_iff_ne] at hc
          exact hc.resolve_left fun z => z (by omega)
        refine SeqAt.RcAt.lists hl hl' hsz (SeqAt.room_here hu) fun j j1 j2 => ?_
        have := eq_treesAll xs ys A.in1 s vs.toList vs'.toList _ _ h4 k4 hc' (SeqAt.room_in hu) j (by simpa using j1) (by simpa using j2)
        simpa using this
      · rw [SeqAt.eqvAll_other_length (by omega : xs.length ≠ ys.length)]
        exact SeqAt.RcAt.lists_lengths hl hl' (by simpa using hsz) (SeqAt.room_here hu)
    refine ⟨?_, rc⟩
    by_cases hll : l = l'
    · subst hll
      have e : PyData.list xs = PyData.list ys := reads_one (.list h1 h2 h3 h4) (.list k1 k2 k3 k4)
      injection e with e
      subst e
      rw [cmpOks_refl xs (by simpa [cmpOk] using hc)]
      exact SeqAt.EqAt.same _
    · exact SeqAt.EqAt.of_refs hll rc
  | .tuple xs, .tuple ys, A, s, _, _, _, _, .tuple (a := l) (vs := vs) h1 h2 h3 h4, .tuple (a := l') (vs := vs') k1 k2 k3 k4, hc, hu => by
    have hl : s.heap.IsTuple l vs := ⟨_, h1, h2, _, h3⟩
    have hl' : s.heap.IsTuple l' vs' := ⟨_, k1, k2, _, k3⟩
    have n1 : vs.size = xs.length := by simpa using SeqAt.ReadsAll.length _ _ _ h4
    have n2 : vs'.size = ys.length := by simpa using SeqAt.ReadsAll.length _ _ _ k4
    have hc' : cmpOks xs ys = true := by simpa only [cmpOk] using hc
    simp only [PyData.eqv]
    have rc : SeqAt.RcAt A s (.ref l) (.ref l') (PyData.eqvAll xs ys) := by
      rw [← SeqAt.eqvAll_eq xs ys, ← n1, ← n2]
      refine SeqAt.RcAt.tuples hl hl' (SeqAt.room_here hu) fun j j1 j2 => ?_
      have := eq_treesAll xs ys A.in1 s vs.toList vs'.toList _ _ h4 k4 hc' (SeqAt.room_in hu) j (by simpa using j1) (by simpa using j2)
      simpa using this
    refine ⟨?_, rc⟩
    by_cases hll : l = l'
    · subst hll
      have e : PyData.tuple xs = PyData.tuple ys := reads_one (.tuple h1 h2 h3 h4) (.tuple k1 k2 k3 k4)
      injection e with e
      subst e
      rw [cmpOks_refl xs hc']
      exact SeqAt.EqAt.same _
    · exact SeqAt.EqAt.of_refs hll rc
  | .none, e, A, s, _, _, _, _, ra, rb, hc, hu => eq_flat ra rb hc (SeqAt.room_here hu) (fun _ _ z => nomatch z.1) fun _ _ z => nomatch z.1
  | .bool _, e, A, s, _, _, _, _, ra, rb, hc, hu => eq_flat ra rb hc (SeqAt.room_here hu) (fun _ _ z => nomatch z.1) fun _ _ z => nomatch z.1
  | .int _, e, A, s, _, _, _, _, ra, rb, hc, hu => eq_flat ra rb hc (SeqAt.room_here hu) (fun _ _ z => nomatch z.1) fun _ _ z => nomatch z.1
  | .str _, e, A, s, _, _, _, _, ra, rb, hc, hu => eq_flat ra rb hc (SeqAt.room_here hu) (fun _ _ z => nomatch z.1) fun _ _ z => nomatch z.1
  | .dict _, e, A, s, _, _, _, _, ra, rb, hc, hu => eq_flat ra rb hc (SeqAt.room_here hu) (fun _ _ z => nomatch z.1) fun _ _ z => nomatch z.1
  | .list _, .none, A, s, _, _, _, _, ra, rb, hc, hu => eq_flat ra rb hc (SeqAt.room_here hu) (fun _ _ z => nomatch z.2) fun _ _ z => nomatch z.2
  | .list _, .bool _, A, s, _, _, _, _, ra, rb, hc, hu => eq_flat ra rb hc (SeqAt.room_here hu) (fun _ _ z => nomatch z.2) fun _ _ z => nomatch z.2
  | .list _, .int _, A, s, _, _, _, _, ra, rb, hc, hu => eq_flat ra rb hc (SeqAt.room_here hu) (fun _ _ z => nomatch z.2) fun _ _ z => nomatch z.2
  | .list _, .str _, A, s, _, _, _, _, ra, rb, hc, hu => eq_flat ra rb hc (SeqAt.room_here hu) (fun _ _ z => nomatch z.2) fun _ _ z => nomatch z.2
  | .list _, .tuple _, A, s, _, _, _, _, ra, rb, hc, hu => eq_flat ra rb hc (SeqAt.room_here hu) (fun _ _ z => nomatch z.2) fun _ _ z => nomatch z.1
  | .list _, .dict _, A, s, _, _, _, _, ra, rb, hc, hu => eq_flat ra rb hc (SeqAt.room_here hu) (fun _ _ z => nomatch z.2) fun _ _ z => nomatch z.2
  | .tuple _, .none, A, s, _, _, _, _, ra, rb, hc, hu => eq_flat ra rb hc (SeqAt.room_here hu) (fun _ _ z => nomatch z.2) fun _ _ z => nomatch z.2
  | .tuple _, .bool _, A, s, _, _, _, _, ra, rb, hc, hu => eq_flat ra rb hc (SeqAt.room_here hu) (fun _ _ z => nomatch z.2) fun _ _ z => nomatch z.2
  | .tuple _, .int _, A, s, _, _, _, _, ra, rb, hc, hu => eq_flat ra rb hc (SeqAt.room_here hu) (fun _ _ z => nomatch z.2) fun _ _ z => nomatch z.2
  | .tuple _, .str _, A, s, _, _, _, _, ra, rb, hc, hu => eq_flat ra rb hc (SeqAt.room_here hu) (fun _ _ z => nomatch z.2) fun _ _ z => nomatch z.2
  | .tuple _, .list _, A, s, _, _, _, _, ra, rb, hc, hu => eq_flat ra rb hc (SeqAt.room_here hu) (fun _ _ z => nomatch z.1) fun _ _ z => nomatch z.2
  | .tuple _, .dict _, A, s, _, _, _, _, ra, rb, hc, hu => eq_flat ra rb hc (SeqAt.room_here hu) (fun _ _ z => nomatch z.2) fun _ _ z => nomatch z.2
theorem eq_treesAll : ∀ (xs ys : List T) (A : Around) (s : Shared) (vs ws : List Value) (as bs : List Addr), ReadsAll s.heap vs xs as → ReadsAll s.heap ws ys bs → cmpOks xs ys = true →
    A.units + min (PyData.depthAll xs) (PyData.depthAll ys) < cLine → ∀ j (h1 : j < vs.length) (h2 : j < ws.length), SeqAt.EqAt A s vs[j] ws[j] (SeqAt.pairEq xs ys j)
  | [], _, _, _, _, _, _, _, ra, _, _, _, j, h1, _ => by cases ra; exact absurd h1 (Nat.not_lt_zero _)
  | _ :: _, [], _, _, _, _, _, _, _, rb, _, _, j, _, h2 => by cases rb; exact absurd h2 (Nat.not_lt_zero _)
  | x :: xs, y :: ys, A, s, _, _, _, _, ra, rb, hc, hu, j, h1, h2 => by
    have hc' : cmpOk x y = true ∧ cmpOks xs ys = true := by simpa [cmpOks] using hc
    cases ra with
    | cons r rs =>
      cases rb with
      | cons r' rs' =>
        cases j with
        | zero => exact (eq_trees x y A s _ _ _ _ r r' hc'.1 (SeqAt.room_head hu)).1
        | succ j => exact eq_treesAll xs ys A s _ _ _ _ rs rs' hc'.2 (SeqAt.room_tail hu) j (Nat.lt_of_succ_lt_succ h1) (Nat.lt_of_succ_lt_succ h2)
end
/-! ### repr of trees -/
section
variable {X : Cx} {pins : List (Addr × Obj)} {σ : St} {H : Hp} {s : Shared}
/-- a dict's entries, its keys, its values as read -/
theorem dct_read (I : Inv X pins σ H s) {a : Addr} {kvs : List (Key × V)} (h : Rd H a (.dK kvs)) : ∃ o es n vs, s.heap.get? a = some o ∧ o.cls = .type "dict" ∧ o.data = .dict es n ∧ (a == sysModules) = false ∧
    Vals (kvs.map (·.2)) vs ∧ es.toList.map (·.val) = vs ∧ ∃ as, ReadsAll s.heap (es.toList.map (·.key)) (kvs.map fun p => keyT p.1) as := by
  obtain ⟨_, hs, vs, kv, o, es, ep, h1, h2, h3, h4, h5, _⟩ := dk_rd I.hok h
  obtain ⟨v1, v2⟩ := kv_vals kv
  obtain ⟨as, zk⟩ := keys_read (h := s.heap) h5
  have : vs.map (fun p => keyT p.1) = kvs.map (fun p => keyT p.1) := by
    have := congrArg (List.map keyT) v2
    simp only [List.map_map] at this
    exact this.symm
  rw [this] at zk
  exact ⟨o, es, ep, _, h1, h2.1, h3, hs, v1, vals_of_pairs h5, as, zk⟩
theorem keys_noDict : ∀ kvs : List (Key × V), PyData.hasDictAll (kvs.map fun p => keyT p.1) = false
  | [] => by simp [PyData.hasDictAll]
  | (.inl i, _) :: r => by simp [PyData.hasDictAll, PyData.hasDict, keys_noDict r]
  | (.inr i, _) :: r => by simp [PyData.hasDictAll, PyData.hasDict, keys_noDict r]
theorem nil_list {xs : List V} {as : List Addr} {ts : List T} (q : RVs X.K H xs ts as) (h : xs = []) : ts = [] := by subst h; cases q; rfl
mutual
theorem RV.shownK (I : Inv X pins σ H s) : ∀ {v : V} {t : T} {as : List Addr} {u : Value}, RV X.K H v t as → RelV v u → t.showable = true → t.shown.length ≤ sizeLine →
    ∃ bs, ReadAtMost s.heap t.depth bs ∧ ReprK X.prog X.w bs s.heap t.depth u t.shown
  | _, _, _, _, .non, r, _, _ => by cases r; exact ⟨[], (fun _ h => nomatch h), by simp only [PyData.shown]; exact .of_is ReprIs.none _ _ _⟩
  | _, _, _, _, .bl b, r, _, _ => by cases r; exact ⟨[], (fun _ h => nomatch h), by simp only [PyData.shown]; exact .of_is (ReprIs.bool b) _ _ _⟩
  | _, _, _, _, .int i, r, hs, _ => by obtain ⟨t, rfl⟩ := r; exact ⟨[], (fun _ h => nomatch h), by simp only [PyData.shown]; exact .of_is (ReprIs.int t (by simpa [PyData.showable] using hs)) _ _ _⟩
  | _, _, _, _, .str x, r, _, hz => by obtain ⟨t, rfl⟩ := r; exact ⟨[], (fun _ h => nomatch h), by simp only [PyData.shown]; exact .of_is (ReprIs.str x t (by simpa only [PyData.shown] using hz)) _ _ _⟩
  | _, _, _, _, .tup (ts := ts) h q, r, hs, hz => by
    have hr := r
    cases r
    obtain ⟨its, rv, ⟨o, ho, hc, n, hd⟩, _⟩ := I.tuple h
    have hz' : (tupleText (PyData.shownAll ts)).length ≤ sizeLine := by simpa only [PyData.shown] using hz
    obtain ⟨bs, hb, hk⟩ := RVs.shownK I q rv (by simpa [PyData.showable] using hs) fun t ht => Nat.le_trans (tupleText_mem_le ht) hz'
    obtain ⟨cs, rd⟩ := RV.reads I (.tup h q) hr
    have hna := not_mem_of_deeper rd (by simp only [PyData.depth]; omega) hb
    refine ⟨_, ReadAtMost.cons rd (by simp only [PyData.depth]; omega) hb, ?_⟩
    simp only [PyData.depth, PyData.shown]
    exact ReprK.tuple ho hc hd hna (by simpa using hk)
  | _, _, _, _, .lst (ts := ts) h q, r, hs, hz => by
    have hr := r
    cases r
    obtain ⟨its, rv, ⟨o, n, ho, hc, _, hd⟩, _⟩ := I.list (.inl h)
    have hz' : (listText (PyData.shownAll ts)).length ≤ sizeLine := by simpa only [PyData.shown] using hz
    obtain ⟨bs, hb, hk⟩ := RVs.shownK I q rv (by simpa [PyData.showable] using hs) fun t ht => Nat.le_trans (listText_mem_le ht) hz'
    obtain ⟨cs, rd⟩ := RV.reads I (.lst h q) hr
    have hna := not_mem_of_deeper rd (by simp only [PyData.depth]; omega) hb
    refine ⟨_, ReadAtMost.cons rd (by simp only [PyData.depth]; omega) hb, ?_⟩
    simp only [PyData.depth, PyData.shown]
    cases its with
    | nil =>
      cases rv
      obtain rfl := nil_list q rfl
      simp only [PyData.shownAll, listText_nil]
      exact ReprK.more (ReprK.level_le (ReprK.listEmpty ho hc hd) (Nat.le_succ _)) fun b hb => hb
    | cons x l => exact ReprK.list ho hc hd hna (by simpa using hk.length_eq) fun i y e => hk.item i y (by simpa using e)
  | _, _, _, _, .lstK (ts := ts) (its := its) h1 h2 h3 h4 h5 h6 q, r, hs, hz => by
    have hr := r
    cases r
    have ho := I.kIn _ _ h1
    have hz' : (listText (PyData.shownAll ts)).length ≤ sizeLine := by simpa only [PyData.shown] using hz
    obtain ⟨bs, hb, hk⟩ := RVs.shownK I q h6 (by simpa [PyData.showable] using hs) fun t ht => Nat.le_trans (listText_mem_le ht) hz'
    obtain ⟨cs, rd⟩ := RV.reads I (.lstK h1 h2 h3 h4 h5 h6 q) hr
    have hna := not_mem_of_deeper rd (by simp only [PyData.depth]; omega) hb
    refine ⟨_, ReadAtMost.cons rd (by simp only [PyData.depth]; omega) hb, ?_⟩
    simp only [PyData.depth, PyData.shown]
    obtain ⟨l⟩ := its
    cases l with
    | nil =>
      have h6' := h6.length
      obtain rfl := nil_list q (List.eq_nil_of_length_eq_zero (by simpa using h6'))
      simp only [PyData.shownAll, listText_nil]
      exact ReprK.more (ReprK.level_le (ReprK.listEmpty ho h2 h4) (Nat.le_succ _)) fun b hb => hb
    | cons x l => exact ReprK.list ho h2 h4 hna (by simpa using hk.length_eq) fun i y e => hk.item i y (by simpa using e)
  | _, _, _, _, .dct (a := aa) (kvs := kvs) (ts := ts) h q, r, hs, hz => by
    have hr := r
    cases r
    obtain ⟨o, es, n, vs, ho, hc, hd, hsys, rv, ev, ka, kr⟩ := dct_read I h
    have hl : kvs.length = ts.length := by have := RVs.length q; simpa using this
    obtain ⟨e1, e2⟩ := zipT hl
    generalize hD : List.zipWith (fun (p : Key × V) (t : T) => (keyT p.1, t)) kvs ts = D at *
    have hD' : List.zipWith (fun (p : Key × V) (t : T) => ((match p.1 with | .inl i => PyData.int i | .inr x => PyData.str x), t)) kvs ts = D := hD
    have hz' : (dictText (PyData.shownKv D)).length ≤ sizeLine := by simpa only [PyData.shown] using hz
    obtain ⟨hs1, hs2⟩ := PyData.showableKv_split D (by simpa [PyData.showable] using hs)
    obtain ⟨b1, hb1, k1⟩ := ReprAllK.of_readsAll (prog := X.prog) (w := X.w) kr (by rw [← e1]; exact hs1) (fun z => by rw [keys_noDict] at z; cases z) fun t ht => by
      rw [← e1] at ht
      obtain ⟨p, hp, hl⟩ := PyData.shownKv_key_le D t ht
      exact Nat.le_trans hl (Nat.le_trans (dictText_mem_le hp) hz')
    obtain ⟨b2, hb2, k2⟩ := RVs.shownK I q rv (by rw [← e2]; exact hs2) fun t ht => by
      rw [← e2] at ht
      obtain ⟨p, hp, hl⟩ := PyData.shownKv_val_le D t ht
      exact Nat.le_trans hl (Nat.le_trans (dictText_mem_le hp) hz')
    rw [← e1] at hb1 k1
    rw [← e2] at hb2 k2
    rw [← ev] at k2
    obtain ⟨cs, rd⟩ := RV.reads I (.dct h q) hr
    replace rd : Reads s.heap (.ref aa) (.dict D) cs := by rw [← hD]; exact rd
    have hb : ReadAtMost s.heap (PyData.depthKv D) (b1 ++ b2) := (hb1.mono (PyData.depthAll_keys_le D)).append (hb2.mono (PyData.depthAll_vals_le D))
    have hna := not_mem_of_deeper rd (by simp only [PyData.depth]; omega) hb
    refine ⟨_, ReadAtMost.cons rd (by simp only [PyData.depth]; omega) hb, ?_⟩
    simp only [PyData.depth, PyData.shown, PyData.shownKv_eq]
    exact ReprK.dict ho hc hd hsys hna (ReprEntriesK.of_two es.toList _ _ (k1.more_le (fun b hb => List.mem_append_left _ hb) (PyData.depthAll_keys_le D)) (k2.more_le (fun b hb => List.mem_append_right _ hb) (PyData.depthAll_vals_le D)))
theorem RVs.shownK (I : Inv X pins σ H s) : ∀ {vs : List V} {ts : List T} {as : List Addr} {us : List Value}, RVs X.K H vs ts as → Vals vs us → PyData.showableAll ts = true → (∀ t ∈ PyData.shownAll ts, t.length ≤ sizeLine) →
    ∃ bs, ReadAtMost s.heap (PyData.depthAll ts) bs ∧ ReprAllK X.prog X.w bs s.heap (PyData.depthAll ts) us (PyData.shownAll ts)
  | _, _, _, _, .nil, r, _, _ => by cases r; exact ⟨[], (fun _ h => nomatch h), by simp only [PyData.shownAll]; exact .nil⟩
  | _, _, _, _, .cons (t := t) (ts := ts) h q, r, hs, hz => by
    cases r with
    | cons r1 r2 =>
      have hs' : t.showable = true ∧ PyData.showableAll ts = true := by simpa [PyData.showableAll] using hs
      obtain ⟨b1, hb1, k1⟩ := RV.shownK I h r1 hs'.1 (hz _ (by simp only [PyData.shownAll]; exact List.mem_cons_self ..))
      obtain ⟨b2, hb2, k2⟩ := RVs.shownK I q r2 hs'.2 fun t ht => hz t (by simp only [PyData.shownAll]; exact List.mem_cons_of_mem _ ht)
      refine ⟨b1 ++ b2, ?_, ?_⟩
      · simp only [PyData.depthAll]
        exact (hb1.mono (Nat.le_max_left _ _)).append (hb2.mono (Nat.le_max_right _ _))
      · simp only [PyData.depthAll, PyData.shownAll]
        exact .cons ((k1.more fun b hb => List.mem_append_left _ hb).level_le (Nat.le_max_left _ _)) (k2.more_le (fun b hb => List.mem_append_right _ hb) (Nat.le_max_right _ _))
end

theorem RV.shows (I : Inv X pins σ H s) {a : Addr} {t : T} {as : List Addr} (q0 : RV X.K H (.ref a) t as) (hs : t.showable = true) (hz : t.shown.length ≤ sizeLine) : ∃ T idr, ShowsBy X.prog X.w s.heap a t T idr := by
  have rr : RelV (.ref a) (.ref a) := rfl
  obtain ⟨cs, rd⟩ := RV.reads I q0 rr
  cases q0 with
  | @tup _ _ ts _ h q =>
    obtain ⟨its, rv, ⟨o, ho, hc, n, hd⟩, _⟩ := I.tuple h
    have hz' : (tupleText (PyData.shownAll ts)).length ≤ sizeLine := by simpa only [PyData.shown] using hz
    obtain ⟨bs, hb, hk⟩ := RVs.shownK I q rv (by simpa [PyData.showable] using hs) fun t ht => Nat.le_trans (tupleText_mem_le ht) hz'
    have hna := not_mem_of_deeper rd (by simp only [PyData.depth]; omega) hb
    refine ⟨"tuple", "tuple.__repr__", F.slot_tuple_repr, F.slot_tuple_str, F.slot_tuple_format, fun s hk0 => ⟨o, hk0 _ _ ho, hc⟩, fun A E s Q hg hu hk0 hQ => ?_⟩
    simp only [PyData.depth] at hu
    simp only [PyData.shown] at hQ
    exact call_tuple_reprK ho hc hd hna (by simpa using hk) hg (fun b _ => Clear.nil b) hu hk0 hQ hz'
  | @lst _ _ ts _ h q =>
    obtain ⟨its, rv, ⟨o, n, ho, hc, _, hd⟩, _⟩ := I.list (.inl h)
    have hz' : (listText (PyData.shownAll ts)).length ≤ sizeLine := by simpa only [PyData.shown] using hz
    obtain ⟨bs, hb, hk⟩ := RVs.shownK I q rv (by simpa [PyData.showable] using hs) fun t ht => Nat.le_trans (listText_mem_le ht) hz'
    have hna := not_mem_of_deeper rd (by simp only [PyData.depth]; omega) hb
    refine ⟨"list", "list.__repr__", F.slot_list_repr.toG, F.slot_list_str, F.slot_list_format, fun s hk0 => ⟨o, hk0 _ _ ho, hc⟩, fun A E s Q hg hu hk0 hQ => ?_⟩
    simp only [PyData.depth] at hu
    simp only [PyData.shown] at hQ
    cases its with
    | nil =>
      cases rv
      obtain rfl := nil_list q rfl
      simp only [PyData.shownAll, listText_nil] at hQ
      exact call_list_repr_empty ⟨o, hk0 _ _ ho, hc⟩ (hk0 _ _ ho) hd (hQ s.heap _ _ fun _ _ e => e)
    | cons x l => exact call_list_reprK ho hc hd hna (by simpa using hk.length_eq) (fun i y e => hk.item i y (by simpa using e)) hg (fun b _ => Clear.nil b) hu hk0 hQ hz'
  | @lstK _ _ ts _ _ its _ h1 h2 h3 h4 h5 h6 q =>
    have ho := I.kIn _ _ h1
    have hz' : (listText (PyData.shownAll ts)).length ≤ sizeLine := by simpa only [PyData.shown] using hz
    obtain ⟨bs, hb, hk⟩ := RVs.shownK I q h6 (by simpa [PyData.showable] using hs) fun t ht => Nat.le_trans (listText_mem_le ht) hz'
    have hna := not_mem_of_deeper rd (by simp only [PyData.depth]; omega) hb
    refine ⟨"list", "list.__repr__", F.slot_list_repr.toG, F.slot_list_str, F.slot_list_format, fun s hk0 => ⟨_, hk0 _ _ ho, h2⟩, fun A E s Q hg hu hk0 hQ => ?_⟩
    simp only [PyData.depth] at hu
    simp only [PyData.shown] at hQ
    obtain ⟨l⟩ := its
    cases l with
    | nil =>
      have h6' := h6.length
      obtain rfl := nil_list q (List.eq_nil_of_length_eq_zero (by simpa using h6'))
      simp only [PyData.shownAll, listText_nil] at hQ
      exact call_list_repr_empty ⟨_, hk0 _ _ ho, h2⟩ (hk0 _ _ ho) h4 (hQ s.heap _ _ fun _ _ e => e)
    | cons x l => exact call_list_reprK ho h2 h4 hna (by simpa using hk.length_eq) (fun i y e => hk.item i y (by simpa using e)) hg (fun b _ => Clear.nil b) hu hk0 hQ hz'
  | @dct _ kvs ts _ h q =>
    obtain ⟨o, es, n, vs, ho, hc, hd, hsys, rv, ev, ka, kr⟩ := dct_read I h
    have hl : kvs.length = ts.length := by have := RVs.length q; simpa using this
    obtain ⟨e1, e2⟩ := zipT hl
    generalize hD : List.zipWith (fun (p : Key × V) (t : T) => (keyT p.1, t)) kvs ts = D at *
    have hz' : (dictText (PyData.shownKv D)).length ≤ sizeLine := by simpa only [PyData.shown] using hz
    obtain ⟨hs1, hs2⟩ := PyData.showableKv_split D (by simpa [PyData.showable] using hs)
    obtain ⟨b1, hb1, k1⟩ := ReprAllK.of_readsAll (prog := X.prog) (w := X.w) kr (by rw [← e1]; exact hs1) (fun z => by rw [keys_noDict] at z; cases z) fun t ht => by
      rw [← e1] at ht
      obtain ⟨p, hp, hl⟩ := PyData.shownKv_key_le D t ht
      exact Nat.le_trans hl (Nat.le_trans (dictText_mem_le hp) hz')
    obtain ⟨b2, hb2, k2⟩ := RVs.shownK I q rv (by rw [← e2]; exact hs2) fun t ht => by
      rw [← e2] at ht
      obtain ⟨p, hp, hl⟩ := PyData.shownKv_val_le D t ht
      exact Nat.le_trans hl (Nat.le_trans (dictText_mem_le hp) hz')
    rw [← e1] at hb1 k1
    rw [← e2] at hb2 k2
    rw [← ev] at k2
    have hb : ReadAtMost s.heap (PyData.depthKv D) (b1 ++ b2) := (hb1.mono (PyData.depthAll_keys_le D)).append (hb2.mono (PyData.depthAll_vals_le D))
    replace rd : Reads s.heap (.ref a) (.dict D) cs := rd
    have hna := not_mem_of_deeper rd (by simp only [PyData.depth]; omega) hb
    refine ⟨"dict", "dict.__repr__", F.slot_dict_repr, F.slot_dict_str, F.slot_dict_format, fun s hk0 => ⟨o, hk0 _ _ ho, hc⟩, fun A E s Q hg hu hk0 hQ => ?_⟩
    have hu' : A.units + (PyData.depthKv D + 1) < cLine := by
      have e : PyData.depth (.dict D) = PyData.depthKv D + 1 := by simp only [PyData.depth]
      rw [← e]; exact hu
    have hQ' : ∀ h' u tk, (∀ b o, s.heap.get? b = some o → h'.get? b = some o) → Q (.str (dictText (List.zipWith (fun k v : Str => k ++ ": " ++ v) (PyData.shownAll (D.map (·.1))) (PyData.shownAll (D.map (·.2))))) u) { s with heap := h', toks := tk } := fun h' u tk hk => by
      have e : PyData.shown (.dict D) = dictText (PyData.shownKv D) := by simp only [PyData.shown]
      have := hQ h' u tk hk
      rw [← PyData.shownKv_eq, ← e]; exact this
    exact call_dict_reprK ho hc hd hsys hna (ReprEntriesK.of_two es.toList _ _ (k1.more_le (fun b hb => List.mem_append_left _ hb) (PyData.depthAll_keys_le D)) (k2.more_le (fun b hb => List.mem_append_right _ hb) (PyData.depthAll_vals_le D)))
      hg (fun b _ => Clear.nil b) hu' hk0 hQ' (by rw [← PyData.shownKv_eq]; exact hz')
end
end DL

set_option Elab.async false
set_option linter.all false
set_option maxRecDepth 100000
set_option maxHeartbeats 4000000
/-! THE DATA LAYER, part 10: defs that are run where no repr is under way (so that repr may be called). -/
namespace DL
open PySem PySem.Spec L2
open PyProof.Rows hiding St

/-- room, and no repr under way -/
structure Rm (k : Nat) (A : Around) : Prop where
  room : Room k A
  gd : A.guards = some []
theorem Rm.deeper {k : Nat} {A : Around} (r : Rm (k + 1) A) (env : Env) : Rm k (A.deeper env) := ⟨r.room.deeper env, r.gd⟩
theorem Rm.mono {j k : Nat} {A : Around} (r : Rm k A) (h : j ≤ k) : Rm j A := ⟨r.room.mono h, r.gd⟩
/-- a def's promise, at such places -/
structure FnG (P : Program) (w : World) (K : PySem.W.Frag) (mg : Str → Option Value) (base : Heap) (CX : CXT) (k : Nat) (f : Addr) (fd : FuncData) (ps : List Str) (sp : Sp) : Prop where
  len : ∀ vs H Q E, sp vs H Q E → vs.length = ps.length
  run : ∀ (A : Around) (outer : List Env) (s : Shared) (H : Hp) (args : Args) (us : List Value) (vs : List V) (Q : VK) (E : XK), Rm k A → Env0 P w K mg base A outer s H → BindsTo s fd args (ps.zip us) → Vals vs us → sp vs H Q E →
    codeAny (model P w) A (.call (.ref f) args) (CR CX outer P w H s Q E) s
section
variable {P : Program} {w : World} {K : PySem.W.Frag} {mg : Str → Option Value} {base : Heap} {x qual : Str} {params : Arguments} {body : List Stmt} {scope : Scope} {dvs : List V} {kws : List (Str × V)} {f : Addr} {fd : FuncData} {CX : CXT} {k : Nat} {sp : Sp} {N ps : List Str}
theorem FnG.mono {j : Nat} (F : FnG P w K mg base CX j f fd ps sp) (h : j ≤ k) : FnG P w K mg base CX k f fd ps sp :=
  ⟨F.len, fun A outer s H args us vs Q E hr => F.run A outer s H args us vs Q E (hr.mono h)⟩
theorem FnG.imp {sp' : Sp} (F : FnG P w K mg base CX k f fd ps sp) (h : ∀ vs H Q E, sp' vs H Q E → sp vs H Q E) : FnG P w K mg base CX k f fd ps sp' :=
  ⟨fun vs H Q E q => F.len vs H Q E (h _ _ _ _ q), fun A outer s H args us vs Q E hr he hb hv hs => F.run A outer s H args us vs Q E hr he hb hv (h _ _ _ _ hs)⟩
/-- a def by its body -/
theorem fnG_of (F : FunD K x qual params body scope dvs kws f fd) (S : FnScope N ps scope) (len : ∀ vs H Q E, sp vs H Q E → vs.length = ps.length)
    (hbody : ∀ (cdv : Value) (A : Around) (outer : List Env) (s : Shared) (H : Hp) (vs : List V) (Q : VK) (E : XK), Rm k (A.deeper (envOfC qual scope s.heap.objs.size f cdv)) → sp vs H Q E →
      ∃ t, PSs (cxOf CX P w K mg base N qual scope f cdv A outer s H E) body t ∧ t { nx := fun _ H' => Q .non H', rt := Q } (L2.start N vs) H) : FnG P w K mg base CX (k + 1) f fd ps sp := by
  obtain ⟨oc, od, dV, kV, doc, pm, an, cdv, ct, osl, rfl, lk, hcd, _, _⟩ := F.ex
  refine ⟨len, fun A outer s H args us vs Q E hr e0 hb r hsp => ?_⟩
  have hl := len _ _ _ _ hsp
  have up : ∀ b o, base.get? b = some o → s.heap.get? b = some o := fun b o e => (e0.bs b o e).1
  have kin : K.In s.heap := e0.mod.kin.keeps up
  have nol : s.heap.NoLimit := e0.mod.nolimit.keeps up
  refine codeAny_call_function hr.room.depth (kin _ _ lk) rfl S.co S.gen rfl (PySem.W.codeRec_of kin hcd) (hb _ _ _ _ ?_)
  refine wpAny_newFunctionEnv_cells S.kind (fun ⟨n, v⟩ hy => (S.par n (List.of_mem_zip hy).1).imp (fun q => q) fun q => ⟨q, PySem.W.cellsFrom_some _ _ _ (.inl q)⟩) fun env he s1 x => ?_
  subst he
  obtain ⟨t, ht, hq⟩ := hbody cdv A outer s H vs Q E (hr.deeper _) hsp
  refine ⟨nol.keeps x.toInCall.keep, codeAny_func (wpAny_mono (ht.run [] s1 (L2.start N vs) H _ (inv_start S hr.room.hd e0 hl r x) hq) (fun fl s' hs => ?_) fun e s' hs => hs)⟩
  cases fl with
  | ret u => obtain ⟨v, σ', H', J, rv, q⟩ := hs; exact ⟨v, H', J.os, J.bare, J.base, J.hok, rv, q⟩
  | next => obtain ⟨σ', H', J, q⟩ := hs; exact ⟨V.non, H', J.os, J.bare, J.base, J.hok, rfl, q⟩
  | brk => obtain ⟨_, _, _, q⟩ := hs; exact q.elim
  | cont => obtain ⟨_, _, _, q⟩ := hs; exact q.elim
end
section
variable {X : Cx} {CX : CXT} {k : Nat} {f : Addr} {fd : FuncData} {ps : List Str} {sp : Sp} {E : XK} {x : Str} {p pos : Pos} {e : Expr} {es : List Expr} {t : TA}
theorem run_g {pins : List (Addr × Obj)} {σ : St} {H : Hp} {s : Shared} {Q : VK} {us : List Value} {vs : List V} (F : FnG X.prog X.w X.K X.mg X.base CX k f fd ps sp) (hr : Rm k X.A) (hb : Binds X.K fd ps []) (hx : Passes CX X E)
    (I : Inv X pins σ H s) (r : Vals vs us) (h : sp vs H Q E) : wpAny (model X.prog X.w) X.A (call (.ref f) us) (EP X pins σ Q) X.xe s := by
  have hl : us.length = ps.length := r.length.symm.trans (F.len _ _ _ _ h)
  have hb' := hb s us I.kIn (by rw [List.append_nil]; exact hl)
  rw [List.append_nil] at hb'
  refine wpAny_call (codeAny_mono (F.run X.A X.stack s H ⟨us, []⟩ us vs Q E hr I.env0 hb' r h) fun r s' hq => ?_)
  match r, hq with
  | .error e, hq => exact hx pins σ H s e s' I hq
  | .ok (.ret u), hq => exact I.after hq
theorem pe_g (F : FnG X.prog X.w X.K X.mg X.base CX k f fd ps sp) (hr : Rm k X.A) (hg : Gl X x) (hm : X.mg x = some (.ref f)) (hk : PySem.W.keepIn X.K (.ref f) = true) (hb : Binds X.K fd ps []) (hx : Passes CX X E)
    (ha : PA X (e :: es) t) (hdb : (x == ("__debug__" : Str)) = false := by decide) (he : starEach (e :: es) X.env = (false, eval e X.env) :: starEach es X.env := by rfl) (hpl : (backTo pos (starEach es X.env)).any (·.1) = false := by rfl) :
    PE X (.Call (.Name x p) (e :: es) [] pos) (fun σ H Q => t σ H fun vs H1 => sp vs H1 Q E) := by
  refine ⟨fun pins s σ H Q I h => wpAny_Call_Name_kw (ld_glob I hg hm ?_ hdb)⟩
  exact PySem.W.callWith_K (h₀ := X.base) I.ok.mod.kin hk (thn (ha.run pos pins s σ H _ I h) fun us s1 ⟨vs, H1, I1, r, q⟩ => ⟨I1.kIn, run_g F hr hb hx I1 r q⟩) he hpl
variable {ts : XTs} {fl : List Bool} {spec : FSpec}
theorem ex_callG (F : FnG X.prog X.w X.K X.mg X.base CX0 k f fd ps (ASp X.K fl spec)) (hr : Rm k X.A) (hg : Gl X x) (hm : X.mg x = some (.ref f)) (hk : PySem.W.keepIn X.K (.ref f) = true) (hb : Binds X.K fd ps [])
    (ha : EXs X (e :: es) ts) (hdb : (x == ("__debug__" : Str)) = false := by decide) (he : starEach (e :: es) X.env = (false, eval e X.env) :: starEach es X.env := by rfl) (hpl : (backTo pos (starEach es X.env)).any (·.1) = false := by rfl) :
    EX X (.Call (.Name x p) (e :: es) [] pos) (tCallF fl spec ts) := ⟨PE.imp (pe_g (E := E0) F hr hg hm hk hb pass0 ha.pa hdb he hpl) fun σ H Q h => by
      have := callF_go (n := (e :: es).length) (E := E0) h
      unfold tCall at this
      simpa using this⟩
end
section
variable {P : Program} {w : World} {K : PySem.W.Frag} {mg : Str → Option Value} {base : Heap} {x qual : Str} {params : Arguments} {body : List Stmt} {scope : Scope} {f : Addr} {fd : FuncData}
theorem fng_ok {N ps : List Str} {k : Nat} {spec : FSpec} (fl : List Bool) (tb : ST) (F : FunD K x qual params body scope [] [] f fd) (S : FnScope N ps scope) (hfl : fl.length = ps.length)
    (hbody : ∀ (cdv : Value) (A : Around) (outer : List Env) (s : Shared) (H : Hp) (E : XK), Rm k (A.deeper (envOfC qual scope s.heap.objs.size f cdv)) →
      SXs (cxOf CX0 P w K mg base N qual scope f cdv A outer s H E).nox (fun j => fl.getD j false) body tb)
    (rd : ∀ os Qa, os.length = fl.length → spec os Qa → tb (endsOf fl Qa) (startA N.length os)) : FnG P w K mg base CX0 (k + 1) f fd ps (ASp K fl spec) := by
  refine fnG_of F S (fun vs H Q E h => ?_) fun cdv A outer s H vs Q E hr h => ⟨LS K (fun j => fl.getD j false) tb, PSs.nox (hbody cdv A outer s H E hr).pss, def_body fl tb S rd h⟩
  obtain ⟨os, fp, G, Qa, h, _⟩ := h
  rw [h, hfl]
end

/-! ### the end of a law -/
theorem end_callG {P : Program} {w : World} {K : PySem.W.Frag} {mg mb : Str → Option Value} {k : Nat} {fa a : Addr} {fd : FuncData} {x : Str} {sp : Sp} {s1 : Shared} {vs : List Value} {ns : List Int}
    (KX : K.In s1.heap) (hns : s1.heap.Ns mainGlobals mg) (hb : s1.heap.Ns builtinsNs mb) (hbb : ∀ x : Str, x ≠ "__name__" → mb x = bootBuiltins x) (hlim : s1.heap.NoLimit) (hg : s1.gens = #[])
    (ha : s1.heap.get? a = some { cls := .type "list", data := .seq vs.toArray }) (hi : IntsAre vs ns) (hl : ns.length ≤ sizeLine) (hr : Room k callerA)
    (F : ∀ base : Heap, K.In base → base.Ns mainGlobals mg → FnG P w K mg base CX0 k fa fd [x] sp) (hbind : ∀ (s : Shared) (u : Value), BindsTo s fd ⟨[u], []⟩ [(x, u)])
    (hsp : ∀ H : Hp, Only H → SqL K H a (ns.map V.int) → sp [.ref a] H (fun v _ => v = .bl true) fun _ _ _ => False) :
    codeAny (model P w) callerA (.call (.ref fa) ⟨[.ref a], []⟩) (fun r s' => r = .ok (.ret (.bool true)) ∧ OldK s1.heap s'.heap ∧ s'.os = s1.os ∧ AllBare s'.gens) s1 := by
  have rv := vals_ints hi
  have go : ∀ H : Hp, Only H → SqL K H a (ns.map V.int) → HOk P w H s1.heap → (∀ b, H b ≠ none → b = a) → (H a ≠ none → K.lookup a = none) →
      codeAny (model P w) callerA (.call (.ref fa) ⟨[.ref a], []⟩) (fun r s' => r = .ok (.ret (.bool true)) ∧ OldK s1.heap s'.heap ∧ s'.os = s1.os ∧ AllBare s'.gens) s1 := by
    intro H hO hS hok hA hK
    have un0 : ∀ {b : Addr}, b ≠ a → H b = none := fun {b} n => by
      cases q : H b with
      | none => rfl
      | some u => exact absurd (hA b (by rw [q]; simp)) n
    have dictN : ∀ {b : Addr} {o : Obj} {es : Array DictEntry} {ep : Nat}, s1.heap.get? b = some o → o.data = .dict es ep → H b = none := fun {b o es ep} e d => un0 fun z => by
      subst z
      rw [ha] at e
      cases e
      cases d
    have ns2 : ∀ {b : Addr} {m : Str → Option Value}, s1.heap.Ns b m → (hidT s1.heap H).Ns b m := fun {b m} ⟨o, es, ep, e, d, r⟩ => ⟨o, es, ep, hidT_get e (dictN e d), d, r⟩
    have kin2 : K.In (hidT s1.heap H) := fun b o e => hidT_get (KX b o e) (by
      cases q : H b with
      | none => rfl
      | some u =>
        have e' := hA b (by rw [q]; simp)
        subst e'
        rw [hK (by rw [q]; simp)] at e
        cases e)
    have e0 : Env0 P w K mg (hidT s1.heap H) callerA [] s1 H := ⟨rfl, ⟨kin2, ns2 hns, ⟨mb, ns2 hb, hbb⟩, let ⟨mc, h1, h2⟩ := hlim; ⟨mc, ns2 h1, h2⟩⟩, fun b o e => of_hidT e, Nat.le_of_eq (hidT_size _ _), trivial, fun b hb => absurd (show b ∈ ([] : List Addr) from hb) (by simp), hok, .of_eq hg⟩
    refine codeAny_mono ((F _ kin2 (ns2 hns)).run callerA [] s1 H ⟨[.ref a], []⟩ [.ref a] [.ref a] _ _ ⟨hr, rfl⟩ e0 (hbind s1 (.ref a)) (.cons rfl .nil) (hsp H hO hS)) fun r s' h => ?_
    match r, h with
    | .error e, h => exact h.elim
    | .ok (.ret u), ⟨v, H', os, bare, un, hok', r', q⟩ =>
      obtain rfl : v = .bl true := q
      obtain rfl : u = Value.bool true := r'
      refine ⟨rfl, OldK.of_keep fun b o e => ?_, os, bare⟩
      rcases hO b with z | ⟨ob, xs, z⟩
      · exact un.keep b o e z (by intro y; exact absurd (show b ∈ ([] : List Addr) from y) (by simp)) (by simp)
      · obtain ⟨e1, _⟩ := hok b _ z
        obtain ⟨e2, _⟩ := hok' b _ (un.frzs b ob _ z)
        rw [e] at e1
        cases e1
        exact e2
  cases hk : K.lookup a with
  | some o =>
    have e := KX a o hk
    rw [ha] at e
    cases e
    exact go (fun _ => none) (fun _ => .inl rfl) (.inr ⟨_, vs.toArray, _, hk, rfl, rfl, rfl, by rw [List.size_toArray, hi.length]; exact hl, by simpa using rv⟩) (fun b u (z : (none : Option HO) = some u) => by cases z) (fun b z => absurd rfl z) fun z => absurd rfl z
  | none =>
    let u0 : HO := .frz { cls := .type "list", data := .seq vs.toArray } (.lst (ns.map V.int))
    have at_ : upd (fun _ => none) a u0 a = some u0 := upd_same
    have off : ∀ {b : Addr}, b ≠ a → upd (fun _ => none) a u0 b = none := fun n => upd_ne n
    refine go (upd (fun _ => none) a u0) (fun b => ?_) (.inl (.inr ⟨_, at_⟩)) (fun b u z => ?_) (fun b z => Classical.byContradiction fun n => z (off n)) fun _ => hk
    · by_cases q : b = a
      · exact .inr ⟨_, _, by rw [q]; exact at_⟩
      · exact .inl (off q)
    · by_cases q : b = a
      · subst q
        rw [at_] at z
        cases z
        exact ⟨ha, by rw [List.length_map]; exact hl, vs, _, rv, ha⟩
      · rw [off q] at z
        cases z
theorem walk_ofG {l : PySem.W.OpenLaw} {n k : Nat} {q : Program} {loose : List Str} {XP : (Str → Option Value) → Heap → Prop} {YP : World → Heap → Prop} {d : DefRec} {x : Str}
    (hn : l.most = some n) (hn2 : n ≤ sizeLine) (hdf : d.params.defaults = []) (hr : Room k callerA)
    (F : ∀ (w : World) (mg : Str → Option Value) (fa : Addr) (h : Heap), YP w h → h.Ns mainGlobals mg → mg d.name = some (.ref fa) →
      ∃ (K : PySem.W.Frag) (fd : FuncData) (sp : Sp), K.In h ∧ (∀ (s : Shared) (u : Value), BindsTo s fd ⟨[u], []⟩ [(x, u)]) ∧
        (∀ (H : Hp) (a : Addr) (ns : List Int), ns.length ≤ n → Only H → SqL K H a (ns.map V.int) → sp [.ref a] H (fun v _ => v = .bl true) fun _ _ _ => False) ∧
        ∀ base : Heap, K.In base → base.Ns mainGlobals mg → FnG l.prog w K mg base CX0 k fa fd [x] sp) :
    PySem.W.WalkO q loose XP YP l.row.toRowW d [] (fun f vs => PySem.call f vs) := by
  refine Att.attach_call hn hdf fun w s₀ s₁ mg mb fa o pm cd doc a vs ns G Y ho hd hcd hmg hobj hints hlen hg => ?_
  obtain ⟨K, fd, sp, KX, hb, hsp, hF⟩ := F w mg fa _ Y G.T.g hmg
  exact end_callG KX G.T.g G.T.b G.T.builtins G.T.nolimit hg hobj hints (Nat.le_trans hlen hn2) hr hF hb fun H hO hS => hsp H a ns hlen hO hS
end DL

set_option Elab.async false
set_option linter.all false
set_option maxRecDepth 100000
set_option maxHeartbeats 4000000
/-! THE DATA LAYER, part 11: operators. -/
namespace DL
open PySem PySem.Spec L2
open PyProof.Rows hiding St

section
variable {X : Cx}
theorem OpA.mk {f : Value → Value → Sem Value} {g : G2} (h : ∀ (pins : List (Addr × Obj)) (s : Shared) (σ : St) (H : Hp) (F : Addr → Prop) (v u : V) (x y : O) (a b : Value) (Q : VK) (Qa : O → Prop), Inv X pins σ H s → RelV v a → RelV u b → RW X.K H F v x → RW X.K H F u y → g x y Qa → FinV X.K H F Qa Q →
    wpAny (model X.prog X.w) X.A (f a b) (EP X pins σ Q) X.xe s) : OpA X f g :=
  ⟨fun v u H Q => ∃ F x y Qa, RW X.K H F v x ∧ RW X.K H F u y ∧ g x y Qa ∧ FinV X.K H F Qa Q, fun pins s σ H v u a b Q I rx ry ⟨F, x, y, Qa, hx, hy, hg, fin⟩ => h pins s σ H F v u x y a b Q Qa I rx ry hx hy hg fin,
    fun H F v u x y Q Qa hx hy hg fin => ⟨F, x, y, Qa, hx, hy, hg, fin⟩⟩
theorem UnA.mk {f : Value → Sem Value} {g : G1} (h : ∀ (pins : List (Addr × Obj)) (s : Shared) (σ : St) (H : Hp) (F : Addr → Prop) (v : V) (x : O) (a : Value) (Q : VK) (Qa : O → Prop), Inv X pins σ H s → RelV v a → RW X.K H F v x → g x Qa → FinV X.K H F Qa Q →
    wpAny (model X.prog X.w) X.A (f a) (EP X pins σ Q) X.xe s) : UnA X f g :=
  ⟨fun v H Q => ∃ F x Qa, RW X.K H F v x ∧ g x Qa ∧ FinV X.K H F Qa Q, fun pins s σ H v a Q I rx ⟨F, x, Qa, hx, hg, fin⟩ => h pins s σ H F v x a Q Qa I rx hx hg fin, fun H F v x Q Qa hx hg fin => ⟨F, x, Qa, hx, hg, fin⟩⟩
theorem CallA.mk {f : Value} {g : GN} (h : ∀ (pins : List (Addr × Obj)) (s : Shared) (σ : St) (H : Hp) (F : Addr → Prop) (vs : List V) (xs : List O) (us : List Value) (Q : VK) (Qa : O → Prop), Inv X pins σ H s → Vals vs us → Paired (RW X.K H F) vs xs → g xs Qa → FinV X.K H F Qa Q →
    wpAny (model X.prog X.w) X.A (call f us) (EP X pins σ Q) X.xe s) : CallA X f g :=
  ⟨fun vs H Q => ∃ F xs Qa, Paired (RW X.K H F) vs xs ∧ g xs Qa ∧ FinV X.K H F Qa Q, fun pins s σ H vs us Q I r ⟨F, xs, Qa, hx, hg, fin⟩ => h pins s σ H F vs xs us Q Qa I r hx hg fin, fun H F vs xs Q Qa hx hg fin => ⟨F, xs, Qa, hx, hg, fin⟩⟩
/-- one that keeps the heap and gives a flat value -/
theorem wp_fin {pins : List (Addr × Obj)} {σ : St} {H : Hp} {F : Addr → Prop} {Q : VK} {Qa : O → Prop} {s : Shared} {m : Sem Value} {v : V} {t : T} (h : ∀ Q' : VK, Q' v H → wpAny (model X.prog X.w) X.A m (EP X pins σ Q') X.xe s) (fin : FinV X.K H F Qa Q) (r : RP X.K H F v t) (q : Qa (.pure t)) :
    wpAny (model X.prog X.w) X.A m (EP X pins σ Q) X.xe s := h Q (fin.pure r q)

/-! ### sequences -/
def lsO : O → Option (List T)
  | .lst ts => some ts
  | .pure (.list ts) => some ts
  | _ => none
def tuO : O → Option (List T)
  | .pure (.tuple ts) => some ts
  | _ => none
theorem RW.ls {K : PySem.W.Frag} {H : Hp} {F : Addr → Prop} {v : V} {o : O} {ts : List T} (h : RW K H F v o) (e : lsO o = some ts) : ∃ a vs, v = .ref a ∧ SqL K H a vs ∧ RPs K H F vs ts := by
  unfold lsO at e
  split at e
  · cases e
    obtain ⟨a, vs, rfl, q, r⟩ := h
    exact ⟨a, vs, rfl, .inl (.inl q), r⟩
  · cases e
    obtain ⟨a, vs, rfl, q, r, _⟩ := RP.lstE h
    exact ⟨a, vs, rfl, q, r⟩
  · cases e
theorem RW.tu {K : PySem.W.Frag} {H : Hp} {F : Addr → Prop} {v : V} {o : O} {ts : List T} (h : RW K H F v o) (e : tuO o = some ts) : ∃ a vs, v = .ref a ∧ SqT K H a vs ∧ RPs K H F vs ts := by
  unfold tuO at e
  split at e
  · cases e
    exact RP.tupE h
  · cases e

/-! ### arithmetic -/
def gAdd : G2 := fun x y Q => match x, y with
  | .pure (.int i), .pure (.int j) => Q (.pure (.int (i + j)))
  | .pure (.int i), .pure (.bool k) => Q (.pure (.int (i + b2i k)))
  | .pure (.bool k), .pure (.int j) => Q (.pure (.int (b2i k + j)))
  | .pure (.str a), .pure (.str b) => a.length + b.length ≤ 16777216 ∧ Q (.pure (.str (a ++ b)))
  | .pure (.tuple ts), .pure (.tuple us) => ts.length + us.length ≤ 16777216 ∧ Q (.pure (.tuple (ts ++ us)))
  | .lst ts, .lst us => ts.length + us.length ≤ 16777216 ∧ Q (.lst (ts ++ us))
  | _, _ => False
theorem RPs.nil_of {K : PySem.W.Frag} {H : Hp} {F : Addr → Prop} {ts : List T} (r : RPs K H F [] ts) : ts = [] := by cases r; rfl
theorem opA_add : OpA X (binaryOp .Add) gAdd := OpA.mk fun pins s σ H F v u x y a b Q Qa I rx ry hx hy h fin => by
  unfold gAdd at h
  split at h
  · have e1 := RP.intE hx; have e2 := RP.intE hy; subst e1 e2
    exact op_add pins s σ H _ _ _ _ Q I rx ry ⟨_, _, rfl, rfl, fin.int h⟩
  · have e1 := RP.intE hx; have e2 := RP.boolE hy; subst e1 e2
    exact op_add_ib pins s σ H _ _ _ _ Q I rx ry ⟨_, _, rfl, rfl, fin.int h⟩
  · have e1 := RP.boolE hx; have e2 := RP.intE hy; subst e1 e2
    cases rx
    obtain ⟨t, rfl⟩ := ry
    refine PySem.IntBool.add_bool_int ⟨.int _, H, I.tok _, ⟨_, rfl⟩, fin.int ?_⟩
    exact h
  · have e1 := RP.strE hx; have e2 := RP.strE hy; subst e1 e2
    exact op_add_str pins s σ H _ _ _ _ Q I rx ry ⟨_, _, rfl, rfl, by rw [sizeLine_eq]; exact h.1, fin.str h.2⟩
  · obtain ⟨p, vs, rfl, hp, r1⟩ := RP.tupE hx
    obtain ⟨q, us, rfl, hq, r2⟩ := RP.tupE hy
    refine op_catA pins s σ H _ _ _ _ Q I rx ry ⟨p, q, vs, us, rfl, rfl, hp, hq, by rw [sizeLine_eq, Paired.len r1, Paired.len r2]; exact h.1, fun e => ?_, fun _ e => ?_, fun _ _ z hz => ?_⟩
    · subst e
      obtain rfl := RPs.nil_of r1
      exact fin.pure hy h.2
    · subst e
      obtain rfl := RPs.nil_of r2
      rw [List.append_nil] at h
      exact fin.pure hx h.2
    · exact fin.tup hz (Paired.app r1 r2) h.2
  · obtain ⟨p, vs, rfl, hp, r1⟩ := hx
    obtain ⟨q, us, rfl, hq, r2⟩ := hy
    exact op_cat pins s σ H _ _ _ _ Q I rx ry ⟨p, q, vs, us, rfl, rfl, hp, hq, by rw [sizeLine_eq, Paired.len r1, Paired.len r2]; exact h.1, fun z hz => fin.lst hz (Paired.app r1 r2) h.2⟩
  · exact h.elim
def gSub_ : G2 := fun x y Q => match x, y with
  | .pure (.int i), .pure (.int j) => Q (.pure (.int (i - j)))
  | .pure (.bool k), .pure (.int j) => Q (.pure (.int (b2i k - j)))
  | _, _ => False
theorem opA_sub : OpA X (binaryOp .Sub) gSub_ := OpA.mk fun pins s σ H F v u x y a b Q Qa I rx ry hx hy h fin => by
  unfold gSub_ at h
  split at h
  · have e1 := RP.intE hx; have e2 := RP.intE hy; subst e1 e2
    exact op_sub pins s σ H _ _ _ _ Q I rx ry ⟨_, _, rfl, rfl, fin.int h⟩
  · have e1 := RP.boolE hx; have e2 := RP.intE hy; subst e1 e2
    cases rx
    obtain ⟨t, rfl⟩ := ry
    exact PySem.IntBool.sub_bool_int ⟨.int _, H, I.tok _, ⟨_, rfl⟩, fin.int h⟩
  · exact h.elim
def repL (k : Int) (ts : List T) : List T := (List.replicate k.toNat ts).flatten
theorem Paired.rep {α β : Type} {G : α → β → Prop} {l : List α} {r : List β} (h : Paired G l r) : ∀ n : Nat, Paired G (List.replicate n l).flatten (List.replicate n r).flatten
  | 0 => .nil
  | n + 1 => by rw [List.replicate_succ, List.replicate_succ, List.flatten_cons, List.flatten_cons]; exact Paired.app h (Paired.rep h n)
def gMul : G2 := fun x y Q => match x, y with
  | .pure (.int i), .pure (.int j) => i.natAbs.log2 + j.natAbs.log2 < 1000000 ∧ Q (.pure (.int (i * j)))
  | .lst ts, .pure (.int k) => 0 ≤ k ∧ k ≤ 1000000 ∧ ts.length * k.toNat ≤ 16777216 ∧ Q (.lst (repL k ts))
  | _, _ => False
theorem opA_mul : OpA X (binaryOp .Mult) gMul := OpA.mk fun pins s σ H F v u x y a b Q Qa I rx ry hx hy h fin => by
  unfold gMul at h
  split at h
  · have e1 := RP.intE hx; have e2 := RP.intE hy; subst e1 e2
    exact op_mulW pins s σ H _ _ _ _ Q I rx ry ⟨_, _, rfl, rfl, h.1, fin.int h.2⟩
  · obtain ⟨p, vs, rfl, hp, r1⟩ := hx
    have e2 := RP.intE hy; subst e2
    obtain ⟨h1, h2, h3, h4⟩ := h
    exact op_rep pins s σ H _ _ _ _ Q I rx ry ⟨p, _, vs, rfl, rfl, hp, by omega, by omega, by rw [sizeLine_eq, Paired.len r1]; exact h3, fun z hz => fin.lst hz (Paired.rep r1 _) h4⟩
  · exact h.elim
def gFdiv : G2 := fun x y Q => match x, y with
  | .pure (.int i), .pure (.int j) => 0 < j ∧ j.natAbs.log2 < 9000 ∧ Q (.pure (.int (i / j)))
  | _, _ => False
theorem opA_fdiv : OpA X (binaryOp .FloorDiv) gFdiv := OpA.mk fun pins s σ H F v u x y a b Q Qa I rx ry hx hy h fin => by
  unfold gFdiv at h
  split at h
  · have e1 := RP.intE hx; have e2 := RP.intE hy; subst e1 e2
    exact op_fdivW pins s σ H _ _ _ _ Q I rx ry ⟨_, _, rfl, rfl, ⟨h.1, h.2.1⟩, fin.int h.2.2⟩
  · exact h.elim
def gMod : G2 := fun x y Q => match x, y with
  | .pure (.int i), .pure (.int j) => 0 < j ∧ Q (.pure (.int (i % j)))
  | _, _ => False
theorem opA_mod : OpA X (binaryOp .Mod) gMod := OpA.mk fun pins s σ H F v u x y a b Q Qa I rx ry hx hy h fin => by
  unfold gMod at h
  split at h
  · have e1 := RP.intE hx; have e2 := RP.intE hy; subst e1 e2
    exact op_mod pins s σ H _ _ _ _ Q I rx ry ⟨_, _, rfl, rfl, h.1, fin.int h.2⟩
  · exact h.elim
def gPow : G2 := fun x y Q => match x, y with
  | .pure (.int i), .pure (.int j) => 0 ≤ j ∧ j ≤ 1000 ∧ i.natAbs.log2 < 100000 ∧ Q (.pure (.int (i ^ j.toNat)))
  | _, _ => False
theorem opA_pow : OpA X (binaryOp .Pow) gPow := OpA.mk fun pins s σ H F v u x y a b Q Qa I rx ry hx hy h fin => by
  unfold gPow at h
  split at h
  · rename_i i j
    have e1 := RP.intE hx; have e2 := RP.intE hy; subst e1 e2
    obtain ⟨h1, h2, h3, h4⟩ := h
    obtain ⟨t, rfl⟩ := rx
    obtain ⟨t', rfl⟩ := ry
    refine pow_int h1 ?_ ⟨.int _, H, I.tok _, ⟨_, rfl⟩, fin.int h4⟩
    have b : (Builtin.Int.intBits i : Int) ≤ 100001 := by
      unfold Builtin.Int.intBits
      split <;> omega
    have b2 : (Builtin.Int.intBits i : Int) * j ≤ 100001 * 1000 := Int.mul_le_mul b h2 h1 (by omega)
    omega
  · exact h.elim
def gNeg : G1 := fun x Q => match x with
  | .pure (.int i) => Q (.pure (.int (-i)))
  | .pure (.bool k) => Q (.pure (.int (-(b2i k))))
  | _ => False
theorem neg_bool {prog : Program} {w : World} {A : Around} {E : Value → Shared → Prop} {s : Shared} {k : Bool} {Q : Value → Shared → Prop} (h : Q (.int (-(b2i k)) s.toks) { s with toks := s.toks + 1 }) : wpAny (model prog w) A (unaryOp .USub (.bool k)) Q E s := by
  unfold unaryOp
  refine wpAny_holding ?_
  refine wpAny_bind (m := callSpecial? (.bool k) (Str.ofString "__neg__")) (wpAny_callSpecial?_slot (name := Str.ofString "__neg__") (T := "bool") rfl F.slot_bool_neg
    (wpAny_call_entry F.slot_bool_neg (T := "bool") rfl entry_int_neg ?_ (args_int_neg _)))
  show wpAny _ _ (do ret (← mkInt (-(b2i k)))) _ _ s
  exact wpAny_ret_mkInt (wpAny_pure h)
theorem unA_neg : UnA X (unaryOp .USub) gNeg := UnA.mk fun pins s σ H F v x a Q Qa I rx hx h fin => by
  unfold gNeg at h
  split at h
  · have e1 := RP.intE hx; subst e1
    exact un_neg pins s σ H _ _ Q I rx ⟨_, rfl, fin.int h⟩
  · have e1 := RP.boolE hx; subst e1
    cases rx
    exact neg_bool ⟨.int _, H, I.tok _, ⟨_, rfl⟩, fin.int h⟩
  · exact h.elim

/-! ### comparisons -/
def gGe : G2 := fun x y Q => match x, y with
  | .pure (.int i), .pure (.int j) => Q (.pure (.bool (decide (j ≤ i))))
  | _, _ => False
def gGt : G2 := fun x y Q => match x, y with
  | .pure (.int i), .pure (.int j) => Q (.pure (.bool (decide (j < i))))
  | _, _ => False
def gLe : G2 := fun x y Q => match x, y with
  | .pure (.int i), .pure (.int j) => Q (.pure (.bool (decide (i ≤ j))))
  | _, _ => False
theorem opA_ge : OpA X (compareOp .GtE) gGe := OpA.mk fun pins s σ H F v u x y a b Q Qa I rx ry hx hy h fin => by
  unfold gGe at h
  split at h
  · have e1 := RP.intE hx; have e2 := RP.intE hy; subst e1 e2
    exact op_ge pins s σ H _ _ _ _ Q I rx ry ⟨_, _, rfl, rfl, fin.bl h⟩
  · exact h.elim
theorem opA_gt : OpA X (compareOp .Gt) gGt := OpA.mk fun pins s σ H F v u x y a b Q Qa I rx ry hx hy h fin => by
  unfold gGt at h
  split at h
  · have e1 := RP.intE hx; have e2 := RP.intE hy; subst e1 e2
    exact op_gt pins s σ H _ _ _ _ Q I rx ry ⟨_, _, rfl, rfl, fin.bl h⟩
  · exact h.elim
theorem opA_le : OpA X (compareOp .LtE) gLe := OpA.mk fun pins s σ H F v u x y a b Q Qa I rx ry hx hy h fin => by
  unfold gLe at h
  split at h
  · have e1 := RP.intE hx; have e2 := RP.intE hy; subst e1 e2
    exact op_le pins s σ H _ _ _ _ Q I rx ry ⟨_, _, rfl, rfl, fin.bl h⟩
  · exact h.elim
/-- x < y; the last: data that are alike -/
def gLt : G2 := fun x y Q => match x, y with
  | .pure (.int i), .pure (.int j) => Q (.pure (.bool (decide (i < j))))
  | .pure d, .pure e => PySem.W.alike d e = true ∧ d ≠ .none ∧ min d.depth e.depth ≤ 150 ∧ Q (.pure (.bool (PySem.W.dataLt d e)))
  | _, _ => False
theorem opA_lt (hu : X.A.units + 200 < cLine) : OpA X (compareOp .Lt) gLt := OpA.mk fun pins s σ H F v u x y a b Q Qa I rx ry hx hy h fin => by
  unfold gLt at h
  split at h
  · have e1 := RP.intE hx; have e2 := RP.intE hy; subst e1 e2
    exact op_lt pins s σ H _ _ _ _ Q I rx ry ⟨_, _, rfl, rfl, fin.bl h⟩
  · obtain ⟨h1, h2, h3, h4⟩ := h
    obtain ⟨as, r1⟩ := RW.reads I hx rx
    obtain ⟨bs, r2⟩ := RW.reads I hy ry
    exact PySem.W.rcLt_alike _ _ X.A s a b as bs r1 r2 h1 h2 (by simp only [O.frz] at *; omega) _ _ _ _ ⟨.bl _, H, I, rfl, fin.bl h4⟩
  · exact h.elim
def gEq : G2 := fun x y Q => cmpOk x.frz y.frz = true ∧ min x.frz.depth y.frz.depth ≤ 150 ∧ Q (.pure (.bool (PyData.eqv x.frz y.frz)))
theorem opA_eq (hu : X.A.units + 200 < cLine) : OpA X (compareOp .Eq) gEq := OpA.mk fun pins s σ H F v u x y a b Q Qa I rx ry hx hy h fin => by
  obtain ⟨h1, h2, h3⟩ := h
  obtain ⟨as, r1⟩ := RW.reads I hx rx
  obtain ⟨bs, r2⟩ := RW.reads I hy ry
  exact (eq_trees _ _ X.A s a b as bs r1 r2 h1 (by omega)).2 _ _ _ _ ⟨.bl _, H, I, rfl, fin.bl h3⟩
def gNe : G2 := fun x y Q => match x, y with
  | .pure (.int i), .pure (.int j) => Q (.pure (.bool (!decide (i = j))))
  | .pure (.str i), .pure (.str j) => Q (.pure (.bool (!decide (i = j))))
  | .pure (.bool i), .pure (.bool j) => Q (.pure (.bool (!decide (i = j))))
  | x, y => x.frz.canLay0 = true ∧ y.frz.canLay0 = true ∧ min x.frz.depth y.frz.depth ≤ 150 ∧ Q (.pure (.bool (!PyData.eqv x.frz y.frz)))
theorem opA_ne (hu : X.A.units + 200 < cLine) : OpA X (compareOp .NotEq) gNe := OpA.mk fun pins s σ H F v u x y a b Q Qa I rx ry hx hy h fin => by
  unfold gNe at h
  split at h
  · have e1 := RP.intE hx; have e2 := RP.intE hy; subst e1 e2
    exact op_ne pins s σ H _ _ _ _ Q I rx ry ⟨rfl, fin.bl (by simpa using h)⟩
  · have e1 := RP.strE hx; have e2 := RP.strE hy; subst e1 e2
    exact op_ne pins s σ H _ _ _ _ Q I rx ry ⟨rfl, fin.bl (by simpa using h)⟩
  · have e1 := RP.boolE hx; have e2 := RP.boolE hy; subst e1 e2
    exact op_ne pins s σ H _ _ _ _ Q I rx ry ⟨rfl, fin.bl (by simpa using h)⟩
  · obtain ⟨h1, h2, h3, h4⟩ := h
    obtain ⟨as, r1⟩ := RW.reads I hx rx
    obtain ⟨bs, r2⟩ := RW.reads I hy ry
    exact PySem.SeqAt.compareNe_reads r1 r2 h1 h2 (by omega) ⟨.bl _, H, I, rfl, fin.bl h4⟩
/-- one text in another -/
def inStr (x y : Str) : Bool := !(Builtin.Str.occurrences y x 0 y.length 1).isEmpty
def seqO (o : O) : Option (List T) := match lsO o with
  | some ts => some ts
  | none => tuO o
def gInW (neg : Bool) : G2 := fun x y Q => match x, y with
  | .pure (.str a), .pure (.str b) => Q (.pure (.bool (neg ^^ inStr a b)))
  | x, y => match seqO y with
    | some ts => (ts.all fun z => cmpOk z x.frz && decide (min z.depth x.frz.depth ≤ 150)) = true ∧ Q (.pure (.bool (neg ^^ ts.any fun z => PyData.eqv z x.frz)))
    | none => False
theorem depth_le_all : ∀ {ts : List T} {t : T}, t ∈ ts → t.depth ≤ PyData.depthAll ts
  | _ :: _, _, m => by
    simp only [PyData.depthAll]
    rcases List.mem_cons.mp m with rfl | m
    · exact Nat.le_max_left _ _
    · exact Nat.le_trans (depth_le_all m) (Nat.le_max_right _ _)
theorem readsAll_at {h : Heap} : ∀ {vs : List Value} {ds : List T} {as : List Addr}, ReadsAll h vs ds as → ∀ v ∈ vs, ∃ d ∈ ds, ∃ bs, Reads h v d bs
  | _, _, _, .cons r rs, v, m => by
    rcases List.mem_cons.mp m with rfl | m
    · exact ⟨_, List.mem_cons_self, _, r⟩
    · obtain ⟨d, hd, bs, q⟩ := readsAll_at rs v m
      exact ⟨d, List.mem_cons_of_mem _ hd, bs, q⟩
theorem any_reads {h : Heap} {f : Value → Bool} {g : T → Bool} (w : ∀ v d bs, Reads h v d bs → f v = g d) : ∀ {vs : List Value} {ds : List T} {as : List Addr}, ReadsAll h vs ds as → vs.any f = ds.any g
  | _, _, _, .nil => rfl
  | _, _, _, .cons r rs => by rw [List.any_cons, List.any_cons, w _ _ _ r, any_reads w rs]
theorem opA_inW (hu : X.A.units + 200 < cLine) (neg : Bool) : OpA X (compareOp (if neg = true then .NotIn else .In)) (gInW neg) := OpA.mk fun pins s σ H F v u x y a b Q Qa I rx ry hx hy h fin => by
  unfold gInW at h
  split at h
  · have e1 := RP.strE hx; have e2 := RP.strE hy; subst e1 e2
    cases neg with
    | false =>
      rw [if_neg Bool.false_ne_true]
      exact op_in_str pins s σ H _ _ _ _ Q I rx ry ⟨_, _, rfl, rfl, fin.bl (by simpa [inStr] using h)⟩
    | true =>
      rw [if_pos rfl]
      exact op_notin_str pins s σ H _ _ _ _ Q I rx ry ⟨_, _, rfl, rfl, fin.bl (by simpa [inStr] using h)⟩
  · split at h
    · rename_i ts es
      obtain ⟨h1, h2⟩ := h
      obtain ⟨as, r1⟩ := RW.reads I hx rx
      -- the items as read
      have key : ∀ (items : Array Value) (as' : List Addr), ReadsAll s.heap items.toList ts as' → ∃ e : Value → Bool, (∀ z, z ∈ items → SeqAt.EqAt X.A.in1 s z a (e z)) ∧ items.any e = ts.any fun z => PyData.eqv z x.frz := fun items as' ra => by
        classical
        refine ⟨fun z => if hz : ∃ d bs, Reads s.heap z d bs then PyData.eqv hz.choose x.frz else false, fun z hz => ?_, ?_⟩
        · obtain ⟨d, hd, bs, rd⟩ := readsAll_at ra z (by simpa using hz)
          have hz : ∃ d bs, Reads s.heap z d bs := ⟨d, bs, rd⟩
          have e : hz.choose = d := reads_one hz.choose_spec.choose_spec rd
          show SeqAt.EqAt X.A.in1 s z a (if hz : ∃ d bs, Reads s.heap z d bs then PyData.eqv hz.choose x.frz else false)
          rw [dif_pos hz, e]
          have c := List.all_eq_true.mp h1 d hd
          simp only [Bool.and_eq_true, decide_eq_true_eq] at c
          exact (eq_trees d _ X.A.in1 s z a bs as rd r1 c.1 (by show X.A.units + 1 + _ < _; omega)).1
        · rw [← Array.any_toList]
          refine any_reads (fun v d bs rd => ?_) ra
          have hz : ∃ d bs, Reads s.heap v d bs := ⟨d, bs, rd⟩
          show (if hz : ∃ d bs, Reads s.heap v d bs then PyData.eqv hz.choose x.frz else false) = _
          rw [dif_pos hz, reads_one hz.choose_spec.choose_spec rd]
      have ends : ∀ {k : Bool}, k = (ts.any fun z => PyData.eqv z x.frz) → EP X pins σ Q (.bool (neg ^^ k)) s := fun e => ⟨.bl _, H, I, rfl, by rw [e]; exact fin.bl h2⟩
      unfold seqO at es
      split at es
      · rename_i us el
        cases es
        obtain ⟨p, vs, rfl, hq, r2⟩ := RW.ls hy el
        cases ry
        obtain ⟨its, rv, pl, _⟩ := I.list hq
        obtain ⟨qs, r3, _⟩ := r2.rvs
        obtain ⟨cs, r4⟩ := RVs.reads I r3 rv
        obtain ⟨e, k1, k2⟩ := key its.toArray cs (by simpa using r4)
        cases neg with
        | false => rw [if_neg Bool.false_ne_true]; exact SeqAt.in_listAt e pl.isList k1 (by simpa using ends k2)
        | true => rw [if_pos rfl]; exact SeqAt.notIn_listAt e pl.isList k1 (by simpa using ends k2)
      · obtain ⟨p, vs, rfl, hq, r2⟩ := RW.tu hy es
        cases ry
        obtain ⟨its, rv, pl, _⟩ := I.tuple hq
        obtain ⟨qs, r3, _⟩ := r2.rvs
        obtain ⟨cs, r4⟩ := RVs.reads I r3 rv
        obtain ⟨e, k1, k2⟩ := key its.toArray cs (by simpa using r4)
        cases neg with
        | false => rw [if_neg Bool.false_ne_true]; exact SeqAt.in_tupleAt e pl k1 (by simpa using ends k2)
        | true => rw [if_pos rfl]; exact SeqAt.notIn_tupleAt e pl k1 (by simpa using ends k2)
    · exact h.elim
theorem opA_in (hu : X.A.units + 200 < cLine) : OpA X (compareOp .In) (gInW false) := opA_inW hu false
theorem opA_notIn (hu : X.A.units + 200 < cLine) : OpA X (compareOp .NotIn) (gInW true) := opA_inW hu true
/-- is None -/
def isNon : O → Bool
  | .pure .none => true
  | _ => false
theorem RW.non {K : PySem.W.Frag} {H : Hp} {F : Addr → Prop} {v : V} {o : O} (h : RW K H F v o) : decide (v = .non) = isNon o := by
  cases o with
  | pure t =>
    obtain ⟨as, r, _⟩ := h
    cases r <;> simp [isNon]
  | lst ts => obtain ⟨a, vs, rfl, _⟩ := h; simp [isNon]
  | dct ts => obtain ⟨a, vs, rfl, _⟩ := h; simp [isNon]
  | dcl ts => obtain ⟨a, vs, bs, rfl, _⟩ := h; simp [isNon]
def gIs : G2 := fun x y Q => match y with
  | .pure .none => Q (.pure (.bool (isNon x)))
  | _ => False
def gIsNot : G2 := fun x y Q => match y with
  | .pure .none => Q (.pure (.bool (!isNon x)))
  | _ => False
theorem opA_is : OpA X (compareOp .Is) gIs := OpA.mk fun pins s σ H F v u x y a b Q Qa I rx ry hx hy h fin => by
  unfold gIs at h
  split at h
  · have e2 := RP.noneE hy; subst e2
    exact op_isN pins s σ H _ _ _ _ Q I rx ry ⟨rfl, by rw [RW.non hx]; exact fin.bl h⟩
  · exact h.elim
theorem opA_isNot : OpA X (compareOp .IsNot) gIsNot := OpA.mk fun pins s σ H F v u x y a b Q Qa I rx ry hx hy h fin => by
  unfold gIsNot at h
  split at h
  · have e2 := RP.noneE hy; subst e2
    exact op_notN pins s σ H _ _ _ _ Q I rx ry ⟨rfl, by rw [RW.non hx]; exact fin.bl h⟩
  · exact h.elim
end
end DL

set_option Elab.async false
set_option linter.all false
set_option maxRecDepth 100000
set_option maxHeartbeats 4000000
/-! THE DATA LAYER, part 12: calls of built-ins, subscripts, slices, chains. -/
namespace DL
open PySem PySem.Spec L2
open PyProof.Rows hiding St

section
variable {X : Cx}
/-! ### built-in functions -/
def gLen : GN := fun os Q => match os with
  | [.pure (.str x)] => x.length ≤ 16777216 ∧ Q (.pure (.int x.length))
  | [o] => match seqO o with
    | some ts => Q (.pure (.int ts.length))
    | none => False
  | _ => False
theorem callA_len : CallA X (.builtin "len") gLen := CallA.mk fun pins s σ H F vs xs us Q Qa I r hx h fin => by
  unfold gLen at h
  split at h
  · cases hx with
    | cons h1 hr =>
      cases hr
      have e1 := RP.strE h1; subst e1
      exact call_len pins s σ H _ us Q I r ⟨_, _, rfl, ⟨by rw [sizeLine_eq]; exact h.1, rfl⟩, fin.int h.2⟩
  · cases hx with
    | cons h1 hr =>
      cases hr
      split at h
      · rename_i ts es
        unfold seqO at es
        split at es
        · rename_i us el
          cases es
          obtain ⟨p, vs, rfl, hq, r2⟩ := RW.ls h1 el
          exact call_len pins s σ H _ _ Q I r ⟨_, _, rfl, .inl ⟨vs, hq, rfl⟩, by rw [Paired.len r2]; exact fin.int h⟩
        · obtain ⟨p, vs, rfl, hq, r2⟩ := RW.tu h1 es
          exact call_len pins s σ H _ _ Q I r ⟨_, _, rfl, .inr ⟨vs, hq, rfl⟩, by rw [Paired.len r2]; exact fin.int h⟩
      · exact h.elim
  · exact h.elim
def boolsOf : List T → Option (List Bool)
  | [] => some []
  | .bool b :: ts => (boolsOf ts).map (b :: ·)
  | _ => none
theorem RPs.bools {K : PySem.W.Frag} {H : Hp} {F : Addr → Prop} : ∀ {vs : List V} {ts : List T} {bs : List Bool}, RPs K H F vs ts → boolsOf ts = some bs → vs = bs.map V.bl
  | _, _, _, .nil, e => by cases e; rfl
  | _, t :: ts, bs, .cons h r, e => by
    unfold boolsOf at e
    split at e
    · rename_i heq; cases heq
    · rename_i b ts' heq
      cases heq
      cases q : boolsOf ts with
      | none => rw [q] at e; cases e
      | some bs' =>
        rw [q] at e; cases e
        rw [List.map_cons, RP.boolE h, RPs.bools r q]
    · cases e
def gAllAny (f : List Bool → Bool) : GN := fun os Q => match os with
  | [o] => match lsO o with
    | some ts => match boolsOf ts with
      | some bs => Q (.pure (.bool (f bs)))
      | none => False
    | none => False
  | _ => False
theorem callA_all (hc : X.calm = true) : CallA X (.builtin "all") (gAllAny fun bs => bs.all id) := CallA.mk fun pins s σ H F vs xs us Q Qa I r hx h fin => by
  unfold gAllAny at h
  split at h
  · cases hx with
    | cons h1 hr =>
      cases hr
      split at h
      · rename_i ts el
        split at h
        · rename_i bs eb
          obtain ⟨p, vs, rfl, hq, r2⟩ := RW.ls h1 el
          obtain rfl := r2.bools eb
          exact cr_all hc pins s σ H _ _ Q I r ⟨p, bs, rfl, hq, fin.bl h⟩
        · exact h.elim
      · exact h.elim
  · exact h.elim
theorem callA_any (hc : X.calm = true) : CallA X (.builtin "any") (gAllAny fun bs => bs.any id) := CallA.mk fun pins s σ H F vs xs us Q Qa I r hx h fin => by
  unfold gAllAny at h
  split at h
  · cases hx with
    | cons h1 hr =>
      cases hr
      split at h
      · rename_i ts el
        split at h
        · rename_i bs eb
          obtain ⟨p, vs, rfl, hq, r2⟩ := RW.ls h1 el
          obtain rfl := r2.bools eb
          exact cr_any hc pins s σ H _ _ Q I r ⟨p, bs, rfl, hq, fin.bl h⟩
        · exact h.elim
      · exact h.elim
  · exact h.elim
def gAbs : GN := fun os Q => match os with
  | [.pure (.int i)] => Q (.pure (.int (if i < 0 then -i else i)))
  | _ => False
theorem callA_abs : CallA X (.builtin "abs") gAbs := CallA.mk fun pins s σ H F vs xs us Q Qa I r hx h fin => by
  unfold gAbs at h
  split at h
  · cases hx with
    | cons h1 hr =>
      cases hr
      have e1 := RP.intE h1; subst e1
      exact call_abs pins s σ H _ _ Q I r ⟨_, rfl, fin.int h⟩
  · exact h.elim
def gInt : GN := fun os Q => match os with
  | [.pure (.int i)] => Q (.pure (.int i))
  | [.pure (.bool k)] => Q (.pure (.int (if k = true then 1 else 0)))
  | _ => False
theorem callA_int : CallA X (.type "int") gInt := CallA.mk fun pins s σ H F vs xs us Q Qa I r hx h fin => by
  unfold gInt at h
  split at h
  · cases hx with
    | cons h1 hr =>
      cases hr
      have e1 := RP.intE h1; subst e1
      exact call_int1 pins s σ H _ _ Q I r (.inl ⟨_, rfl, fin.int h⟩)
  · cases hx with
    | cons h1 hr =>
      cases hr
      have e1 := RP.boolE h1; subst e1
      exact call_int1 pins s σ H _ _ Q I r (.inr ⟨_, rfl, fin.int h⟩)
  · exact h.elim
def gStr : GN := fun os Q => match os with
  | [.pure (.int i)] => i.natAbs.log2 < 1920 ∧ Q (.pure (.str (toString i)))
  | [.pure (.bool k)] => Q (.pure (.str (if k = true then "True" else "False")))
  | [.pure (.str x)] => Q (.pure (.str x))
  | _ => False
theorem callA_str : CallA X (.type "str") gStr := CallA.mk fun pins s σ H F vs xs us Q Qa I r hx h fin => by
  unfold gStr at h
  split at h
  · cases hx with
    | cons h1 hr =>
      cases hr
      have e1 := RP.intE h1; subst e1
      exact call_str_int pins s σ H _ _ Q I r ⟨_, rfl, h.1, fin.str h.2⟩
  · rename_i k
    cases hx with
    | cons h1 hr =>
      cases hr
      have e1 := RP.boolE h1; subst e1
      obtain ⟨u, rfl, ru⟩ := vals1 r
      cases ru
      refine PySem.P.str_of_bool ⟨.str (if k = true then "True" else "False"), H, I.tok _, ⟨s.toks, ?_⟩, fin.str ?_⟩
      · cases k <;> rfl
      · exact h
  · cases hx with
    | cons h1 hr =>
      cases hr
      have e1 := RP.strE h1; subst e1
      exact SkE.call_str_str pins s σ H _ _ Q I r ⟨_, rfl, fin.str h⟩
  · exact h.elim
def gM2 (f : Int → Int → Int) : GN := fun os Q => match os with
  | [.pure (.int i), .pure (.int j)] => Q (.pure (.int (f i j)))
  | _ => False
theorem callA_max2 (hc : X.calm = true) : CallA X (.builtin "max") (gM2 fun i j => if j > i then j else i) := CallA.mk fun pins s σ H F vs xs us Q Qa I r hx h fin => by
  unfold gM2 at h
  split at h
  · cases hx with
    | cons h1 hr =>
      cases hr with
      | cons h2 hr =>
        cases hr
        have e1 := RP.intE h1; have e2 := RP.intE h2; subst e1 e2
        exact call_max2 hc pins s σ H _ _ Q I r ⟨_, _, rfl, fin.int h⟩
  · exact h.elim
theorem callA_min2 (hc : X.calm = true) : CallA X (.builtin "min") (gM2 fun i j => if j < i then j else i) := CallA.mk fun pins s σ H F vs xs us Q Qa I r hx h fin => by
  unfold gM2 at h
  split at h
  · cases hx with
    | cons h1 hr =>
      cases hr with
      | cons h2 hr =>
        cases hr
        have e1 := RP.intE h1; have e2 := RP.intE h2; subst e1 e2
        exact call_min2 hc pins s σ H _ _ Q I r ⟨_, _, rfl, fin.int h⟩
  · exact h.elim
def gListOfS : GN := fun os Q => match os with
  | [o] => match seqO o with
    | some ts => Q (.lst ts)
    | none => False
  | _ => False
def gTupOfS : GN := fun os Q => match os with
  | [o] => match seqO o with
    | some ts => Q (.pure (.tuple ts))
    | none => False
  | _ => False
theorem RW.seq {K : PySem.W.Frag} {H : Hp} {F : Addr → Prop} {v : V} {o : O} {ts : List T} (h : RW K H F v o) (e : seqO o = some ts) : ∃ p vs, v = .ref p ∧ (SqL K H p vs ∨ (SqT K H p vs ∧ o = .pure (.tuple ts))) ∧ RPs K H F vs ts := by
  unfold seqO at e
  split at e
  · rename_i us el
    cases e
    obtain ⟨p, vs, rfl, hq, r2⟩ := RW.ls h el
    exact ⟨p, vs, rfl, .inl hq, r2⟩
  · obtain ⟨p, vs, rfl, hq, r2⟩ := RW.tu h e
    refine ⟨p, vs, rfl, .inr ⟨hq, ?_⟩, r2⟩
    unfold tuO at e
    split at e
    · cases e; rfl
    · cases e
theorem callA_listS : CallA X (.type "list") gListOfS := CallA.mk fun pins s σ H F vs xs us Q Qa I r hx h fin => by
  unfold gListOfS at h
  split at h
  · cases hx with
    | cons h1 hr =>
      cases hr
      split at h
      · rename_i ts es
        obtain ⟨p, vs, rfl, hq, r2⟩ := RW.seq h1 es
        exact call_list_of pins s σ H _ _ Q I r ⟨p, vs, rfl, hq.imp (fun q => q) (·.1), fun l hl => fin.lst hl r2 h⟩
      · exact h.elim
  · exact h.elim
theorem callA_tupleS : CallA X (.type "tuple") gTupOfS := CallA.mk fun pins s σ H F vs xs us Q Qa I r hx h fin => by
  unfold gTupOfS at h
  split at h
  · cases hx with
    | cons h1 hr =>
      cases hr
      split at h
      · rename_i ts es
        obtain ⟨p, vs, rfl, hq, r2⟩ := RW.seq h1 es
        rcases hq with hq | ⟨hq, e⟩
        · exact call_tuple_of pins s σ H _ _ Q I r ⟨p, vs, rfl, .inl ⟨hq, fun l hl => fin.tup hl r2 h⟩⟩
        · subst e
          exact call_tuple_of pins s σ H _ _ Q I r ⟨p, vs, rfl, .inr ⟨hq, fin.pure h1 h⟩⟩
      · exact h.elim
  · exact h.elim
def strsOf : List T → Option (List Str)
  | [] => some []
  | .str b :: ts => (strsOf ts).map (b :: ·)
  | _ => none
theorem RPs.strs {K : PySem.W.Frag} {H : Hp} {F : Addr → Prop} : ∀ {vs : List V} {ts : List T} {bs : List Str}, RPs K H F vs ts → strsOf ts = some bs → vs = bs.map V.str
  | _, _, _, .nil, e => by cases e; rfl
  | _, t :: ts, bs, .cons h r, e => by
    unfold strsOf at e
    split at e
    · rename_i heq; cases heq
    · rename_i b ts' heq
      cases heq
      cases q : strsOf ts with
      | none => rw [q] at e; cases e
      | some bs' =>
        rw [q] at e; cases e
        rw [List.map_cons, RP.strE h, RPs.strs r q]
    · cases e
theorem RPs.ofStrs {K : PySem.W.Frag} {H : Hp} {F : Addr → Prop} : ∀ ys : List Str, RPs K H F (ys.map V.str) (ys.map PyData.str)
  | [] => .nil
  | y :: ys => .cons (RP.str y) (RPs.ofStrs ys)
def gSortS : GN := fun os Q => match os with
  | [o] => match lsO o with
    | some ts => match strsOf ts with
      | some xs => xs.length < 64 ∧ ∀ ys : List Str, ys.Perm xs → sortedS ys = true → Q (.lst (ys.map PyData.str))
      | none => False
    | none => False
  | _ => False
theorem callA_sortS : CallA X (.builtin "sorted") gSortS := CallA.mk fun pins s σ H F vs xs us Q Qa I r hx h fin => by
  unfold gSortS at h
  split at h
  · cases hx with
    | cons h1 hr =>
      cases hr
      split at h
      · rename_i ts el
        split at h
        · rename_i bs eb
          obtain ⟨p, vs, rfl, hq, r2⟩ := RW.ls h1 el
          obtain rfl := r2.strs eb
          exact cr_sortedS pins s σ H _ _ Q I r ⟨p, bs, rfl, hq, h.1, fun ys l h1 h2 hl => fin.lst hl (RPs.ofStrs ys) (h.2 ys h1 h2)⟩
        · exact h.elim
      · exact h.elim
  · exact h.elim
/-- repr -/
def gRepr : GN := fun os Q => match os with
  | [o] => o.frz.showable = true ∧ o.frz.depth ≤ 150 ∧ o.frz.shown.length ≤ 16777216 ∧ Q (.pure (.str o.frz.shown))
  | _ => False
theorem callA_repr (hr : Rm 0 X.A) : CallA X (.builtin "repr") gRepr := CallA.mk fun pins s σ H F vs xs us Q Qa I r hx h fin => by
  unfold gRepr at h
  split at h
  · rename_i o
    cases hx with
    | cons h1 hr' =>
      cases hr'
      obtain ⟨u, rfl, ru⟩ := vals1 r
      obtain ⟨as, q⟩ := RW.view h1
      clear h1
      generalize o.frz = t at h q
      obtain ⟨k1, k2, k3, k4⟩ := h
      have hz : t.shown.length ≤ sizeLine := by rw [sizeLine_eq]; exact k3
      have un := hr.room.un
      have big : ∀ {a : Addr}, RV X.K H (.ref a) t as → u = .ref a → wpAny (model X.prog X.w) X.A (call (.builtin "repr") [u]) (EP X pins σ Q) X.xe s := fun {a} q e => by
        subst e
        obtain ⟨T, idr, S⟩ := RV.shows I q k1 hz
        refine call_repr_slot (by omega) (S.typeIs s fun _ _ e => e) S.slotRepr (S.call X.A.in1 X.xe s _ hr.gd (by show X.A.units + 1 + t.depth < cLine; omega) (fun _ _ e => e) fun h' k tk hk => ⟨_, _, rfl, ?_⟩)
        exact ⟨.str t.shown, H, I.kept (t' := tk) hk, ⟨k, rfl⟩, fin.str k4⟩
      cases q with
      | non =>
        cases ru
        simp only [PyData.shown] at k4
        exact PySem.P.repr_of_none ⟨.str "None", H, I.tok _, ⟨_, rfl⟩, fin.str k4⟩
      | bl b =>
        cases ru
        simp only [PyData.shown] at k4
        exact PySem.P.repr_of_bool ⟨.str _, H, I.tok _, ⟨_, rfl⟩, fin.str k4⟩
      | int i =>
        obtain ⟨t, rfl⟩ := ru
        simp only [PyData.shown] at k4
        exact PySem.P.repr_of_int (by simpa [PyData.showable] using k1) ⟨.str _, H, I.tok _, ⟨_, rfl⟩, fin.str k4⟩
      | str x =>
        obtain ⟨t, rfl⟩ := ru
        simp only [PyData.shown] at k4 hz
        exact PySem.P.repr_of_str ⟨.str _, H, I.tok _, ⟨_, rfl⟩, fin.str k4⟩ hz
      | tup h q => exact big (.tup h q) ru
      | lst h q => exact big (.lst h q) ru
      | lstK h1 h2 h3 h4 h5 h6 q => exact big (.lstK h1 h2 h3 h4 h5 h6 q) ru
      | dct h q => exact big (.dct h q) ru
  · exact h.elim
end

/-! ### isinstance -/
def tyT : T → String
  | .none => "NoneType"
  | .bool _ => "bool"
  | .int _ => "int"
  | .str _ => "str"
  | .list _ => "list"
  | .tuple _ => "tuple"
  | .dict _ => "dict"
def isT (n : String) (t : T) : Bool := tyT t == n || (n == "int" && tyT t == "bool")
section
variable {X : Cx}
theorem RV.ty {K : PySem.W.Frag} {H : Hp} {v : V} {t : T} {as : List Addr} (r : RV K H v t as) : TyX K H v (.type (tyT t)) := by
  cases r with
  | non => exact .base .non
  | bl b => exact .base (.bl b)
  | int i => exact .base (.int i)
  | str x => exact .base (.str x)
  | tup h _ =>
    rcases h with (h | ⟨o, h⟩) | ⟨o, its, n, h, c, _⟩
    · exact .base (.tup h)
    · exact .fTuple h
    · exact .kTuple h c
  | lst h _ =>
    rcases h with h | ⟨o, h⟩
    · exact .base (.lst h)
    · exact .base (.frz h)
  | lstK h c _ _ _ _ _ => exact .kList h c
  | dct h _ =>
    rcases h with h | ⟨o, h⟩
    · exact .base (.dK h)
    · exact .fDict h
/-- the classes that isinstance is asked of -/
def tyOk (n : String) : Prop := ∀ t : T, kitB (tyT t) n = some (isT n t)
theorem tyOk_of {n : String} (h1 : kitB "NoneType" n = some (isT n .none)) (h2 : kitB "bool" n = some (isT n (.bool true))) (h3 : kitB "int" n = some (isT n (.int 0))) (h4 : kitB "str" n = some (isT n (.str ""))) (h5 : kitB "list" n = some (isT n (.list []))) (h6 : kitB "tuple" n = some (isT n (.tuple []))) (h7 : kitB "dict" n = some (isT n (.dict []))) : tyOk n := fun t => by
  cases t with
  | none => exact h1
  | bool b => exact h2
  | int i => exact h3
  | str x => exact h4
  | list xs => exact h5
  | tuple xs => exact h6
  | dict xs => exact h7
theorem tyOk_str : tyOk "str" := tyOk_of (by decide +kernel) (by decide +kernel) (by decide +kernel) (by decide +kernel) (by decide +kernel) (by decide +kernel) (by decide +kernel)
theorem tyOk_int : tyOk "int" := tyOk_of (by decide +kernel) (by decide +kernel) (by decide +kernel) (by decide +kernel) (by decide +kernel) (by decide +kernel) (by decide +kernel)
theorem tyOk_bool : tyOk "bool" := tyOk_of (by decide +kernel) (by decide +kernel) (by decide +kernel) (by decide +kernel) (by decide +kernel) (by decide +kernel) (by decide +kernel)
theorem tyOk_list : tyOk "list" := tyOk_of (by decide +kernel) (by decide +kernel) (by decide +kernel) (by decide +kernel) (by decide +kernel) (by decide +kernel) (by decide +kernel)
theorem tyOk_tuple : tyOk "tuple" := tyOk_of (by decide +kernel) (by decide +kernel) (by decide +kernel) (by decide +kernel) (by decide +kernel) (by decide +kernel) (by decide +kernel)
theorem tyOk_dict : tyOk "dict" := tyOk_of (by decide +kernel) (by decide +kernel) (by decide +kernel) (by decide +kernel) (by decide +kernel) (by decide +kernel) (by decide +kernel)
def tIsi (n : String) (te : XT) : XT := fun ρ Q => te ρ fun p ρ1 => match p.get ρ1 with
  | some o => Q (.val (.pure (.bool (isT n o.frz)))) ρ1
  | none => False
theorem RO.ty {K : PySem.W.Frag} {H : Hp} {F : Addr → Prop} {v : V} {o : O} (r : RW K H F v o) : TyX K H v (.type (tyT o.frz)) := let ⟨_, q⟩ := r.view; q.ty
theorem ex_isi {n : String} {x : Str} {e : Expr} {te : XT} {p p2 pos : Pos} (hn : tyOk n) (hg : Gl X "isinstance") (hm : X.mg "isinstance" = none) (hg2 : Gl X x) (hm2 : X.mg x = none) (hb2 : bootBuiltins x = some (.type n)) (he : EX X e te) (hx : x ≠ "__name__" := by decide) (hd : (x == ("__debug__" : Str)) = false := by decide)
    (hs : starEach [e, .Name x p2] X.env = (false, eval e X.env) :: starEach [.Name x p2] X.env := by rfl) (hs2 : starEach [.Name x p2] X.env = (false, eval (.Name x p2) X.env) :: starEach [] X.env := by rfl)
    (hpl : (backTo pos (starEach [.Name x p2] X.env)).any (·.1) = false := by rfl) : EX X (.Call (.Name "isinstance" p) [e, .Name x p2] [] pos) (tIsi n te) := by
  refine ⟨PE.imp (pe_callB call_isi hg hm (by decide +kernel) (pa_cons he.pe (pa_cons (pe_bltn (v := .ty n) hg2 hm2 hb2 rfl hx hd) pa_nil hs2) hs) (by decide) (by decide) hs hpl) ?_⟩
  rintro σ H Q ⟨ρ, fp, G, Qa, R, h, fin⟩
  refine ⟨ρ, fp, G, _, R, h, fun v p A H1 ρ1 fp1 R1 r1 x1 h1 => ?_⟩
  split at h1
  · rename_i o eo
    have w := r1.rw0 R1 eo
    exact ⟨v, .ty n, _, _, _, rfl, .ty n, RO.ty w, kit_ty (hn _), FinV.bl (fin_of (G := G) R1 (fun a m => List.mem_append_right _ m) x1.or fin) h1⟩
  · exact h1.elim

/-! ### subscripts -/
def gIx : G2 := fun x y Q => match y with
  | .pure (.int i) => match x with
    | .pure (.str z) => z.length ≤ 16777216 ∧ match atI z.cps.toList i with
      | some c => Q (.pure (.str ⟨#[c]⟩))
      | none => False
    | x => match seqO x with
      | some ts => match atI ts i with
        | some t => Q (.pure t)
        | none => False
      | none => False
  | _ => False
theorem atI_pair {K : PySem.W.Frag} {H : Hp} {F : Addr → Prop} {vs : List V} {ts : List T} {i : Int} {t : T} (r : RPs K H F vs ts) (e : atI ts i = some t) : ∃ v, atI vs i = some v ∧ RP K H F v t := by
  unfold atI at e ⊢
  rw [Paired.len r]
  cases q : ixN ts.length i with
  | none => rw [q] at e; cases e
  | some j =>
    rw [q] at e
    obtain ⟨v, hv, rv⟩ := Paired.at r e
    exact ⟨v, hv, rv⟩
theorem ixA_seq : IxA X gIx := by
  refine ⟨rIx X.K, ix_seq, fun H F v u x y Q Qa hx hy h fin => ?_⟩
  unfold gIx at h
  split at h
  · rename_i i
    have e2 := RP.intE hy; subst e2
    split at h
    · rename_i z
      have e1 := RP.strE hx; subst e1
      obtain ⟨hz, h⟩ := h
      split at h
      · rename_i c ec
        exact .inr (.inr ⟨z, i, c, rfl, rfl, by rw [sizeLine_eq]; exact hz, ec, fin.str h⟩)
      · exact h.elim
    · split at h
      · rename_i ts es
        split at h
        · rename_i t et
          obtain ⟨p, vs, rfl, hq, r2⟩ := RW.seq hx es
          obtain ⟨w, hw, rw_⟩ := atI_pair r2 et
          rcases hq with hq | ⟨hq, _⟩
          · exact .inl ⟨p, vs, i, w, rfl, rfl, hq, hw, fin.pure rw_ h⟩
          · exact .inr (.inl ⟨p, vs, i, w, rfl, rfl, hq, hw, fin.pure rw_ h⟩)
        · exact h.elim
      · exact h.elim
  · exact h.elim

/-! ### slices -/
def cutT (ts : List T) (lo hi : Option Int) : List T := (ts.drop (HT.sIx ts.length 0 lo)).take (HT.sIx ts.length ts.length hi - HT.sIx ts.length 0 lo)
abbrev GS := O → Option Int → Option Int → (O → Prop) → Prop
def partT : Option XT → AEnv → (Option Int → AEnv → Prop) → Prop
  | none, ρ, Q => Q none ρ
  | some t, ρ, Q => t ρ fun p ρ1 => match p.get ρ1 with
    | some (.pure (.int i)) => Q (some i) ρ1
    | _ => False
def tSlc (te : XT) (tl th : Option XT) : XT := fun ρ Q => te ρ fun p ρ1 => partT tl ρ1 fun lo ρ2 => partT th ρ2 fun hi ρ3 => match p.get ρ3 with
  | some (.pure (.str z)) => z.length ≤ 16777216 ∧ Q (.val (.pure (.str (cutS z lo hi)))) ρ3
  | some (.pure (.tuple ts)) => Q (.val (.pure (.tuple (cutT ts lo hi)))) ρ3
  | some (.lst ts) => Q (.val (.lst (cutT ts lo hi))) ρ3
  | some (.pure (.list ts)) => Q (.val (.lst (cutT ts lo hi))) ρ3
  | _ => False
def LO (K : PySem.W.Frag) (t : Option XT) : TO := fun σ H Q => ∃ ρ fp G Qa, RS K σ H ρ fp G ∧ partT t ρ Qa ∧ ∀ o H' ρ' fp', RS K σ H' ρ' fp' G → Ext H (Fo fp) H' (Fo fp') → Qa o ρ' → Q o H'
structure OX (X : Cx) (e : Option Expr) (t : Option XT) : Prop where
  po : PO X e (LO X.K t)
theorem PO.imp {e : Option Expr} {t t' : TO} (h : PO X e t) (w : ∀ σ H Q, t' σ H Q → t σ H Q) : PO X e t' := ⟨fun pins s σ H Q I q => h.run pins s σ H Q I (w σ H Q q)⟩
theorem ox_none : OX X none none := by
  refine ⟨PO.imp po_none ?_⟩
  rintro σ H Q ⟨ρ, fp, G, Qa, R, h, fin⟩
  exact fin none H ρ fp R Ext.refl h
theorem ox_some {e : Expr} {te : XT} (h : EX X e te) : OX X (some e) (some te) := by
  refine ⟨PO.imp (po_some h.pe) ?_⟩
  rintro σ H Q ⟨ρ, fp, G, Qa, R, h, fin⟩
  refine ⟨ρ, fp, G, _, R, h, fun v p A H1 ρ1 fp1 R1 r1 x1 h1 => ?_⟩
  split at h1
  · rename_i i ei
    have e := RP.intE (r1.rw0 R1 ei)
    exact ⟨i, e, fin (some i) H1 ρ1 fp1 (R1.sub fun a m => List.mem_append_right _ m) x1.or h1⟩
  · exact h1.elim
def rSlAll (K : PySem.W.Frag) : V → Option Int → Option Int → Hp → VK → Prop := fun x lo hi H Q => rSlS x lo hi H Q ∨ rSlL K x lo hi H Q ∨ rSlA K x lo hi H Q
theorem cut_pair {K : PySem.W.Frag} {H : Hp} {F : Addr → Prop} {vs : List V} {ts : List T} {lo hi : Option Int} (r : RPs K H F vs ts) : RPs K H F (cutV vs lo hi) (cutT ts lo hi) := by
  unfold cutV cutT
  rw [Paired.len r]
  exact Paired.takeP _ (Paired.dropP _ r)
theorem cut_all {ts : List T} {lo hi : Option Int} (h : HT.sIx ts.length 0 lo = 0 ∧ HT.sIx ts.length ts.length hi = ts.length) : cutT ts lo hi = ts := by
  unfold cutT
  rw [h.1, h.2, List.drop_zero, Nat.sub_zero, List.take_length]
theorem ex_slice {e : Expr} {lo hi : Option Expr} {te : XT} {tl th : Option XT} {p2 pos : Pos} (he : EX X e te) (hl : OX X lo tl) (hh : OX X hi th) : EX X (.Subscript e (.Slice lo hi none p2) pos) (tSlc te tl th) := by
  refine ⟨PE.imp (pe_slice (sl_str.or (sl_list.or sl_tupA)) he.pe hl.po hh.po) ?_⟩
  rintro σ H Q ⟨ρ, fp, G, Qa, R, h, fin⟩
  refine ⟨ρ, fp, G, _, R, h, fun v p A H1 ρ1 fp1 R1 r1 x1 h1 => ?_⟩
  refine ⟨ρ1, fp1, A ++ G, _, R1, h1, fun l H2 ρ2 fp2 R2 x2 h2 => ?_⟩
  refine ⟨ρ2, fp2, A ++ G, _, R2, h2, fun u H3 ρ3 fp3 R3 x3 h3 => ?_⟩
  have x23 : Ext H1 (Fo fp1) H3 (Or1 (Fo fp3) []) := (x2.trans x3).weak (fun _ z => z) Or1.nil
  have w : ∀ {o : O}, p.get ρ3 = some o → RW X.K H3 (Or1 (Fo fp3) (A ++ G)) v o := fun e => r1.rw (B := []) R1 x23 R3 e
  have fz := fin_of (G := G) R3 (fun a m => List.mem_append_right _ m) (x1.or.trans (x2.trans x3)) fin
  split at h3
  · rename_i z ez
    have e1 := RP.strE (w ez)
    exact .inl ⟨z, e1, by rw [sizeLine_eq]; exact h3.1, fz.str h3.2⟩
  · rename_i ts ez
    obtain ⟨q, vs, e1, hq, r2⟩ := RP.tupE (w ez)
    refine .inr (.inr ⟨q, vs, e1, hq, fun hw => ?_, fun hw y hy => fz.tup hy (cut_pair r2) h3⟩)
    rw [Paired.len r2] at hw
    rw [cut_all hw] at h3
    have := w ez
    rw [e1] at this
    exact fz.pure this h3
  · rename_i ts ez
    obtain ⟨q, vs, e1, hq, r2⟩ := RW.ls (w ez) rfl
    exact .inr (.inl ⟨q, vs, e1, hq, fun y hy => fz.lst hy (cut_pair r2) h3⟩)
  · rename_i ts ez
    obtain ⟨q, vs, e1, hq, r2⟩ := RW.ls (w ez) rfl
    exact .inr (.inl ⟨q, vs, e1, hq, fun y hy => fz.lst hy (cut_pair r2) h3⟩)
  · exact h3.elim

/-! ### chained comparisons -/
theorem ex_chain {op op' : CmpOp} {g g' : G2} {a b c : Expr} {ta tb tc : XT} {pos : Pos} (ho : OpA X (compareOp op) g) (ho' : OpA X (compareOp op') g') (ha : EX X a ta) (hb : EX X b tb) (hc : EX X c tc)
    (hm : lastMarks [op, op'] [b, c] = false := by with_unfolding_all rfl) : TX X (.Compare a [op, op'] [b, c] pos) (tChainA g g' ta tb tc) := by
  obtain ⟨r, hr, hg⟩ := ho
  obtain ⟨r', hr', hg'⟩ := ho'
  refine ⟨PT.imp (pt_chain hr hr' ha.pe hb.pe hc.pe hm) ?_⟩
  rintro σ H Q ⟨ρ, fp, G, Qa, R, h, fin⟩
  refine ⟨ρ, fp, G, _, R, h, fun v p A H1 ρ1 fp1 R1 r1 x1 h1 => ?_⟩
  refine ⟨ρ1, fp1, A ++ G, _, R1, h1, fun u q B H2 ρ2 fp2 R2 r2 x2 h2 => ?_⟩
  unfold g2 at h2
  split at h2
  · rename_i x y e1 e2
    refine hg H2 (Or1 (Fo fp2) (B ++ (A ++ G))) v u x y _ _ (r1.rw R1 x2 R2 e1) (r2.rw0 R2 e2) h2 fun z o C H3 pr ro nC ndC q3 => ?_
    unfold bO at q3
    split at q3
    · rename_i c
      obtain ⟨rfl, ro⟩ := ro
      have ez := RP.boolE ro; subst ez
      refine ⟨c, rfl, ?_⟩
      cases c with
      | true =>
        rw [if_pos rfl] at q3 ⊢
        have R3 : RS X.K σ H3 ρ2 fp2 (B ++ (A ++ G)) := R2.pres pr
        refine ⟨ρ2, fp2, B ++ (A ++ G), _, R3, q3, fun w' r D H4 ρ4 fp4 R4 r4 x4 h4 => ?_⟩
        obtain ⟨hsl, h4⟩ := h4
        split at h4
        · rename_i y' z' e3 e4
          have r2' : ROp X.K σ H3 fp2 ρ2 (A ++ G) u q B := by
            cases q with
            | val o => exact ⟨r2.1.pres pr, r2.2⟩
            | slot j => exact r2
          refine hg' H4 (Or1 (Fo fp4) (D ++ (B ++ (A ++ G)))) u w' y' z' _ _ (r2'.rw R3 x4 R4 e3) (r4.rw0 R4 e4) h4 fun z2 o2 C2 H5 pr5 ro5 nC5 nd5 q5 => ?_
          split at q5
          · obtain ⟨rfl, ro5⟩ := ro5
            have ez := RP.boolE ro5; subst ez
            refine ⟨_, rfl, fin _ H5 ρ4 fp4 ((R4.sub (G' := G) fun a m => by simp [m]).pres pr5) ?_ q5⟩
            exact ((x1.or.trans x2.or).trans (pr.ext (F := Fo fp2))).trans (x4.or.trans pr5.ext)
          · exact q5.elim
        · exact h4.elim
      | false =>
        rw [if_neg Bool.false_ne_true] at q3 ⊢
        exact ⟨false, rfl, fin false H3 ρ2 fp2 ((R2.sub (G' := G) fun a m => by simp [m]).pres pr) ((x1.or.trans x2.or).trans pr.ext) q3⟩
    · exact q3.elim
  · exact h2.elim
end
end DL

set_option Elab.async false
set_option linter.all false
set_option maxRecDepth 100000
set_option maxHeartbeats 4000000
/-! THE DATA LAYER, part 13: constants of the module, methods of texts, xs[::-1], {}. -/
namespace DL
open PySem PySem.Spec L2
open PyProof.Rows hiding St

section
variable {X : Cx} {e : Expr} {te : XT} {pos : Pos}
theorem ex_gint {x : Str} {i : Int} (hg : Gl X x) (hm : ∃ t, X.mg x = some (.int i t)) (hd : (x == ("__debug__" : Str)) = false := by decide) : EX X (.Name x pos) (tCst (.int i)) := by
  obtain ⟨t, hm⟩ := hm
  exact ex_cst (pe_glob (v := .int i) hg hm ⟨t, rfl⟩ hd) fun _ _ _ => RP.int i
theorem ex_gstr {x : Str} {i : Str} (hg : Gl X x) (hm : ∃ t, X.mg x = some (.str i t)) (hd : (x == ("__debug__" : Str)) = false := by decide) : EX X (.Name x pos) (tCst (.str i)) := by
  obtain ⟨t, hm⟩ := hm
  exact ex_cst (pe_glob (v := .str i) hg hm ⟨t, rfl⟩ hd) fun _ _ _ => RP.str i
def tDct0 : XT := fun ρ Q => Q (.val (.dct [])) ρ
theorem ex_dct0 : EX X (.Dict [] [] pos) tDct0 := by
  refine ⟨PE.imp pe_dnewK ?_⟩
  rintro σ H Q ⟨ρ, fp, G, Qa, R, h, fin⟩
  intro p hp
  refine fin_of (G := G) R (fun a m => m) Ext.refl fin (.ref p) (.dct []) [p] _ (Pres.upd hp) ⟨p, [], rfl, rfl, upd_same, .nil⟩ (fun a m => by rw [List.mem_singleton.mp m]; exact hp) (by simp) h
/-- a method of a text without arguments -/
def tStrM (f : Str → Str) (C : Str → Prop) (te : XT) : XT := fun ρ Q => te ρ fun p ρ1 => match p.get ρ1 with
  | some (.pure (.str z)) => C z ∧ Q (.val (.pure (.str (f z)))) ρ1
  | _ => False
theorem lx_strM {K : PySem.W.Frag} {f : Str → Str} {C C' : Str → Prop} (hC : ∀ z, C z → C' z) {σ : St} {H : Hp} {Q : VK} (h : LX K (tStrM f C te) σ H Q) : tM0 (fun x xs H Q => ∃ a, x = .str a ∧ xs = [] ∧ C' a ∧ Q (.str (f a)) H) (LX K te) σ H Q := by
  obtain ⟨ρ, fp, G, Qa, R, h, fin⟩ := h
  refine ⟨ρ, fp, G, _, R, h, fun v p A H1 ρ1 fp1 R1 r1 x1 h1 => ?_⟩
  split at h1
  · rename_i z ez
    have e1 := RP.strE (r1.rw0 R1 ez)
    exact ⟨⟨z, e1⟩, z, e1, rfl, hC z h1.1, FinV.str (fin_of (G := G) R1 (fun a m => List.mem_append_right _ m) x1.or fin) h1.2⟩
  · exact h1.elim
theorem ex_upper {apos : Pos} (he : EX X e te) (hbase : attributeBase e "upper" X.env (eval e X.env) = eval e X.env := by rfl) (hline : (apos.endLine == pos.line) = true := by rfl) :
    EX X (.Call (.Attribute e "upper" apos) [] [] pos) (tStrM Txt.upper (fun z => z.length ≤ 5000000) te) := ⟨PE.imp (pe_upper he.pe hbase hline) fun σ H Q h => lx_strM (fun z hz => by omega) h⟩
theorem ex_lower {apos : Pos} (he : EX X e te) (hbase : attributeBase e "lower" X.env (eval e X.env) = eval e X.env := by rfl) (hline : (apos.endLine == pos.line) = true := by rfl) :
    EX X (.Call (.Attribute e "lower" apos) [] [] pos) (tStrM Txt.lower (fun z => z.length ≤ 5000000) te) := ⟨PE.imp (pe_lower he.pe hbase hline) fun σ H Q h => lx_strM (fun z hz => by omega) h⟩
theorem ex_strip {apos : Pos} (he : EX X e te) (hbase : attributeBase e "strip" X.env (eval e X.env) = eval e X.env := by rfl) (hline : (apos.endLine == pos.line) = true := by rfl) :
    EX X (.Call (.Attribute e "strip" apos) [] [] pos) (tStrM Txt.strip (fun z => z.length ≤ 5000000) te) := ⟨PE.imp (pe_strip he.pe hbase hline) fun σ H Q h => lx_strM (fun z hz => by rw [sizeLine_eq]; omega) h⟩
end

/-! ### xs[::-1] -/
section
variable {prog : Program} {w : World} {A : Around} {E : Value → Shared → Prop} {s : Shared}
theorem fm_congr {α β : Type} {f g : α → Option β} : ∀ {l : List α}, (∀ m ∈ l, f m = g m) → l.filterMap f = l.filterMap g
  | [], _ => rfl
  | a :: l, h => by
    rw [List.filterMap_cons, List.filterMap_cons, h a List.mem_cons_self, fm_congr fun m hm => h m (List.mem_cons_of_mem _ hm)]
theorem fm_all {α : Type} (l : List α) : (List.range l.length).filterMap (fun m => l[m]?) = l := by
  induction l with
  | nil => rfl
  | cons a l ih =>
    rw [List.length_cons, List.range_succ_eq_map, List.filterMap_cons, List.filterMap_map]
    simp only [List.getElem?_cons_zero]
    refine congrArg (a :: ·) (Eq.trans (fm_congr fun m _ => ?_) ih)
    simp
theorem rev_pick (xs : Array Value) : ((List.range xs.size).filterMap fun (m : Nat) => xs[(((xs.size : Int) - 1) + (m : Int) * (-1)).toNat]?).toArray = xs.toList.reverse.toArray := by
  refine congrArg List.toArray ?_
  have h := fm_all xs.toList.reverse
  rw [List.length_reverse, Array.length_toList] at h
  refine Eq.trans (fm_congr fun m hm => ?_) h
  have hm := List.mem_range.mp hm
  have : (((xs.size : Int) - 1) + (m : Int) * (-1)).toNat = xs.size - 1 - m := by omega
  rw [this, List.getElem?_reverse (by simpa using hm)]
  simp
theorem getItem_tuple_rev {t sl : Addr} {items : Array Value} {vs : Value} {Q : Value → Shared → Prop} (ht : IsTup s.heap t items) (hs : s.heap.IsSliceOf sl .none .none vs) (ps : IsPart vs (some (-1)))
    (h : Q (.ref s.heap.objs.size) { s with heap := s.heap.push { cls := .type "tuple", data := .seq items.toList.reverse.toArray } }) (hsz : items.size ≤ sizeLine) : wpAny (model prog w) A (getItem (.ref t) (.ref sl)) Q E s := by
  have hz : sizeOk (.seq items.toList.reverse.toArray) := by
    show items.toList.reverse.toArray.size ≤ sizeLine
    simpa using hsz
  obtain ⟨os, hos, hcs, hds⟩ := id hs
  have hTs : s.TypeIs (.ref sl) "slice" := ⟨os, hos, hcs⟩
  unfold getItem
  try with_reducible refine wpAny_holding ?_
  first | refine wpAny_bind (wpAny_pure ?_) | skip
  refine wpAny_bind (wpAny_sequenceKey ht.typeIs (by decide) ?_)
  refine wpAny_bind (wpAny_callSpecial?_slot (name := Str.ofString "__getitem__") ht.typeIs PyProof.Rows.slot_tuple_getitem
    (wpAny_call_entry PyProof.Rows.slot_tuple_getitem ht.typeIs entry_tuple_getitem ?_ (args_tuple_getitem _ _)))
  show wpAny _ _ (Builtin.Tuple.tupleItemsOf (.ref t) >>= _) _ _ s
  refine wpAny_bind (tupleItemsOf_ ht ?_)
  refine wpAny_bind (wpAny_typeOf hTs ?_)
  rw [if_pos (by decide)]
  refine wpAny_bind (m := Builtin.Slice.sliceApplied (.ref sl) (pure (items.size : Int))) ?_
  have app : ∀ Q' : Int × Int × Nat → Shared → Prop, Q' ((items.size : Int) - 1, -1, items.size) s → wpAny (model prog w) A.in1 (Builtin.Slice.sliceApplied (.ref sl) (pure (items.size : Int))) Q' E s := fun Q' hq => by
    unfold Builtin.Slice.sliceApplied Builtin.Slice.sliceFields
    refine wpAny_bind (wpAny_bind (wpAny_field hos hds (x := .none) rfl (wpAny_bind (wpAny_field hos hds (x := .none) rfl (wpAny_bind (wpAny_field hos hds (x := vs) rfl (wpAny_pure ?_)))))))
    refine wpAny_bind (HT.slicePart_ ps ?_)
    show wpAny _ _ (if ((-1 : Int) == 0) = true then _ else _) _ _ s
    rw [if_neg (by decide)]
    refine wpAny_bind (slicePart_none (wpAny_bind (slicePart_none (wpAny_bind (wpAny_pure ?_)))))
    have e1 : Builtin.Slice.sliceAdjust none none (-1) (items.size : Int) = ((items.size : Int) - 1, -1) := rfl
    have e2 : Builtin.Slice.slicePlaces ((items.size : Int) - 1) (-1) (-1) = items.size := by
      unfold Builtin.Slice.slicePlaces
      rw [if_neg (by decide)]
      by_cases z : items.size = 0
      · rw [z]; rfl
      · rw [if_pos (by omega)]
        simp only [Int.neg_neg, Int.ediv_one]
        omega
    show wpAny _ _ (match Builtin.Slice.sliceAdjust none none (-1) (items.size : Int) with | (lo, hi) => pure (lo, (-1 : Int), Builtin.Slice.slicePlaces lo hi (-1))) _ _ s
    rw [e1]
    show wpAny _ _ (pure ((items.size : Int) - 1, (-1 : Int), Builtin.Slice.slicePlaces ((items.size : Int) - 1) (-1) (-1))) _ _ s
    rw [e2]
    exact wpAny_pure hq
  refine app _ ?_
  have hno : ¬ ((((items.size : Int) - 1) == 0 && (-1 : Int) == 1 && items.size == items.size) = true) := by simp
  show wpAny _ _ (if (((items.size : Int) - 1) == 0 && (-1 : Int) == 1 && items.size == items.size) = true then _ else _) _ _ s
  rw [if_neg hno, rev_pick]
  first
    | exact wpAny_bind (m := Builtin.Tuple.tupleExact _) (wpAny_newObj_type (wpAny_pure ⟨_, rfl, wpAny_pure h⟩) hz)
    | exact wpAny_bind (m := Builtin.Tuple.tupleExact _) (wpAny_newObj_type (wpAny_bind (wpAny_pure (wpAny_pure ⟨_, rfl, wpAny_pure h⟩))) hz)
    | exact wpAny_bind (wpAny_bind (m := Builtin.Tuple.tupleExact _) (wpAny_newObj_type (wpAny_pure (wpAny_pure ⟨_, rfl, wpAny_pure h⟩)) hz))
    | exact wpAny_bind (wpAny_bind (m := Builtin.Tuple.tupleExact _) (wpAny_newObj_type (wpAny_pure ⟨_, rfl, wpAny_pure h⟩) hz))
end
section
variable {X : Cx} {e : Expr} {te : XT} {k : Nat} {p1 p2 p3 pos : Pos}
def tRevA (K : PySem.W.Frag) (te : TE) : TE := fun σ H Q => te σ H fun x H1 => (∃ a xs, x = .ref a ∧ SqL K H1 a xs ∧ ∀ p, H1 p = none → Q (.ref p) (upd H1 p (.lst xs.reverse))) ∨ ∃ a xs, x = .ref a ∧ SqT K H1 a xs ∧ ∀ p, H1 p = none → Q (.ref p) (upd H1 p (.tup xs.reverse))
theorem pe_revA {te : TE} (he : PE X e te) : PE X (.Subscript e (.Slice none none (some (.UnaryOp .USub (.Constant (.int 1) k p1) p2)) p3) pos) (tRevA X.K te) := by
  refine ⟨fun pins s σ H Q I h => ?_⟩
  refine Subscript_ (thn (he.run pins s σ H _ I h) fun v s1 ⟨x, H1, I1, r1, q1⟩ => ?_)
  have hst : PO X (some (.UnaryOp .USub (.Constant (.int 1) k p1) p2)) (tPart (tUn (rU fun i => .int (-i)) (tC (.int 1)))) := po_some (pe_un un_neg pe_int)
  refine wpAny_Slice (thn (po_none.run pins s1 σ H1 (fun o H2 => o = none ∧ H2 = H1) I1 ⟨rfl, rfl⟩) fun vl s2 ⟨l, H2, I2, pl, el, e2⟩ => ?_)
  subst el e2
  refine thn (po_none.run pins s2 σ H2 (fun o H3 => o = none ∧ H3 = H2) I2 ⟨rfl, rfl⟩) fun vu s3 ⟨u, H3, I3, pu, eu, e3⟩ => ?_
  subst eu e3
  refine thn (hst.run pins s3 σ H3 (fun o H4 => o = some (-1) ∧ H4 = H3) I3 ⟨1, rfl, -1, rfl, rfl, rfl⟩) fun vs s4 ⟨o, H4, I4, ps, eo, e4⟩ => ?_
  subst eo e4
  have I5 : Inv X pins σ H4 { s4 with heap := s4.heap.push { cls := .type "slice", data := .fields #[vl, vu, vs] } } := I4.kept (t' := s4.toks) fun b ob q => Heap.get?_push_of_some _ q
  rcases q1 with ⟨a, xs, ex, hx, q⟩ | ⟨a, xs, ex, hx, q⟩
  · subst ex
    cases r1
    obtain ⟨its, r, ht, hz⟩ := I5.list hx
    have hlen := r.length
    show wpAny (model X.prog X.w) X.A (subscriptTail e (.Slice none none (some (.UnaryOp .USub (.Constant (.int 1) k p1) p2)) p3) (.ref a) (.ref s4.heap.objs.size)) (EP X pins σ Q) X.xe { s4 with heap := s4.heap.push { cls := .type "slice", data := .fields #[vl, vu, vs] } }
    refine tail_any (ops := [.ref a, .ref s4.heap.objs.size]) ht.isList.typeIs (PySem.slot_list_getitem.lookup) ?_ (by with_unfolding_all rfl)
    refine wpAny_getItem_list_slice ht.isList (Heap.IsSliceOf.new _ vl vu vs) pl pu ps (by decide) ?_ (by rw [List.size_toArray]; omega)
    rw [PySem.W.krv_pick]
    refine ⟨.ref _, _, I5.laid (t' := s4.toks) (o := .lst xs.reverse) (fun b ob q => Heap.get?_push_of_some _ q) (Nat.le_refl _) ?_, rfl, q _ (I5.hok.fresh (Nat.le_refl _))⟩
    exact ⟨by rw [List.length_reverse]; exact hz, _, 0, r.reverse, Heap.get?_push_size _ rfl⟩
  · subst ex
    cases r1
    cases pl
    cases pu
    obtain ⟨its, r, ht, hz⟩ := I5.tuple hx
    have hlen := r.length
    show wpAny (model X.prog X.w) X.A (subscriptTail e (.Slice none none (some (.UnaryOp .USub (.Constant (.int 1) k p1) p2)) p3) (.ref a) (.ref s4.heap.objs.size)) (EP X pins σ Q) X.xe { s4 with heap := s4.heap.push { cls := .type "slice", data := .fields #[.none, .none, vs] } }
    refine tail_any (ops := [.ref a, .ref s4.heap.objs.size]) ht.typeIs (PyProof.Rows.slot_tuple_getitem.lookup) ?_ (by with_unfolding_all rfl)
    refine getItem_tuple_rev ht (Heap.IsSliceOf.new _ .none .none vs) ps ?_ (by rw [List.size_toArray]; omega)
    refine ⟨.ref _, _, I5.laid (t' := s4.toks) (o := .tup xs.reverse) (fun b ob q => Heap.get?_push_of_some _ q) (Nat.le_refl _) ?_, rfl, q _ (I5.hok.fresh (Nat.le_refl _))⟩
    exact ⟨by rw [List.length_reverse]; exact hz, _, r.reverse, IsTup.new _ _⟩
def tRev (te : XT) : XT := fun ρ Q => te ρ fun p ρ1 => match p.get ρ1 with
  | some (.pure (.tuple ts)) => Q (.val (.pure (.tuple ts.reverse))) ρ1
  | some (.lst ts) => Q (.val (.lst ts.reverse)) ρ1
  | some (.pure (.list ts)) => Q (.val (.lst ts.reverse)) ρ1
  | _ => False
theorem ex_rev (he : EX X e te) : EX X (.Subscript e (.Slice none none (some (.UnaryOp .USub (.Constant (.int 1) k p1) p2)) p3) pos) (tRev te) := by
  refine ⟨PE.imp (pe_revA he.pe) ?_⟩
  rintro σ H Q ⟨ρ, fp, G, Qa, R, h, fin⟩
  refine ⟨ρ, fp, G, _, R, h, fun v p A H1 ρ1 fp1 R1 r1 x1 h1 => ?_⟩
  have w : ∀ {o : O}, p.get ρ1 = some o → RW X.K H1 (Or1 (Fo fp1) (A ++ G)) v o := fun e => r1.rw0 R1 e
  have fz := fin_of (G := G) R1 (fun a m => List.mem_append_right _ m) x1.or fin
  split at h1
  · rename_i ts ez
    obtain ⟨q, vs, e1, hq, r2⟩ := RP.tupE (w ez)
    exact .inr ⟨q, vs, e1, hq, fun y hy => fz.tup hy (Paired.revP r2) h1⟩
  · rename_i ts ez
    obtain ⟨q, vs, e1, hq, r2⟩ := RW.ls (w ez) rfl
    exact .inl ⟨q, vs, e1, hq, fun y hy => fz.lst hy (Paired.revP r2) h1⟩
  · rename_i ts ez
    obtain ⟨q, vs, e1, hq, r2⟩ := RW.ls (w ez) rfl
    exact .inl ⟨q, vs, e1, hq, fun y hy => fz.lst hy (Paired.revP r2) h1⟩
  · exact h1.elim
end
end DL

set_option Elab.async false
set_option linter.all false
set_option maxRecDepth 100000
set_option maxHeartbeats 4000000
/-! THE DATA LAYER, part 14: several names that comprehensions share; facts of the built-ins' names. -/
namespace DL
open PySem PySem.Spec L2
open PyProof.Rows hiding St

theorem par_goP {K : PySem.W.Frag} {P : Nat → Bool} {js : List Nat} {ts : XTs} {n : Nat} (hn : js.length = n) (hp : (js.all fun j => !P j) = true) {D : Ends} {σ : St} {H : Hp} (h : LS K P (sPar js ts) D σ H) : LA K n ts σ H fun vs H1 => vs.length = n ∧ ∀ H', Pres H1 H' → D.nx (setV σ js vs) H' := by
  obtain ⟨ρ, fp, G, Da, R, h, f⟩ := h
  refine ⟨ρ, fp, G, _, R, h, fun vs ps A H1 ρ1 fp1 hl R1 r1 nd1 ng1 x1 h1 => ⟨hl, fun H' pr => ?_⟩⟩
  obtain ⟨os, js', ρ2, fp2, Bs, R2, r2, d2, n2, i2, _, _, _, hall, h2⟩ := prep_ok r1 R1 (fun a z => z) ng1 nd1 h1
  obtain ⟨fp3, R3, i3, p3⟩ := puts_ok (P := P) R2 r2 d2 n2 (by rw [hn, ← hl, r2.len.1]) (fun j m => Nat.le_of_ble_eq_true (List.all_eq_true.mp hall j m)) fun j m => by simpa using List.all_eq_true.mp hp j m
  refine f.nx _ H' _ fp3 (R3.pres pr) (x1.trans (pr.ext.weak (fun a z => ?_) fun _ z => z)) p3 h2
  exact i2 a (i3 a z)
section
variable {X : Cx} {P : Nat → Bool} {x y z : Str} {a b c : Expr} {ts : XTs} {px py pz pt pos : Pos}
theorem sx_parC2 {kt k2 pt2} (i j : Nat) (hc : X.calm = true) (hN : X.N.Nodup) (hi : X.N[i]? = some x) (hj : X.N[j]? = some y) (hx : Loc X.env.scope x) (hy : Loc X.env.scope y) (ha : EXs X [a, b] ts) (hp : (([i, j] : List Nat).all fun j => !P j) = true := by rfl)
    (fx : X.fn x = true ∨ X.env.scope.names.lookup x = some .local := by first | exact .inl rfl | exact .inr rfl) (fy : X.fn y = true ∨ X.env.scope.names.lookup y = some .local := by first | exact .inl rfl | exact .inr rfl)
    (hs : swapsWithSole [.Tuple [.Name x px, .Name y py] kt pt] (.Tuple [a, b] k2 pt2) pos.line X.env = pure false := by rfl) (hw : swappedStores [.Tuple [.Name x px, .Name y py] kt pt] (.Tuple [a, b] k2 pt2) X.env = pure none := by rfl)
    (h1 : (assignEach [.Tuple [.Name x px, .Name y py] kt pt] X.env).map (·.2) = [assign (.Tuple [.Name x px, .Name y py] kt pt) X.env] := by rfl)
    (hq1 : (assignEach [.Name x px, .Name y py] X.env).map (·.2) = assign (.Name x px) X.env :: (assignEach [.Name y py] X.env).map (·.2) := by rfl) (hq2 : (assignEach [.Name y py] X.env).map (·.2) = assign (.Name y py) X.env :: (assignEach [] X.env).map (·.2) := by rfl)
    (hn : (assignEach [.Name x px, .Name y py] X.env).length = 2 := by rfl) (hst : (assignEach [.Name x px, .Name y py] X.env).findIdx? (·.1) = none := by rfl) :
    SX X P (.Assign [.Tuple [.Name x px, .Name y py] kt pt] (.Tuple [a, b] k2 pt2) pos) (sPar [i, j] ts) := by
  refine ⟨PS.imp (ps_asg (pe_tup ha.pa) (pg_tup hc (pgs_cons (pg_name hN hi hx fx) (pgs_cons (pg_name hN hj hy fy) pgs_nil hq2) hq1) hn hst) hs hw h1) fun D σ H h => ?_⟩
  obtain ⟨ρ, fp, G, Qa, R, h, f⟩ := par_goP (n := 2) rfl hp h
  refine ⟨ρ, fp, G, Qa, R, h, fun vs ps A H1 ρ1 fp1 hl R1 r1 nd1 ng1 x1 h1 => ?_⟩
  obtain ⟨_, q⟩ := f vs ps A H1 ρ1 fp1 hl R1 r1 nd1 ng1 x1 h1
  match vs, hl with
  | [v, w], _ => exact ⟨by rw [sizeLine_eq]; simp, fun p np => ⟨p, [v, w], rfl, SqT.of upd_same, rfl, _, _, rfl, _, _, rfl, rfl, q _ (Pres.upd np)⟩⟩
theorem sx_parC3 {kt k2 pt2} (i j l : Nat) (hc : X.calm = true) (hN : X.N.Nodup) (hi : X.N[i]? = some x) (hj : X.N[j]? = some y) (hl : X.N[l]? = some z) (hx : Loc X.env.scope x) (hy : Loc X.env.scope y) (hz : Loc X.env.scope z) (ha : EXs X [a, b, c] ts) (hp : (([i, j, l] : List Nat).all fun j => !P j) = true := by rfl)
    (fx : X.fn x = true ∨ X.env.scope.names.lookup x = some .local := by first | exact .inl rfl | exact .inr rfl) (fy : X.fn y = true ∨ X.env.scope.names.lookup y = some .local := by first | exact .inl rfl | exact .inr rfl) (fz : X.fn z = true ∨ X.env.scope.names.lookup z = some .local := by first | exact .inl rfl | exact .inr rfl)
    (hs : swapsWithSole [.Tuple [.Name x px, .Name y py, .Name z pz] kt pt] (.Tuple [a, b, c] k2 pt2) pos.line X.env = pure false := by rfl) (hw : swappedStores [.Tuple [.Name x px, .Name y py, .Name z pz] kt pt] (.Tuple [a, b, c] k2 pt2) X.env = pure none := by rfl)
    (h1 : (assignEach [.Tuple [.Name x px, .Name y py, .Name z pz] kt pt] X.env).map (·.2) = [assign (.Tuple [.Name x px, .Name y py, .Name z pz] kt pt) X.env] := by rfl)
    (hq1 : (assignEach [.Name x px, .Name y py, .Name z pz] X.env).map (·.2) = assign (.Name x px) X.env :: (assignEach [.Name y py, .Name z pz] X.env).map (·.2) := by rfl) (hq2 : (assignEach [.Name y py, .Name z pz] X.env).map (·.2) = assign (.Name y py) X.env :: (assignEach [.Name z pz] X.env).map (·.2) := by rfl)
    (hq3 : (assignEach [.Name z pz] X.env).map (·.2) = assign (.Name z pz) X.env :: (assignEach [] X.env).map (·.2) := by rfl)
    (hn : (assignEach [.Name x px, .Name y py, .Name z pz] X.env).length = 3 := by rfl) (hst : (assignEach [.Name x px, .Name y py, .Name z pz] X.env).findIdx? (·.1) = none := by rfl) :
    SX X P (.Assign [.Tuple [.Name x px, .Name y py, .Name z pz] kt pt] (.Tuple [a, b, c] k2 pt2) pos) (sPar [i, j, l] ts) := by
  refine ⟨PS.imp (ps_asg (pe_tup ha.pa) (pg_tup hc (pgs_cons (pg_name hN hi hx fx) (pgs_cons (pg_name hN hj hy fy) (pgs_cons (pg_name hN hl hz fz) pgs_nil hq3) hq2) hq1) hn hst) hs hw h1) fun D σ H h => ?_⟩
  obtain ⟨ρ, fp, G, Qa, R, h, f⟩ := par_goP (n := 3) rfl hp h
  refine ⟨ρ, fp, G, Qa, R, h, fun vs ps A H1 ρ1 fp1 hl R1 r1 nd1 ng1 x1 h1 => ?_⟩
  obtain ⟨_, q⟩ := f vs ps A H1 ρ1 fp1 hl R1 r1 nd1 ng1 x1 h1
  match vs, hl with
  | [u, v, w], _ => exact ⟨by rw [sizeLine_eq]; simp, fun p np => ⟨p, [u, v, w], rfl, SqT.of upd_same, rfl, _, _, rfl, _, _, rfl, _, _, rfl, rfl, q _ (Pres.upd np)⟩⟩
end
/-! ### the built-ins' names -/
theorem bn_len : bootBuiltins "len" = some (.builtin "len") := by decide +kernel
theorem bn_all : bootBuiltins "all" = some (.builtin "all") := by decide +kernel
theorem bn_any : bootBuiltins "any" = some (.builtin "any") := by decide +kernel
theorem bn_abs : bootBuiltins "abs" = some (.builtin "abs") := by decide +kernel
theorem bn_max : bootBuiltins "max" = some (.builtin "max") := by decide +kernel
theorem bn_min : bootBuiltins "min" = some (.builtin "min") := by decide +kernel
theorem bn_repr : bootBuiltins "repr" = some (.builtin "repr") := by decide +kernel
theorem bn_sorted : bootBuiltins "sorted" = some (.builtin "sorted") := by decide +kernel
theorem bn_int : bootBuiltins "int" = some (.type "int") := by decide +kernel
theorem bn_str : bootBuiltins "str" = some (.type "str") := by decide +kernel
theorem bn_bool : bootBuiltins "bool" = some (.type "bool") := by decide +kernel
theorem bn_list : bootBuiltins "list" = some (.type "list") := by decide +kernel
theorem bn_tuple : bootBuiltins "tuple" = some (.type "tuple") := by decide +kernel
theorem bn_dict : bootBuiltins "dict" = some (.type "dict") := by decide +kernel
/-- a walk whose reading is found first, then held against the wanted one -/
theorem by_t {X : Cx} {P : Nat → Bool} {b : List Stmt} {t t' : ST} (h : SXs X P b t) (e : t = t') : SXs X P b t' := e ▸ h
/-- a def that is never called -/
theorem fng_bot {P : Program} {w : World} {K : PySem.W.Frag} {mg : Str → Option Value} {base : Heap} {k : Nat} {f : Addr} {fd : FuncData} {ps : List Str} {fl : List Bool} (hfl : fl.length = ps.length) : FnG P w K mg base CX0 k f fd ps (ASp K fl fun _ _ => False) :=
  ⟨fun vs H Q E ⟨os, fp, G, Qa, h, _⟩ => by rw [h, hfl], fun A outer s H args us vs Q E _ _ _ _ ⟨os, fp, G, Qa, _, _, _, z, _⟩ => z.elim⟩
end DL

set_option Elab.async false
set_option linter.all false
set_option maxRecDepth 100000
set_option maxHeartbeats 4000000
/-! THE DATA LAYER, part 15: tuple(text), list(text). -/
namespace DL
open PySem PySem.Spec L2
open PyProof.Rows hiding St
section
variable {prog : Program} {w : World} {A : Around} {E : Value → Shared → Prop} {s : Shared} {x : Str} {t : Tok}
theorem collect_strX {Q : List Value → Shared → Prop} (hh : A.handled = none) (hn : x.cps.size ≤ sizeLine)
    (hQ : ∀ (h' : Heap) (tk : Nat) (acc : Array Value), (∀ b o, s.heap.get? b = some o → h'.get? b = some o) → ItemsOf (SignAt x) acc x.cps.size → Q acc.toList { s with heap := h', toks := tk }) :
    wpAny (model prog w) A (collect (.str x t)) Q E s := by
  unfold collect
  refine wpAny_bind (wpAny_runValue (codeAny_builtin F.entry_proto_collect ?_))
  rw [Around.under_plainId F.plain_proto_collect _]
  show wpAny _ A.in1 (newList [] >>= fun l => again (.builtin "list.__iadd__" ⟨[l, .str x t], []⟩)) _ _ s
  refine wpAny_bind (wpAny_newObj_type ?_)
  refine wpAny_pure ⟨plainId_quiet F.plain_list_iadd _, codeAny_builtin F.entry_list_iadd ?_⟩
  rw [Around.under_plainId F.plain_list_iadd _]
  show wpAny _ A.in1 (Builtin.List.listExtendWith (.ref s.heap.objs.size) (.str x t) (.ref s.heap.objs.size)) _ _ _
  have hS : (s.heap.push { cls := .type "list", data := .seq ([] : List Value).toArray }).get? s.heap.objs.size = some { cls := .type "list", data := .seq #[] 0 } := Heap.get?_push_size _ rfl
  refine wpAny_mono (wpAny_extend_str (A := A) (R := fun rr s' => rr = .ok (.ret (.ref s.heap.objs.size)) ∧ ∃ (h' : Heap) (tk : Nat) (acc : Array Value) (c' : Nat), s' = { s with heap := h', toks := tk } ∧
      (∀ b o, s.heap.get? b = some o → h'.get? b = some o) ∧ h'.get? s.heap.objs.size = some { cls := .type "list", dict := none, data := .seq acc c', slots := #[] } ∧ ItemsOf (SignAt x) acc x.cps.size)
    (s := { s with heap := s.heap.push { cls := .type "list", data := .seq ([] : List Value).toArray } }) (hn := hn) hh x t _ _ 0 hS
    (fun h' tk acc c' hk e hi => ⟨rfl, h', tk, acc, c', rfl, fun b o q => hk b o (Nat.ne_of_lt (Heap.lt_size q)) (Heap.get?_push_of_some _ q), e, hi⟩)) (fun fin s' h => ?_) (fun e s' h => ?_)
  · cases fin with
    | done f =>
      obtain ⟨e, h', tk, acc, c', rfl, hk, hS', hi⟩ := h
      cases e
      show wpAny _ A (load s.heap.objs.size >>= _) _ _ _
      exact wpAny_bind (wpAny_load hS' (wpAny_pure (hQ h' tk acc hk hi)))
    | again c' =>
      refine ⟨h.1, codeAny_mono h.2 fun rr s'' hr' => ?_⟩
      obtain ⟨rfl, h', tk, acc, c', rfl, hk, hS', hi⟩ := hr'
      show wpAny _ A (load s.heap.objs.size >>= _) _ _ _
      exact wpAny_bind (wpAny_load hS' (wpAny_pure (hQ h' tk acc hk hi)))
  · exact absurd h.1 (by simp)
theorem code_tuple_new_strX {Q₁ : Value → Shared → Prop} (hh : A.handled = none) (hn : x.cps.size ≤ sizeLine)
    (h : ∀ (h' : Heap) (tk : Nat) (acc : Array Value), (∀ b o, s.heap.get? b = some o → h'.get? b = some o) → ItemsOf (SignAt x) acc x.cps.size →
      Q₁ (.ref h'.objs.size) { s with heap := h'.push { cls := .type "tuple", data := .seq acc }, toks := tk }) :
    codeAny (model prog w) A (.call (.builtin "tuple.__new__") ⟨[.type "tuple", .str x t], []⟩) (wants Q₁ E) s := by
  refine codeAny_of_tree ?_
  show wpAny _ A.in1 (do checkBuiltinCall "tuple.__new__" ⟨[.type "tuple", .str x t], []⟩; again (.builtin "tuple.__new__" ⟨[.type "tuple", .str x t], []⟩)) _ _ s
  refine wpAny_bind (wpAny_of_eq (F.newCall_tuple_1 _) (wpAny_pure ⟨plainId_quiet F.plain_tuple_new _, codeAny_builtin F.entry_tuple_new ?_⟩))
  rw [Around.under_plainId F.plain_tuple_new _]
  have hsub := sub_tuple_self
  have hinit := init_tuple_lookup
  have hmh := madeHere_tuple
  have hTI : s.TypeIs (.str x t) "str" := rfl
  have hh1 : A.in1.handled = none := hh
  wp_walk using wpAny_typeOf hTI, collect_strX (A := A.in1) hh1 hn
  intro h' tk acc hk hacc
  show wpAny _ _ (Builtin.Tuple.tupleExact acc.toList.toArray >>= fun v => ret v) _ _ _
  unfold Builtin.Tuple.tupleExact
  refine wpAny_bind (wpAny_newObj_type ?_ (by show acc.toList.toArray.size ≤ sizeLine; simp only [Array.toArray_toList]; rw [hacc.1]; exact hn))
  refine wpAny_pure ?_
  have e : acc.toList.toArray = acc := by simp
  rw [e]
  exact h h' tk acc hk hacc
theorem call_tuple_strX {Q : Value → Shared → Prop} (hh : A.handled = none) (hn : x.cps.size ≤ sizeLine)
    (hQ : ∀ (h' : Heap) (tk : Nat) (acc : Array Value), (∀ b o, s.heap.get? b = some o → h'.get? b = some o) → ItemsOf (SignAt x) acc x.cps.size →
      Q (.ref h'.objs.size) { s with heap := h'.push { cls := .type "tuple", data := .seq acc }, toks := tk }) :
    wpAny (model prog w) A (call (.type "tuple") [.str x t]) Q E s := by
  refine callType_codes (Q₁ := fun obj s₁ => s₁.TypeIs obj "tuple" ∧ Q obj s₁) F.called_tuple (F.typeCall_tuple_1 _) F.entry_object_init
    (code_tuple_new_strX (A := A.in1) hh hn fun h' tk acc hk hacc => ⟨⟨_, Heap.get?_push_size _ rfl, rfl⟩, hQ h' tk acc hk hacc⟩) fun obj s₁ h₁ => ?_
  exact ⟨h₁.1, F.args_object_init_2 obj _, object_init_meets F.called_tuple.init.lookup F.called_tuple.made (by decide) prog w A.in1 _ s₁ ⟨h₁.1, rfl, h₁.2⟩⟩
end
section
variable {X : Cx}
def signV (x : Str) : List V := x.cps.toList.map fun c => V.str ⟨#[c]⟩
theorem vals_sign {x : Str} {acc : Array Value} (h : ItemsOf (SignAt x) acc x.cps.size) : Vals (signV x) acc.toList := by
  refine vals_of_at (by simp [signV, h.1]) fun j v u h1 h2 => ?_
  obtain ⟨c, t, hc, rfl⟩ := h.2 j u (by rw [← Array.getElem?_toList]; exact h2)
  unfold signV at h1
  rw [List.getElem?_map, Array.getElem?_toList, hc] at h1
  cases h1
  exact ⟨t, rfl⟩
theorem rps_sign {K : PySem.W.Frag} {H : Hp} {F : Addr → Prop} (x : Str) : RPs K H F (signV x) (strItems x) := by
  unfold signV strItems
  generalize x.cps.toList = l
  induction l with
  | nil => exact .nil
  | cons c l ih => exact .cons (RP.str _) ih
def gListOf : GN := fun os Q => match os with
  | [.pure (.str x)] => x.length ≤ 1000000 ∧ Q (.lst (strItems x))
  | [o] => match seqO o with
    | some ts => Q (.lst ts)
    | none => False
  | _ => False
def gTupOf : GN := fun os Q => match os with
  | [.pure (.str x)] => x.length ≤ 1000000 ∧ Q (.pure (.tuple (strItems x)))
  | [o] => match seqO o with
    | some ts => Q (.pure (.tuple ts))
    | none => False
  | _ => False
theorem sign_fits {x : Str} (h : x.length ≤ 1000000) : x.cps.size ≤ sizeLine ∧ (signV x).length ≤ sizeLine := by
  have : x.length = x.cps.size := rfl
  rw [sizeLine_eq]
  unfold signV
  rw [List.length_map, Array.length_toList]
  omega
theorem callA_list (hc : X.calm = true) : CallA X (.type "list") gListOf := CallA.mk fun pins s σ H F vs xs us Q Qa I r hx h fin => by
  unfold gListOf at h
  split at h
  · rename_i x
    cases hx with
    | cons h1 hr =>
      cases hr
      obtain ⟨hz, h⟩ := h
      obtain rfl := RP.strE h1
      obtain ⟨u, rfl, rx⟩ := vals1 r
      obtain ⟨t, rfl⟩ := rx
      obtain ⟨f1, f2⟩ := sign_fits hz
      refine call_list_str (hn := f1) (I.ok.hd hc) x t fun h' tk acc' c' hk e hi => ?_
      exact ⟨.ref s.heap.objs.size, _, I.laid hk (Nat.le_refl _) (show ObjOk X.prog X.w _ _ _ (.lst (signV x)) from ⟨f2, acc'.toList, c', vals_sign hi, by rw [Array.toArray_toList]; exact e⟩), rfl,
        fin.lst (I.hok.fresh (Nat.le_refl _)) (rps_sign x) h⟩
  · rename_i o _
    obtain ⟨r', h1, h2⟩ := callA_listS (X := X)
    exact h1 pins s σ H vs us Q I r (h2 H F vs _ Q Qa hx h fin)
  · exact h.elim
theorem callA_tuple (hc : X.calm = true) : CallA X (.type "tuple") gTupOf := CallA.mk fun pins s σ H F vs xs us Q Qa I r hx h fin => by
  unfold gTupOf at h
  split at h
  · rename_i x
    cases hx with
    | cons h1 hr =>
      cases hr
      obtain ⟨hz, h⟩ := h
      obtain rfl := RP.strE h1
      obtain ⟨u, rfl, rx⟩ := vals1 r
      obtain ⟨t, rfl⟩ := rx
      obtain ⟨f1, f2⟩ := sign_fits hz
      refine call_tuple_strX (I.ok.hd hc) f1 fun h' tk acc hk hi => ?_
      have I2 : Inv X pins σ H { s with heap := h', toks := tk } := I.kept hk
      refine ⟨.ref h'.objs.size, _, I2.laid (t' := tk) (fun c o e => Heap.get?_push_of_some _ e) (Nat.le_refl _) (show ObjOk X.prog X.w _ _ _ (.tup (signV x)) from ⟨f2, acc.toList, vals_sign hi, ?_⟩), rfl, fin.tup (I2.hok.fresh (Nat.le_refl _)) (rps_sign x) h⟩
      rw [Array.toArray_toList]; exact IsTup.new _ _
  · rename_i o _
    obtain ⟨r', h1, h2⟩ := callA_tupleS (X := X)
    exact h1 pins s σ H vs us Q I r (h2 H F vs _ Q Qa hx h fin)
  · exact h.elim
end
end DL

set_option Elab.async false
set_option linter.all false
set_option maxRecDepth 100000
set_option maxHeartbeats 4000000
/-! THE DATA LAYER, part 16: sets of ints and texts, as the table that they are. -/
namespace DL
open PySem PySem.Spec L2
open PyProof.Rows hiding St
noncomputable instance memDec (k : Key) (ks : List Key) : Decidable (k ∈ ks) := Classical.propDecidable _
/-- a value as a key -/
def keyX : Value → Key
  | .int k _ => .inl k
  | .str x _ => .inr x
  | _ => .inl 0
theorem keyX_rel {k : Key} {v : Value} (r : RelV (kV k) v) : keyX v = k := by
  cases k with
  | inl i => obtain ⟨t, rfl⟩ := r; rfl
  | inr x => obtain ⟨t, rfl⟩ := r; rfl
def GoodX (P : Program) (w : World) (e : Int × Value) : Prop := ∃ k : Key, RelV (kV k) e.2 ∧ e.1 = (mixKind P w).hash k
/-- the set at a has the members ks -/
def SetX (P : Program) (w : World) (h : Heap) (a : Addr) (ks : List Key) : Prop :=
  ∃ o es ep t, h.get? a = some o ∧ o.ExactSet ∧ o.data = .set es ep t ∧ (∀ e ∈ es.toList, GoodX P w e) ∧ (es.toList.map fun e => keyX e.2).Perm ks ∧ ks.Nodup ∧
    es.size < scanBound ∧ t.fits es.size = true ∧ Ris t.place.toList ∧ (w.params.followText "set-order" = true ∨ t.led = true)
section
variable {P : Program} {w : World} {h h' : Heap} {a : Addr} {ks : List Key}
theorem SetX.at (R : SetX P w h a ks) (k : ∀ o, h.get? a = some o → h'.get? a = some o) : SetX P w h' a ks := by
  obtain ⟨o, es, ep, t, ho, r⟩ := R
  exact ⟨o, es, ep, t, k o ho, r⟩
theorem SetX.perm {ls : List Key} (R : SetX P w h a ks) (p : ks.Perm ls) : SetX P w h a ls := by
  obtain ⟨o, es, ep, t, ho, hx, hd, g, pm, nd, r⟩ := R
  exact ⟨o, es, ep, t, ho, hx, hd, g, pm.trans p, p.nodup_iff.mp nd, r⟩
theorem goodX_elems {l : List (Int × Value)} (g : ∀ e ∈ l, GoodX P w e) : ElemsOf (mixKind P w) l := fun e he => by
  obtain ⟨k, h1, h2⟩ := g e he
  exact ⟨⟨k, kV_is h1, h2⟩, key_scan h1⟩
theorem goodX_is {e : Int × Value} (g : GoodX P w e) (k : Key) : (mixKind P w).is k e.2 = true ↔ keyX e.2 = k := by
  obtain ⟨k0, h1, _⟩ := g
  rw [keyX_rel h1]
  constructor
  · intro q
    have := keyIs_rel (k := k) (v := e.2) q
    rw [← keyX_rel h1, keyX_rel this]
  · rintro rfl
    exact kV_is h1
theorem goodX_mem {l : List (Int × Value)} (g : ∀ e ∈ l, GoodX P w e) (k : Key) : k ∈ l.map (fun e => keyX e.2) ↔ ∃ e ∈ l, (mixKind P w).is k e.2 = true := by
  rw [List.mem_map]
  exact ⟨fun ⟨e, he, q⟩ => ⟨e, he, (goodX_is (g e he) k).2 q⟩, fun ⟨e, he, q⟩ => ⟨e, he, (goodX_is (g e he) k).1 q⟩⟩
theorem SetX.setOf (R : SetX P w h a ks) : h.SetOf (mixKind P w) a (fun k => decide (k ∈ ks)) ks.length := by
  obtain ⟨o, es, ep, t, ho, hx, hd, g, pm, nd, hb, hf, _⟩ := R
  refine ⟨o, es, ep, t, ho, hx, hd, goodX_elems g, fun k => ?_, hb, hf, ?_⟩
  · rw [decide_eq_true_eq, ← pm.mem_iff]
    exact goodX_mem g k
  · rw [← pm.length_eq, List.length_map, Array.length_toList]
end
section
variable {P : Program} {w : World} {A : Around} {E : Value → Shared → Prop} {s : Shared} {a : Addr} {ks : List Key}
theorem setX_tail {g : Bool → Sem Unit} (hg : ∀ (b : Bool) (s₁ : Shared) (Q' : Unit → Shared → Prop), Q' () s₁ → wpAny (model P w) A (g b) Q' E s₁)
    {o : Obj} {es : Array (Int × Value)} {ep : Nat} {t : SetTable} (ho : s.heap.get? a = some o) (hex : o.ExactSet) (hd : o.data = .set es ep t)
    {es1 : Array (Int × Value)} {t2 : SetTable} (g1 : ∀ e ∈ es1.toList, GoodX P w e) (p1 : (es1.toList.map fun e => keyX e.2).Perm ks) (nd1 : ks.Nodup)
    (hb1 : es1.size < scanBound) (hf2 : t2.fits es1.size = true) (hr : Ris t2.place.toList) (hl : w.params.followText "set-order" = true ∨ t2.led = true) {wasDummy : Bool} {R : Option Bool → Shared → Prop}
    (hR : ∀ h', Heap.SameBut a s.heap h' → SetX P w h' a ks → R (some true) { s with heap := h' }) :
    wpAny (model P w) A (do
        storeSet a es1 t2
        if (!wasDummy && t2.tooFull) = true then do
            g (relayAll t2 es1 (SetTable.grown es1.size)).2.2
            storeSet a (relayAll t2 es1 (SetTable.grown es1.size)).1 (relayAll t2 es1 (SetTable.grown es1.size)).2.1
            pure (some true)
          else pure (some true)) R E s := by
  refine wpAny_bind (wpAny_storeSet_of ho hd ?_ (fits_of_scanBound hb1))
  have ho1 := store_at (es' := es1) (t' := t2) ho hd
  have sb1 := Heap.SameBut.update s.heap a (Obj.putSet es1 t2)
  split
  · have pm := relayAll_perm t2 es1 (SetTable.grown es1.size)
    have hf3 := relayAll_fits t2 es1 (SetTable.grown es1.size)
    have hr3 := relayAll_ris t2 es1 (SetTable.grown es1.size)
    have hl3 := relayAll_led t2 es1 (SetTable.grown es1.size)
    generalize relayAll t2 es1 (SetTable.grown es1.size) = Z at pm hf3 hr3 hl3 ⊢
    obtain ⟨es2, t3, gave⟩ := Z
    dsimp only at pm hf3 hr3 hl3 ⊢
    have hsz : es2.size = es1.size := by rw [← Array.length_toList, pm.length_eq, Array.length_toList]
    have hb2 : es2.size < scanBound := by omega
    refine wpAny_bind (hg _ _ _ ?_)
    refine wpAny_bind (wpAny_storeSet_of ho1 rfl ?_ (fits_of_scanBound hb2))
    have ho2 := store_at (es' := es2) (t' := t3) ho1 rfl
    refine wpAny_pure (hR _ (sb1.trans (Heap.SameBut.update _ a _)) ?_)
    exact ⟨_, es2, _, t3, ho2, hex, rfl, fun e he => g1 e (pm.mem_iff.mp he), (pm.map _).trans p1, nd1, hb2, hf3, hr3, hl.imp id fun z => by rw [hl3]; exact z⟩
  · exact wpAny_pure (hR _ sb1 ⟨_, es1, _, t2, ho1, hex, rfl, g1, p1, nd1, hb1, hf2, hr, hl⟩)
/-- a key's value is put in -/
theorem setX_add {k : Key} {v : Value} {Q : Bool → Shared → Prop} (hv : RelV (kV k) v) (R : SetX P w s.heap a ks) (room : ks.length + 1 < scanBound)
    (hQ : ∀ h' b, Heap.SameBut a s.heap h' → SetX P w h' a (if k ∈ ks then ks else ks ++ [k]) → Q b { s with heap := h' }) :
    wpAny (model P w) A (setAddHashed a v ((mixKind P w).hash k)) Q E s := by
  obtain ⟨o, es, ep, t, ho, hex, hd, g, pm0, nd, hb, hf, hr, hl⟩ := R
  have hn : es.size = ks.length := by rw [← pm0.length_eq, List.length_map, Array.length_toList]
  have hkey : (mixKind P w).is k v = true := kV_is hv
  have hsc : v.scannable = true := key_scan hv
  have hel : ElemsOf (mixKind P w) es.toList := goodX_elems g
  unfold setAddHashed setAddHashedIn
  refine wpAny_holding (wpAny_bind (wpAny_setState_of ho hd hf ?_))
  dsimp only
  rw [byScan_of hsc hb hel]
  simp only [↓reduceIte]
  unfold setAddByScan
  refine wpAny_bind ?_
  refine wpAny_bind (wpAny_rule ?_)
  refine wpAny_bind (wpAny_setScan_of hkey ho hd hf hel ?_)
  cases hfi : List.findIdx? (fun e => (mixKind P w).is k e.2) es.toList with
  | some j =>
    dsimp only
    obtain ⟨hj, pj, _⟩ := List.findIdx?_eq_some_iff_getElem.mp hfi
    have hin : k ∈ ks := pm0.mem_iff.mp ((goodX_mem g k).2 ⟨es.toList[j], List.getElem_mem hj, pj⟩)
    refine wpAny_pure (wpAny_pure ?_)
    refine hQ s.heap _ (Heap.SameBut.refl a s.heap) ?_
    rw [if_pos hin]
    exact ⟨o, es, ep, t, ho, hex, hd, g, pm0, nd, hb, hf, hr, hl⟩
  | none =>
    dsimp only
    have hnk : k ∉ ks := fun z => by
      obtain ⟨e, he, q⟩ := (goodX_mem g k).1 (pm0.mem_iff.mpr z)
      have c := List.findIdx?_eq_none_iff.mp hfi e he
      rw [q] at c
      cases c
    have hgw : ∀ (b : Bool) {s₁ : Shared} {Q' : Unit → Shared → Prop}, Q' () s₁ → wpAny (model P w) A (match b with | true => rule "set.scan.the-table-gave-way" | false => pure ()) Q' E s₁ :=
      fun b s₁ Q' q => by cases b <;> first | exact wpAny_pure q | exact wpAny_rule q
    have pm := layNew_perm t es ((mixKind P w).hash k) v
    have hf1 := layNew_fits t es ((mixKind P w).hash k) v
    have hr1 := layNew_ris t es ((mixKind P w).hash k) v hr
    have hl1 := layNew_led t es ((mixKind P w).hash k) v
    generalize layNew t es ((mixKind P w).hash k) v = Z at pm hf1 hr1 hl1 ⊢
    obtain ⟨es1, t1, wasDummy, gave⟩ := Z
    dsimp only at pm hf1 hr1 hl1 ⊢
    rw [Array.toList_push] at pm
    have g1 : ∀ e ∈ es1.toList, GoodX P w e := fun e he => by
      rcases List.mem_append.mp (pm.mem_iff.mp he) with z | z
      · exact g e z
      · rw [List.mem_singleton.mp z]; exact ⟨k, hv, rfl⟩
    have p1 : (es1.toList.map fun e => keyX e.2).Perm (ks ++ [k]) := by
      refine (pm.map _).trans ?_
      rw [List.map_append]
      refine List.Perm.append pm0 ?_
      rw [List.map_singleton, keyX_rel hv]
    have nd1 : (ks ++ [k]).Nodup := List.nodup_append.mpr ⟨nd, by simp, fun x hx y hy => by rw [List.mem_singleton.mp hy]; exact fun z => hnk (z ▸ hx)⟩
    have hsz : es1.size = ks.length + 1 := by
      have := p1.length_eq
      simpa using this
    have hb1 : es1.size < scanBound := by omega
    have hled : w.params.followText "set-order" = true ∨ t1.led = true := hl.imp id fun z => by rw [hl1]; exact z
    have fin : ∀ h', Heap.SameBut a s.heap h' → SetX P w h' a (ks ++ [k]) → Q true { s with heap := h' } := fun h' sb r => hQ h' true sb (by rw [if_neg hnk]; exact r)
    refine wpAny_bind (hgw _ ?_)
    split
    · refine wpAny_bind ?_
      rw [hashByValue_scannable 8 hsc]
      refine wpAny_pure ?_
      refine setX_tail ?_ ho hex hd g1 p1 nd1 hb1 ?_ ?_ ?_ ?_
      · intro b s₁ Q' q; cases b <;> first | exact wpAny_pure q | exact wpAny_rule q
      · first | (split <;> first | exact hf1 | exact SetTable.fits_plain_off hf1) | exact hf1
      · first | (split <;> exact hr1) | exact hr1
      · first | (split <;> exact hled) | exact hled
      · intro h' sb r; dsimp only; exact wpAny_pure (fin h' sb r)
    · refine wpAny_bind (wpAny_pure ?_)
      simp only [↓reduceIte]
      refine setX_tail ?_ ho hex hd g1 p1 nd1 hb1 hf1 hr1 hled ?_
      · intro b s₁ Q' q; cases b <;> first | exact wpAny_pure q | exact wpAny_rule q
      · intro h' sb r; dsimp only; exact wpAny_pure (fin h' sb r)
/-! ### set(x) of a list, of a tuple -/
theorem setX_new {h : Heap} (ho : h.get? a = some { cls := .type "set", dict := none, data := .set #[] 0 (.fresh 0 0 (!w.params.followText "set-order")) }) : SetX P w h a [] :=
  ⟨_, #[], 0, _, ho, ⟨rfl, rfl, rfl⟩, rfl, (fun e he => by simp at he), (by simp), List.nodup_nil, (by decide), (by rfl), List.Pairwise.nil, by
    show _ ∨ (!w.params.followText "set-order") = true
    cases w.params.followText "set-order"
    · exact .inr rfl
    · exact .inl rfl⟩
theorem setX_loop {I : Addr} {fp wr : List Addr} {G : Array GenState → Array GenState → Prop} {n : Nat} {Pv : Nat → Value → Prop} {St : Nat → Shared → Prop} {R : Result → Shared → Prop}
    (W : WalksS P w A.in1 I fp wr G n Pv St) (S : Addr) (hSf : S ∉ fp) (ls : List Key) (hn : n = ls.length) (hb : ls.length + 1 < scanBound) (hval : ∀ i v, Pv i v → ∃ k, ls[i]? = some k ∧ RelV (kV k) v) :
    ∀ (j i : Nat) (s : Shared), n - i = j → i ≤ n → St i s → (∃ ks, ks.length ≤ i ∧ SetX P w s.heap S ks ∧ ∀ x, x ∈ ks ↔ x ∈ ls.take i) →
      (∀ s' ks, Moved (S :: wr) G s s' → ks.length ≤ n → SetX P w s'.heap S ks → (∀ x, x ∈ ks ↔ x ∈ ls) → R (.ok (.ret .none)) s') →
      codeAny (model P w) A (.builtin "set.update.loop" ⟨[.ref S, .ref I], []⟩) R s := by
  have hSw : S ∉ wr := fun h => hSf (W.sub _ h)
  have hsub : ∀ b ∈ wr, b ∈ S :: wr := fun b hb => List.mem_cons_of_mem _ hb
  intro j
  induction j with
  | zero =>
    intro i s hk' hi hst ⟨ks, hc, hS, hm0⟩ hR
    have hin : i = n := by omega
    subst hin
    refine codeAny_builtin F.entry_set_update_loop ?_
    rw [Around.under_plainId F.plain_set_update_loop _]
    show wpAny _ A.in1 (pyNext (.ref I) >>= _) _ _ s
    refine wpAny_bind (W.done s _ _ hst fun s' hm => ?_)
    show wpAny _ A.in1 (ret Value.none) _ _ s'
    have e : ls.take i = ls := List.take_of_length_le (by omega)
    rw [e] at hm0
    exact wpAny_pure (hR s' ks (hm.mono hsub) hc (hS.at fun o e => hm.heap S o hSw e) hm0)
  | succ j ih =>
    intro i s hk' hi hst ⟨ks, hc, hS, hm0⟩ hR
    have hlt : i < n := by omega
    refine codeAny_builtin F.entry_set_update_loop ?_
    rw [Around.under_plainId F.plain_set_update_loop _]
    show wpAny _ A.in1 (pyNext (.ref I) >>= _) _ _ s
    refine wpAny_bind (W.item i s _ _ hlt hst fun v s' hP hst' hm => ?_)
    obtain ⟨z, hz, rz⟩ := hval i v hP
    have hS' : SetX P w s'.heap S ks := hS.at fun o e => hm.heap S o hSw e
    show wpAny _ A.in1 (holding [v] (setAdd S v) >>= _) _ _ s'
    refine wpAny_bind (wpAny_holding ?_)
    unfold setAdd
    refine wpAny_holding ?_
    refine wpAny_bind ((mixKind P w).pyHash (k := z) (kV_is rz) ?_)
    refine setX_add rz (s := { s' with toks := s'.toks + 1 }) hS' (by omega) fun h' b hsb hS2 => ?_
    have hm3 : ∀ x, x ∈ (if z ∈ ks then ks else ks ++ [z]) ↔ x ∈ ls.take (i + 1) := fun x => by
      rw [List.take_add_one, hz]
      split
      · rename_i hin
        simp only [Option.toList_some, List.mem_append, List.mem_singleton, ← hm0 x]
        exact ⟨.inl, fun q => q.elim id fun e => e ▸ hin⟩
      · simp only [Option.toList_some, List.mem_append, List.mem_singleton, ← hm0 x]
    have hc3 : (if z ∈ ks then ks else ks ++ [z]).length ≤ i + 1 := by
      split
      · omega
      · simp; omega
    refine wpAny_pure ⟨plainId_quiet F.plain_set_update_loop _, ih (i + 1) _ (by omega) hlt (W.frame _ s' _ _ hst' (Nat.le_succ _) fun b hb o e => ?_) ⟨_, hc3, hS2, hm3⟩ fun s'' ks2 hm'' hc'' hS'' hm4 => ?_⟩
    · rw [hsb.2 b (fun h : b = S => hSf (by rw [← h]; exact hb))]; exact e
    · refine hR s'' ks2 (Moved.trans W.gtrans ((hm.mono hsub).then_heap (Nat.le_succ _) fun b o hb e => ?_) hm'') hc'' hS'' hm4
      rw [hsb.2 b (fun h : b = S => hb (by rw [h]; exact List.mem_cons_self))]; exact e
set_option maxHeartbeats 3200000 in
theorem call_setX_list {l : Addr} {items : Array Value} (ls : List Key) {Q : Value → Shared → Prop} (hh : A.handled = none) (hl : s.heap.IsList l items) (hsz : items.size = ls.length) (hval : ∀ (i : Nat) (v : Value), items[i]? = some v → ∃ k, ls[i]? = some k ∧ RelV (kV k) v) (hb : ls.length + 1 < scanBound)
    (h : ∀ (h' : Heap) (tk : Nat) (ks : List Key), SetX P w h' s.heap.objs.size ks → ks.length ≤ ls.length → (∀ x, x ∈ ks ↔ x ∈ ls) → (∀ b o, s.heap.get? b = some o → h'.get? b = some o) → Q (.ref s.heap.objs.size) { s with heap := h', toks := tk }) :
    wpAny (model P w) A (call (.type "set") [.ref l]) Q E s := by
  obtain ⟨c, tl, hmro⟩ := F.called_set.mro
  have hmade := F.called_set.made
  have hsub := F.called_set.sub
  refine wpAny_call (codeAny_of_tree ?_)
  show wpAny _ _ (callAny (.type "set") _) _ _ _
  refine wpAny_pure ⟨Code.quiet_builtin _ (by decide +kernel), codeAny_builtin F.entry_type_call ?_⟩
  rw [Around.under_plain (weight_type_call_type "set" [.ref l] []) rfl]
  have h1 := F.called_set.notType
  have h2 := F.called_set.canCreate
  have hct := F.typeCall_set_1 (.ref l)
  repeat (any_goals (first | assumption | wp_step))
  refine codeAny_mono (code_set_led1 (.ref l) (E := E) (Q₁ := fun obj s₁ => obj = .ref s.heap.objs.size ∧ s₁ = { s with heap := s.heap.push { cls := .type "set", dict := none, data := .set #[] 0 (.fresh 0 0 (!w.params.followText "set-order")) } }) ⟨rfl, rfl⟩) fun r s₁ hr => ?_
  cases r with
  | error e => exact hr
  | ok fl =>
    cases fl with
    | ret obj =>
      obtain ⟨rfl, rfl⟩ := hr
      have hS : (s.heap.push { cls := .type "set", dict := none, data := .set #[] 0 (.fresh 0 0 (!w.params.followText "set-order")) }).get? s.heap.objs.size = some { cls := .type "set", dict := none, data := .set #[] 0 (.fresh 0 0 (!w.params.followText "set-order")) } := Heap.get?_push_size _ rfl
      have hT : Shared.TypeIs { s with heap := s.heap.push { cls := .type "set", dict := none, data := .set #[] 0 (.fresh 0 0 (!w.params.followText "set-order")) } } (.ref s.heap.objs.size) "set" := ⟨_, hS, rfl⟩
      have hli := F.called_set.init.lookup
      have hbi := F.called_set.init.bind (.ref s.heap.objs.size)
      repeat (any_goals (first | assumption | wp_step))
      refine codeAny_mono (codeAny_call_builtin (R := wants (fun r s₂ => r = .none ∧ ∃ h' tk ks, s₂ = { s with heap := h', toks := tk } ∧ SetX P w h' s.heap.objs.size ks ∧ ks.length ≤ ls.length ∧ (∀ x, x ∈ ks ↔ x ∈ ls) ∧
          (∀ b o, s.heap.get? b = some o → h'.get? b = some o)) E) F.called_set.init.plain F.entry_set_init (check_set_init_1 hT ?_)) fun r₂ s₂ hr₂ => ?_
      · obtain ⟨ol, hol, hcl, nl, hdl⟩ := hl
        obtain ⟨ocls, odict, odata, oslots⟩ := ol
        simp only at hcl hdl
        subst hcl; subst hdl
        have hol' : (s.heap.push { cls := .type "set", dict := none, data := .set #[] 0 (.fresh 0 0 (!w.params.followText "set-order")) }).get? l = some { cls := .type "list", dict := odict, data := .seq items nl, slots := oslots } := Heap.get?_push_of_some _ hol
        have hsls := F.sub_list_set
        have hslf := F.sub_list_frozenset
        have hne : (Value.type "list" == Value.type "dict") = false := by decide
        have hl1 : (s.heap.push { cls := .type "set", dict := none, data := .set #[] 0 (.fresh 0 0 (!w.params.followText "set-order")) }).IsList l items := ⟨_, hol', rfl, nl, rfl⟩
        unfold Builtin.«set.__init__» noKeywords Builtin.Frozenset.updateFrom
        generalize hPI : pyIter = PI
        wp_walk
        subst hPI
        refine wpAny_pyIter_list (s := { s with heap := s.heap.push { cls := .type "set", dict := none, data := .set #[] 0 (.fresh 0 0 (!w.params.followText "set-order")) } }) hl1 ?_
        refine wpAny_bind (wpAny_runValue ?_)
        have hlS : l < s.heap.objs.size := Heap.lt_size hol
        have hh3 : A.in1.in1.in1.handled = none := by simp [hh]
        have hneI : l ≠ (s.heap.push { cls := .type "set", dict := none, data := .set #[] 0 (.fresh 0 0 (!w.params.followText "set-order")) }).objs.size := by
          rw [Heap.size_push]; exact Nat.ne_of_lt (Nat.lt_succ_of_lt hlS)
        have hSf : s.heap.objs.size ∉ [(s.heap.push { cls := .type "set", dict := none, data := .set #[] 0 (.fresh 0 0 (!w.params.followText "set-order")) }).objs.size, l] := by
          rw [Heap.size_push]; simp only [List.mem_cons, List.mem_singleton, List.not_mem_nil, or_false, not_or]
          exact ⟨Nat.ne_of_lt (Nat.lt_succ_self _), Nat.ne_of_gt hlS⟩
        refine setX_loop ((Walks.list hh3 _ l hneI items).toS) s.heap.objs.size
          hSf ls hsz hb hval (items.size - 0) 0 _ (by omega) (Nat.zero_le _)
          ⟨⟨_, Heap.get?_push_size _ rfl, rfl, rfl⟩, (hl1.push _)⟩ ?hS0 ?hR
        case hS0 =>
          refine ⟨[], Nat.le_refl 0, setX_new ?_, fun x => by simp⟩
          exact Heap.get?_push_of_some _ hS
        case hR =>
          intro s' ks' hm hc' hS' hm4
          obtain ⟨h', g2, d', tk', os'⟩ := s'
          have eg : g2 = s.gens := hm.gens
          have ed : d' = s.drawn := hm.drawn
          have eo : os' = s.os := hm.os
          subst eg; subst ed; subst eo
          show wpAny _ _ _ _ _ _
          refine wpAny_pure ?_
          show wpAny _ _ (ret Value.none) _ _ _
          refine wpAny_pure ⟨rfl, h', tk', ks', rfl, hS', by omega, hm4, fun b o e => ?_⟩
          have hb0 : b < s.heap.objs.size := Heap.lt_size e
          have hb1 : b ≠ s.heap.objs.size := Nat.ne_of_lt hb0
          have hb2 : b ≠ (s.heap.push { cls := .type "set", dict := none, data := .set #[] 0 (.fresh 0 0 (!w.params.followText "set-order")) }).objs.size := by
            rw [Heap.size_push]; exact Nat.ne_of_lt (Nat.lt_succ_of_lt hb0)
          exact hm.heap b o (by simp only [List.mem_cons, List.mem_singleton, List.not_mem_nil, or_false, not_or]; exact ⟨hb1, hb2⟩) (Heap.get?_push_of_some _ (Heap.get?_push_of_some _ e))
      · cases r₂ with
        | error e => exact hr₂
        | ok fl₂ =>
          cases fl₂ with
          | ret r =>
            obtain ⟨rfl, h', tk, ks', rfl, hS', hc', hm4, hk'⟩ := hr₂
            repeat (any_goals (first | assumption | wp_step))
            exact h _ _ _ hS' hc' hm4 hk'
          | _ => exact hr₂.elim
    | _ => exact hr.elim
set_option maxHeartbeats 3200000 in
theorem call_setX_tuple {l : Addr} {items : Array Value} (ls : List Key) {Q : Value → Shared → Prop} (hh : A.handled = none) (hl : s.heap.IsTuple l items) (hsz : items.size = ls.length) (hval : ∀ (i : Nat) (v : Value), items[i]? = some v → ∃ k, ls[i]? = some k ∧ RelV (kV k) v) (hb : ls.length + 1 < scanBound)
    (h : ∀ (h' : Heap) (tk : Nat) (ks : List Key), SetX P w h' s.heap.objs.size ks → ks.length ≤ ls.length → (∀ x, x ∈ ks ↔ x ∈ ls) → (∀ b o, s.heap.get? b = some o → h'.get? b = some o) → Q (.ref s.heap.objs.size) { s with heap := h', toks := tk }) :
    wpAny (model P w) A (call (.type "set") [.ref l]) Q E s := by
  obtain ⟨c, tl, hmro⟩ := F.called_set.mro
  have hmade := F.called_set.made
  have hsub := F.called_set.sub
  refine wpAny_call (codeAny_of_tree ?_)
  show wpAny _ _ (callAny (.type "set") _) _ _ _
  refine wpAny_pure ⟨Code.quiet_builtin _ (by decide +kernel), codeAny_builtin F.entry_type_call ?_⟩
  rw [Around.under_plain (weight_type_call_type "set" [.ref l] []) rfl]
  have h1 := F.called_set.notType
  have h2 := F.called_set.canCreate
  have hct := F.typeCall_set_1 (.ref l)
  repeat (any_goals (first | assumption | wp_step))
  refine codeAny_mono (code_set_led1 (.ref l) (E := E) (Q₁ := fun obj s₁ => obj = .ref s.heap.objs.size ∧ s₁ = { s with heap := s.heap.push { cls := .type "set", dict := none, data := .set #[] 0 (.fresh 0 0 (!w.params.followText "set-order")) } }) ⟨rfl, rfl⟩) fun r s₁ hr => ?_
  cases r with
  | error e => exact hr
  | ok fl =>
    cases fl with
    | ret obj =>
      obtain ⟨rfl, rfl⟩ := hr
      have hS : (s.heap.push { cls := .type "set", dict := none, data := .set #[] 0 (.fresh 0 0 (!w.params.followText "set-order")) }).get? s.heap.objs.size = some { cls := .type "set", dict := none, data := .set #[] 0 (.fresh 0 0 (!w.params.followText "set-order")) } := Heap.get?_push_size _ rfl
      have hT : Shared.TypeIs { s with heap := s.heap.push { cls := .type "set", dict := none, data := .set #[] 0 (.fresh 0 0 (!w.params.followText "set-order")) } } (.ref s.heap.objs.size) "set" := ⟨_, hS, rfl⟩
      have hli := F.called_set.init.lookup
      have hbi := F.called_set.init.bind (.ref s.heap.objs.size)
      repeat (any_goals (first | assumption | wp_step))
      refine codeAny_mono (codeAny_call_builtin (R := wants (fun r s₂ => r = .none ∧ ∃ h' tk ks, s₂ = { s with heap := h', toks := tk } ∧ SetX P w h' s.heap.objs.size ks ∧ ks.length ≤ ls.length ∧ (∀ x, x ∈ ks ↔ x ∈ ls) ∧
          (∀ b o, s.heap.get? b = some o → h'.get? b = some o)) E) F.called_set.init.plain F.entry_set_init (check_set_init_1 hT ?_)) fun r₂ s₂ hr₂ => ?_
      · obtain ⟨ol, hol, hcl, nl, hdl⟩ := hl
        obtain ⟨ocls, odict, odata, oslots⟩ := ol
        simp only at hcl hdl
        subst hcl; subst hdl
        have hol' : (s.heap.push { cls := .type "set", dict := none, data := .set #[] 0 (.fresh 0 0 (!w.params.followText "set-order")) }).get? l = some { cls := .type "tuple", dict := odict, data := .seq items nl, slots := oslots } := Heap.get?_push_of_some _ hol
        have hsls := F.sub_tuple_set
        have hslf := F.sub_tuple_frozenset
        have hne : (Value.type "tuple" == Value.type "dict") = false := by decide
        have hl1 : (s.heap.push { cls := .type "set", dict := none, data := .set #[] 0 (.fresh 0 0 (!w.params.followText "set-order")) }).IsTuple l items := ⟨_, hol', rfl, nl, rfl⟩
        unfold Builtin.«set.__init__» noKeywords Builtin.Frozenset.updateFrom
        generalize hPI : pyIter = PI
        wp_walk
        subst hPI
        refine wpAny_pyIter_tuple (s := { s with heap := s.heap.push { cls := .type "set", dict := none, data := .set #[] 0 (.fresh 0 0 (!w.params.followText "set-order")) } }) hl1 ?_
        refine wpAny_bind (wpAny_runValue ?_)
        have hlS : l < s.heap.objs.size := Heap.lt_size hol
        have hh3 : A.in1.in1.in1.handled = none := by simp [hh]
        have hneI : l ≠ (s.heap.push { cls := .type "set", dict := none, data := .set #[] 0 (.fresh 0 0 (!w.params.followText "set-order")) }).objs.size := by
          rw [Heap.size_push]; exact Nat.ne_of_lt (Nat.lt_succ_of_lt hlS)
        have hSf : s.heap.objs.size ∉ [(s.heap.push { cls := .type "set", dict := none, data := .set #[] 0 (.fresh 0 0 (!w.params.followText "set-order")) }).objs.size, l] := by
          rw [Heap.size_push]; simp only [List.mem_cons, List.mem_singleton, List.not_mem_nil, or_false, not_or]
          exact ⟨Nat.ne_of_lt (Nat.lt_succ_self _), Nat.ne_of_gt hlS⟩
        refine setX_loop ((Walks.tuple hh3 _ l hneI items).toS) s.heap.objs.size
          hSf ls hsz hb hval (items.size - 0) 0 _ (by omega) (Nat.zero_le _)
          ⟨⟨_, Heap.get?_push_size _ rfl, rfl, rfl⟩, (hl1.push _)⟩ ?hS0 ?hR
        case hS0 =>
          refine ⟨[], Nat.le_refl 0, setX_new ?_, fun x => by simp⟩
          exact Heap.get?_push_of_some _ hS
        case hR =>
          intro s' ks' hm hc' hS' hm4
          obtain ⟨h', g2, d', tk', os'⟩ := s'
          have eg : g2 = s.gens := hm.gens
          have ed : d' = s.drawn := hm.drawn
          have eo : os' = s.os := hm.os
          subst eg; subst ed; subst eo
          show wpAny _ _ _ _ _ _
          refine wpAny_pure ?_
          show wpAny _ _ (ret Value.none) _ _ _
          refine wpAny_pure ⟨rfl, h', tk', ks', rfl, hS', by omega, hm4, fun b o e => ?_⟩
          have hb0 : b < s.heap.objs.size := Heap.lt_size e
          have hb1 : b ≠ s.heap.objs.size := Nat.ne_of_lt hb0
          have hb2 : b ≠ (s.heap.push { cls := .type "set", dict := none, data := .set #[] 0 (.fresh 0 0 (!w.params.followText "set-order")) }).objs.size := by
            rw [Heap.size_push]; exact Nat.ne_of_lt (Nat.lt_succ_of_lt hb0)
          exact hm.heap b o (by simp only [List.mem_cons, List.mem_singleton, List.not_mem_nil, or_false, not_or]; exact ⟨hb1, hb2⟩) (Heap.get?_push_of_some _ (Heap.get?_push_of_some _ e))
      · cases r₂ with
        | error e => exact hr₂
        | ok fl₂ =>
          cases fl₂ with
          | ret r =>
            obtain ⟨rfl, h', tk, ks', rfl, hS', hc', hm4, hk'⟩ := hr₂
            repeat (any_goals (first | assumption | wp_step))
            exact h _ _ _ hS' hc' hm4 hk'
          | _ => exact hr₂.elim
    | _ => exact hr.elim
/-! ### sorted(s) -/
theorem relV_int {k : Key} {v : Value} {i : Int} (r : RelV (kV k) v) (e : k = .inl i) : ∃ t, v = .int i t := by subst e; exact r
theorem setX_sorted {Q : Value → Shared → Prop} (R : SetX P w s.heap a ks) (hh : A.handled = none) {F : List Value → List Value → Prop}
    (hsort : ∀ (vs : List Value) (s' : Shared) (b : Addr) (Pf : Fin → Shared → Prop), (vs.map keyX).Perm ks → (∀ v ∈ vs, RelV (kV (keyX v)) v) → vs.length ≤ sizeLine → s'.heap.get? b = some (seqObj "list" vs.toArray 0) →
      (∀ out : Array Value, F vs out.toList → Pf (.done (.ret .none)) { s' with heap := sortedHeap s'.heap b vs out }) → wpAny (model P w) A.in1.in1 (Builtin.«list.sort» ⟨[.ref b], []⟩) Pf E s')
    (hQ : ∀ s' p (vs : List Value) (out : Array Value) (c : Nat), (∀ b o, s.heap.get? b = some o → s'.heap.get? b = some o) → s'.gens = s.gens → s'.os = s.os → s.heap.objs.size ≤ p →
      s'.heap.get? p = some (seqObj "list" out c) → F vs out.toList → (vs.map keyX).Perm ks → Q (.ref p) s') :
    wpAny (model P w) A (call (.builtin "sorted") [.ref a]) Q E s := by
  obtain ⟨o, es, ep, t, ho, hex, hd, g, pm0, nd, hb, hf, hr, hl⟩ := R
  refine Calls.call_function_entry kind_sorted plain_sorted entry_sorted (args_sorted1 _) ?_
  unfold Builtin.«sorted»
  refine wpAny_bind (m := checkCount "sorted" 1 1 _) (wpAny_pure ?_)
  refine wpAny_bind (collect_set (A := A.in1) hh ⟨o, ho, hex.1, hd⟩ hf hb hr hl fun s1 vs k1 hz g1 o1 pm => ?_)
  have pk : (vs.map keyX).Perm ks := by
    have q := pm.map keyX
    rw [List.map_map] at q
    exact q.trans pm0
  have hv : ∀ v ∈ vs, RelV (kV (keyX v)) v := fun v hv => by
    obtain ⟨e, he, q⟩ := List.mem_map.mp (pm.mem_iff.mp hv)
    obtain ⟨k, h1, _⟩ := g e he
    rw [q] at h1
    rw [keyX_rel h1]; exact h1
  have hvl : vs.length ≤ sizeLine := by
    rw [pm.length_eq, List.length_map, Array.length_toList]
    exact fits_of_scanBound hb
  refine wpAny_bind (wpAny_newList ?_ hvl)
  have hoL : (s1.heap.push (seqObj "list" vs.toArray 0)).get? s1.heap.objs.size = some (seqObj "list" vs.toArray 0) := Heap.get?_push_size _ rfl
  refine wpAny_bind (wpAny_holding (wpAny_call_entry slot_list_sort ⟨_, hoL, rfl⟩ entry_list_sort (hsort vs _ _ _ pk hv hvl hoL fun out a1 => ⟨_, rfl, ?_⟩) (args_list_sort _)))
  obtain ⟨c, hc⟩ := sortedHeap_at (vs := vs) (out := out) hoL
  refine wpAny_pure ⟨_, rfl, hQ _ s1.heap.objs.size vs out c (fun b u e => ?_) g1 o1 hz hc a1 pk⟩
  have q := k1 b u e
  have hlt := Heap.lt_size q
  show (sortedHeap (s1.heap.push (seqObj "list" vs.toArray 0)) s1.heap.objs.size vs out).get? b = some u
  rw [sortedHeap_old (Nat.ne_of_lt hlt) (by rw [size_push']; exact Nat.lt_succ_of_lt hlt)]
  exact Heap.get?_push_of_some _ q
end
end DL

set_option Elab.async false
set_option linter.all false
set_option maxRecDepth 100000
set_option maxHeartbeats 4000000
/-! THE DATA LAYER, part 17: sorted of data, sorted(set(x)), len(set(x)), strip(signs). -/
namespace DL
open PySem PySem.Spec L2
open PyProof.Rows hiding St
/-! ### sorted of any data that are alike -/
/-- a comes not behind b -/
def dLe (a b : T) : Bool := !PySem.W.dataLt b a
def gSortD : GN := fun os Q => match os with
  | [o] => match lsO o with
    | some ts => PySem.W.AllAlike ts ∧ PySem.W.Sortable ts ∧ (∀ t ∈ ts, t.depth ≤ 100) ∧ ts.length ≤ 1000000 ∧ Q (.lst (ts.mergeSort dLe))
    | none => False
  | _ => False
theorem paired_zip {α β : Type} {G : α → β → Prop} : ∀ {l : List α} {r : List β}, Paired G l r → (l.zip r).map (·.1) = l ∧ (l.zip r).map (·.2) = r ∧ ∀ p ∈ l.zip r, G p.1 p.2
  | _, _, .nil => ⟨rfl, rfl, fun _ m => by simp at m⟩
  | _, _, .cons h t => by
    obtain ⟨h1, h2, h3⟩ := paired_zip t
    refine ⟨by simp [h1], by simp [h2], fun p m => ?_⟩
    rcases List.mem_cons.mp (by simpa using m) with e | e
    · rw [e]; exact h
    · exact h3 p e
theorem paired_of {α β γ : Type} {G : β → γ → Prop} {f : α → β} {g : α → γ} : ∀ {l : List α}, (∀ a ∈ l, G (f a) (g a)) → Paired G (l.map f) (l.map g)
  | [], _ => .nil
  | a :: l, h => .cons (h a List.mem_cons_self) (paired_of fun b m => h b (List.mem_cons_of_mem _ m))
theorem each_vals {γ : Type} : ∀ {ps : List (V × γ)} {us : List Value}, Vals (ps.map (·.1)) us → PySem.W.EachIs (fun u (p : V × γ) => RelV p.1 u) us ps
  | [], _, .nil => .nil
  | _ :: _, _, .cons h t => .cons h (each_vals t)
theorem vals_each {γ : Type} : ∀ {us : List Value} {ps : List (V × γ)}, PySem.W.EachIs (fun u (p : V × γ) => RelV p.1 u) us ps → Vals (ps.map (·.1)) us
  | _, _, .nil => .nil
  | _, _, .cons h t => .cons h (vals_each t)
theorem each_reads {γ : Type} {R : Value → V × γ → Prop} : ∀ {us : List Value} {ps : List (V × γ)}, PySem.W.EachIs (fun u (p : V × γ) => RelV p.1 u) us ps → (∀ p ∈ ps, ∀ u, RelV p.1 u → R u p) → PySem.W.EachIs R us ps
  | _, _, .nil, _ => .nil
  | _, _, .cons h t, w => .cons (w _ List.mem_cons_self _ h) (each_reads t fun p m => w p (List.mem_cons_of_mem _ m))
theorem sort_snd {γ : Type} (ps : List (γ × T)) : (ps.mergeSort (PySem.W.dataLe false fun p : γ × T => p.2)).map (·.2) = (ps.map (·.2)).mergeSort dLe := by
  have e : PySem.W.dataLe false (fun p : γ × T => p.2) = fun p q => dLe p.2 q.2 := rfl
  rw [e]
  exact (List.map_mergeSort (f := fun p : γ × T => p.2) (fun _ _ _ _ => rfl)).symm ▸ rfl
section
variable {X : Cx}
theorem callA_sortD (hu : X.A.units + 200 < cLine) : CallA X (.builtin "sorted") gSortD := CallA.mk fun pins s σ H F vs xs us Q Qa I r hx h fin => by
  unfold gSortD at h
  split at h
  · cases hx with
    | cons h1 hr =>
      cases hr
      split at h
      · rename_i ts el
        obtain ⟨ha, hk, hd, hz, h⟩ := h
        obtain ⟨a, vs, rfl, hq, r2⟩ := RW.ls h1 el
        obtain ⟨u, rfl, rx⟩ := vals1 r
        cases rx
        obtain ⟨its, rv, pl, _⟩ := I.list hq
        obtain ⟨z1, z2, z3⟩ := paired_zip r2
        have e0 : Vals ((vs.zip ts).map (·.1)) its := by rw [z1]; exact rv
        have e1 := each_vals e0
        have hl : (vs.zip ts).length = ts.length := by rw [← List.length_map (f := (·.2)), z2]
        refine PySem.W.sorted_data (bs := vs.zip ts) (enc := fun p : V × T => p.2) pl.isList e1 (each_reads e1 fun p m u ru => ?_) (by rw [z2]; exact ha) (by rw [z2]; exact hk) (by rw [hl, sizeLine_eq]; omega) (fun p m => ?_) fun out ho e2 => ?_
        · obtain ⟨as, q, _⟩ := z3 p m
          exact RV.reads I q ru
        · have := hd p.2 (by rw [← z2]; exact List.mem_map_of_mem m)
          omega
        · have rr := vals_each e2
          have pm := List.mergeSort_perm (vs.zip ts) (PySem.W.dataLe false fun p : V × T => p.2)
          have hlen : (((vs.zip ts).mergeSort (PySem.W.dataLe false fun p : V × T => p.2)).map (·.1)).length ≤ sizeLine := by
            rw [List.length_map, pm.length_eq, hl, sizeLine_eq]; omega
          obtain ⟨ep, he'⟩ := PyProof.Rows.sortedAll_at s.heap its out.toArray
          refine ⟨.ref _, upd H (s.heap.objs.size + 1) (.lst (((vs.zip ts).mergeSort (PySem.W.dataLe false fun p : V × T => p.2)).map (·.1))), I.laid (t' := s.toks) (fun _ _ => PyProof.Rows.sortedAll_old) (Nat.le_succ _) ⟨hlen, out, ep, rr, he'⟩, rfl, ?_⟩
          refine fin.lst (I.hok.fresh (Nat.le_succ _)) (ts := ts.mergeSort dLe) ?_ h
          rw [← z2, ← sort_snd, z2]
          exact paired_of fun p m => z3 p (pm.mem_iff.mp m)
      · exact h.elim
  · exact h.elim
end
/-! ### strip(signs) -/
def gStripC : GN := fun os Q => match os with
  | [.pure (.str x), .pure (.str y)] => x.length ≤ 16777216 ∧ Q (.pure (.str (Txt.stripChars x y)))
  | _ => False
def tStripC (te tc : XT) : XT := fun ρ Q => te ρ fun p ρ1 => tc ρ1 fun q ρ2 => gN gStripC ρ2 [p, q] fun o => Q (.val o) ρ2
/-! ### sets of keys, once made -/
def SetH (P : Program) (w : World) (a : Addr) (ks : List Key) : HO := .ext fun h => SetX P w h a ks
theorem setH_new {w : World} {P : Program} {H : Hp} {h : Heap} {a : Addr} {ks : List Key} (R : SetX P w h a ks) : ObjOk P w H h a (SetH P w a ks) := by
  have ⟨o, _, _, _, ho, _⟩ := R
  exact ⟨R, ⟨o, ho⟩, fun h1 h2 p k => SetX.at p k⟩
section
variable {X : Cx}
theorem setH_get {pins : List (Addr × Obj)} {σ : St} {H : Hp} {s : Shared} {a : Addr} {ks : List Key} (I : Inv X pins σ H s) (ha : H a = some (SetH X.prog X.w a ks)) : SetX X.prog X.w s.heap a ks := (I.hok a _ ha).1
theorem vals_at {vs : List V} {us : List Value} (r : Vals vs us) : ∀ (i : Nat) (u : Value), us[i]? = some u → ∃ v, vs[i]? = some v ∧ RelV v u := by
  induction r with
  | nil => intro i u h; simp at h
  | cons h t ih =>
    intro i u e
    cases i with
    | zero => simp at e; subst e; exact ⟨_, rfl, h⟩
    | succ i => simpa using ih i u (by simpa using e)
/-- set(x) of a list or a tuple of keys -/
def rSetX (K : PySem.W.Frag) (P : Program) (w : World) : List V → Hp → VK → Prop := fun xs H Q => ∃ (l : Addr) (ls : List Key), xs = [V.ref l] ∧ (SqL K H l (ls.map kV) ∨ SqT K H l (ls.map kV)) ∧ ls.length < 4000 ∧
  ∀ p ks, H p = none → ks.Nodup → (∀ x, x ∈ ks ↔ x ∈ ls) → ks.length ≤ ls.length → Q (.ref p) (upd H p (SetH P w p ks))
theorem cr_setX (hc : X.calm = true) : CallR X (.type "set") (rSetX X.K X.prog X.w) := by
  intro pins s σ H xs us Q I r h
  obtain ⟨l, ls, rfl, hq, hb, q⟩ := h
  obtain ⟨u, rfl, rx⟩ := vals1 r
  cases rx
  have hb2 : ls.length + 1 < scanBound := by unfold scanBound; omega
  have fin : ∀ (h' : Heap) (tk : Nat) (ks : List Key), SetX X.prog X.w h' s.heap.objs.size ks → ks.length ≤ ls.length → (∀ x, x ∈ ks ↔ x ∈ ls) → (∀ b o, s.heap.get? b = some o → h'.get? b = some o) → EP X pins σ Q (.ref s.heap.objs.size) { s with heap := h', toks := tk } := fun h' tk ks R h1 h2 kp =>
    have nd : ks.Nodup := by obtain ⟨_, _, _, _, _, _, _, _, _, nd, _⟩ := R; exact nd
    ⟨.ref s.heap.objs.size, _, I.laid (t' := tk) kp (Nat.le_refl _) (setH_new R), rfl, q _ ks (I.hok.fresh (Nat.le_refl _)) nd h2 h1⟩
  have go : ∀ its : List Value, Vals (ls.map kV) its → its.toArray.size = ls.length ∧ ∀ (i : Nat) (v : Value), its.toArray[i]? = some v → ∃ k, ls[i]? = some k ∧ RelV (kV k) v := fun its rv => by
    refine ⟨by rw [List.size_toArray, ← rv.length, List.length_map], fun i v e => ?_⟩
    obtain ⟨x, e1, r1⟩ := vals_at rv i v (by simpa using e)
    rw [List.getElem?_map] at e1
    cases e2 : ls[i]? with
    | none => rw [e2] at e1; cases e1
    | some k => rw [e2] at e1; cases e1; exact ⟨k, rfl, r1⟩
  rcases hq with hq | hq
  · obtain ⟨its, rv, pl, hz⟩ := I.list hq
    obtain ⟨g1, g2⟩ := go its rv
    exact call_setX_list ls (I.ok.hd hc) pl.isList g1 g2 hb2 fin
  · obtain ⟨its, rv, pl, hz⟩ := I.tuple hq
    obtain ⟨g1, g2⟩ := go its rv
    exact call_setX_tuple ls (I.ok.hd hc) pl g1 g2 hb2 fin
def rSortX (P : Program) (w : World) : List V → Hp → VK → Prop := fun xs H Q => ∃ (a : Addr) (ks : List Key), xs = [V.ref a] ∧ H a = some (SetH P w a ks) ∧
  ((∃ is : List Int, ks = is.map .inl ∧ ∀ (q : Addr) (ms : List Int), H q = none → ms.Perm is → ms.Pairwise (· ≤ ·) → Q (.ref q) (upd H q (.lst (ms.map V.int)))) ∨
   (∃ is : List Str, ks = is.map .inr ∧ ∀ (q : Addr) (ms : List Str), H q = none → ms.Perm is → sortedS ms = true → Q (.ref q) (upd H q (.lst (ms.map V.str)))))
theorem ints_of_keys : ∀ {vs : List Value} , (∀ v ∈ vs, RelV (kV (keyX v)) v) → ∀ is : List Int, (vs.map keyX).Perm (is.map .inl) → ∃ ns, IntsAre vs ns ∧ ns.Perm is
  | vs, hv, is, pm => by
    have h1 : ∀ v ∈ vs, ∃ i t, v = Value.int i t ∧ keyX v = .inl i := fun v m => by
      obtain ⟨i, _, e⟩ := List.mem_map.mp (pm.mem_iff.mp (List.mem_map_of_mem (f := keyX) m))
      have := hv v m
      rw [← e] at this
      obtain ⟨t, rfl⟩ := this
      exact ⟨i, t, rfl, rfl⟩
    have h2 : ∀ us : List Value, (∀ v ∈ us, ∃ i t, v = Value.int i t ∧ keyX v = .inl i) → ∃ ns, IntsAre us ns ∧ us.map keyX = ns.map .inl := fun us => by
      induction us with
      | nil => exact fun _ => ⟨[], .nil, rfl⟩
      | cons u us ih =>
        intro h
        obtain ⟨ns, a1, a2⟩ := ih fun v m => h v (List.mem_cons_of_mem _ m)
        obtain ⟨i, t, rfl, e⟩ := h u List.mem_cons_self
        exact ⟨i :: ns, .cons i t a1, by simp [a2, e]⟩
    obtain ⟨ns, a1, a2⟩ := h2 vs h1
    refine ⟨ns, a1, ?_⟩
    rw [a2] at pm
    have := pm.map (fun k : Key => match k with | .inl i => i | .inr _ => 0)
    simpa [List.map_map, Function.comp_def] using this
theorem strs_of_keys : ∀ {vs : List Value} , (∀ v ∈ vs, RelV (kV (keyX v)) v) → ∀ is : List Str, (vs.map keyX).Perm (is.map .inr) → ∃ ns, StrsAre vs ns ∧ ns.Perm is
  | vs, hv, is, pm => by
    have h1 : ∀ v ∈ vs, ∃ i t, v = Value.str i t ∧ keyX v = .inr i := fun v m => by
      obtain ⟨i, _, e⟩ := List.mem_map.mp (pm.mem_iff.mp (List.mem_map_of_mem (f := keyX) m))
      have := hv v m
      rw [← e] at this
      obtain ⟨t, rfl⟩ := this
      exact ⟨i, t, rfl, rfl⟩
    have h2 : ∀ us : List Value, (∀ v ∈ us, ∃ i t, v = Value.str i t ∧ keyX v = .inr i) → ∃ ns, StrsAre us ns ∧ us.map keyX = ns.map .inr := fun us => by
      induction us with
      | nil => exact fun _ => ⟨[], .nil, rfl⟩
      | cons u us ih =>
        intro h
        obtain ⟨ns, a1, a2⟩ := ih fun v m => h v (List.mem_cons_of_mem _ m)
        obtain ⟨i, t, rfl, e⟩ := h u List.mem_cons_self
        exact ⟨i :: ns, .cons i t a1, by simp [a2, e]⟩
    obtain ⟨ns, a1, a2⟩ := h2 vs h1
    refine ⟨ns, a1, ?_⟩
    rw [a2] at pm
    have := pm.map (fun k : Key => match k with | .inl _ => (Str.empty : Str) | .inr x => x)
    simpa [List.map_map, Function.comp_def] using this
theorem cr_sortX (hc : X.calm = true) : CallR X (.builtin "sorted") (rSortX X.prog X.w) := by
  intro pins s σ H xs us Q I r h
  obtain ⟨a, ks, rfl, ha, q⟩ := h
  have R := setH_get I ha
  rw [Vals.ref1 r]
  have fin : ∀ (s' : Shared) (p : Addr) (out : Array Value) (c : Nat) (zs : List V), (∀ b o, s.heap.get? b = some o → s'.heap.get? b = some o) → s'.gens = s.gens → s'.os = s.os → s.heap.objs.size ≤ p → s'.heap.get? p = some (seqObj "list" out c) → Vals zs out.toList → zs.length ≤ sizeLine →
      (H p = none → Q (.ref p) (upd H p (.lst zs))) → EP X pins σ Q (.ref p) s' := fun s' p out c zs k g o hp hg hv hz w => by
    have hn : H p = none := I.hok.fresh hp
    have J : Inv X pins σ (upd H p (.lst zs)) { s with heap := s'.heap, gens := s'.gens, drawn := s'.drawn, toks := s'.toks } :=
      I.call (ch := []) (Un.laid k hp hn) (I.hok.laid k hp ⟨hz, out.toList, c, hv, by rw [Array.toArray_toList]; exact hg⟩) (by rw [g]; exact I.bare) (fun _ z => nomatch z)
    have e : s' = { s with heap := s'.heap, gens := s'.gens, drawn := s'.drawn, toks := s'.toks } := by
      cases s'
      cases s
      cases o
      rfl
    rw [e]
    exact ⟨.ref p, _, J, rfl, w hn⟩
  rcases q with ⟨is, rfl, q⟩ | ⟨is, rfl, q⟩
  · refine setX_sorted R (I.ok.hd hc) (F := fun _ out => ∃ ms, IntsAre out ms ∧ ms.Perm is ∧ ms.Pairwise (· ≤ ·)) (fun vs s' b Pf pm hv hl ho hp => ?_) fun s' p vs out c k g o hp hg hF pm => ?_
    · obtain ⟨ns, a1, a2⟩ := ints_of_keys hv is pm
      exact list_sort_treeAny ho a1 hl fun out ms b1 b2 b3 => hp out ⟨ms, b1, b2.trans a2, b3⟩
    · obtain ⟨ms, b1, b2, b3⟩ := hF
      have hz : (ms.map V.int).length ≤ sizeLine := by
        obtain ⟨_, es, _, _, _, _, _, _, pm0, _, hb, _⟩ := R
        have e1 := pm0.length_eq
        rw [List.length_map, b2.length_eq, sizeLine_eq]
        rw [List.length_map, List.length_map, Array.length_toList] at e1
        unfold scanBound at hb
        omega
      exact fin s' p out c (ms.map V.int) k g o hp hg (vals_of_ints b1) hz fun hn => q p ms hn b2 b3
  · refine setX_sorted R (I.ok.hd hc) (F := fun _ out => ∃ ms, StrsAre out ms ∧ ms.Perm is ∧ sortedS ms = true) (fun vs s' b Pf pm hv hl ho hp => ?_) fun s' p vs out c k g o hp hg hF pm => ?_
    · obtain ⟨ns, a1, a2⟩ := strs_of_keys hv is pm
      refine list_sort_treeKAny strKind_oneLt ho a1.keysOf (fun v₁ v₂ rest e => keyKind_strs (by rw [← e]; exact a1)) hl fun st' h1 h2 => ?_
      obtain ⟨ms, b1, b2, b3⟩ := sorted_out_str a1 h1 h2
      exact hp _ ⟨ms, b1, b2.trans a2, b3⟩
    · obtain ⟨ms, b1, b2, b3⟩ := hF
      have hz : (ms.map V.str).length ≤ sizeLine := by
        obtain ⟨_, es, _, _, _, _, _, _, pm0, _, hb, _⟩ := R
        have e1 := pm0.length_eq
        rw [List.length_map, b2.length_eq, sizeLine_eq]
        rw [List.length_map, List.length_map, Array.length_toList] at e1
        unfold scanBound at hb
        omega
      exact fin s' p out c (ms.map V.str) k g o hp hg (vals_of_strs b1) hz fun hn => q p ms hn b2 b3
def rLenX (P : Program) (w : World) : List V → Hp → VK → Prop := fun xs H Q => ∃ (a : Addr) (ks : List Key), xs = [V.ref a] ∧ H a = some (SetH P w a ks) ∧ Q (.int ks.length) H
theorem cr_lenX : CallR X (.builtin "len") (rLenX X.prog X.w) := by
  intro pins s σ H xs us Q I r h
  obtain ⟨a, ks, rfl, ha, q⟩ := h
  have R := setH_get I ha
  rw [Vals.ref1 r]
  obtain ⟨o, es, ep, t, ho, hex, hd, g, pm0, nd, hb, hf, _⟩ := R
  have hn : es.size = ks.length := by rw [← pm0.length_eq, List.length_map, Array.length_toList]
  exact call_len_set ho hex hd hf (by rw [hn]; unfold scanBound at hb; omega) ⟨.int ks.length, H, I.tok _, ⟨_, by rw [hn]⟩, q⟩
theorem bn_set : bootBuiltins "set" = some (.type "set") := by decide +kernel
/-! ### sorted(set(x)), len(set(x)) -/
def gSortSet : GN := fun os Q => match os with
  | [o] => match seqO o with
    | some ts => ts.length < 4000 ∧ ((∃ ns : List Int, ts = ns.map .int ∧ ∀ ms : List Int, ms.Nodup → (∀ x, x ∈ ms ↔ x ∈ ns) → ms.Pairwise (· ≤ ·) → Q (.lst (ms.map .int))) ∨
      (∃ ns : List Str, ts = ns.map .str ∧ ∀ ms : List Str, ms.Nodup → (∀ x, x ∈ ms ↔ x ∈ ns) → sortedS ms = true → Q (.lst (ms.map .str))))
    | none => False
  | _ => False
theorem RPs.intsE {K : PySem.W.Frag} {H : Hp} {F : Addr → Prop} : ∀ {vs : List V} {ns : List Int}, RPs K H F vs (ns.map PyData.int) → vs = ns.map V.int
  | _, [], .nil => rfl
  | _, n :: ns, .cons h t => by rw [RP.intE h, RPs.intsE t]; rfl
theorem RPs.strsE {K : PySem.W.Frag} {H : Hp} {F : Addr → Prop} : ∀ {vs : List V} {ns : List Str}, RPs K H F vs (ns.map PyData.str) → vs = ns.map V.str
  | _, [], .nil => rfl
  | _, n :: ns, .cons h t => by rw [RP.strE h, RPs.strsE t]; rfl
theorem rps_intsX {K : PySem.W.Frag} {H : Hp} {F : Addr → Prop} : ∀ ns : List Int, RPs K H F (ns.map V.int) (ns.map PyData.int)
  | [] => .nil
  | i :: ns => .cons (RP.int i) (rps_intsX ns)
theorem nodup_of_map {α β : Type} {f : α → β} {l : List α} (h : (l.map f).Nodup) : l.Nodup := by
  induction l with
  | nil => exact List.nodup_nil
  | cons a l ih =>
    rw [List.map_cons, List.nodup_cons] at h
    exact List.nodup_cons.mpr ⟨fun m => h.1 (List.mem_map_of_mem m), ih h.2⟩
/-- sorted(set(x)): what the set holds, in order -/
theorem sortSet_go {H : Hp} {F : Addr → Prop} {vs : List V} {xs : List O} {Q : VK} {Qa : O → Prop} (hx : Paired (RW X.K H F) vs xs) (h : gSortSet xs Qa) (fin : FinV X.K H F Qa Q) : rSetX X.K X.prog X.w vs H fun v H1 => rSortX X.prog X.w [v] H1 Q := by
  unfold gSortSet at h
  split at h
  · cases hx with
    | cons h1 hr =>
      cases hr
      split at h
      · rename_i ts es
        obtain ⟨hz, h⟩ := h
        obtain ⟨p, vs, rfl, hq, r2⟩ := RW.seq h1 es
        have hq' : SqL X.K H p vs ∨ SqT X.K H p vs := hq.imp id And.left
        have lay : ∀ (a b : Addr) (o u : HO), H a = none → L2.upd H a o b = none → b ≠ a ∧ H b = none := fun a b o u n e => by
          have ne : b ≠ a := fun z => by rw [z, upd_same] at e; cases e
          rw [upd_ne ne] at e
          exact ⟨ne, e⟩
        have done : ∀ (a b : Addr) (o : HO) (zs : List V) (ts : List T), H a = none → L2.upd H a o b = none → (∀ (H' : Hp) (F' : Addr → Prop), RPs X.K H' F' zs ts) → Qa (.lst ts) → Q (.ref b) (L2.upd (L2.upd H a o) b (.lst zs)) := fun a b o zs ts na nb rz q => by
          obtain ⟨ne, nb'⟩ := lay a b o o na nb
          refine fin (.ref b) (.lst ts) [b] _ (Pres.trans (Pres.upd na) (Pres.upd nb)) ⟨b, zs, rfl, rfl, upd_same, rz _ _⟩ (fun c m => by rw [List.mem_singleton.mp m]; exact nb') (by simp) q
        rcases h with ⟨ns, rfl, h⟩ | ⟨ns, rfl, h⟩
        · obtain rfl := r2.intsE
          refine ⟨p, ns.map .inl, rfl, by simpa [List.map_map, Function.comp_def, kV] using hq', by simpa using hz, fun a ks na nd hm hl => ⟨a, ks, rfl, upd_same, .inl ?_⟩⟩
          have hk : ∀ k ∈ ks, ∃ i : Int, k = .inl i := fun k m => by
            obtain ⟨i, _, e⟩ := List.mem_map.mp ((hm k).mp m)
            exact ⟨i, e.symm⟩
          have e1 : ks = (ks.map fun k : Key => match k with | .inl i => i | .inr _ => 0).map .inl := by
            rw [List.map_map]
            refine (List.map_id ks).symm.trans (List.map_congr_left fun k m => ?_)
            obtain ⟨i, rfl⟩ := hk k m
            rfl
          generalize (ks.map fun k : Key => match k with | .inl i => i | .inr _ => 0) = is at e1
          subst e1
          refine ⟨is, rfl, fun b ms nb pm so => done a b _ _ _ na nb (fun _ _ => rps_intsX ms) (h ms (pm.nodup_iff.mpr (nodup_of_map nd)) (fun x => ?_) so)⟩
          have := hm (.inl x)
          first | simpa [pm.mem_iff] using this | (rw [pm.mem_iff]; simpa using this)
        · obtain rfl := r2.strsE
          refine ⟨p, ns.map .inr, rfl, by simpa [List.map_map, Function.comp_def, kV] using hq', by simpa using hz, fun a ks na nd hm hl => ⟨a, ks, rfl, upd_same, .inr ?_⟩⟩
          have hk : ∀ k ∈ ks, ∃ i : Str, k = .inr i := fun k m => by
            obtain ⟨i, _, e⟩ := List.mem_map.mp ((hm k).mp m)
            exact ⟨i, e.symm⟩
          have e1 : ks = (ks.map fun k : Key => match k with | .inl _ => Str.empty | .inr x => x).map .inr := by
            rw [List.map_map]
            refine (List.map_id ks).symm.trans (List.map_congr_left fun k m => ?_)
            obtain ⟨i, rfl⟩ := hk k m
            rfl
          generalize (ks.map fun k : Key => match k with | .inl _ => Str.empty | .inr x => x) = is at e1
          subst e1
          refine ⟨is, rfl, fun b ms nb pm so => done a b _ _ _ na nb (fun _ _ => RPs.ofStrs ms) (h ms (pm.nodup_iff.mpr (nodup_of_map nd)) (fun x => ?_) so)⟩
          have := hm (.inr x)
          first | simpa [pm.mem_iff] using this | (rw [pm.mem_iff]; simpa using this)
      · exact h.elim
  · exact h.elim
theorem ex_sortSet {e : Expr} {ts : XTs} {p p2 q pos : Pos} (hc : X.calm = true) (hg : Gl X "sorted") (hm : X.mg "sorted" = none) (hg2 : Gl X "set") (hm2 : X.mg "set" = none) (hb : bootBuiltins "sorted" = some (.builtin "sorted")) (hb2 : bootBuiltins "set" = some (.type "set")) (ha : EXs X [e] ts)
    (he : starEach [.Call (.Name "set" p2) [e] [] q] X.env = (false, eval (.Call (.Name "set" p2) [e] [] q) X.env) :: starEach [] X.env := by rfl) (he2 : starEach [e] X.env = (false, eval e X.env) :: starEach [] X.env := by rfl) :
    EX X (.Call (.Name "sorted" p) [.Call (.Name "set" p2) [e] [] q] [] pos) (tCallB gSortSet ts) := by
  refine ⟨PE.imp (pe_callB (cr_sortX hc) hg hm hb (pa_cons (pe_callTy (cr_setX hc) hg2 hm2 hb2 ha.pa (by decide) (by decide) he2 (by rfl)) pa_nil he) (by decide) (by decide) he (by rfl)) ?_⟩
  rintro σ H Q ⟨ρ, fp, G, Qa, R, h, fin⟩
  refine ⟨ρ, fp, G, _, R, h, fun vs ps A H1 ρ1 fp1 hl R1 r1 nd1 ng1 x1 h1 => ?_⟩
  unfold gN at h1
  split at h1
  · rename_i os e1
    exact sortSet_go (getAll_rw R1 r1 e1) h1 (fin_of R1 (fun a m => List.mem_append_right _ m) x1.or fin)
  · exact h1.elim
end
section
variable {X : Cx}
/-- sorted of texts, of data that are alike -/
def gSort : GN := fun os Q => gSortS os Q ∨ gSortD os Q
theorem callA_sort (hu : X.A.units + 200 < cLine) : CallA X (.builtin "sorted") gSort := by
  obtain ⟨r1, h1, g1⟩ := callA_sortS (X := X)
  obtain ⟨r2, h2, g2⟩ := callA_sortD hu
  exact ⟨_, CallR.or h1 h2, fun H F vs xs Q Qa hx h fin => h.imp (fun h => g1 H F vs xs Q Qa hx h fin) fun h => g2 H F vs xs Q Qa hx h fin⟩
end
end DL

set_option Elab.async false
set_option linter.all false
set_option maxRecDepth 100000
set_option maxHeartbeats 4000000
/-! THE DATA LAYER, part 18: a chain of comparisons as a value. -/
namespace DL
open PySem PySem.Spec L2
open PyProof.Rows hiding St
section
variable {X : Cx}
theorem chain_lt {g g' : G2} {r r' : R2} {ta tb tc : XT} (hg : ∀ H F v u x y Q Qa, RW X.K H F v x → RW X.K H F u y → g x y Qa → FinV X.K H F Qa Q → r v u H Q)
    (hg' : ∀ H F v u x y Q Qa, RW X.K H F v x → RW X.K H F u y → g' x y Qa → FinV X.K H F Qa Q → r' v u H Q) : ∀ (σ : St) (H : Hp) (Q : Bool → Hp → Prop), LT X.K (tChainA g g' ta tb tc) σ H Q → tTest (tChain r r' (LX X.K ta) (LX X.K tb) (LX X.K tc)) σ H Q := by
  rintro σ H Q ⟨ρ, fp, G, Qa, R, h, fin⟩
  refine ⟨ρ, fp, G, _, R, h, fun v p A H1 ρ1 fp1 R1 r1 x1 h1 => ?_⟩
  refine ⟨ρ1, fp1, A ++ G, _, R1, h1, fun u q B H2 ρ2 fp2 R2 r2 x2 h2 => ?_⟩
  unfold g2 at h2
  split at h2
  · rename_i x y e1 e2
    refine hg H2 (Or1 (Fo fp2) (B ++ (A ++ G))) v u x y _ _ (r1.rw R1 x2 R2 e1) (r2.rw0 R2 e2) h2 fun z o C H3 pr ro nC ndC q3 => ?_
    unfold bO at q3
    split at q3
    · rename_i c
      obtain ⟨rfl, ro⟩ := ro
      have ez := RP.boolE ro; subst ez
      refine ⟨c, rfl, ?_⟩
      cases c with
      | true =>
        rw [if_pos rfl] at q3 ⊢
        have R3 : RS X.K σ H3 ρ2 fp2 (B ++ (A ++ G)) := R2.pres pr
        refine ⟨ρ2, fp2, B ++ (A ++ G), _, R3, q3, fun w' r D H4 ρ4 fp4 R4 r4 x4 h4 => ?_⟩
        obtain ⟨hsl, h4⟩ := h4
        split at h4
        · rename_i y' z' e3 e4
          have r2' : ROp X.K σ H3 fp2 ρ2 (A ++ G) u q B := by
            cases q with
            | val o => exact ⟨r2.1.pres pr, r2.2⟩
            | slot j => exact r2
          refine hg' H4 (Or1 (Fo fp4) (D ++ (B ++ (A ++ G)))) u w' y' z' _ _ (r2'.rw R3 x4 R4 e3) (r4.rw0 R4 e4) h4 fun z2 o2 C2 H5 pr5 ro5 nC5 nd5 q5 => ?_
          split at q5
          · obtain ⟨rfl, ro5⟩ := ro5
            have ez := RP.boolE ro5; subst ez
            refine ⟨_, rfl, fin _ H5 ρ4 fp4 ((R4.sub (G' := G) fun a m => by simp [m]).pres pr5) ?_ q5⟩
            exact ((x1.or.trans x2.or).trans (pr.ext (F := Fo fp2))).trans (x4.or.trans pr5.ext)
          · exact q5.elim
        · exact h4.elim
      | false =>
        rw [if_neg Bool.false_ne_true] at q3 ⊢
        exact ⟨false, rfl, fin false H3 ρ2 fp2 ((R2.sub (G' := G) fun a m => by simp [m]).pres pr) ((x1.or.trans x2.or).trans pr.ext) q3⟩
    · exact q3.elim
  · exact h2.elim
/-- a < b < c as a value -/
def tChainE (g g' : G2) (ta tb tc : XT) : XT := fun ρ Q => tChainA g g' ta tb tc ρ fun b ρ1 => Q (.val (.pure (.bool b))) ρ1
theorem ex_chainE {op op' : CmpOp} {g g' : G2} {a b c : Expr} {ta tb tc : XT} {pos : Pos} (ho : OpA X (compareOp op) g) (ho' : OpA X (compareOp op') g') (ha : EX X a ta) (hb : EX X b tb) (hc : EX X c tc)
    (hm : lastMarks [op, op'] [b, c] = false := by with_unfolding_all rfl) : EX X (.Compare a [op, op'] [b, c] pos) (tChainE g g' ta tb tc) := by
  obtain ⟨r, hr, hg⟩ := ho
  obtain ⟨r', hr', hg'⟩ := ho'
  have e := pe_chain (pos := pos) hr hr' ha.pe hb.pe hc.pe hm
  refine ⟨⟨fun pins s σ H Q I h => ?_⟩⟩
  obtain ⟨ρ, fp, G, Qa, R, h, fin⟩ := h
  have h2 : LT X.K (tChainA g g' ta tb tc) σ H fun b H' => Q (.bl b) H' := ⟨ρ, fp, G, _, R, h, fun b H' ρ' fp' R' x' q => by
    have rb : ROp X.K σ H' fp' ρ' G (.bl b) (.val (.pure (.bool b))) [] := rop_pure (RP.bl b)
    refine fin (.bl b) (.val (.pure (.bool b))) [] H' ρ' fp' R' rb ?_ q
    exact x'.weak (fun a z => z) fun a z => z.elim id fun m => nomatch m⟩
  refine wpAny_mono (e.run pins s σ H _ I (chain_lt hg hg' σ H _ h2)) (fun u s' ⟨v, H', I', r', k, ev, q⟩ => ?_) fun _ _ z => z
  subst ev
  exact ⟨_, H', I', r', q⟩
/-- tuple(range(n)), list(range(n)) -/
def rgK (lst : Bool) (ρ : AEnv) (Q : Opd → AEnv → Prop) : Option O → Prop
  | some (.pure (.int n)) => 0 ≤ n ∧ n ≤ 1000000 ∧ Q (.val (if lst = true then .lst (rngItems 0 n.toNat) else .pure (.tuple (rngItems 0 n.toNat)))) ρ
  | _ => False
def tRg (lst : Bool) (ta : XT) : XT := fun ρ Q => ta ρ fun p ρ1 => rgK lst ρ1 Q (p.get ρ1)
theorem rps_rg {K : PySem.W.Frag} {H : Hp} {F : Addr → Prop} (n : Int) : RPs K H F (rgV 0 n) (rngItems 0 n.toNat) := by
  unfold rgV rngItems
  rw [Int.sub_zero]
  exact paired_of fun i m => RP.int _
theorem ex_tupRg {a : Expr} {ta : XT} {p p2 q pos : Pos} (hc : X.calm = true) (hg : Gl X "tuple") (hm : X.mg "tuple" = none) (hg2 : Gl X "range") (hm2 : X.mg "range" = none) (ha : EX X a ta)
    (na : starEach [a] X.env = (false, eval a X.env) :: starEach [] X.env := by rfl) (nb : starEach [.Call (.Name "range" p2) [a] [] q] X.env = (false, eval (.Call (.Name "range" p2) [a] [] q) X.env) :: starEach [] X.env := by rfl) :
    EX X (.Call (.Name "tuple" p) [.Call (.Name "range" p2) [a] [] q] [] pos) (tRg false ta) := by
  refine ⟨PE.imp (pe_tupRg hc hg hm (prg_1 hg2 hm2 ha.pe na) nb) ?_⟩
  rintro σ H Q ⟨ρ, fp, G, Qa, R, h, fin⟩
  refine ⟨ρ, fp, G, _, R, h, fun v p A H1 ρ1 fp1 R1 r1 x1 h1 => ?_⟩
  unfold rgK at h1
  split at h1
  · rename_i n e1
    obtain ⟨h0, hl, h1⟩ := h1
    refine ⟨n, RP.intE (r1.rw0 R1 e1), RgOk.of_le (by omega) (by omega) (by omega) h0, fun q hq => ?_⟩
    exact FinV.tup (fin_of (G := G) R1 (fun a m => List.mem_append_right _ m) x1.or fin) hq (rps_rg n) h1
  · exact h1.elim
theorem ex_lstRg {a : Expr} {ta : XT} {p p2 q pos : Pos} (hc : X.calm = true) (hg : Gl X "list") (hm : X.mg "list" = none) (hg2 : Gl X "range") (hm2 : X.mg "range" = none) (ha : EX X a ta)
    (na : starEach [a] X.env = (false, eval a X.env) :: starEach [] X.env := by rfl) (nb : starEach [.Call (.Name "range" p2) [a] [] q] X.env = (false, eval (.Call (.Name "range" p2) [a] [] q) X.env) :: starEach [] X.env := by rfl) :
    EX X (.Call (.Name "list" p) [.Call (.Name "range" p2) [a] [] q] [] pos) (tRg true ta) := by
  refine ⟨PE.imp (pe_listRg hc hg hm (prg_1 hg2 hm2 ha.pe na) nb) ?_⟩
  rintro σ H Q ⟨ρ, fp, G, Qa, R, h, fin⟩
  refine ⟨ρ, fp, G, _, R, h, fun v p A H1 ρ1 fp1 R1 r1 x1 h1 => ?_⟩
  unfold rgK at h1
  split at h1
  · rename_i n e1
    obtain ⟨h0, hl, h1⟩ := h1
    refine ⟨n, RP.intE (r1.rw0 R1 e1), RgOk.of_le (by omega) (by omega) (by omega) h0, fun q hq => ?_⟩
    exact FinV.lst (fin_of (G := G) R1 (fun a m => List.mem_append_right _ m) x1.or fin) hq (rps_rg n) h1
  · exact h1.elim
/-- text * n -/
def repS (x : Str) (k : Int) : Str := ⟨(List.replicate k.toNat x.cps).foldl (· ++ ·) #[]⟩
def gMulS : G2 := fun x y Q => match x, y with
  | .pure (.str z), .pure (.int k) => 2 ≤ k ∧ k ≤ 1000 ∧ 1 ≤ z.length ∧ z.length ≤ 1000 ∧ Q (.pure (.str (repS z k)))
  | _, _ => False
theorem opA_mulS : OpA X (binaryOp .Mult) gMulS := OpA.mk fun pins s σ H F v u x y a b Q Qa I rx ry hx hy h fin => by
  unfold gMulS at h
  split at h
  · rename_i z k
    obtain ⟨h1, h2, h3, h4, h⟩ := h
    have e1 := RP.strE hx; have e2 := RP.intE hy; subst e1 e2
    obtain ⟨t, rfl⟩ := rx
    obtain ⟨t', rfl⟩ := ry
    have c1 : ¬ k < 1 := by omega
    have c2 : (k == 1 || z.length == 0) = false := by simp; omega
    have hz : z.length * k.toNat ≤ 1000 * 1000 := Nat.mul_le_mul h4 (by omega)
    refine PySem.P.mul_str (by simp; omega) (fun _ _ => ?_) (fun _ _ => ?_) ?_
    · have : (1000 : Int) ≤ (2 ^ 63 - 1) / k := (Int.le_ediv_iff_mul_le (by omega)).mpr (by omega)
      omega
    · exact short24 (by omega)
    · rw [if_neg c1, if_neg (by rw [c2]; decide)]
      refine ⟨?_, ⟨.str (repS z k), H, I.tok _, ⟨_, rfl⟩, fin.str h⟩⟩
      exact fits_reps (short24 (by omega))
  · exact h.elim
def gMul2 : G2 := fun x y Q => match x with
  | .pure (.str z) => gMulS (.pure (.str z)) y Q
  | x => gMul x y Q
theorem gMul2_s {z : Str} {y : O} {Q : O → Prop} : gMul2 (.pure (.str z)) y Q = gMulS (.pure (.str z)) y Q := rfl
theorem gMul2_i {i : Int} {y : O} {Q : O → Prop} : gMul2 (.pure (.int i)) y Q = gMul (.pure (.int i)) y Q := rfl
theorem gMul2_l {ts : List T} {y : O} {Q : O → Prop} : gMul2 (.lst ts) y Q = gMul (.lst ts) y Q := rfl
theorem opA_mul2 : OpA X (binaryOp .Mult) gMul2 := OpA.alt (g := gMulS) (g' := gMul) opA_mulS opA_mul fun x y Qa h => by
  unfold gMul2 at h
  split at h
  · exact .inl h
  · exact .inr h
end
end DL

set_option Elab.async false
set_option linter.all false
set_option maxRecDepth 100000
set_option maxHeartbeats 4000000
/-! THE DATA LAYER, part 19: strip(signs). -/
namespace DL
open PySem PySem.Spec L2
open PyProof.Rows hiding St
section
variable {X : Cx}
def strip2K (x : Str) (ρ : AEnv) (Q : Opd → AEnv → Prop) : Option O → Prop
  | some (.pure (.str y)) => x.length ≤ 16777216 ∧ Q (.val (.pure (.str (Txt.stripChars x y)))) ρ
  | _ => False
def strip1K (tc : XT) (ρ : AEnv) (Q : Opd → AEnv → Prop) : Option O → Prop
  | some (.pure (.str x)) => tc ρ fun q ρ2 => strip2K x ρ2 Q (q.get ρ2)
  | _ => False
def tStripX (te tc : XT) : XT := fun ρ Q => te ρ fun p ρ1 => strip1K tc ρ1 Q (p.get ρ1)
theorem ex_stripC {e c : Expr} {te tc : XT} {apos pos : Pos} (he : EX X e te) (hcx : EX X c tc) (hs : starEach [c] X.env = [(false, eval c X.env)] := by rfl) (hbase : attributeBase e "strip" X.env (eval e X.env) = eval e X.env := by rfl) (hline : (apos.endLine == pos.line) = true := by rfl) :
    EX X (.Call (.Attribute e "strip" apos) [c] [] pos) (tStripX te tc) := by
  refine ⟨PE.imp (pe_m1 F.slot_str_strip F.type_str_strip mt_stripChars he.pe hcx.pe hs hbase hline) ?_⟩
  rintro σ H Q ⟨ρ, fp, G, Qa, R, h, fin⟩
  refine ⟨ρ, fp, G, _, R, h, fun v p A H1 ρ1 fp1 R1 r1 x1 h1 => ?_⟩
  unfold strip1K at h1
  split at h1
  · rename_i x e1
    have ev := RP.strE (r1.rw0 R1 e1)
    subst ev
    refine ⟨⟨x, rfl⟩, ρ1, fp1, A ++ G, _, R1, h1, fun u q B H2 ρ2 fp2 R2 r2 x2 h2 => ?_⟩
    unfold strip2K at h2
    split at h2
    · rename_i y e2
      have eu := RP.strE (r2.rw0 R2 e2)
      subst eu
      exact ⟨x, y, rfl, rfl, by rw [sizeLine_eq]; exact h2.1, FinV.str (fin_of (G := G) R2 (fun a m => by simp [m]) (x1.or.trans x2.or) fin) h2.2⟩
    · exact h2.elim
  · exact h1.elim
end
end DL

set_option Elab.async false
set_option linter.all false
set_option maxRecDepth 100000
set_option maxHeartbeats 4000000
/-! THE DATA LAYER, part 20: dicts by key, dict(list of pairs), min and max of two texts. -/
namespace DL
open PySem PySem.Spec L2
open PyProof.Rows hiding St

def keyOf : T → Option Key
  | .int i => some (.inl i)
  | .str x => some (.inr x)
  | _ => none
def keysT : List (T × T) → Option (List (Key × T))
  | [] => some []
  | (a, b) :: r => match keyOf a, keysT r with
    | some k, some l => some ((k, b) :: l)
    | _, _ => none
/-- the entries of a dict that is not one of owned lists -/
def dcX : O → Option (List (Key × T))
  | .dct kts => some kts
  | .pure (.dict l) => keysT l
  | _ => none
def klook (l : List (Key × T)) (k : Key) : Option T := (l.find? fun p => decide (p.1 = k)).map (·.2)
/-- the entry, in its place or at the end -/
def kput (l : List (Key × T)) (k : Key) (t : T) : List (Key × T) :=
  if (l.any fun p => decide (p.1 = k)) = true then l.map (fun p => if p.1 = k then (p.1, t) else p) else l ++ [(k, t)]
def kmerge (l more : List (Key × T)) : List (Key × T) := more.foldl (fun acc p => kput acc p.1 p.2) l
theorem keyOf_keyT (k : Key) : keyOf (keyT k) = some k := by cases k <;> rfl
theorem keysT_map : ∀ l : List (Key × T), keysT (l.map fun p => (keyT p.1, p.2)) = some l
  | [] => rfl
  | p :: r => by rw [List.map_cons, keysT, keyOf_keyT, keysT_map r]
section
variable {K : PySem.W.Frag} {H : Hp} {F : Addr → Prop}
abbrev PKV (K : PySem.W.Frag) (H : Hp) (F : Addr → Prop) : List (Key × V) → List (Key × T) → Prop := Paired (fun (p : Key × V) (q : Key × T) => p.1 = q.1 ∧ RP K H F p.2 q.2)
theorem pkv_zip : ∀ {kvs : List (Key × V)} {ts : List T} {l : List (Key × T)}, RPs K H F (kvs.map (·.2)) ts → keysT (List.zipWith (fun (p : Key × V) (t : T) => (keyT p.1, t)) kvs ts) = some l → PKV K H F kvs l
  | [], ts, l, r, e => by
    cases ts with
    | nil => cases e; exact .nil
    | cons t ts => cases e; exact .nil
  | p :: kvs, [], l, r, e => by cases r
  | p :: kvs, t :: ts, l, r, e => by
    rw [List.map_cons] at r
    cases r with
    | cons h r =>
      rw [List.zipWith_cons_cons, keysT, keyOf_keyT] at e
      cases q : keysT (List.zipWith (fun (p : Key × V) (t : T) => (keyT p.1, t)) kvs ts) with
      | none => rw [q] at e; cases e
      | some m =>
        rw [q] at e; cases e
        exact .cons ⟨rfl, h⟩ (pkv_zip r q)
theorem RW.dc {v : V} {o : O} {l : List (Key × T)} (h : RW K H F v o) (e : dcX o = some l) : ∃ a kvs, v = .ref a ∧ Rd H a (.dK kvs) ∧ PKV K H F kvs l := by
  unfold dcX at e
  split at e
  · cases e
    obtain ⟨a, kvs, rfl, h1, h2⟩ := h
    exact ⟨a, kvs, rfl, .inl h1, h2⟩
  · obtain ⟨a, kvs, ts, rfl, h1, h2, _, e2⟩ := RP.dctE h
    rw [e2] at e
    exact ⟨a, kvs, rfl, h1, pkv_zip h2 e⟩
  · cases e
theorem PKV.look {k : Key} : ∀ {kvs : List (Key × V)} {l : List (Key × T)}, PKV K H F kvs l → match klook l k with
    | some t => ∃ v, valV kvs k = some v ∧ RP K H F v t
    | none => valV kvs k = none
  | _, _, .nil => rfl
  | p :: kvs, q :: l, .cons h r => by
    have ih := PKV.look (k := k) r
    unfold klook at ih ⊢
    by_cases e : p.1 = k
    · rw [List.find?_cons, show decide (q.1 = k) = true by rw [← h.1]; exact decide_eq_true e, Option.map_some]
      exact ⟨p.2, valV_pos e, h.2⟩
    · rw [List.find?_cons, show decide (q.1 = k) = false by rw [← h.1]; exact decide_eq_false e, valV_neg e]
      exact ih
theorem PKV.anyK {k : Key} : ∀ {kvs : List (Key × V)} {l : List (Key × T)}, PKV K H F kvs l → (kvs.any fun p => decide (p.1 = k)) = l.any fun p => decide (p.1 = k)
  | _, _, .nil => rfl
  | _ :: _, _ :: _, .cons h r => by rw [List.any_cons, List.any_cons, PKV.anyK r, h.1]
theorem PKV.mapK {k : Key} {v : V} {t : T} (g : RP K H F v t) : ∀ {kvs : List (Key × V)} {l : List (Key × T)}, PKV K H F kvs l → PKV K H F (kvs.map fun kv => if kv.1 = k then (kv.1, v) else kv) (l.map fun p => if p.1 = k then (p.1, t) else p)
  | _, _, .nil => .nil
  | p :: _, q :: _, .cons h r => by
    rw [List.map_cons, List.map_cons]
    refine .cons ?_ (PKV.mapK g r)
    by_cases e : p.1 = k
    · rw [if_pos e, if_pos (h.1 ▸ e)]; exact ⟨h.1, g⟩
    · rw [if_neg e, if_neg (h.1 ▸ e)]; exact h
theorem PKV.put {k : Key} {v : V} {t : T} {kvs : List (Key × V)} {l : List (Key × T)} (r : PKV K H F kvs l) (g : RP K H F v t) : PKV K H F (putK kvs k v) (kput l k t) := by
  unfold putK kput
  rw [r.anyK]
  split
  · exact r.mapK g
  · exact Paired.app r (.cons ⟨rfl, g⟩ .nil)
theorem PKV.merge : ∀ {more : List (Key × V)} {mt : List (Key × T)} {kvs : List (Key × V)} {l : List (Key × T)}, PKV K H F more mt → PKV K H F kvs l → PKV K H F (mergeK kvs more) (kmerge l mt)
  | _, _, _, _, .nil, r => r
  | p :: more, q :: mt, kvs, l, .cons h m, r => by
    have := PKV.merge m (r.put (k := p.1) h.2)
    unfold mergeK kmerge at this ⊢
    rw [List.foldl_cons, List.foldl_cons, ← h.1]
    exact this
theorem key_kV {v : V} {t : T} {k : Key} (h : RP K H F v t) (e : keyOf t = some k) : v = kV k := by
  cases t with
  | int i => cases e; exact h.intE
  | str x => cases e; exact h.strE
  | _ => cases e
end

/-- d[k] -/
def gIxD : G2 := fun x y Q => match dcX x, y with
  | some l, .pure t => match keyOf t with
    | some k => match klook l k with
      | some t => Q (.pure t)
      | none => False
    | none => False
  | _, _ => False
theorem ixA_dict {X : Cx} (hu : X.A.units + 1 < cLine) : IxA X gIxD := by
  refine ⟨fun x y H Q => ∃ a v, x = .ref a ∧ DGet H a y (some v) ∧ Q v H, ?_, fun H F v u x y Q Qa hx hy h fin => ?_⟩
  · intro value slice pins s σ H x y v u Q I rx ry h hs
    obtain ⟨a, z, rfl, g, q⟩ := h
    obtain rfl : v = Value.ref a := rx
    exact tail_any (dict_typeIs I g) PySem.F.slot_dict_getitem.lookup (d_getItem hu I g ry fun w' s' I' rw' => ⟨z, H, I', rw', q⟩) hs
  · unfold gIxD at h
    split at h
    · rename_i l t e
      split at h
      · rename_i k ek
        obtain ⟨a, kvs, rfl, rd, pk⟩ := hx.dc e
        have lk := pk.look (k := k)
        split at h
        · rename_i t' et
          rw [et] at lk
          obtain ⟨z, e1, e2⟩ := lk
          exact ⟨a, z, rfl, .inl ⟨kvs, k, rd, key_kV hy ek, e1.symm⟩, fin.pure e2 h⟩
        · exact h.elim
      · exact h.elim
    · exact h.elim
/-- k in d -/
def gInD (neg : Bool) : G2 := fun x y Q => match dcX y, x with
  | some l, .pure t => match keyOf t with
    | some k => Q (.pure (.bool (neg ^^ (klook l k).isSome)))
    | none => False
  | _, _ => False
theorem opA_inD {X : Cx} (hu : X.A.units + 1 < cLine) (neg : Bool) : OpA X (compareOp (if neg = true then .NotIn else .In)) (gInD neg) := OpA.mk fun pins s σ H F v u x y a b Q Qa I rx ry hx hy h fin => by
  unfold gInD at h
  split at h
  · rename_i l t e
    split at h
    · rename_i k ek
      obtain ⟨p, kvs, rfl, rd, pk⟩ := hy.dc e
      obtain rfl : b = Value.ref p := ry
      have lk := pk.look (k := k)
      have g : DGet H p v (valV kvs k) := .inl ⟨kvs, k, rd, key_kV hx ek, rfl⟩
      have hs : (valV kvs k).isSome = (klook l k).isSome := by
        cases q : klook l k with
        | none => rw [q] at lk; rw [lk]; rfl
        | some t => rw [q] at lk; obtain ⟨z, e1, _⟩ := lk; rw [e1]; rfl
      cases neg with
      | false => exact d_in hu I g rx fun s' I' => ⟨.bl (valV kvs k).isSome, H, I', rfl, by rw [hs]; exact fin.bl (by simpa using h)⟩
      | true => exact d_notIn hu I g rx fun s' I' => ⟨.bl (!(valV kvs k).isSome), H, I', rfl, by rw [hs]; exact fin.bl (by simpa using h)⟩
    · exact h.elim
  · exact h.elim

/-! ### dict(list of pairs) -/
def pairT : T → Option (Key × T)
  | .tuple [a, b] => match keyOf a with
    | some k => some (k, b)
    | none => none
  | _ => none
def pairsT : List T → Option (List (Key × T))
  | [] => some []
  | t :: r => match pairT t, pairsT r with
    | some p, some l => some (p :: l)
    | _, _ => none
def gDictL : GN := fun os Q => match os with
  | [o] => match lsO o with
    | some ts => match pairsT ts with
      | some l => Q (.dct (kmerge [] l))
      | none => False
    | none => False
  | _ => False
section
variable {K : PySem.W.Frag} {H : Hp} {F : Addr → Prop}
theorem pairsE : ∀ {vs : List V} {ts : List T} {l : List (Key × T)}, RPs K H F vs ts → pairsT ts = some l → ∃ (ps : List Addr) (kvs : List (Key × V)), vs = ps.map V.ref ∧ Paired (fun p (kv : Key × V) => SqT K H p [kV kv.1, kv.2]) ps kvs ∧ PKV K H F kvs l
  | _, _, l, .nil, e => by cases e; exact ⟨[], [], rfl, .nil, .nil⟩
  | v :: vs, t :: ts, l, .cons h r, e => by
    rw [pairsT] at e
    split at e
    · rename_i p m e1 e2
      cases e
      obtain ⟨ps, kvs, rfl, h1, h2⟩ := pairsE r e2
      unfold pairT at e1
      split at e1
      · rename_i a b
        split at e1
        · rename_i k ek
          cases e1
          obtain ⟨q, us, rfl, sq, rr⟩ := h.tupE
          cases rr with
          | cons r1 rr =>
            cases rr with
            | cons r2 rr =>
              cases rr
              have := key_kV r1 ek
              subst this
              exact ⟨q :: ps, (k, _) :: kvs, rfl, .cons sq h1, .cons ⟨rfl, r2⟩ h2⟩
        · cases e1
      · cases e1
    · cases e
end
theorem FinV.dct {K : PySem.W.Frag} {H : Hp} {F : Addr → Prop} {Qa : O → Prop} {Q : VK} (f : FinV K H F Qa Q) {p : Addr} {kvs : List (Key × V)} {l : List (Key × T)} (n : H p = none) (r : PKV K H F kvs l) (q : Qa (.dct l)) : Q (.ref p) (upd H p (.dK kvs)) := by
  refine f _ (.dct l) [p] _ (Pres.upd n) ⟨p, kvs, rfl, rfl, upd_same, ?_⟩ (fun a m => by rw [List.mem_singleton.mp m]; exact n) (by simp) q
  exact Paired.mapP r fun _ _ z => ⟨z.1, (z.2.grow fun a z => z.imp (fun q => q) fun m => by rw [List.mem_singleton.mp m]; exact n).ext (Pres.upd n).ext⟩
theorem callA_dictL {X : Cx} (hc : X.calm = true) : CallA X (.type "dict") gDictL := CallA.mk fun pins s σ H F vs xs us Q Qa I r hx h fin => by
  unfold gDictL at h
  split at h
  · rename_i o
    split at h
    · rename_i ts e
      split at h
      · rename_i l el
        cases hx with
        | cons h1 hr =>
          cases hr
          obtain ⟨a, us', rfl, sl, rp⟩ := h1.ls e
          obtain ⟨ps, kvs, rfl, q1, q2⟩ := pairsE rp el
          exact call_dictP hc pins s σ H _ _ Q I r ⟨a, ps, kvs, rfl, sl, q1, fun p hp => fin.dct hp (q2.merge .nil) h⟩
      · exact h.elim
    · exact h.elim
  · exact h.elim

/-! ### min, max of two texts -/
section
variable {prog : Program} {w : World} {A : Around} {E : Value → Shared → Prop} {s : Shared}
def sLt (x y : Str) : Bool := decide (x.cps.toList < y.cps.toList)
def strV (v : Value) : Str := match v with
  | .str x _ => x
  | _ => ⟨#[]⟩
theorem cmpS_lt (vs : Array Value) (hn : ∀ v ∈ vs, ∃ x t, v = .str x t) :
    CmpOf prog w A .Lt (fun i v => vs[i]? = some v) (fun i j => sLt (strV (vs.getD i .none)) (strV (vs.getD j .none))) := fun i j vi vj s Q E hi hj h => by
  have e1 : vs.getD i .none = vi := by simp [Array.getD_eq_getD_getElem?, hi]
  have e2 : vs.getD j .none = vj := by simp [Array.getD_eq_getD_getElem?, hj]
  simp only [e1, e2] at h
  obtain ⟨x, t, rfl⟩ := hn _ (Array.mem_of_getElem? hi)
  obtain ⟨y, u, rfl⟩ := hn _ (Array.mem_of_getElem? hj)
  exact richCompare_gives (op := .Lt) (typeIs_str s _ t) (typeIs_str s _ u) PySem.F.slot_str_lt PySem.F.entry_str_lt (PySem.F.args_str_lt_2 _ _) (gives_str_lt _ _ t u) (fun x => nomatch x) h
theorem cmpS_gt (vs : Array Value) (hn : ∀ v ∈ vs, ∃ x t, v = .str x t) :
    CmpOf prog w A .Gt (fun i v => vs[i]? = some v) (fun i j => sLt (strV (vs.getD j .none)) (strV (vs.getD i .none))) := fun i j vi vj s Q E hi hj h => by
  have e1 : vs.getD i .none = vi := by simp [Array.getD_eq_getD_getElem?, hi]
  have e2 : vs.getD j .none = vj := by simp [Array.getD_eq_getD_getElem?, hj]
  simp only [e1, e2] at h
  obtain ⟨x, t, rfl⟩ := hn _ (Array.mem_of_getElem? hi)
  obtain ⟨y, u, rfl⟩ := hn _ (Array.mem_of_getElem? hj)
  exact richCompare_gives (op := .Gt) (typeIs_str s _ t) (typeIs_str s _ u) PySem.F.slot_str_gt PySem.F.entry_str_gt (PySem.F.args_str_gt_2 _ _) (gives_str_gt _ _ t u) (fun x => nomatch x) h
theorem min_two_strs {Q : Value → Shared → Prop} {a b : Str} {t u : Tok} (hh : A.handled = none)
    (h : ∀ h' tk, (∀ c o, s.heap.get? c = some o → h'.get? c = some o) → Q (if sLt b a then .str b u else .str a t) { s with heap := h', toks := tk }) :
    wpAny (model prog w) A (call (.builtin "min") [.str a t, .str b u]) Q E s := by
  have hT : (s.heap.push { cls := .type "tuple", data := .seq #[.str a t, .str b u] }).IsTuple s.heap.objs.size #[.str a t, .str b u] := ⟨_, Heap.get?_push_size _ rfl, rfl, 0, rfl⟩
  refine call_min_two (wpAny_pyIter_tuple hT ?_)
  have hsz : (s.heap.push { cls := .type "tuple", data := .seq #[.str a t, .str b u] }).objs.size = s.heap.objs.size + 1 := Heap.size_push ..
  refine ⟨_, [_, s.heap.objs.size], [_], _, _, _, _, rfl, Walks.tuple (A := A.in1) hh _ s.heap.objs.size (by rw [hsz]; exact Nat.ne_of_lt (Nat.lt_succ_self _)) #[.str a t, .str b u],
    ⟨⟨_, Heap.get?_push_size _ rfl, rfl, rfl⟩, hT.push _⟩, fun c hc => ?_, by simp, cmpS_lt #[.str a t, .str b u] (by simp), fun v h' tk hP hk => ?_⟩
  · show c < ((s.heap.push _).push _).objs.size
    rw [Heap.size_push, hsz]
    rcases List.mem_cons.mp hc with rfl | hc
    · rw [hsz]; exact Nat.lt_succ_self _
    · rcases List.mem_cons.mp hc with rfl | hc
      · exact Nat.lt_succ_of_lt (Nat.lt_succ_self _)
      · cases hc
  · have hold : ∀ c o, s.heap.get? c = some o → h'.get? c = some o := fun c o e => by
      refine hk c o (fun hm => ?_) (Heap.get?_push_of_some _ (Heap.get?_push_of_some _ e))
      rcases List.mem_cons.mp hm with e1 | hm
      · have := Heap.lt_size e; rw [e1, hsz] at this; exact Nat.lt_irrefl _ (Nat.lt_of_succ_lt this)
      · cases hm
    have := h h' tk hold
    have hv : v = if sLt b a then Value.str b u else Value.str a t := by
      cases hc : sLt b a <;> simp [argBest, hc, strV] at hP <;> simp [hP]
    rw [hv]; exact this
theorem max_two_strs {Q : Value → Shared → Prop} {a b : Str} {t u : Tok} (hh : A.handled = none)
    (h : ∀ h' tk, (∀ c o, s.heap.get? c = some o → h'.get? c = some o) → Q (if sLt a b then .str b u else .str a t) { s with heap := h', toks := tk }) :
    wpAny (model prog w) A (call (.builtin "max") [.str a t, .str b u]) Q E s := by
  have hT : (s.heap.push { cls := .type "tuple", data := .seq #[.str a t, .str b u] }).IsTuple s.heap.objs.size #[.str a t, .str b u] := ⟨_, Heap.get?_push_size _ rfl, rfl, 0, rfl⟩
  refine call_max_two (wpAny_pyIter_tuple hT ?_)
  have hsz : (s.heap.push { cls := .type "tuple", data := .seq #[.str a t, .str b u] }).objs.size = s.heap.objs.size + 1 := Heap.size_push ..
  refine ⟨_, [_, s.heap.objs.size], [_], _, _, _, _, rfl, Walks.tuple (A := A.in1) hh _ s.heap.objs.size (by rw [hsz]; exact Nat.ne_of_lt (Nat.lt_succ_self _)) #[.str a t, .str b u],
    ⟨⟨_, Heap.get?_push_size _ rfl, rfl, rfl⟩, hT.push _⟩, fun c hc => ?_, by simp, cmpS_gt #[.str a t, .str b u] (by simp), fun v h' tk hP hk => ?_⟩
  · show c < ((s.heap.push _).push _).objs.size
    rw [Heap.size_push, hsz]
    rcases List.mem_cons.mp hc with rfl | hc
    · rw [hsz]; exact Nat.lt_succ_self _
    · rcases List.mem_cons.mp hc with rfl | hc
      · exact Nat.lt_succ_of_lt (Nat.lt_succ_self _)
      · cases hc
  · have hold : ∀ c o, s.heap.get? c = some o → h'.get? c = some o := fun c o e => by
      refine hk c o (fun hm => ?_) (Heap.get?_push_of_some _ (Heap.get?_push_of_some _ e))
      rcases List.mem_cons.mp hm with e1 | hm
      · have := Heap.lt_size e; rw [e1, hsz] at this; exact Nat.lt_irrefl _ (Nat.lt_of_succ_lt this)
      · cases hm
    have := h h' tk hold
    have hv : v = if sLt a b then Value.str b u else Value.str a t := by
      cases hc : sLt a b <;> simp [argBest, hc, strV] at hP <;> simp [hP]
    rw [hv]; exact this
end
/-- f says when the second one is taken -/
def gM2S (f : Str → Str → Bool) : GN := fun os Q => match os with
  | [.pure (.str x), .pure (.str y)] => Q (.pure (.str (if f x y = true then y else x)))
  | _ => False
theorem callA_min2S {X : Cx} (hc : X.calm = true) : CallA X (.builtin "min") (gM2S fun x y => sLt y x) := CallA.mk fun pins s σ H F vs xs us Q Qa I r hx h fin => by
  unfold gM2S at h
  split at h
  · rename_i x y
    cases hx with
    | cons h1 hr =>
      cases hr with
      | cons h2 hr =>
        cases hr
        have e1 := RP.strE h1; have e2 := RP.strE h2; subst e1 e2
        obtain ⟨u, w', rfl, ⟨t, rfl⟩, ⟨t', rfl⟩⟩ := vals2 r
        refine min_two_strs (I.ok.hd hc) fun h' tk k => ⟨_, H, I.kept k, ?_, fin.str h⟩
        show ∃ k, (if sLt y x = true then Value.str y t' else Value.str x t) = Value.str (if sLt y x = true then y else x) k
        cases sLt y x <;> exact ⟨_, rfl⟩
  · exact h.elim
theorem callA_max2S {X : Cx} (hc : X.calm = true) : CallA X (.builtin "max") (gM2S fun x y => sLt x y) := CallA.mk fun pins s σ H F vs xs us Q Qa I r hx h fin => by
  unfold gM2S at h
  split at h
  · rename_i x y
    cases hx with
    | cons h1 hr =>
      cases hr with
      | cons h2 hr =>
        cases hr
        have e1 := RP.strE h1; have e2 := RP.strE h2; subst e1 e2
        obtain ⟨u, w', rfl, ⟨t, rfl⟩, ⟨t', rfl⟩⟩ := vals2 r
        refine max_two_strs (I.ok.hd hc) fun h' tk k => ⟨_, H, I.kept k, ?_, fin.str h⟩
        show ∃ k, (if sLt x y = true then Value.str y t' else Value.str x t) = Value.str (if sLt x y = true then y else x) k
        cases sLt x y <;> exact ⟨_, rfl⟩
  · exact h.elim
end DL

set_option Elab.async false
set_option linter.all false
set_option maxRecDepth 100000
set_option maxHeartbeats 4000000
/-! THE DATA LAYER, part 21: found[k].append(y) where found is a dict of lists; comprehensions over found.items(). -/
namespace DL
open PySem PySem.Spec L2
open PyProof.Rows hiding St

def klk {α : Type} (l : List (Key × α)) (k : Key) : Option α := (l.find? fun p => decide (p.1 = k)).map (·.2)
/-- the first entry at k is changed -/
def kupd {α : Type} : List (Key × α) → Key → α → List (Key × α)
  | [], _, _ => []
  | p :: r, k, y => if p.1 = k then (p.1, y) :: r else p :: kupd r k y
section
variable {K : PySem.W.Frag} {σ : St} {H H1 : Hp} {F : Addr → Prop} {fp : Nat → List Addr} {ρ : AEnv} {v : V} {o o' : O} {j : Nat} {a : Addr} {u u' : HO} {A G : List Addr}
/-- an object of slot j is changed -/
theorem RS.mutG (R : RS K σ H ρ fp G) (e : ρ[j]? = some (some o)) (hv : σ[j]? = some (some v)) (hf : a ∈ fp j) (hu : H a = some u) (mu : Mut (some u)) (r : RO K (L2.upd H a u') (Or1 (Fo fp) G) v o' (fp j)) :
    RS K σ (L2.upd H a u') (ρ.set j (some o')) fp G ∧ Ext H (Fo fp) (L2.upd H a u') (Fo fp) := by
  have hj : j < ρ.length := (List.getElem?_eq_some_iff.mp e).1
  have ha : Fo fp a := ⟨j, hf⟩
  have x : Ext H (Fo fp) (L2.upd H a u') (Fo fp) := upd_ext hu mu ha fun _ z => z
  refine ⟨⟨fun i w h => ?_, fun i h => ?_, R.dj, R.nd, R.gf, fun b m => ?_, by rw [List.length_set]; exact R.len⟩, x⟩
  · rw [AEnv.get_set] at h
    by_cases q : j = i
    · subst q
      rw [if_pos rfl, if_pos hj] at h
      cases h
      exact ⟨v, hv, r⟩
    · rw [if_neg q] at h
      obtain ⟨y, hy, r'⟩ := R.ex i w h
      refine ⟨y, hy, r'.imp (fun v t z => (z.ext (x.addG G))) fun b m w h => ?_⟩
      rw [upd_ne]
      · exact h
      · rintro rfl
        exact q (R.dj j i b hf m)
  · by_cases q : i = j
    · subst q
      exact absurd (by rw [AEnv.get_set, if_pos rfl, if_pos hj]) (h o')
    · refine R.non i fun o'' z => h o'' ?_
      rw [AEnv.get_set, if_neg fun y => q y.symm]
      exact z
  · obtain ⟨w, h⟩ := R.gi b m
    by_cases q : b = a
    · exact ⟨u', by rw [q]; exact upd_same⟩
    · exact ⟨w, by rw [upd_ne q]; exact h⟩
theorem RDL.look {k : Key} {ts : List T} : ∀ {kvs : List (Key × V)} {kts : List (Key × List T)} {bs : List Addr}, RDL K H F kvs kts bs → klk kts k = some ts → ∃ b vs, valV kvs k = some (.ref b) ∧ b ∈ bs ∧ H b = some (.lst vs) ∧ RPs K H F vs ts
  | _, _, _, .nil, e => by cases e
  | _, _, _, .cons (k := k0) (b := b) (vs := vs) (ts := ts0) (kvs := kvs) h q r, e => by
    unfold klk at e
    rw [List.find?_cons] at e
    by_cases c : k0 = k
    · rw [show decide (k0 = k) = true from decide_eq_true c, Option.map_some] at e
      cases e
      exact ⟨b, vs, valV_pos (p := (k0, V.ref b)) c, List.mem_cons_self, h, q⟩
    · rw [show decide (k0 = k) = false from decide_eq_false c] at e
      obtain ⟨b', vs', h1, h2, h3⟩ := RDL.look r e
      exact ⟨b', vs', by rw [valV_neg (p := (k0, V.ref b)) c]; exact h1, List.mem_cons_of_mem _ h2, h3⟩
theorem RDL.put {k : Key} {b : Addr} {vs' : List V} {ts' : List T} (w : ∀ vs ts, RPs K H F vs ts → RPs K (upd H b (.lst vs')) F vs ts) (g : RPs K (upd H b (.lst vs')) F vs' ts') :
    ∀ {kvs : List (Key × V)} {kts : List (Key × List T)} {bs : List Addr}, RDL K H F kvs kts bs → valV kvs k = some (.ref b) → bs.Nodup → RDL K (upd H b (.lst vs')) F kvs (kupd kts k ts') bs
  | _, _, _, .nil, e, _ => by cases e
  | _, _, _, .cons (k := k0) (b := b0) (vs := vs) (ts := ts0) (kvs := kvs) (kts := kts) (bs := bs) h q r, e, nd => by
    obtain ⟨n1, n2⟩ := List.nodup_cons.mp nd
    rw [kupd]
    by_cases c : k0 = k
    · rw [valV_pos (p := (k0, V.ref b0)) c] at e
      injection e with e; injection e with e; subst e
      rw [if_pos c]
      exact .cons upd_same g (r.imp w fun a m us z => by
        have ne : a ≠ b0 := fun y => n1 (by rw [← y]; exact m)
        rw [upd_ne ne]; exact z)
    · rw [valV_neg (p := (k0, V.ref b0)) c] at e
      rw [if_neg c]
      refine .cons ?_ (w _ _ q) (RDL.put w g r e n2)
      rw [upd_ne]
      · exact h
      · rintro rfl
        exact n1 (RDL.val_mem r e)
where RDL.val_mem {k : Key} {b : Addr} : ∀ {kvs : List (Key × V)} {kts : List (Key × List T)} {bs : List Addr}, RDL K H F kvs kts bs → valV kvs k = some (.ref b) → b ∈ bs
  | _, _, _, .nil, e => by cases e
  | _, _, _, .cons (k := k0) (b := b0) (kvs := kvs) h q r, e => by
    by_cases c : k0 = k
    · rw [valV_pos (p := (k0, V.ref b0)) c] at e
      injection e with e; injection e with e; subst e
      exact List.mem_cons_self
    · rw [valV_neg (p := (k0, V.ref b0)) c] at e
      exact List.mem_cons_of_mem _ (RDL.val_mem r e)
theorem kvK_of {k : Key} (h : RP K H F v (keyT k)) : v = kV k := by cases k with
  | inl i => exact h.intE
  | inr x => exact h.strE
end
/-- found[key].append(y), all names -/
def tAppIx (j i m : Nat) : XT := fun ρ Q => ∃ kts k y ts, ρ[j]? = some (some (.dcl kts)) ∧ ρ[i]? = some (some (.pure (keyT k))) ∧ ρ[m]? = some (some (.pure y)) ∧ klk kts k = some ts ∧ ts.length < 16777216 ∧
  Q (.val (.pure .none)) (ρ.set j (some (.dcl (kupd kts k (ts ++ [y])))))
section
variable {X : Cx} {x y z : Str} {px py pz spos apos cpos : Pos}
theorem ex_appIx (j i m : Nat) (hu : X.A.units + 1 < cLine) (hN : X.N[j]? = some x) (hNi : X.N[i]? = some y) (hNm : X.N[m]? = some z)
    (hv : Vis X.env.scope x := by first | exact Or.inl rfl | exact Or.inr (Or.inl rfl) | exact Or.inr (Or.inr rfl)) (hd : (x == ("__debug__" : Str)) = false := by decide) (hcd : (x == ("__classdict__" : Str)) = false := by decide)
    (hvi : Vis X.env.scope y := by first | exact Or.inl rfl | exact Or.inr (Or.inl rfl) | exact Or.inr (Or.inr rfl)) (hdi : (y == ("__debug__" : Str)) = false := by decide) (hcdi : (y == ("__classdict__" : Str)) = false := by decide)
    (hvm : Vis X.env.scope z := by first | exact Or.inl rfl | exact Or.inr (Or.inl rfl) | exact Or.inr (Or.inr rfl)) (hdm : (z == ("__debug__" : Str)) = false := by decide) (hcdm : (z == ("__classdict__" : Str)) = false := by decide)
    (hbase : attributeBase (.Subscript (.Name x px) (.Name y py) spos) "append" X.env (eval (.Subscript (.Name x px) (.Name y py) spos) X.env) = eval (.Subscript (.Name x px) (.Name y py) spos) X.env := by rfl)
    (hfew : ((backTo cpos (starEach [.Name z pz] X.env)).all (fun x => !x.1) && (backToKw cpos (keywordEach [] X.env)).all (fun x => x.1.isSome)
      && decide (([.Name z pz] : List Expr).length + ([] : List Keyword).length + (if ([] : List Keyword).isEmpty then 0 else 1) < 30)) = true := by rfl)
    (hline : (apos.endLine == cpos.line) = true := by rfl) (hs : starEach [.Name z pz] X.env = (false, eval (.Name z pz) X.env) :: starEach [] X.env := by rfl) (hplain : (backTo cpos (starEach [] X.env)).any (·.1) = false := by rfl)
    (hsl : NoSl (.Name y py) := by intro _ _; rfl) :
    EX X (.Call (.Attribute (.Subscript (.Name x px) (.Name y py) spos) "append" apos) [.Name z pz] [] cpos) (tAppIx j i m) := by
  refine ⟨PE.imp (pe_bm PySem.F.plainAttrs_list PySem.F.slot_list_append PySem.F.type_list_append mt_append (pe_dget hu (pe_var hN hv hd hcd) (pe_var hNi hvi hdi hcdi) hsl) (pa_cons (pe_var hNm hvm hdm hcdm) pa_nil hs) hbase hfew hline hs hplain) ?_⟩
  rintro σ H Q ⟨ρ, fp, G, Qa, R, ⟨kts, k, yt, ts, e1, e2, e3, hk, hz, h⟩, fin⟩
  obtain ⟨vj, hvj, d, kvs, bs, rfl, hf, hd0, rdl⟩ := R.ex j _ e1
  obtain ⟨vi, hvi', _, ri⟩ := R.ex i _ e2
  obtain ⟨vm, hvm', _, rm⟩ := R.ex m _ e3
  have := kvK_of ri; subst this
  obtain ⟨b, vs, hb1, hb2, hb3, hb4⟩ := rdl.look hk
  have nd := R.nd j
  rw [hf] at nd
  obtain ⟨nd1, nd2⟩ := List.nodup_cons.mp nd
  have hbf : b ∈ fp j := by rw [hf]; exact List.mem_cons_of_mem _ hb2
  have ux : Ext H (Fo fp) (upd H b (.lst (vs ++ [vm]))) (Fo fp) := upd_ext hb3 trivial ⟨j, hbf⟩ fun _ z => z
  obtain ⟨R3, x3⟩ := R.mutG (u' := .lst (vs ++ [vm])) (o' := .dcl (kupd kts k (ts ++ [yt]))) e1 hvj hbf hb3 trivial
    ⟨d, kvs, bs, rfl, hf, by
        have ne : d ≠ b := fun y => nd1 (by rw [y]; exact hb2)
        rw [upd_ne ne]; exact hd0, RDL.put (fun _ _ z => RPs.ext (ux.addG G) z) (RPs.ext (ux.addG G) (Paired.app hb4 (.cons rm .nil))) rdl hb1 nd2⟩
  refine ⟨.ref d, hvj, kV k, hvi', d, .ref b, rfl, DGet.k hd0 |> (fun g => by rw [hb1] at g; exact g), .inl ⟨rfl, _, SqL.of hb3⟩, vm, hvm', ?_⟩
  refine ⟨b, vs, vm, rfl, rfl, hb3, by rw [Paired.len hb4, sizeLine_eq]; exact hz, ?_⟩
  exact fin .non (.val (.pure .none)) [] _ _ fp R3 (rop_pure RP.non) (x3.weak (fun _ z => z) fun a z => z.elim (fun q => q) fun m => (List.not_mem_nil m).elim) h
end

/-! ### a dict is locked while it is walked -/
section
variable {K : PySem.W.Frag} {σ : St} {H H' : Hp} {F F' : Addr → Prop} {fp : Nat → List Addr} {ρ : AEnv} {v : V} {t : T} {o : O} {A G : List Addr} {d : Addr} {u : HO} {od : Obj}
/-- what stands can be read there too -/
def RdK (H H' : Hp) : Prop := (∀ a xs, Rd H a (.tup xs) → Rd H' a (.tup xs)) ∧ (∀ a xs, Rd H a (.lst xs) → Rd H' a (.lst xs)) ∧ ∀ a xs, Rd H a (.dK xs) → Rd H' a (.dK xs)
mutual
theorem RV.rdk (w : RdK H H') : ∀ {v : V} {t : T} {as : List Addr}, RV K H v t as → RV K H' v t as
  | _, _, _, .non => .non
  | _, _, _, .bl b => .bl b
  | _, _, _, .int i => .int i
  | _, _, _, .str z => .str z
  | _, _, _, .tup h r => .tup (h.imp (w.1 _ _) fun h => h) (RVs.rdk w r)
  | _, _, _, .lst h r => .lst (w.2.1 _ _ h) (RVs.rdk w r)
  | _, _, _, .lstK h1 h2 h3 h4 h5 h6 r => .lstK h1 h2 h3 h4 h5 h6 (RVs.rdk w r)
  | _, _, _, .dct h r => .dct (w.2.2 _ _ h) (RVs.rdk w r)
theorem RVs.rdk (w : RdK H H') : ∀ {vs : List V} {ts : List T} {as : List Addr}, RVs K H vs ts as → RVs K H' vs ts as
  | _, _, _, .nil => .nil
  | _, _, _, .cons h r => .cons (RV.rdk w h) (RVs.rdk w r)
end
theorem RP.rdk (w : RdK H H') (h : RP K H F v t) : RP K H' F v t := let ⟨as, r, n⟩ := h; ⟨as, r.rdk w, n⟩
theorem RS.rdk (w : RdK H H') (ho : ∀ a, Fo fp a → ∀ u, H a = some u → H' a = some u) (hg : ∀ a u, H a = some u → ∃ u', H' a = some u') (R : RS K σ H ρ fp G) : RS K σ H' ρ fp G :=
  ⟨fun i o e => let ⟨v, h, r⟩ := R.ex i o e; ⟨v, h, r.imp (fun _ _ q => q.rdk w) fun a m u e => ho a ⟨i, m⟩ u e⟩, R.non, R.dj, R.nd, R.gf, fun a m => let ⟨u, e⟩ := R.gi a m; hg a u e, R.len⟩
theorem rdk_lock (hd : H d = some u) (mu : Mut (some u)) : RdK H (upd H d (.frz od u)) := by
  have key : ∀ a x, (∀ o y, x ≠ .frz o y) → Rd H a x → Rd (upd H d (.frz od u)) a x := fun a x nx h => by
    by_cases q : a = d
    · subst q
      rcases h with h | ⟨o, h⟩
      · rw [hd] at h; cases h; exact .inr ⟨od, upd_same⟩
      · rw [hd] at h; cases h; exact mu.elim
    · rcases h with h | ⟨o, h⟩
      · exact .inl (by rw [upd_ne q]; exact h)
      · exact .inr ⟨o, by rw [upd_ne q]; exact h⟩
  exact ⟨fun a xs => key a _ (fun _ _ e => nomatch e), fun a xs => key a _ (fun _ _ e => nomatch e), fun a xs => key a _ (fun _ _ e => nomatch e)⟩
theorem rdk_unlock (hd : H d = some (.frz od u)) : RdK H (upd H d u) := by
  have key : ∀ a x, (∀ o y, x ≠ .frz o y) → Rd H a x → Rd (upd H d u) a x := fun a x nx h => by
    by_cases q : a = d
    · subst q
      rcases h with h | ⟨o, h⟩
      · rw [hd] at h; injection h with h; exact absurd h.symm (nx _ _)
      · rw [hd] at h; injection h with h; injection h with h1 h2; subst h2; exact .inl upd_same
    · rcases h with h | ⟨o, h⟩
      · exact .inl (by rw [upd_ne q]; exact h)
      · exact .inr ⟨o, by rw [upd_ne q]; exact h⟩
  exact ⟨fun a xs => key a _ (fun _ _ e => nomatch e), fun a xs => key a _ (fun _ _ e => nomatch e), fun a xs => key a _ (fun _ _ e => nomatch e)⟩
theorem upd_there {a : Addr} {w w' : HO} (h : H a = some w) : ∃ w'', upd H d w' a = some w'' := by
  by_cases q : a = d
  · exact ⟨w', by rw [q]; exact upd_same⟩
  · exact ⟨w, by rw [upd_ne q]; exact h⟩
theorem upd_keep {a : Addr} {w w' : HO} (n : a ≠ d) (h : H a = some w) : upd H d w' a = some w := by rw [upd_ne n]; exact h
/-- the entries of an owned dict -/
def dctO : O → Option (List (Key × T))
  | .dct l => some l
  | .dcl l => some (l.map fun p => (p.1, .list p.2))
  | _ => none
def dctT (l : List (Key × T)) : T := .dict (l.map fun p => (keyT p.1, p.2))
def itemT (p : Key × T) : T := .tuple [keyT p.1, p.2]
theorem dctO_frz {l : List (Key × T)} (e : dctO o = some l) : o.frz = dctT l := by
  cases o with
  | dct k => cases e; rfl
  | dcl k => cases e; unfold dctT O.frz; rw [List.map_map]; rfl
  | _ => cases e
theorem dctO_own {F : Addr → Prop} {l : List (Key × T)} (e : dctO o = some l) (r : RO K H F v o A) : ∃ d kvs, v = .ref d ∧ d ∈ A ∧ H d = some (.dK kvs) := by
  cases o with
  | dct k => obtain ⟨a, kvs, rfl, rfl, h, _⟩ := r; exact ⟨a, kvs, rfl, List.mem_singleton.mpr rfl, h⟩
  | dcl k => obtain ⟨a, kvs, bs, rfl, rfl, h, _⟩ := r; exact ⟨a, kvs, rfl, List.mem_cons_self, h⟩
  | _ => cases e
theorem RP.dctKV {l : List (Key × T)} (h : RP K H F v (dctT l)) : ∃ a kvs, v = .ref a ∧ Rd H a (.dK kvs) ∧ PKV K H F kvs l := by
  obtain ⟨a, kvs, ts, rfl, h1, h2, _, e2⟩ := RP.dctE h
  refine ⟨a, kvs, rfl, h1, pkv_zip h2 ?_⟩
  rw [← e2]
  exact keysT_map l
theorem jok_items {kvs : List (Key × V)} {l : List (Key × T)} (hd : H d = some (.frz od (.dK kvs))) (r : PKV K H (Or1 F G) kvs l) : JOk K (Iti d od kvs) (l.map itemT) H F G := by
  intro H' F' x
  have h' := x.frzs d od _ hd
  have r' : PKV K H' (Or1 F' G) kvs l := Paired.mapP r fun _ _ z => ⟨z.1, z.2.ext (x.addG G)⟩
  refine ⟨fun i t e => ?_, ⟨h', by rw [List.length_map, Paired.len r']; exact Nat.le_refl _⟩⟩
  rw [List.getElem?_map] at e
  obtain ⟨p, e1, rfl⟩ := Option.map_eq_some_iff.mp e
  obtain ⟨q, e2, r2⟩ := Paired.at r' e1
  refine ⟨⟨h', (List.getElem?_eq_some_iff.mp e2).1⟩, fun y H'' z => ?_⟩
  obtain ⟨T0, k, w, e3, rfl, hn, rfl⟩ := z
  rw [e2] at e3; cases e3
  obtain ⟨rk, rv⟩ := r2
  dsimp only at rk rv
  subst rk
  refine ⟨Pres.upd hn, RP.newTup hn (.cons ?_ (.cons rv .nil))⟩
  cases p.1 with
  | inl i => exact RP.int i
  | inr x => exact RP.str x
end
/-- the iterator that is known already -/
def ti0 (ρ0 : AEnv) (ts : List T) : IT := fun ρ Q => ρ = ρ0 ∧ Q ts ρ
/-- slot j, an owned dict, is a tree from here on; its entries -/
def dctAt (j : Nat) (Q : List (Key × T) → AEnv → Prop) (ρ : AEnv) : Prop := ∃ o l, ρ[j]? = some (some o) ∧ dctO o = some l ∧ Q l (ρ.set j (some (.pure (dctT l))))
def tCompI (j : Nat) (g : GT) (tt : BT) (te : XT) (vs : List Nat) : XT := fun ρ Q => dctAt j (fun l ρ1 => l.length ≤ 16777216 ∧ compW g tt te vs (l.map itemT) [] (wipeA ρ1 vs) fun acc ρ2 => Q (.val (.lst acc)) ρ2) ρ
/-- the lock's frame: what is shown under the lock holds without -/
theorem lock_frame {K : PySem.W.Frag} {σ : St} {H : Hp} {ρ : AEnv} {fp : Nat → List Addr} {G : List Addr} {Q : VK} {j : Nat} {o : O} {l : List (Key × T)} {t : XT} {Qa : Opd → AEnv → Prop}
    (R : RS K σ H ρ fp G) (e : ρ[j]? = some (some o)) (el : dctO o = some l) (h : t (ρ.set j (some (.pure (dctT l)))) Qa)
    (fin : ∀ v p A H' ρ' fp', RS K σ H' ρ' fp' (A ++ G) → ROp K σ H' fp' ρ' G v p A → Ext H (Fo fp) H' (Or1 (Fo fp') A) → Qa p ρ' → Q v H') :
    ∃ d u kvs, u = HO.dK kvs ∧ H d = some u ∧ Mut (some u) ∧ σ[j]? = some (some (.ref d)) ∧ ∀ od, LX K t σ (upd H d (.frz od u)) (fun v H' => H' d = some (.frz od u) ∧ Q v (upd H' d u)) := by
  obtain ⟨v, hv, r⟩ := R.ex j o e
  obtain ⟨d, kvs, rfl, hd, hk⟩ := dctO_own el r
  obtain ⟨R1, q1⟩ := R.freeze e
  rw [dctO_frz el] at R1
  have nd : ¬ Fo (fpSet fp j []) d := fun ⟨i, m⟩ => by
    by_cases q : i = j
    · subst q; rw [fpSet_at] at m; cases m
    · rw [fpSet_ne q] at m; exact q (R.dj i j d m hd)
  have nG : d ∉ G := fun m => R.gf d m ⟨j, hd⟩
  refine ⟨d, .dK kvs, kvs, rfl, hk, trivial, hv, fun od => ?_⟩
  have R2 : RS K σ (upd H d (.frz od (.dK kvs))) (ρ.set j (some (.pure (dctT l)))) (fpSet fp j []) G :=
    R1.rdk (rdk_lock hk trivial) (fun a z u h => upd_keep (fun q => nd (q ▸ z)) h) fun a u h => upd_there h
  refine ⟨_, _, G, Qa, R2, h, fun v p A H' ρ' fp' R3 r3 x3 h3 => ?_⟩
  have hd3 : H' d = some (.frz od (.dK kvs)) := x3.frzs d od _ upd_same
  have nd3 : ¬ Or1 (Fo fp') A d := fun z => (x3.new d z).elim nd fun q => by rw [upd_same] at q; cases q
  refine ⟨hd3, fin v p A _ ρ' fp' (R3.rdk (rdk_unlock hd3) (fun a z u h => upd_keep (fun q => nd3 (.inl (q ▸ z))) h) fun a u h => upd_there h) ?_ ?_ h3⟩
  · cases p with
    | slot i => exact r3
    | val o => exact ⟨r3.1.imp (fun _ _ q => q.rdk (rdk_unlock hd3)) fun a m u h => upd_keep (fun q => nd3 (.inr (q ▸ m))) h, r3.2⟩
  · refine ⟨fun a w h n => ?_, fun a xs h => ?_, fun a w w' h => ?_, fun a z => ?_, fun a h => ?_⟩
    · have ne : a ≠ d := fun q => n (q ▸ ⟨j, hd⟩)
      rw [upd_ne ne]
      refine x3.keep a w (by rw [upd_ne ne]; exact h) fun z => n ?_
      exact z.set.elim (fun q => q) fun m => (List.not_mem_nil m).elim
    · have ne : a ≠ d := fun q => by rw [q, hk] at h; cases h
      rw [upd_ne ne]
      exact x3.tups a xs (by rw [upd_ne ne]; exact h)
    · have ne : a ≠ d := fun q => by rw [q, hk] at h; cases h
      rw [upd_ne ne]
      exact x3.frzs a w w' (by rw [upd_ne ne]; exact h)
    · rcases x3.new a z with q | q
      · exact .inl (q.set.elim (fun q => q) fun m => (List.not_mem_nil m).elim)
      · by_cases c : a = d
        · rw [c, upd_same] at q; cases q
        · rw [upd_ne c] at q; exact .inr q
    · by_cases c : a = d
      · rw [c, upd_same] at h; cases h
      · rw [upd_ne c] at h
        have := x3.dom a h
        rw [upd_ne c] at this; exact this
section
variable {X : Cx} {elt : Expr} {elts : List Expr} {kk : Nat} {tpos px apos cpos : Pos} {x : Str} {ifs : List Expr} {scope : Scope} {own : List (Str × Nat)} {pos : Pos} {g : GT} {tt : BT} {te : XT}
/-- the walk over the items, at hand once the dict is locked -/
theorem items_go {K : PySem.W.Frag} {σ : St} {H : Hp} {R : It → Hp → Prop} {j : Nat} {d : Addr} {od : Obj} {kvs : List (Key × V)} {ρ0 : AEnv} {l : List (Key × T)} (hv : σ[j]? = some (some (.ref d))) (hd : H d = some (.frz od (.dK kvs)))
    (e : ρ0[j]? = some (some (.pure (dctT l)))) (hl : l.length ≤ 16777216) (h : LI K (ti0 ρ0 (l.map itemT)) σ H R) : iItems (tVar j) σ H R := by
  obtain ⟨ρ, fp, G, Qa, R0, ⟨rfl, h⟩, fin⟩ := h
  refine ⟨.ref d, hv, d, od, kvs, rfl, hd, ?_⟩
  obtain ⟨v, hv', _, rp⟩ := R0.ex j _ e
  rw [hv] at hv'; cases hv'
  obtain ⟨a, kvs', ea, rd, pk⟩ := rp.dctKV
  cases ea
  have : kvs' = kvs := by
    rcases rd with rd | ⟨o, rd⟩
    · rw [hd] at rd; cases rd
    · rw [hd] at rd; cases rd; rfl
  subst this
  exact fin _ _ H ρ fp R0 (jok_items hd pk) (by rw [List.length_map, sizeLine_eq]; exact hl) Ext.refl h
theorem ex_lcItems (j : Nat) (hc : X.calm = true) (hN : X.N.Nodup) (hj : X.N[j]? = some x) (ok : BlkOk X.N X.env.scope scope own)
    (hg : ∀ (s : Shared) (H : Hp) (C : Addr) (cl : List (Str × Addr)) (fp : List Addr), GX (X.blk s H scope (compEnvC scope cl C X.env) fp) (fun j => !(own.map (·.2)).contains j) (.Tuple elts kk tpos) g)
    (ht : ∀ (s : Shared) (H : Hp) (C : Addr) (cl : List (Str × Addr)) (fp : List Addr), BXs (X.blk s H scope (compEnvC scope cl C X.env) fp) ifs tt)
    (he : ∀ (s : Shared) (H : Hp) (C : Addr) (cl : List (Str × Addr)) (fp : List Addr), EX (X.blk s H scope (compEnvC scope cl C X.env) fp) elt te)
    (hv : Vis X.env.scope x := by first | exact Or.inl rfl | exact Or.inr (Or.inl rfl) | exact Or.inr (Or.inr rfl)) (hd : (x == ("__debug__" : Str)) = false := by decide) (hcd : (x == ("__classdict__" : Str)) = false := by decide)
    (hbase : attributeBase (.Name x px) "items" X.env (eval (.Name x px) X.env) = eval (.Name x px) X.env := by rfl) (hline : (apos.endLine == cpos.line) = true := by rfl)
    (hs : ∀ y, foldedSetIterable (.Call (.Attribute (.Name x px) "items" apos) [] [] cpos) X.env y = pure y := by intro _; rfl) :
    EX X (.ListComp elt [⟨.Tuple elts kk tpos, .Call (.Attribute (.Name x px) "items" apos) [] [] cpos, ifs, 0⟩] scope pos) (tCompI j g tt te (own.map (·.2))) := by
  refine ⟨PE.imp (pe_lock (pe_lc (te := LX X.K te) (tt := LT X.K tt) (g := LG X.K _ g) hc hN (pi_items (pe_var hj hv hd hcd) hbase hline) ok (fun s H C cl fp => (hg s H C cl fp).pg) (fun s H C cl fp => (ht s H C cl fp).pts) (fun s H C cl fp => (he s H C cl fp).pe) hs)) ?_⟩
  rintro σ H Q ⟨ρ, fp, G, Qa, R, ⟨o, l, e1, e2, hl, h⟩, fin⟩
  obtain ⟨d, u, kvs, eu, h1, h2, h3, h4⟩ := lock_frame (t := tComp (ti0 (ρ.set j (some (.pure (dctT l)))) (l.map itemT)) g tt te (own.map (·.2))) R e1 e2 ⟨rfl, h⟩ fin
  subst eu
  refine ⟨d, _, h1, h2, fun od => ?_⟩
  have := lc_go (h4 od)
  exact items_go h3 upd_same (List.getElem?_set_self (List.getElem?_eq_some_iff.mp e1).1) hl this
end
end DL

set_option Elab.async false
set_option linter.all false
set_option maxRecDepth 100000
set_option maxHeartbeats 4000000
/-! THE DATA LAYER, part 22: dict comprehensions. -/
namespace DL
open PySem PySem.Spec L2
open PyProof.Rows hiding St

def compDV (g : GT) (tt : BT) (tk tv : XT) (vs : List Nat) : List T → List (Key × T) → AEnv → (List (Key × T) → AEnv → Prop) → Prop
  | [], acc, ρ, Q => Q acc ρ
  | t :: ts, acc, ρ, Q => g t ρ fun ρ1 => tt ρ1 fun b ρ2 => if b = true then tk ρ2 fun p ρ3 => ∃ k, p.get ρ3 = some (.pure (keyT k)) ∧ tv ρ3 fun q ρ4 => take1 q ρ4 fun y ρ5 => compDV g tt tk tv vs ts (kput acc k y) (wipeA ρ5 vs) Q
      else compDV g tt tk tv vs ts acc (wipeA ρ2 vs) Q
def tCompD (ti : IT) (g : GT) (tt : BT) (tk tv : XT) (vs : List Nat) : XT := fun ρ Q => ti ρ fun ts ρ1 => compDV g tt tk tv vs ts [] (wipeA ρ1 vs) fun acc ρ2 => Q (.val (.dct acc)) ρ2
theorem PKV.ext {K : PySem.W.Frag} {H H' : Hp} {F F' : Addr → Prop} {kvs : List (Key × V)} {l : List (Key × T)} (x : Ext H F H' F') (r : PKV K H F kvs l) : PKV K H' F' kvs l := Paired.mapP r fun _ _ z => ⟨z.1, z.2.ext x⟩
theorem PKV.weak {K : PySem.W.Frag} {H : Hp} {F F' : Addr → Prop} {kvs : List (Key × V)} {l : List (Key × T)} (r : PKV K H F kvs l) (w : ∀ a, F' a → F a) : PKV K H F' kvs l := Paired.mapP r fun _ _ z => ⟨z.1, z.2.weak w⟩
theorem kput_len (l : List (Key × T)) (k : Key) (t : T) : (kput l k t).length ≤ l.length + 1 := by
  unfold kput
  split
  · rw [List.length_map]; omega
  · rw [List.length_append]; simp
theorem dcv_go {K : PySem.W.Frag} {ti : IT} {g : GT} {tt : BT} {tk tv : XT} {vs : List Nat} {σ : St} {H : Hp} {Q : VK} (h : LX K (tCompD ti g tt tk tv vs) σ H Q) : tDc (LI K ti) (LG K (fun j => !vs.contains j) g) (LT K tt) (LX K tk) (LX K tv) vs σ H Q := by
  obtain ⟨ρ, fp, G, Qa, R, h, fin⟩ := h
  refine ⟨ρ, fp, G, _, R, h, fun ts J H1 ρ1 fp1 R1 j1 hsz x1 h1 => ?_⟩
  intro D hD
  have nD : D ∉ G := fun m => by obtain ⟨u, e⟩ := R1.gi D m; rw [hD] at e; cases e
  obtain ⟨fp0, R0, i0⟩ := R1.wipe vs
  have R0' : RS K (wipe σ vs) (upd H1 D (.dK [])) (wipeA ρ1 vs) fp0 ([D] ++ G) := R0.new (Pres.upd hD) (fun a m => by rw [List.mem_singleton.mp m]; exact hD) fun a m => ⟨.dK [], by rw [List.mem_singleton.mp m]; exact upd_same⟩
  have x0 : Ext H1 (Fo fp1) (upd H1 D (.dK [])) (Or1 (Fo fp0) [D]) := ((Pres.upd hD).extA (F := Fo fp1) (A := [D]) fun a m => by rw [List.mem_singleton.mp m]; exact hD).weak (fun _ z => z) fun a z => z.imp (i0 a) fun m => m
  refine ⟨fun i m H' => ∃ ρ' fp' va acc, m = ts.length - i ∧ i ≤ ts.length ∧ RS K (wipe σ vs) H' ρ' fp' ([D] ++ G) ∧ H' D = some (.dK va) ∧ PKV K H' (Or1 (Fo fp') ([D] ++ G)) va acc ∧ acc.length ≤ i ∧ Ext H1 (Fo fp1) H' (Or1 (Fo fp') [D]) ∧
    compDV g tt tk tv vs (ts.drop i) acc ρ' (fun acc ρ2 => Qa (.val (.dct acc)) ρ2), ⟨_, _, fp0, [], [], rfl, Nat.zero_le _, R0', upd_same, .nil, Nat.le_refl _, x0, h1⟩, ?_⟩
  rintro i m H2 ⟨ρ2, fp2, va, acc, rfl, hi, R2, hD2, ra, la, x2, h2⟩
  obtain ⟨j2, stop⟩ := j1 H2 _ x2
  cases hd : ts.drop i with
  | nil =>
    have e : i = ts.length := by
      have := congrArg List.length hd
      simp at this; omega
    subst e
    rw [hd] at h2
    refine .inl ⟨stop, fin (.ref D) (.val (.dct acc)) [D] H2 ρ2 fp2 R2.unwipe ⟨⟨D, va, rfl, rfl, hD2, ra⟩, by simp, fun a m => by rw [List.mem_singleton.mp m]; exact nD⟩ (x1.trans x2) h2⟩
  | cons t r =>
    obtain ⟨e1, e2, e3⟩ := drop_at hd
    rw [hd] at h2
    obtain ⟨go, yl⟩ := j2 i t e1
    -- what a turn reaches
    refine .inr ⟨go, fun H3 => ∃ ρ3 fp3 va acc, RS K (wipe σ vs) H3 ρ3 fp3 ([D] ++ G) ∧ H3 D = some (.dK va) ∧ PKV K H3 (Or1 (Fo fp3) ([D] ++ G)) va acc ∧ acc.length ≤ i + 1 ∧ Ext H1 (Fo fp1) H3 (Or1 (Fo fp3) [D]) ∧ compDV g tt tk tv vs r acc ρ3 (fun acc ρ2 => Qa (.val (.dct acc)) ρ2),
      fun H3 ⟨ρ3, fp3, va, acc, R3, d3, r3, l3, x3, h3⟩ => ⟨_, by omega, ρ3, fp3, va, acc, rfl, e3, R3, d3, r3, l3, x3, by rw [e2]; exact h3⟩, fun x H3 y => ?_⟩
    obtain ⟨pr, rp⟩ := yl x H3 y
    have R3 := R2.pres pr
    have d3 := pr D _ hD2
    have ra3 := PKV.ext (F := Or1 (Fo fp2) ([D] ++ G)) pr.ext ra
    have x3 : Ext H1 (Fo fp1) H3 (Or1 (Fo fp2) [D]) := x2.trans (pr.ext)
    refine ⟨ρ2, fp2, [D] ++ G, _, t, R3, rp.weak fun a z => Or1.app.mp z, h2, fun σ4 ρ4 fp4 R4 i4 p4 l4 h4 => ?_⟩
    have w4 : wipe σ4 vs = wipe σ vs := by
      have := wipe_eq (σ := wipe σ vs) (σ' := σ4) vs (fun j m => p4 j (by simp [m])) l4
      rw [this, wipe_wipe]
    have x4 : Ext H1 (Fo fp1) H3 (Or1 (Fo fp4) [D]) := x3.weak (fun _ z => z) fun a z => z.imp (i4 a) fun m => m
    refine ⟨w4, ρ4, fp4, [D] ++ G, _, R4, h4, fun b H5 ρ5 fp5 R5 x5 h5 => ?_⟩
    have kD : ∀ {H H' : Hp} {f f' : Nat → List Addr} {ρ : AEnv} {σ : St} {A : List Addr}, RS K σ H ρ f ([D] ++ G) → Ext H (Fo f) H' (Or1 (Fo f') A) → ∀ u, H D = some u → H' D = some u := fun R x u e => x.keep D u e (R.gf D (List.mem_append_left _ (List.mem_singleton.mpr rfl)))
    have d5 := kD (A := []) R4 (x5.weak (fun _ z => z) fun a z => z.elim (fun q => q) fun m => (List.not_mem_nil m).elim) _ d3
    have ra5 : PKV K H5 (Or1 (Fo fp5) ([D] ++ G)) va acc := PKV.ext (x5.addG ([D] ++ G)) (PKV.weak ra3 fun a z => z.imp (i4 a) fun m => m)
    have x15 : Ext H1 (Fo fp1) H5 (Or1 (Fo fp5) [D]) := x4.trans (x5.addG [D])
    cases b with
    | false =>
      obtain ⟨fp6, R6, i6⟩ := R5.wipe vs
      rw [w4] at R6
      exact iteF ⟨_, fp6, va, acc, R6, d5, PKV.weak ra5 fun a z => z.imp (i6 a) fun m => m, Nat.le_succ_of_le la, x15.weak (fun _ z => z) fun a z => z.imp (i6 a) fun m => m, by simpa using h5⟩
    | true =>
      -- the key
      refine iteT ⟨ρ5, fp5, [D] ++ G, _, R5, (by simpa using h5), fun vk pk Ak Hk ρk fpk Rk rk xk hk => ?_⟩
      obtain ⟨k, ek, hk⟩ := hk
      have hv := kvK_of (k := k) (rk.rw0 Rk ek)
      subst hv
      have dk := kD R5 xk _ d5
      have xk' : Ext H5 (Fo fp5) Hk (Fo fpk) := xk.or
      have rak : PKV K Hk (Or1 (Fo fpk) ([D] ++ G)) va acc := PKV.ext (xk'.addG ([D] ++ G)) ra5
      have x1k : Ext H1 (Fo fp1) Hk (Or1 (Fo fpk) [D]) := x15.trans (xk'.addG [D])
      have Rk' : RS K σ4 Hk ρk fpk ([D] ++ G) := Rk.sub fun a m => List.mem_append_right _ m
      -- the value
      refine ⟨ρk, fpk, [D] ++ G, _, Rk', hk, fun v p A H6 ρ6 fp6 R6 r6 x6 h6 => ?_⟩
      obtain ⟨yt, ρ7, fp7, R7, r7, i7, h7⟩ := take1_ok R6 r6 h6
      have d6 := kD Rk' x6 _ dk
      have x6' : Ext Hk (Fo fpk) H6 (Fo fp7) := x6.or.weak (fun _ z => z) i7
      have ra6 : PKV K H6 (Or1 (Fo fp7) ([D] ++ G)) va acc := PKV.ext (x6'.addG ([D] ++ G)) rak
      have x16 : Ext H1 (Fo fp1) H6 (Or1 (Fo fp7) [D]) := x1k.trans (x6'.addG [D])
      refine ⟨va, k, rfl, d6, by rw [Paired.len ra6]; omega, ?_⟩
      have R8 : RS K σ4 (upd H6 D (.dK (putK va k v))) ρ7 fp7 ([D] ++ G) := RS.write R7 rfl ⟨_, d6, trivial⟩ nD
      have ux : Ext H6 (Or1 (Fo fp7) ([D] ++ G)) (upd H6 D (.dK (putK va k v))) (Or1 (Fo fp7) ([D] ++ G)) := upd_ext d6 trivial (.inr (List.mem_append_left _ (List.mem_singleton.mpr rfl))) fun _ z => z
      obtain ⟨fp9, R9, i9⟩ := R8.wipe vs
      rw [w4] at R9
      refine ⟨_, fp9, putK va k v, kput acc k yt, R9, upd_same, PKV.weak (PKV.ext ux (PKV.put ra6 r7)) fun a z => z.imp (i9 a) fun m => m, by have := kput_len acc k yt; omega, ?_, h7⟩
      exact x16.trans (upd_ext d6 trivial (.inr (List.mem_singleton.mpr rfl)) fun a z => z.imp (i9 a) fun m => m)
section
variable {X : Cx} {kx vx tg iter : Expr} {ifs : List Expr} {scope : Scope} {own : List (Str × Nat)} {pos : Pos} {ti : IT} {g : GT} {tt : BT} {tk tv : XT}
theorem ex_dc (hc : X.calm = true) (hN : X.N.Nodup) (hi : IX X tg iter ti) (ok : BlkOk X.N X.env.scope scope own)
    (hg : ∀ (s : Shared) (H : Hp) (C : Addr) (cl : List (Str × Addr)) (fp : List Addr), GX (X.blk s H scope (compEnvC scope cl C X.env) fp) (fun j => !(own.map (·.2)).contains j) tg g)
    (ht : ∀ (s : Shared) (H : Hp) (C : Addr) (cl : List (Str × Addr)) (fp : List Addr), BXs (X.blk s H scope (compEnvC scope cl C X.env) fp) ifs tt)
    (hk : ∀ (s : Shared) (H : Hp) (C : Addr) (cl : List (Str × Addr)) (fp : List Addr), EX (X.blk s H scope (compEnvC scope cl C X.env) fp) kx tk)
    (he : ∀ (s : Shared) (H : Hp) (C : Addr) (cl : List (Str × Addr)) (fp : List Addr), EX (X.blk s H scope (compEnvC scope cl C X.env) fp) vx tv) (hs : ∀ x, foldedSetIterable iter X.env x = pure x := by intro _; rfl) :
    EX X (.DictComp kx vx [⟨tg, iter, ifs, 0⟩] scope pos) (tCompD ti g tt tk tv (own.map (·.2))) :=
  ⟨PE.imp (pe_dc (tk := LX X.K tk) (tv := LX X.K tv) (tt := LT X.K tt) (g := LG X.K _ g) hc hN hi.pi ok (fun s H C cl fp => (hg s H C cl fp).pg) (fun s H C cl fp => (ht s H C cl fp).pts) (fun s H C cl fp => (hk s H C cl fp).pe) (fun s H C cl fp => (he s H C cl fp).pe) hs) fun _ _ _ h => dcv_go h⟩
end
def tCompDI (j : Nat) (g : GT) (tt : BT) (tk tv : XT) (vs : List Nat) : XT := fun ρ Q => dctAt j (fun l ρ1 => l.length ≤ 16777216 ∧ compDV g tt tk tv vs (l.map itemT) [] (wipeA ρ1 vs) fun acc ρ2 => Q (.val (.dct acc)) ρ2) ρ
section
variable {X : Cx} {kx vx : Expr} {elts : List Expr} {kk : Nat} {tpos px apos cpos : Pos} {x : Str} {ifs : List Expr} {scope : Scope} {own : List (Str × Nat)} {pos : Pos} {g : GT} {tt : BT} {tk tv : XT}
theorem ex_dcItems (j : Nat) (hc : X.calm = true) (hN : X.N.Nodup) (hj : X.N[j]? = some x) (ok : BlkOk X.N X.env.scope scope own)
    (hg : ∀ (s : Shared) (H : Hp) (C : Addr) (cl : List (Str × Addr)) (fp : List Addr), GX (X.blk s H scope (compEnvC scope cl C X.env) fp) (fun j => !(own.map (·.2)).contains j) (.Tuple elts kk tpos) g)
    (ht : ∀ (s : Shared) (H : Hp) (C : Addr) (cl : List (Str × Addr)) (fp : List Addr), BXs (X.blk s H scope (compEnvC scope cl C X.env) fp) ifs tt)
    (hk : ∀ (s : Shared) (H : Hp) (C : Addr) (cl : List (Str × Addr)) (fp : List Addr), EX (X.blk s H scope (compEnvC scope cl C X.env) fp) kx tk)
    (he : ∀ (s : Shared) (H : Hp) (C : Addr) (cl : List (Str × Addr)) (fp : List Addr), EX (X.blk s H scope (compEnvC scope cl C X.env) fp) vx tv)
    (hv : Vis X.env.scope x := by first | exact Or.inl rfl | exact Or.inr (Or.inl rfl) | exact Or.inr (Or.inr rfl)) (hd : (x == ("__debug__" : Str)) = false := by decide) (hcd : (x == ("__classdict__" : Str)) = false := by decide)
    (hbase : attributeBase (.Name x px) "items" X.env (eval (.Name x px) X.env) = eval (.Name x px) X.env := by rfl) (hline : (apos.endLine == cpos.line) = true := by rfl)
    (hs : ∀ y, foldedSetIterable (.Call (.Attribute (.Name x px) "items" apos) [] [] cpos) X.env y = pure y := by intro _; rfl) :
    EX X (.DictComp kx vx [⟨.Tuple elts kk tpos, .Call (.Attribute (.Name x px) "items" apos) [] [] cpos, ifs, 0⟩] scope pos) (tCompDI j g tt tk tv (own.map (·.2))) := by
  refine ⟨PE.imp (pe_lock (pe_dc (tk := LX X.K tk) (tv := LX X.K tv) (tt := LT X.K tt) (g := LG X.K _ g) hc hN (pi_items (pe_var hj hv hd hcd) hbase hline) ok (fun s H C cl fp => (hg s H C cl fp).pg) (fun s H C cl fp => (ht s H C cl fp).pts) (fun s H C cl fp => (hk s H C cl fp).pe) (fun s H C cl fp => (he s H C cl fp).pe) hs)) ?_⟩
  rintro σ H Q ⟨ρ, fp, G, Qa, R, ⟨o, l, e1, e2, hl, h⟩, fin⟩
  obtain ⟨d, u, kvs, eu, h1, h2, h3, h4⟩ := lock_frame (t := tCompD (ti0 (ρ.set j (some (.pure (dctT l)))) (l.map itemT)) g tt tk tv (own.map (·.2))) R e1 e2 ⟨rfl, h⟩ fin
  subst eu
  refine ⟨d, _, h1, h2, fun od => ?_⟩
  have := dcv_go (h4 od)
  exact items_go h3 upd_same (List.getElem?_set_self (List.getElem?_eq_some_iff.mp e1).1) hl this
end
end DL

set_option Elab.async false
set_option linter.all false
set_option maxRecDepth 100000
set_option maxHeartbeats 4000000
/-! THE DATA LAYER, part 23: name = {k: v for ..}; {k: [] for ..}. -/
namespace L2
open PySem PySem.Spec PyProof.Rows
section
variable {X : Cx}
theorem ps_setDc {i : Nat} {y : Str} {py : Pos} {kx vx tg iter : Expr} {ifs : List Expr} {scope : Scope} {own : List (Str × Nat)} {pos spos : Pos} {wi : TI} {g : TG} {tt : TT} {tk tv : TE} (hc : X.calm = true) (hN : X.N.Nodup) (hy : X.N[i]? = some y) (hyl : X.env.scope.names.lookup y = some .local)
    (hsw : swapsWith (.DictComp kx vx [⟨tg, iter, ifs, 0⟩] scope pos) (some (.Name y py)) spos.line X.env = pure true) (hi : PI X tg iter wi) (ok : BlkOk X.N X.env.scope scope own)
    (hg : ∀ (s : Shared) (H : Hp) (C : Addr) (cl : List (Str × Addr)) (fp : List Addr), PG (X.blk s H scope (compEnvC scope cl C X.env) fp) tg g) (ht : ∀ (s : Shared) (H : Hp) (C : Addr) (cl : List (Str × Addr)) (fp : List Addr), PTs (X.blk s H scope (compEnvC scope cl C X.env) fp) ifs tt)
    (hk : ∀ (s : Shared) (H : Hp) (C : Addr) (cl : List (Str × Addr)) (fp : List Addr), PE (X.blk s H scope (compEnvC scope cl C X.env) fp) kx tk)
    (he : ∀ (s : Shared) (H : Hp) (C : Addr) (cl : List (Str × Addr)) (fp : List Addr), PE (X.blk s H scope (compEnvC scope cl C X.env) fp) vx tv) (hs : ∀ x, foldedSetIterable iter X.env x = pure x := by intro _; rfl) :
    PS X (.Assign [.Name y py] (.DictComp kx vx [⟨tg, iter, ifs, 0⟩] scope pos) spos) (tAsg (tDc wi g tt tk tv (own.map (·.2))) (gName i)) := by
  refine ⟨fun pins s σ H D I h => ?_⟩
  rw [exec_Assign_Name_used _ _ _ _ hsw]
  refine wpAny_bind (wpAny_standAt (wpAny_bind ?_))
  show wpAny _ X.A (do let _ ← comprehension (.DictComp kx vx [⟨tg, iter, ifs, 0⟩] scope pos) scope X.env (firstIterPos [⟨tg, iter, ifs, 0⟩] pos) newDict false (eval iter X.env) (some (assign (.Name y py) X.env))) _ _ s
  have h : tDc wi g tt tk tv (own.map (·.2)) σ H (fun x H1 => gName i x σ H1 D.nx) := h
  refine wpAny_bind (thn (dc_core (Qf := fun _ s' => SP X pins D .next s') hc hN I hi ok hg ht hk he hs h fun L C s' m H' I' q hn f => ?_) fun _ s' hq => wpAny_pure (wpAny_pure hq))
  show wpAny _ _ (assign (.Name y py) X.env (.ref L)) _ _ _
  refine wpAny_assign_Name (store_ok2 (v := V.ref L) I' hN hy (.inl hyl) rfl (fun s2 I2 ⟨a, sb, ha⟩ => ?_) (.inr hyl))
  obtain ⟨f0, f1, f2, f3, f4, f5⟩ := f
  have haC : C ≠ a := by
    rcases ha with z | z
    · rw [z]; exact f1
    · exact fun e => f4 y a z e.symm
  refine ⟨m, hn.sameBut sb haC, fun h3 sb3 => ?_⟩
  exact ⟨_, H', I2.turned (t' := s2.toks) (fun b o hb e => (sb3.2 b hb).trans e) f0 f1 f3 f4 f5, q⟩
end
end L2
namespace DL
open PySem PySem.Spec L2
open PyProof.Rows hiding St
section
variable {X : Cx} {kx vx tg iter : Expr} {ifs : List Expr} {scope : Scope} {own : List (Str × Nat)} {pos : Pos} {ti : IT} {g : GT} {tt : BT} {tk tv : XT}
theorem sx_setDc {P : Nat → Bool} {y : Str} {py spos : Pos} (i : Nat) (hc : X.calm = true) (hN : X.N.Nodup) (hy : X.N[i]? = some y) (hyl : X.env.scope.names.lookup y = some .local)
    (hsw : swapsWith (.DictComp kx vx [⟨tg, iter, ifs, 0⟩] scope pos) (some (.Name y py)) spos.line X.env = pure true) (hi : IX X tg iter ti) (ok : BlkOk X.N X.env.scope scope own)
    (hg : ∀ (s : Shared) (H : Hp) (C : Addr) (cl : List (Str × Addr)) (fp : List Addr), GX (X.blk s H scope (compEnvC scope cl C X.env) fp) (fun j => !(own.map (·.2)).contains j) tg g)
    (ht : ∀ (s : Shared) (H : Hp) (C : Addr) (cl : List (Str × Addr)) (fp : List Addr), BXs (X.blk s H scope (compEnvC scope cl C X.env) fp) ifs tt)
    (hk : ∀ (s : Shared) (H : Hp) (C : Addr) (cl : List (Str × Addr)) (fp : List Addr), EX (X.blk s H scope (compEnvC scope cl C X.env) fp) kx tk)
    (he : ∀ (s : Shared) (H : Hp) (C : Addr) (cl : List (Str × Addr)) (fp : List Addr), EX (X.blk s H scope (compEnvC scope cl C X.env) fp) vx tv) (hp : P i = false := by rfl) (hs : ∀ x, foldedSetIterable iter X.env x = pure x := by intro _; rfl) :
    SX X P (.Assign [.Name y py] (.DictComp kx vx [⟨tg, iter, ifs, 0⟩] scope pos) spos) (sSet i (tCompD ti g tt tk tv (own.map (·.2)))) := by
  refine ⟨PS.imp (ps_setDc (tk := LX X.K tk) (tv := LX X.K tv) (tt := LT X.K tt) (g := LG X.K _ g) hc hN hy hyl hsw hi.pi ok (fun s H C cl fp => (hg s H C cl fp).pg) (fun s H C cl fp => (ht s H C cl fp).pts) (fun s H C cl fp => (hk s H C cl fp).pe) (fun s H C cl fp => (he s H C cl fp).pe) hs) fun D σ H h => ?_⟩
  have := set_go hp h
  exact dcv_go this
end

/-! ### {k: [] for ..} -/
def compDN (g : GT) (tk : XT) (vs : List Nat) : List T → List (Key × List T) → AEnv → (List (Key × List T) → AEnv → Prop) → Prop
  | [], acc, ρ, Q => Q acc ρ
  | t :: ts, acc, ρ, Q => g t ρ fun ρ1 => tk ρ1 fun p ρ2 => ∃ k, p.get ρ2 = some (.pure (keyT k)) ∧ klk acc k = none ∧ compDN g tk vs ts (acc ++ [(k, [])]) (wipeA ρ2 vs) Q
def tCompN (ti : IT) (g : GT) (tk : XT) (vs : List Nat) : XT := fun ρ Q => ti ρ fun ts ρ1 => compDN g tk vs ts [] (wipeA ρ1 vs) fun acc ρ2 => Q (.val (.dcl acc)) ρ2
section
variable {K : PySem.W.Frag} {H H' : Hp} {F F' : Addr → Prop}
theorem RDL.none {k : Key} : ∀ {kvs : List (Key × V)} {kts : List (Key × List T)} {bs : List Addr}, RDL K H F kvs kts bs → klk kts k = none → valV kvs k = none
  | _, _, _, .nil, _ => rfl
  | _, _, _, .cons (k := k0) (b := b) (kvs := kvs) h q r, e => by
    unfold klk at e
    rw [List.find?_cons] at e
    by_cases c : k0 = k
    · rw [show decide (k0 = k) = true from decide_eq_true c] at e; cases e
    · rw [show decide (k0 = k) = false from decide_eq_false c] at e
      rw [valV_neg (p := (k0, V.ref b)) c]
      exact RDL.none r e
theorem RDL.snoc {k : Key} {b : Addr} {vs : List V} {ts : List T} (h : H b = some (.lst vs)) (q : RPs K H F vs ts) : ∀ {kvs : List (Key × V)} {kts : List (Key × List T)} {bs : List Addr}, RDL K H F kvs kts bs → RDL K H F (kvs ++ [(k, .ref b)]) (kts ++ [(k, ts)]) (bs ++ [b])
  | _, _, _, .nil => .cons h q .nil
  | _, _, _, .cons h' q' r => .cons h' q' (RDL.snoc h q r)
theorem RDL.len : ∀ {kvs : List (Key × V)} {kts : List (Key × List T)} {bs : List Addr}, RDL K H F kvs kts bs → kvs.length = kts.length
  | _, _, _, .nil => rfl
  | _, _, _, .cons _ _ r => congrArg (· + 1) (RDL.len r)
theorem RDL.ext {bs : List Addr} {kvs : List (Key × V)} {kts : List (Key × List T)} (x : Ext H F H' F') (n : ∀ b ∈ bs, ¬ F b) (r : RDL K H F kvs kts bs) : RDL K H' F' kvs kts bs := r.imp (fun _ _ z => RPs.ext x z) fun b m vs h => x.keep b _ h (n b m)
theorem RDL.weak {bs : List Addr} {kvs : List (Key × V)} {kts : List (Key × List T)} (r : RDL K H F kvs kts bs) (w : ∀ a, F' a → F a) : RDL K H F' kvs kts bs := r.imp (fun _ _ z => RPs.weak z w) fun b m vs h => h
end
theorem dcn_go {K : PySem.W.Frag} {ti : IT} {g : GT} {tk : XT} {vs : List Nat} {σ : St} {H : Hp} {Q : VK} (h : LX K (tCompN ti g tk vs) σ H Q) : tDc (LI K ti) (LG K (fun j => !vs.contains j) g) (LT K bYes) (LX K tk) (tLst tNil) vs σ H Q := by
  obtain ⟨ρ, fp, G, Qa, R, h, fin⟩ := h
  refine ⟨ρ, fp, G, _, R, h, fun ts J H1 ρ1 fp1 R1 j1 hsz x1 h1 => ?_⟩
  intro D hD
  have nD : D ∉ G := fun m => by obtain ⟨u, e⟩ := R1.gi D m; rw [hD] at e; cases e
  obtain ⟨fp0, R0, i0⟩ := R1.wipe vs
  have R0' : RS K (wipe σ vs) (upd H1 D (.dK [])) (wipeA ρ1 vs) fp0 ([D] ++ G) := R0.new (Pres.upd hD) (fun a m => by rw [List.mem_singleton.mp m]; exact hD) fun a m => ⟨.dK [], by rw [List.mem_singleton.mp m]; exact upd_same⟩
  have x0 : Ext H1 (Fo fp1) (upd H1 D (.dK [])) (Or1 (Fo fp0) [D]) := ((Pres.upd hD).extA (F := Fo fp1) (A := [D]) fun a m => by rw [List.mem_singleton.mp m]; exact hD).weak (fun _ z => z) fun a z => z.imp (i0 a) fun m => m
  refine ⟨fun i m H' => ∃ ρ' fp' va acc bs, m = ts.length - i ∧ i ≤ ts.length ∧ RS K (wipe σ vs) H' ρ' fp' ((D :: bs) ++ G) ∧ H' D = some (.dK va) ∧ RDL K H' (Or1 (Fo fp') ((D :: bs) ++ G)) va acc bs ∧ (D :: bs).Nodup ∧ (∀ b ∈ bs, b ∉ G) ∧ acc.length ≤ i ∧ Ext H1 (Fo fp1) H' (Or1 (Fo fp') (D :: bs)) ∧
    compDN g tk vs (ts.drop i) acc ρ' (fun acc ρ2 => Qa (.val (.dcl acc)) ρ2), ⟨_, _, fp0, [], [], [], rfl, Nat.zero_le _, R0', upd_same, .nil, by simp, (fun b m => nomatch m), Nat.le_refl _, x0, h1⟩, ?_⟩
  rintro i m H2 ⟨ρ2, fp2, va, acc, bs, rfl, hi, R2, hD2, ra, nd, nG, la, x2, h2⟩
  obtain ⟨j2, stop⟩ := j1 H2 _ x2
  cases hd : ts.drop i with
  | nil =>
    have e : i = ts.length := by
      have := congrArg List.length hd
      simp at this; omega
    subst e
    rw [hd] at h2
    refine .inl ⟨stop, fin (.ref D) (.val (.dcl acc)) (D :: bs) H2 ρ2 fp2 R2.unwipe ⟨⟨D, va, bs, rfl, rfl, hD2, ra⟩, nd, fun a m => ?_⟩ (x1.trans x2) h2⟩
    rcases List.mem_cons.mp m with rfl | m
    · exact nD
    · exact nG a m
  | cons t r =>
    obtain ⟨e1, e2, e3⟩ := drop_at hd
    rw [hd] at h2
    obtain ⟨go, yl⟩ := j2 i t e1
    refine .inr ⟨go, fun H3 => ∃ ρ3 fp3 va acc bs, RS K (wipe σ vs) H3 ρ3 fp3 ((D :: bs) ++ G) ∧ H3 D = some (.dK va) ∧ RDL K H3 (Or1 (Fo fp3) ((D :: bs) ++ G)) va acc bs ∧ (D :: bs).Nodup ∧ (∀ b ∈ bs, b ∉ G) ∧ acc.length ≤ i + 1 ∧ Ext H1 (Fo fp1) H3 (Or1 (Fo fp3) (D :: bs)) ∧ compDN g tk vs r acc ρ3 (fun acc ρ2 => Qa (.val (.dcl acc)) ρ2),
      fun H3 ⟨ρ3, fp3, va, acc, bs, R3, d3, r3, nd, nG, l3, x3, h3⟩ => ⟨_, by omega, ρ3, fp3, va, acc, bs, rfl, e3, R3, d3, r3, nd, nG, l3, x3, by rw [e2]; exact h3⟩, fun x H3 y => ?_⟩
    obtain ⟨pr, rp⟩ := yl x H3 y
    have R3 := R2.pres pr
    have d3 := pr D _ hD2
    have nB : ∀ b ∈ bs, ¬ Or1 (Fo fp2) G b := fun b m z => z.elim (fun z => R2.gf b (List.mem_append_left _ (List.mem_cons_of_mem _ m)) z) (nG b m)
    have ra3 : RDL K H3 (Or1 (Fo fp2) ((D :: bs) ++ G)) va acc bs := ra.imp (fun _ _ z => RPs.ext pr.ext z) fun b m us h => pr b _ h
    have x3 : Ext H1 (Fo fp1) H3 (Or1 (Fo fp2) (D :: bs)) := x2.trans (pr.ext)
    refine ⟨ρ2, fp2, (D :: bs) ++ G, _, t, R3, rp.weak fun a z => Or1.app.mp z, h2, fun σ4 ρ4 fp4 R4 i4 p4 l4 h4 => ?_⟩
    have w4 : wipe σ4 vs = wipe σ vs := by
      have := wipe_eq (σ := wipe σ vs) (σ' := σ4) vs (fun j m => p4 j (by simp [m])) l4
      rw [this, wipe_wipe]
    have x4 : Ext H1 (Fo fp1) H3 (Or1 (Fo fp4) (D :: bs)) := x3.weak (fun _ z => z) fun a z => z.imp (i4 a) fun m => m
    have ra4 := ra3.weak (F' := Or1 (Fo fp4) ((D :: bs) ++ G)) fun a z => z.imp (i4 a) fun m => m
    refine ⟨w4, ρ4, fp4, (D :: bs) ++ G, fun (b : Bool) ρ => b = true ∧ tk ρ fun p ρ2 => ∃ k, p.get ρ2 = some (.pure (keyT k)) ∧ klk acc k = none ∧ compDN g tk vs r (acc ++ [(k, [])]) (wipeA ρ2 vs) (fun acc ρ2 => Qa (.val (.dcl acc)) ρ2), R4, ⟨rfl, h4⟩, fun b H5 ρ5 fp5 R5 x5 h5 => ?_⟩
    obtain ⟨hbt, h5⟩ := h5
    -- what stands of ours is kept by a step
    have kA : ∀ {H H' : Hp} {f f' : Nat → List Addr} {ρ : AEnv} {σ : St} {A : List Addr}, RS K σ H ρ f ((D :: bs) ++ G) → Ext H (Fo f) H' (Or1 (Fo f') A) → ∀ a ∈ D :: bs, ∀ u, H a = some u → H' a = some u := fun R x a m u e => x.keep a u e (R.gf a (List.mem_append_left _ m))
    have x5' : Ext H3 (Fo fp4) H5 (Or1 (Fo fp5) []) := x5.weak (fun _ z => z) fun a z => z.elim (fun q => q) fun m => (List.not_mem_nil m).elim
    have d5 := kA R4 x5' D List.mem_cons_self _ d3
    have ra5 : RDL K H5 (Or1 (Fo fp5) ((D :: bs) ++ G)) va acc bs := ra4.imp (fun _ _ z => RPs.ext (x5.addG ((D :: bs) ++ G)) z) fun b m us h => kA R4 x5' b (List.mem_cons_of_mem _ m) _ h
    have x15 : Ext H1 (Fo fp1) H5 (Or1 (Fo fp5) (D :: bs)) := x4.trans (x5.addG (D :: bs))
    cases b with
    | false => cases hbt
    | true =>
      refine iteT ⟨ρ5, fp5, (D :: bs) ++ G, _, R5, h5, fun vk pk Ak Hk ρk fpk Rk rk xk hk => ?_⟩
      obtain ⟨k, ek, hnk, hk⟩ := hk
      have hv := kvK_of (k := k) (rk.rw0 Rk ek)
      subst hv
      have dk := kA R5 xk D List.mem_cons_self _ d5
      have xk' : Ext H5 (Fo fp5) Hk (Fo fpk) := xk.or
      have rak : RDL K Hk (Or1 (Fo fpk) ((D :: bs) ++ G)) va acc bs := ra5.imp (fun _ _ z => RPs.ext (xk'.addG ((D :: bs) ++ G)) z) fun b m us h => kA R5 xk b (List.mem_cons_of_mem _ m) _ h
      have x1k : Ext H1 (Fo fp1) Hk (Or1 (Fo fpk) (D :: bs)) := x15.trans (xk'.addG (D :: bs))
      have Rk' : RS K σ4 Hk ρk fpk ((D :: bs) ++ G) := Rk.sub fun a m => List.mem_append_right _ m
      -- the list
      refine ⟨by simp, fun b hb => ⟨va, k, rfl, ?_, by rw [ra.len]; have := ra.len; omega, ?_⟩⟩
      · exact Pres.upd hb D _ dk
      rw [putK_new _ (ra.none hnk)]
      have bD : b ≠ D := fun q => by rw [q, dk] at hb; cases hb
      have bB : b ∉ bs := fun m => by obtain ⟨us, z⟩ := rak.there b m; rw [hb] at z; cases z
      have bG : b ∉ G := fun m => by obtain ⟨u, z⟩ := Rk'.gi b (List.mem_append_right _ m); rw [hb] at z; cases z
      have DB : D ∉ bs := (List.nodup_cons.mp nd).1
      have R6 : RS K σ4 (upd Hk b (.lst [])) ρk fpk ([b] ++ ((D :: bs) ++ G)) := Rk'.new (Pres.upd hb) (fun a m => by rw [List.mem_singleton.mp m]; exact hb) fun a m => ⟨.lst [], by rw [List.mem_singleton.mp m]; exact upd_same⟩
      have R7 : RS K σ4 (upd Hk b (.lst [])) ρk fpk ([D] ++ ((bs ++ [b]) ++ G)) := R6.sub fun a m => by
        rcases List.mem_append.mp m with m | m
        · simp [List.mem_singleton.mp m]
        · rcases List.mem_append.mp m with m | m
          · rcases List.mem_append.mp m with m | m
            · simp [m]
            · simp [List.mem_singleton.mp m]
          · simp [m]
      have hD6 : (upd Hk b (.lst [])) D = some (.dK va) := Pres.upd hb D _ dk
      have nD7 : D ∉ (bs ++ [b]) ++ G := fun m => by
        rcases List.mem_append.mp m with m | m
        · rcases List.mem_append.mp m with m | m
          · exact DB m
          · exact bD (List.mem_singleton.mp m).symm
        · exact nD m
      have R8 := RS.write (u := .dK (va ++ [(k, V.ref b)])) R7 rfl ⟨_, hD6, trivial⟩ nD7
      have R8' : RS K σ4 (upd (upd Hk b (.lst [])) D (.dK (va ++ [(k, V.ref b)]))) ρk fpk ((D :: (bs ++ [b])) ++ G) := R8.sub fun a m => by
        rcases List.mem_append.mp m with m | m
        · rcases List.mem_cons.mp m with m | m
          · simp [m]
          · rcases List.mem_append.mp m with m | m
            · simp [m]
            · simp [List.mem_singleton.mp m]
        · simp [m]
      have p6 : Pres Hk (upd Hk b (.lst [])) := Pres.upd hb
      have ra6 : RDL K (upd Hk b (.lst [])) (Or1 (Fo fpk) ((D :: (bs ++ [b])) ++ G)) (va ++ [(k, .ref b)]) (acc ++ [(k, [])]) (bs ++ [b]) := by
        refine RDL.snoc upd_same .nil (rak.imp (fun _ _ z => (RPs.ext p6.ext (RPs.grow z fun a q => ?_))) fun b' m us h => p6 b' _ h)
        rcases q with q | q
        · exact .inl (.inl q)
        · simp only [List.mem_append, List.mem_cons, List.not_mem_nil, or_false, List.mem_singleton] at q
          rcases q with (q | q | q) | q
          · exact .inl (.inr (by simp [q]))
          · exact .inl (.inr (by simp [q]))
          · exact .inr (by rw [q]; exact hb)
          · exact .inl (.inr (by simp [q]))
      have ux : Ext (upd Hk b (.lst [])) (Or1 (Fo fpk) ((D :: (bs ++ [b])) ++ G)) (upd (upd Hk b (.lst [])) D (.dK (va ++ [(k, V.ref b)]))) (Or1 (Fo fpk) ((D :: (bs ++ [b])) ++ G)) := upd_ext hD6 trivial (.inr (by simp)) fun _ z => z
      have ra8 : RDL K (upd (upd Hk b (.lst [])) D (.dK (va ++ [(k, V.ref b)]))) (Or1 (Fo fpk) ((D :: (bs ++ [b])) ++ G)) (va ++ [(k, .ref b)]) (acc ++ [(k, [])]) (bs ++ [b]) := ra6.imp (fun _ _ z => RPs.ext ux z) fun b' m us h => by
        have ne : b' ≠ D := fun q => by
          rcases List.mem_append.mp m with m | m
          · exact DB (q ▸ m)
          · exact bD ((List.mem_singleton.mp m).symm.trans q)
        rw [upd_ne ne]; exact h
      obtain ⟨fp9, R9, i9⟩ := R8'.wipe vs
      rw [w4] at R9
      refine ⟨_, fp9, _, _, bs ++ [b], R9, upd_same, ra8.weak fun a z => z.imp (i9 a) fun m => m, ?_, fun b' m => ?_, by rw [List.length_append, List.length_singleton]; omega, ?_, hk⟩
      · refine List.nodup_cons.mpr ⟨fun m => ?_, List.nodup_append.mpr ⟨(List.nodup_cons.mp nd).2, by simp, fun a ha c hc => ?_⟩⟩
        · rcases List.mem_append.mp m with m | m
          · exact DB m
          · exact bD (List.mem_singleton.mp m).symm
        · rw [List.mem_singleton.mp hc]; exact fun q => bB (q ▸ ha)
      · rcases List.mem_append.mp m with m | m
        · exact nG b' m
        · rw [List.mem_singleton.mp m]; exact bG
      · have xa : Ext Hk (Or1 (Fo fpk) (D :: bs)) (upd Hk b (.lst [])) (Or1 (Fo fpk) (D :: (bs ++ [b]))) := by
          refine (p6.extA (F := Or1 (Fo fpk) (D :: bs)) (A := [b]) fun a m => by rw [List.mem_singleton.mp m]; exact hb).weak (fun _ z => z) fun a z => ?_
          rcases z with z | z
          · exact .inl (.inl z)
          · simp only [List.mem_append, List.mem_cons, List.not_mem_nil, or_false, List.mem_singleton] at z
            rcases z with z | z | z
            · exact .inl (.inr (by simp [z]))
            · exact .inl (.inr (by simp [z]))
            · exact .inr (by simp [z])
        have xb : Ext (upd Hk b (.lst [])) (Or1 (Fo fpk) (D :: (bs ++ [b]))) (upd (upd Hk b (.lst [])) D (.dK (va ++ [(k, V.ref b)]))) (Or1 (Fo fp9) (D :: (bs ++ [b]))) := upd_ext hD6 trivial (.inr List.mem_cons_self) fun a z => z.imp (i9 a) fun m => m
        exact (x1k.trans xa).trans xb
end DL

set_option Elab.async false
set_option linter.all false
set_option maxRecDepth 100000
set_option maxHeartbeats 4000000
/-! THE DATA LAYER, part 24: {k: [] for ..}, dict([(k, []) for ..]). -/
namespace DL
open PySem PySem.Spec L2
open PyProof.Rows hiding St
section
variable {X : Cx} {kx tg iter : Expr} {scope : Scope} {own : List (Str × Nat)} {pos lpos : Pos} {ti : IT} {g : GT} {tk : XT}
theorem ex_dcN (hc : X.calm = true) (hN : X.N.Nodup) (hi : IX X tg iter ti) (ok : BlkOk X.N X.env.scope scope own)
    (hg : ∀ (s : Shared) (H : Hp) (C : Addr) (cl : List (Str × Addr)) (fp : List Addr), GX (X.blk s H scope (compEnvC scope cl C X.env) fp) (fun j => !(own.map (·.2)).contains j) tg g)
    (hk : ∀ (s : Shared) (H : Hp) (C : Addr) (cl : List (Str × Addr)) (fp : List Addr), EX (X.blk s H scope (compEnvC scope cl C X.env) fp) kx tk) (hs : ∀ x, foldedSetIterable iter X.env x = pure x := by intro _; rfl) :
    EX X (.DictComp kx (.List [] lpos) [⟨tg, iter, [], 0⟩] scope pos) (tCompN ti g tk (own.map (·.2))) :=
  ⟨PE.imp (pe_dc (tk := LX X.K tk) (tv := tLst tNil) (tt := LT X.K bYes) (g := LG X.K _ g) hc hN hi.pi ok (fun s H C cl fp => (hg s H C cl fp).pg) (fun s H C cl fp => bxs_nil.pts) (fun s H C cl fp => (hk s H C cl fp).pe) (fun s H C cl fp => pe_lst pa_nil) hs) fun _ _ _ h => dcn_go h⟩
theorem sx_setDcN {P : Nat → Bool} {y : Str} {py spos : Pos} (i : Nat) (hc : X.calm = true) (hN : X.N.Nodup) (hy : X.N[i]? = some y) (hyl : X.env.scope.names.lookup y = some .local)
    (hsw : swapsWith (.DictComp kx (.List [] lpos) [⟨tg, iter, [], 0⟩] scope pos) (some (.Name y py)) spos.line X.env = pure true) (hi : IX X tg iter ti) (ok : BlkOk X.N X.env.scope scope own)
    (hg : ∀ (s : Shared) (H : Hp) (C : Addr) (cl : List (Str × Addr)) (fp : List Addr), GX (X.blk s H scope (compEnvC scope cl C X.env) fp) (fun j => !(own.map (·.2)).contains j) tg g)
    (hk : ∀ (s : Shared) (H : Hp) (C : Addr) (cl : List (Str × Addr)) (fp : List Addr), EX (X.blk s H scope (compEnvC scope cl C X.env) fp) kx tk) (hp : P i = false := by rfl) (hs : ∀ x, foldedSetIterable iter X.env x = pure x := by intro _; rfl) :
    SX X P (.Assign [.Name y py] (.DictComp kx (.List [] lpos) [⟨tg, iter, [], 0⟩] scope pos) spos) (sSet i (tCompN ti g tk (own.map (·.2)))) := by
  refine ⟨PS.imp (ps_setDc (tk := LX X.K tk) (tv := tLst tNil) (tt := LT X.K bYes) (g := LG X.K _ g) hc hN hy hyl hsw hi.pi ok (fun s H C cl fp => (hg s H C cl fp).pg) (fun s H C cl fp => bxs_nil.pts) (fun s H C cl fp => (hk s H C cl fp).pe) (fun s H C cl fp => pe_lst pa_nil) hs) fun D σ H h => ?_⟩
  have := set_go hp h
  exact dcn_go this
end
/-- the value of a call dict(list of pairs) -/
def rDictP (K : PySem.W.Frag) : List V → Hp → VK → Prop := fun xs H Q => ∃ (a : Addr) (ps : List Addr) (kvs : List (Key × V)), xs = [.ref a] ∧ SqL K H a (ps.map V.ref) ∧ Paired (fun p kv => SqT K H p [kV kv.1, kv.2]) ps kvs ∧
    ∀ p, H p = none → Q (.ref p) (upd H p (.dK (mergeK [] kvs)))
theorem merge_snoc {kvs : List (Key × V)} {k : Key} {v : V} (h : mergeK [] kvs = kvs) (n : valV kvs k = none) : mergeK [] (kvs ++ [(k, v)]) = kvs ++ [(k, v)] := by
  unfold mergeK at h ⊢
  rw [List.foldl_append, h]
  exact putK_new v n
abbrev PrsT (H : Hp) (ps : List Addr) (kvs : List (Key × V)) : Prop := Paired (fun (p : Addr) (kv : Key × V) => H p = some (.tup [kV kv.1, kv.2])) ps kvs
theorem lcn_go {K : PySem.W.Frag} {ti : IT} {g : GT} {tk : XT} {vs : List Nat} {σ : St} {H : Hp} {Q : VK} (h : LX K (tCompN ti g tk vs) σ H Q) : tLc (LI K ti) (LG K (fun j => !vs.contains j) g) (LT K bYes) (tTup (tCons (LX K tk) (tCons (tLst tNil) tNil))) vs σ H fun x H1 => rDictP K [x] H1 Q := by
  obtain ⟨ρ, fp, G, Qa, R, h, fin⟩ := h
  refine ⟨ρ, fp, G, _, R, h, fun ts J H1 ρ1 fp1 R1 j1 hsz x1 h1 => ?_⟩
  intro D hD
  have nD : D ∉ G := fun m => by obtain ⟨u, e⟩ := R1.gi D m; rw [hD] at e; cases e
  obtain ⟨fp0, R0, i0⟩ := R1.wipe vs
  have R0' : RS K (wipe σ vs) (upd H1 D (.lst [])) (wipeA ρ1 vs) fp0 ([D] ++ G) := R0.new (Pres.upd hD) (fun a m => by rw [List.mem_singleton.mp m]; exact hD) fun a m => ⟨.lst [], by rw [List.mem_singleton.mp m]; exact upd_same⟩
  have x0 : Ext H1 (Fo fp1) (upd H1 D (.lst [])) (Or1 (Fo fp0) [D]) := ((Pres.upd hD).extA (F := Fo fp1) (A := [D]) fun a m => by rw [List.mem_singleton.mp m]; exact hD).weak (fun _ z => z) fun a z => z.imp (i0 a) fun m => m
  refine ⟨fun i m H' => ∃ ρ' fp' va acc bs ps, m = ts.length - i ∧ i ≤ ts.length ∧ RS K (wipe σ vs) H' ρ' fp' ((D :: bs) ++ G) ∧ H' D = some (.lst (ps.map V.ref)) ∧ PrsT H' ps va ∧ mergeK [] va = va ∧ RDL K H' (Or1 (Fo fp') ((D :: bs) ++ G)) va acc bs ∧ (D :: bs).Nodup ∧ (∀ b ∈ bs, b ∉ G) ∧ acc.length ≤ i ∧ Ext H1 (Fo fp1) H' (Or1 (Fo fp') (D :: bs)) ∧
    compDN g tk vs (ts.drop i) acc ρ' (fun acc ρ2 => Qa (.val (.dcl acc)) ρ2), ⟨_, _, fp0, [], [], [], [], rfl, Nat.zero_le _, R0', upd_same, .nil, rfl, .nil, by simp, (fun b m => nomatch m), Nat.le_refl _, x0, h1⟩, ?_⟩
  rintro i m H2 ⟨ρ2, fp2, va, acc, bs, ps, rfl, hi, R2, hD2, rps, hmg, ra, nd, nG, la, x2, h2⟩
  obtain ⟨j2, stop⟩ := j1 H2 _ x2
  cases hd : ts.drop i with
  | nil =>
    have e : i = ts.length := by
      have := congrArg List.length hd
      simp at this; omega
    subst e
    rw [hd] at h2
    refine .inl ⟨stop, D, ps, va, rfl, SqL.of hD2, Paired.mapP rps fun _ _ z => .inl (.inl z), fun p hp => ?_⟩
    rw [hmg]
    have pr := Pres.upd (o := .dK va) hp
    have pB : p ∉ bs := fun m => by obtain ⟨us, z⟩ := ra.there p m; rw [hp] at z; cases z
    have pG : p ∉ G := fun m => by obtain ⟨u, z⟩ := R2.gi p (List.mem_append_right _ m); rw [hp] at z; cases z
    have R9 : RS K (wipe σ vs) (upd H2 p (.dK va)) ρ2 fp2 ((p :: bs) ++ G) := (R2.new (A := [p]) pr (fun a m => by rw [List.mem_singleton.mp m]; exact hp) fun a m => ⟨.dK va, by rw [List.mem_singleton.mp m]; exact upd_same⟩).sub fun a m => by
      rcases List.mem_append.mp m with m | m
      · rcases List.mem_cons.mp m with m | m
        · simp [m]
        · simp [m]
      · simp [m]
    refine fin (.ref p) (.val (.dcl acc)) (p :: bs) _ ρ2 fp2 R9.unwipe ⟨⟨p, va, bs, rfl, rfl, upd_same, ?_⟩, List.nodup_cons.mpr ⟨pB, (List.nodup_cons.mp nd).2⟩, fun a m => ?_⟩ ?_ h2
    · refine ra.imp (fun _ _ z => RPs.ext pr.ext (RPs.grow z fun a q => ?_)) fun b m us h => pr b _ h
      rcases q with q | q
      · exact .inl (.inl q)
      · rcases List.mem_append.mp q with q | q
        · rcases List.mem_cons.mp q with q | q
          · exact .inr (by rw [q]; exact hp)
          · exact .inl (.inr (by simp [q]))
        · exact .inl (.inr (by simp [q]))
    · rcases List.mem_cons.mp m with rfl | m
      · exact pG
      · exact nG a m
    · refine (x1.trans x2).trans ((pr.extA (F := Or1 (Fo fp2) (D :: bs)) (A := [p]) fun a m => by rw [List.mem_singleton.mp m]; exact hp).weak (fun _ z => z) fun a z => ?_)
      rcases z with z | z
      · exact .inl (.inl z)
      · rcases List.mem_cons.mp z with z | z
        · exact .inr (by simp [z])
        · exact .inl (.inr (by simp [z]))
  | cons t r =>
    obtain ⟨e1, e2, e3⟩ := drop_at hd
    rw [hd] at h2
    obtain ⟨go, yl⟩ := j2 i t e1
    refine .inr ⟨go, fun H3 => ∃ ρ3 fp3 va acc bs ps, RS K (wipe σ vs) H3 ρ3 fp3 ((D :: bs) ++ G) ∧ H3 D = some (.lst (ps.map V.ref)) ∧ PrsT H3 ps va ∧ mergeK [] va = va ∧ RDL K H3 (Or1 (Fo fp3) ((D :: bs) ++ G)) va acc bs ∧ (D :: bs).Nodup ∧ (∀ b ∈ bs, b ∉ G) ∧ acc.length ≤ i + 1 ∧ Ext H1 (Fo fp1) H3 (Or1 (Fo fp3) (D :: bs)) ∧ compDN g tk vs r acc ρ3 (fun acc ρ2 => Qa (.val (.dcl acc)) ρ2),
      fun H3 ⟨ρ3, fp3, va, acc, bs, ps, R3, d3, rps3, hmg3, r3, nd, nG, l3, x3, h3⟩ => ⟨_, by omega, ρ3, fp3, va, acc, bs, ps, rfl, e3, R3, d3, rps3, hmg3, r3, nd, nG, l3, x3, by rw [e2]; exact h3⟩, fun x H3 y => ?_⟩
    obtain ⟨pr, rp⟩ := yl x H3 y
    have R3 := R2.pres pr
    have d3 := pr D _ hD2
    have nB : ∀ b ∈ bs, ¬ Or1 (Fo fp2) G b := fun b m z => z.elim (fun z => R2.gf b (List.mem_append_left _ (List.mem_cons_of_mem _ m)) z) (nG b m)
    have ra3 : RDL K H3 (Or1 (Fo fp2) ((D :: bs) ++ G)) va acc bs := ra.imp (fun _ _ z => RPs.ext pr.ext z) fun b m us h => pr b _ h
    have x3 : Ext H1 (Fo fp1) H3 (Or1 (Fo fp2) (D :: bs)) := x2.trans (pr.ext)
    refine ⟨ρ2, fp2, (D :: bs) ++ G, _, t, R3, rp.weak fun a z => Or1.app.mp z, h2, fun σ4 ρ4 fp4 R4 i4 p4 l4 h4 => ?_⟩
    have w4 : wipe σ4 vs = wipe σ vs := by
      have := wipe_eq (σ := wipe σ vs) (σ' := σ4) vs (fun j m => p4 j (by simp [m])) l4
      rw [this, wipe_wipe]
    have x4 : Ext H1 (Fo fp1) H3 (Or1 (Fo fp4) (D :: bs)) := x3.weak (fun _ z => z) fun a z => z.imp (i4 a) fun m => m
    have ra4 := ra3.weak (F' := Or1 (Fo fp4) ((D :: bs) ++ G)) fun a z => z.imp (i4 a) fun m => m
    refine ⟨w4, ρ4, fp4, (D :: bs) ++ G, fun (b : Bool) ρ => b = true ∧ tk ρ fun p ρ2 => ∃ k, p.get ρ2 = some (.pure (keyT k)) ∧ klk acc k = none ∧ compDN g tk vs r (acc ++ [(k, [])]) (wipeA ρ2 vs) (fun acc ρ2 => Qa (.val (.dcl acc)) ρ2), R4, ⟨rfl, h4⟩, fun b H5 ρ5 fp5 R5 x5 h5 => ?_⟩
    obtain ⟨hbt, h5⟩ := h5
    -- what stands of ours is kept by a step
    have kA : ∀ {H H' : Hp} {f f' : Nat → List Addr} {ρ : AEnv} {σ : St} {A : List Addr}, RS K σ H ρ f ((D :: bs) ++ G) → Ext H (Fo f) H' (Or1 (Fo f') A) → ∀ a ∈ D :: bs, ∀ u, H a = some u → H' a = some u := fun R x a m u e => x.keep a u e (R.gf a (List.mem_append_left _ m))
    have x5' : Ext H3 (Fo fp4) H5 (Or1 (Fo fp5) []) := x5.weak (fun _ z => z) fun a z => z.elim (fun q => q) fun m => (List.not_mem_nil m).elim
    have d5 := kA R4 x5' D List.mem_cons_self _ d3
    have ra5 : RDL K H5 (Or1 (Fo fp5) ((D :: bs) ++ G)) va acc bs := ra4.imp (fun _ _ z => RPs.ext (x5.addG ((D :: bs) ++ G)) z) fun b m us h => kA R4 x5' b (List.mem_cons_of_mem _ m) _ h
    have x15 : Ext H1 (Fo fp1) H5 (Or1 (Fo fp5) (D :: bs)) := x4.trans (x5.addG (D :: bs))
    cases b with
    | false => cases hbt
    | true =>
      refine iteT ⟨ρ5, fp5, (D :: bs) ++ G, _, R5, h5, fun vk pk Ak Hk ρk fpk Rk rk xk hk => ?_⟩
      obtain ⟨k, ek, hnk, hk⟩ := hk
      have hv := kvK_of (k := k) (rk.rw0 Rk ek)
      subst hv
      have dk := kA R5 xk D List.mem_cons_self _ d5
      have xk' : Ext H5 (Fo fp5) Hk (Fo fpk) := xk.or
      have rak : RDL K Hk (Or1 (Fo fpk) ((D :: bs) ++ G)) va acc bs := ra5.imp (fun _ _ z => RPs.ext (xk'.addG ((D :: bs) ++ G)) z) fun b m us h => kA R5 xk b (List.mem_cons_of_mem _ m) _ h
      have x1k : Ext H1 (Fo fp1) Hk (Or1 (Fo fpk) (D :: bs)) := x15.trans (xk'.addG (D :: bs))
      have Rk' : RS K σ4 Hk ρk fpk ((D :: bs) ++ G) := Rk.sub fun a m => List.mem_append_right _ m
      -- the list
      refine ⟨by simp, fun b hb => ⟨by simp [sizeLine_eq], fun p hp => ⟨ps.map V.ref, ?_, ?_, ?_⟩⟩⟩
      · exact Pres.upd hp D _ (Pres.upd hb D _ dk)
      · rw [List.length_map, Paired.len rps, ra.len]; omega
      -- the tuples laid earlier stand
      have kT : ∀ {q : Addr} {ys : List V}, H2 q = some (.tup ys) → Hk q = some (.tup ys) := fun e => xk.tups _ _ (x5.tups _ _ (pr _ _ e))
      have pD : p ≠ D := fun q => by rw [q, Pres.upd hb D _ dk] at hp; cases hp
      have bD : b ≠ D := fun q => by rw [q, dk] at hb; cases hb
      have bB : b ∉ bs := fun m => by obtain ⟨us, z⟩ := rak.there b m; rw [hb] at z; cases z
      have bG : b ∉ G := fun m => by obtain ⟨u, z⟩ := Rk'.gi b (List.mem_append_right _ m); rw [hb] at z; cases z
      have DB : D ∉ bs := (List.nodup_cons.mp nd).1
      have R6 : RS K σ4 (upd (upd Hk b (.lst [])) p (.tup [kV k, .ref b])) ρk fpk ([b] ++ ((D :: bs) ++ G)) := (Rk'.new (Pres.upd hb) (fun a m => by rw [List.mem_singleton.mp m]; exact hb) fun a m => ⟨.lst [], by rw [List.mem_singleton.mp m]; exact upd_same⟩).pres (Pres.upd hp)
      have p6 : Pres Hk (upd (upd Hk b (.lst [])) p (.tup [kV k, .ref b])) := (Pres.upd hb).trans (Pres.upd hp)
      have hb6 : (upd (upd Hk b (.lst [])) p (.tup [kV k, .ref b])) b = some (.lst []) := Pres.upd hp b _ upd_same
      have hp6 : (upd (upd Hk b (.lst [])) p (.tup [kV k, .ref b])) p = some (.tup [kV k, .ref b]) := upd_same
      generalize upd (upd Hk b (.lst [])) p (.tup [kV k, .ref b]) = Hp' at R6 p6 hb6 hp6 ⊢
      have R7 : RS K σ4 Hp' ρk fpk ([D] ++ ((bs ++ [b]) ++ G)) := R6.sub fun a m => by
        rcases List.mem_append.mp m with m | m
        · simp [List.mem_singleton.mp m]
        · rcases List.mem_append.mp m with m | m
          · rcases List.mem_append.mp m with m | m
            · simp [m]
            · simp [List.mem_singleton.mp m]
          · simp [m]
      have hD6 : Hp' D = some (.lst (ps.map V.ref)) := p6 D _ dk
      have nD7 : D ∉ (bs ++ [b]) ++ G := fun m => by
        rcases List.mem_append.mp m with m | m
        · rcases List.mem_append.mp m with m | m
          · exact DB m
          · exact bD (List.mem_singleton.mp m).symm
        · exact nD m
      have R8 := RS.write (u := .lst (ps.map V.ref ++ [.ref p])) R7 rfl ⟨_, hD6, trivial⟩ nD7
      have R8' : RS K σ4 (upd Hp' D (.lst (ps.map V.ref ++ [.ref p]))) ρk fpk ((D :: (bs ++ [b])) ++ G) := R8.sub fun a m => by
        rcases List.mem_append.mp m with m | m
        · rcases List.mem_cons.mp m with m | m
          · simp [m]
          · rcases List.mem_append.mp m with m | m
            · simp [m]
            · simp [List.mem_singleton.mp m]
        · simp [m]
      have ra6 : RDL K Hp' (Or1 (Fo fpk) ((D :: (bs ++ [b])) ++ G)) (va ++ [(k, .ref b)]) (acc ++ [(k, [])]) (bs ++ [b]) := by
        refine RDL.snoc hb6 .nil (rak.imp (fun _ _ z => (RPs.ext p6.ext (RPs.grow z fun a q => ?_))) fun b' m us h => p6 b' _ h)
        rcases q with q | q
        · exact .inl (.inl q)
        · simp only [List.mem_append, List.mem_cons, List.not_mem_nil, or_false, List.mem_singleton] at q
          rcases q with (q | q | q) | q
          · exact .inl (.inr (by simp [q]))
          · exact .inl (.inr (by simp [q]))
          · exact .inr (by rw [q]; exact hb)
          · exact .inl (.inr (by simp [q]))
      have ux : Ext Hp' (Or1 (Fo fpk) ((D :: (bs ++ [b])) ++ G)) (upd Hp' D (.lst (ps.map V.ref ++ [.ref p]))) (Or1 (Fo fpk) ((D :: (bs ++ [b])) ++ G)) := upd_ext hD6 trivial (.inr (by simp)) fun _ z => z
      have ra8 : RDL K (upd Hp' D (.lst (ps.map V.ref ++ [.ref p]))) (Or1 (Fo fpk) ((D :: (bs ++ [b])) ++ G)) (va ++ [(k, .ref b)]) (acc ++ [(k, [])]) (bs ++ [b]) := ra6.imp (fun _ _ z => RPs.ext ux z) fun b' m us h => by
        have ne : b' ≠ D := fun q => by
          rcases List.mem_append.mp m with m | m
          · exact DB (q ▸ m)
          · exact bD ((List.mem_singleton.mp m).symm.trans q)
        rw [upd_ne ne]; exact h
      obtain ⟨fp9, R9, i9⟩ := R8'.wipe vs
      rw [w4] at R9
      have tup9 : ∀ {q : Addr} {ys : List V}, Hp' q = some (.tup ys) → (upd Hp' D (.lst (ps.map V.ref ++ [.ref p]))) q = some (.tup ys) := fun {q ys} e => by
        have ne : q ≠ D := fun z => by rw [z, hD6] at e; cases e
        rw [upd_ne ne]; exact e
      refine ⟨_, fp9, va ++ [(k, .ref b)], _, bs ++ [b], ps ++ [p], R9, by rw [upd_same, List.map_append]; rfl, Paired.app (Paired.mapP rps fun _ _ z => tup9 (p6 _ _ (kT z))) (.cons (tup9 hp6) .nil), merge_snoc hmg (ra.none hnk), ra8.weak fun a z => z.imp (i9 a) fun m => m, ?_, fun b' m => ?_, by rw [List.length_append, List.length_singleton]; omega, ?_, hk⟩
      · refine List.nodup_cons.mpr ⟨fun m => ?_, List.nodup_append.mpr ⟨(List.nodup_cons.mp nd).2, by simp, fun a ha c hc => ?_⟩⟩
        · rcases List.mem_append.mp m with m | m
          · exact DB m
          · exact bD (List.mem_singleton.mp m).symm
        · rw [List.mem_singleton.mp hc]; exact fun q => bB (q ▸ ha)
      · rcases List.mem_append.mp m with m | m
        · exact nG b' m
        · rw [List.mem_singleton.mp m]; exact bG
      · have xa : Ext Hk (Or1 (Fo fpk) (D :: bs)) Hp' (Or1 (Fo fpk) (D :: (bs ++ [b]))) := by
          refine (p6.extA (F := Or1 (Fo fpk) (D :: bs)) (A := [b]) fun a m => by rw [List.mem_singleton.mp m]; exact hb).weak (fun _ z => z) fun a z => ?_
          rcases z with z | z
          · exact .inl (.inl z)
          · simp only [List.mem_append, List.mem_cons, List.not_mem_nil, or_false, List.mem_singleton] at z
            rcases z with z | z | z
            · exact .inl (.inr (by simp [z]))
            · exact .inl (.inr (by simp [z]))
            · exact .inr (by simp [z])
        have xb : Ext Hp' (Or1 (Fo fpk) (D :: (bs ++ [b]))) (upd Hp' D (.lst (ps.map V.ref ++ [.ref p]))) (Or1 (Fo fp9) (D :: (bs ++ [b]))) := upd_ext hD6 trivial (.inr List.mem_cons_self) fun a z => z.imp (i9 a) fun m => m
        exact (x1k.trans xa).trans xb
section
variable {X : Cx} {kx tg iter : Expr} {scope : Scope} {own : List (Str × Nat)} {pos lpos tpos cpos dpos : Pos} {ti : IT} {g : GT} {tk : XT} {kk : Nat} {x : Str}
theorem ex_dictN (hc : X.calm = true) (hN : X.N.Nodup) (hG : Gl X x) (hm : X.mg x = none) (hv : bootBuiltins x = some (.type "dict")) (hi : IX X tg iter ti) (ok : BlkOk X.N X.env.scope scope own)
    (hg : ∀ (s : Shared) (H : Hp) (C : Addr) (cl : List (Str × Addr)) (fp : List Addr), GX (X.blk s H scope (compEnvC scope cl C X.env) fp) (fun j => !(own.map (·.2)).contains j) tg g)
    (hk : ∀ (s : Shared) (H : Hp) (C : Addr) (cl : List (Str × Addr)) (fp : List Addr), EX (X.blk s H scope (compEnvC scope cl C X.env) fp) kx tk)
    (hst : ∀ (s : Shared) (H : Hp) (C : Addr) (cl : List (Str × Addr)) (fp : List Addr), starEach [kx, .List [] lpos] (compEnvC scope cl C X.env) = (false, eval kx (compEnvC scope cl C X.env)) :: starEach [.List [] lpos] (compEnvC scope cl C X.env) := by intros; rfl)
    (hs : ∀ x, foldedSetIterable iter X.env x = pure x := by intro _; rfl) (hn : x ≠ "__name__" := by decide) (hdb : (x == ("__debug__" : Str)) = false := by decide)
    (hs1 : starEach [.ListComp (.Tuple [kx, .List [] lpos] kk tpos) [⟨tg, iter, [], 0⟩] scope pos] X.env = (false, eval (.ListComp (.Tuple [kx, .List [] lpos] kk tpos) [⟨tg, iter, [], 0⟩] scope pos) X.env) :: starEach [] X.env := by rfl)
    (hpl : (backTo cpos (starEach [] X.env)).any (·.1) = false := by rfl) :
    EX X (.Call (.Name x dpos) [.ListComp (.Tuple [kx, .List [] lpos] kk tpos) [⟨tg, iter, [], 0⟩] scope pos] [] cpos) (tCompN ti g tk (own.map (·.2))) := by
  refine ⟨PE.imp (pe_callTy (call_dictP hc) hG hm hv (pa_cons (pe_lc (te := tTup (tCons (LX X.K tk) (tCons (tLst tNil) tNil))) (tt := LT X.K bYes) (g := LG X.K _ g) hc hN hi.pi ok (fun s H C cl fp => (hg s H C cl fp).pg) (fun s H C cl fp => bxs_nil.pts)
    (fun s H C cl fp => pe_tup (pa_cons (hk s H C cl fp).pe (pa_cons (pe_lst pa_nil) pa_nil (by rfl)) (hst s H C cl fp))) hs) pa_nil hs1) hn hdb hs1 hpl) ?_⟩
  intro σ H Q h
  exact lcn_go h
end
end DL

set_option Elab.async false
set_option linter.all false
set_option maxRecDepth 100000
set_option maxHeartbeats 4000000
/-! THE DATA LAYER, part 25: list comprehensions with two for's. -/
namespace DL
open PySem PySem.Spec L2
open PyProof.Rows hiding St
/-- what is walked within: a range, a tuple -/
def LI2 (K : PySem.W.Frag) (ti : IT) : TI := fun σ H R => ∃ ρ fp G Qa, RS K σ H ρ fp G ∧ ti ρ Qa ∧
  ∀ ts J H' ρ' fp', RS K σ H' ρ' fp' G → JOk K J ts H' (Or1 (Fo fp') G) [] → ts.length ≤ sizeLine → Ext H (Fo fp) H' (Fo fp') → Qa ts ρ' → R J H'
structure IX2 (X : Cx) (tg iter : Expr) (ti : IT) : Prop where
  pi : PI X tg iter (LI2 X.K ti)
section
variable {X : Cx} {tg : Expr}
theorem ix2_range2 {a b : Expr} {ts : XTs} {p pos : Pos} (hg : Gl X "range") (hm : X.mg "range" = none) (ha : EXs X [a, b] ts) (hs : starEach [a, b] X.env = [(false, eval a X.env), (false, eval b X.env)] := by rfl) (hs2 : starEach [b] X.env = [(false, eval b X.env)] := by rfl) :
    IX2 X tg (.Call (.Name "range" p) [a, b] [] pos) (tRange ts) := by
  refine ⟨PI.imp (pi_range2 hg hm ha.pa hs hs2) ?_⟩
  rintro σ H R ⟨ρ, fp, G, Qa, R0, h, fin⟩
  refine ⟨ρ, fp, G, _, R0, h, fun vs ps A H1 ρ1 fp1 hl R1 r1 nd1 ng1 x1 h1 => ?_⟩
  unfold intsOf at h1
  split at h1
  · rename_i i e
    have q := getAll_rw R1 r1 e
    have := Paired.len q
    simp at hl this; omega
  · rename_i i j e
    obtain ⟨h1, h3⟩ := h1
    have q := getAll_rw R1 r1 e
    cases q with
    | cons q q2 =>
      cases q2 with
      | cons q3 q4 =>
        cases q4
        exact ⟨i, j, by rw [RP.intE q, RP.intE q3], ⟨by omega, by omega, by omega, by omega⟩, fin _ _ H1 ρ1 fp1 (R1.sub fun a m => List.mem_append_right _ m) (jok_range i (j - i).toNat) (by unfold rngItems; simp; rw [sizeLine_eq]; omega) x1.or h3⟩
  · exact h1.elim
def tIterT (te : XT) : IT := fun ρ Q => te ρ fun p ρ1 => take1 p ρ1 fun t ρ2 => match t with
  | .tuple ts => Q ts ρ2
  | _ => False
theorem ix2_tup {l : Expr} {te : XT} (h : EX X l te) : IX2 X tg l (tIterT te) := by
  refine ⟨PI.imp (pi_any h.pe) ?_⟩
  rintro σ H R ⟨ρ, fp, G, Qa, R0, h, fin⟩
  refine ⟨ρ, fp, G, _, R0, h, fun v p A H1 ρ1 fp1 R1 r1 x1 h1 => ?_⟩
  obtain ⟨y, ρ2, fp2, R2, r2, i2, h2⟩ := take1_ok R1 r1 h1
  have x2 : Ext H (Fo fp) H1 (Fo fp2) := x1.or.weak (fun _ z => z) i2
  cases y with
  | tuple ts =>
    obtain ⟨a, vs, rfl, sl, rp⟩ := r2.tupE
    refine .inr (.inl ⟨a, rfl, ⟨vs, sl⟩, fun hz => fin ts _ H1 ρ2 fp2 R2 (jok_tup sl (RPs.weak rp fun a z => Or1.nil a z)) (by rw [← Paired.len rp]; exact hz _ sl) x2 h2⟩)
  | _ => exact h2.elim
end

/-- the walk within: the list at D grows -/
theorem lc_inner {K : PySem.W.Frag} {J : It} {ts : List T} {g : GT} {tt : BT} {te : XT} {vs : List Nat} {σ : St} {H1 : Hp} {D : Addr} {G : List Addr} {ρ1 : AEnv} {fpJ fp1 : Nat → List Addr} {va0 : List V} {acc0 : List T} {Qc : List T → AEnv → Prop} {Nx : Hp → Prop}
    (nD : D ∉ G) (hw : wipe σ vs = σ) (R1 : RS K σ H1 ρ1 fp1 ([D] ++ G)) (d1 : H1 D = some (.lst va0)) (ra1 : RPs K H1 (Or1 (Fo fp1) ([D] ++ G)) va0 acc0) (iJ : ∀ a, Fo fp1 a → Fo fpJ a) (j1 : JOk K J ts H1 (Or1 (Fo fpJ) ([D] ++ G)) [])
    (hb : acc0.length + ts.length ≤ 16777216) (h : compW g tt te vs ts acc0 ρ1 Qc)
    (fin : ∀ ρ' fp' H' va acc, RS K σ H' ρ' fp' ([D] ++ G) → H' D = some (.lst va) → RPs K H' (Or1 (Fo fp') ([D] ++ G)) va acc → Ext H1 (Or1 (Fo fp1) [D]) H' (Or1 (Fo fp') [D]) → Qc acc ρ' → Nx H') :
    ∃ W : Nat → Nat → Hp → Prop, (∃ m, W 0 m H1) ∧ ∀ i m H, W i m H →
      (J.stop i H ∧ Nx H) ∨ (J.go i H ∧ ∃ Nx1 : Hp → Prop, (∀ H', Nx1 H' → ∃ m', m' < m ∧ W (i + 1) m' H') ∧ ∀ x H', J.yld i H x H' → LG K (fun j => !vs.contains j) g x σ H' fun σ2 H2 => wipe σ2 vs = σ ∧ LT K tt σ2 H2 fun b H3 =>
        if b = true then LX K te σ2 H3 fun y H4 => ∃ acc, H4 D = some (.lst acc) ∧ acc.length < sizeLine ∧ Nx1 (upd H4 D (.lst (acc ++ [y]))) else Nx1 H3) := by
  have xG : ∀ {H H' : Hp} {f f' : Nat → List Addr}, Ext H (Or1 (Fo f) [D]) H' (Or1 (Fo f') [D]) → Ext H (Or1 (Fo f) ([D] ++ G)) H' (Or1 (Fo f') ([D] ++ G)) := fun x => (x.addG G).weak (fun a z => Or1.app.mpr z) fun a z => Or1.app.mp z
  refine ⟨fun i m H' => ∃ ρ' fp' va acc, m = ts.length - i ∧ i ≤ ts.length ∧ RS K σ H' ρ' fp' ([D] ++ G) ∧ H' D = some (.lst va) ∧ RPs K H' (Or1 (Fo fp') ([D] ++ G)) va acc ∧ acc.length ≤ acc0.length + i ∧ Ext H1 (Or1 (Fo fp1) [D]) H' (Or1 (Fo fp') [D]) ∧
    compW g tt te vs (ts.drop i) acc ρ' Qc, ⟨_, ρ1, fp1, va0, acc0, rfl, Nat.zero_le _, R1, d1, ra1, Nat.le_refl _, Ext.refl, h⟩, ?_⟩
  rintro i m H2 ⟨ρ2, fp2, va, acc, rfl, hi, R2, hD2, ra, la, x2, h2⟩
  obtain ⟨j2, stop⟩ := j1 H2 (Or1 (Fo fp2) ([D] ++ G)) ((xG x2).weak (fun a z => z.imp (iJ a) fun m => m) fun _ z => z)
  cases hd : ts.drop i with
  | nil =>
    have e : i = ts.length := by
      have := congrArg List.length hd
      simp at this; omega
    subst e
    rw [hd] at h2
    exact .inl ⟨stop, fin ρ2 fp2 H2 va acc R2 hD2 ra x2 h2⟩
  | cons t r =>
    obtain ⟨e1, e2, e3⟩ := drop_at hd
    rw [hd] at h2
    obtain ⟨go, yl⟩ := j2 i t e1
    refine .inr ⟨go, fun H3 => ∃ ρ3 fp3 va acc, RS K σ H3 ρ3 fp3 ([D] ++ G) ∧ H3 D = some (.lst va) ∧ RPs K H3 (Or1 (Fo fp3) ([D] ++ G)) va acc ∧ acc.length ≤ acc0.length + (i + 1) ∧ Ext H1 (Or1 (Fo fp1) [D]) H3 (Or1 (Fo fp3) [D]) ∧ compW g tt te vs r acc ρ3 Qc,
      fun H3 ⟨ρ3, fp3, va, acc, R3, d3, r3, l3, x3, h3⟩ => ⟨_, by omega, ρ3, fp3, va, acc, rfl, e3, R3, d3, r3, l3, x3, by rw [e2]; exact h3⟩, fun x H3 y => ?_⟩
    obtain ⟨pr, rp⟩ := yl x H3 y
    have R3 := R2.pres pr
    have d3 := pr D _ hD2
    have ra3 := RPs.ext (F := Or1 (Fo fp2) ([D] ++ G)) pr.ext ra
    have x3 : Ext H1 (Or1 (Fo fp1) [D]) H3 (Or1 (Fo fp2) [D]) := x2.trans (pr.ext)
    refine ⟨ρ2, fp2, [D] ++ G, _, t, R3, rp.weak fun a z => .inl z, h2, fun σ4 ρ4 fp4 R4 i4 p4 l4 h4 => ?_⟩
    have w4 : wipe σ4 vs = σ := by
      have := wipe_eq (σ := σ) (σ' := σ4) vs (fun j m => p4 j (by simp [m])) l4
      rw [this, hw]
    have x4 : Ext H1 (Or1 (Fo fp1) [D]) H3 (Or1 (Fo fp4) [D]) := x3.weak (fun _ z => z) fun a z => z.imp (i4 a) fun m => m
    refine ⟨w4, ρ4, fp4, [D] ++ G, _, R4, h4, fun b H5 ρ5 fp5 R5 x5 h5 => ?_⟩
    have kD : ∀ {H H' : Hp} {f f' : Nat → List Addr} {ρ : AEnv} {σ : St} {A : List Addr}, RS K σ H ρ f ([D] ++ G) → Ext H (Fo f) H' (Or1 (Fo f') A) → ∀ u, H D = some u → H' D = some u := fun R x u e => x.keep D u e (R.gf D (List.mem_append_left _ (List.mem_singleton.mpr rfl)))
    have d5 := kD (A := []) R4 (x5.weak (fun _ z => z) fun a z => z.elim (fun q => q) fun m => (List.not_mem_nil m).elim) _ d3
    have ra5 : RPs K H5 (Or1 (Fo fp5) ([D] ++ G)) va acc := RPs.ext (x5.addG ([D] ++ G)) (RPs.weak ra3 fun a z => z.imp (i4 a) fun m => m)
    have x15 : Ext H1 (Or1 (Fo fp1) [D]) H5 (Or1 (Fo fp5) [D]) := x4.trans (x5.addG [D])
    cases b with
    | false =>
      obtain ⟨fp6, R6, i6⟩ := R5.wipe vs
      rw [w4] at R6
      exact iteF ⟨_, fp6, va, acc, R6, d5, RPs.weak ra5 fun a z => z.imp (i6 a) fun m => m, by omega, x15.weak (fun _ z => z) fun a z => z.imp (i6 a) fun m => m, by simpa using h5⟩
    | true =>
      refine iteT ⟨ρ5, fp5, [D] ++ G, _, R5, (by simpa using h5), fun v p A H6 ρ6 fp6 R6 r6 x6 h6 => ?_⟩
      obtain ⟨yt, ρ7, fp7, R7, r7, i7, h7⟩ := take1_ok R6 r6 h6
      have d6 := kD R5 x6 _ d5
      have x6' : Ext H5 (Fo fp5) H6 (Fo fp7) := x6.or.weak (fun _ z => z) i7
      have ra6 : RPs K H6 (Or1 (Fo fp7) ([D] ++ G)) va acc := RPs.ext (x6'.addG ([D] ++ G)) ra5
      have x16 : Ext H1 (Or1 (Fo fp1) [D]) H6 (Or1 (Fo fp7) [D]) := x15.trans (x6'.addG [D])
      refine ⟨va, d6, by rw [Paired.len ra6, sizeLine_eq]; omega, ?_⟩
      have R8 : RS K σ4 (upd H6 D (.lst (va ++ [v]))) ρ7 fp7 ([D] ++ G) := RS.write R7 rfl ⟨_, d6, trivial⟩ nD
      have ux : Ext H6 (Or1 (Fo fp7) ([D] ++ G)) (upd H6 D (.lst (va ++ [v]))) (Or1 (Fo fp7) ([D] ++ G)) := upd_ext d6 trivial (.inr (List.mem_append_left _ (List.mem_singleton.mpr rfl))) fun _ z => z
      obtain ⟨fp9, R9, i9⟩ := R8.wipe vs
      rw [w4] at R9
      refine ⟨_, fp9, va ++ [v], acc ++ [yt], R9, upd_same, RPs.weak (RPs.ext ux (Paired.app ra6 (.cons r7 .nil))) fun a z => z.imp (i9 a) fun m => m, by simp; omega, ?_, h7⟩
      exact x16.trans (upd_ext d6 trivial (.inr (List.mem_singleton.mpr rfl)) fun a z => z.imp (i9 a) fun m => m)
def compW2 (g : GT) (tt : BT) (ti1 : IT) (g1 : GT) (tt1 : BT) (te : XT) (vs vs1 : List Nat) : List T → List T → AEnv → (List T → AEnv → Prop) → Prop
  | [], acc, ρ, Q => Q acc ρ
  | t :: ts, acc, ρ, Q => g t ρ fun ρ1 => tt ρ1 fun b ρ2 => if b = true then ti1 ρ2 fun us ρ3 => acc.length + us.length ≤ 16777216 ∧ compW g1 tt1 te vs1 us acc (wipeA ρ3 vs1) fun acc' ρ4 => compW2 g tt ti1 g1 tt1 te vs vs1 ts acc' (wipeA ρ4 vs) Q
      else compW2 g tt ti1 g1 tt1 te vs vs1 ts acc (wipeA ρ2 vs) Q
def tComp2 (ti : IT) (g : GT) (tt : BT) (ti1 : IT) (g1 : GT) (tt1 : BT) (te : XT) (vs vs1 : List Nat) : XT := fun ρ Q => ti ρ fun ts ρ1 => compW2 g tt ti1 g1 tt1 te vs vs1 ts [] (wipeA ρ1 vs) fun acc ρ2 => Q (.val (.lst acc)) ρ2
theorem lc2_go {K : PySem.W.Frag} {ti : IT} {g : GT} {tt : BT} {ti1 : IT} {g1 : GT} {tt1 : BT} {te : XT} {vs vs1 : List Nat} {σ : St} {H : Hp} {Q : VK} (hv : ∀ i ∈ vs1, i ∈ vs) (h : LX K (tComp2 ti g tt ti1 g1 tt1 te vs vs1) σ H Q) : tLc2 (LI K ti) (LG K (fun j => !vs.contains j) g) (LT K tt) (LI2 K ti1) (LG K (fun j => !vs1.contains j) g1) (LT K tt1) (LX K te) vs vs1 σ H Q := by
  obtain ⟨ρ, fp, G, Qa, R, h, fin⟩ := h
  refine ⟨ρ, fp, G, _, R, h, fun ts J H1 ρ1 fp1 R1 j1 hsz x1 h1 => ?_⟩
  intro D hD
  have nD : D ∉ G := fun m => by obtain ⟨u, e⟩ := R1.gi D m; rw [hD] at e; cases e
  obtain ⟨fp0, R0, i0⟩ := R1.wipe vs
  have R0' : RS K (wipe σ vs) (upd H1 D (.lst [])) (wipeA ρ1 vs) fp0 ([D] ++ G) := R0.new (Pres.upd hD) (fun a m => by rw [List.mem_singleton.mp m]; exact hD) fun a m => ⟨.lst [], by rw [List.mem_singleton.mp m]; exact upd_same⟩
  have x0 : Ext H1 (Fo fp1) (upd H1 D (.lst [])) (Or1 (Fo fp0) [D]) := ((Pres.upd hD).extA (F := Fo fp1) (A := [D]) fun a m => by rw [List.mem_singleton.mp m]; exact hD).weak (fun _ z => z) fun a z => z.imp (i0 a) fun m => m
  refine ⟨fun i m H' => ∃ ρ' fp' va acc, m = ts.length - i ∧ i ≤ ts.length ∧ RS K (wipe σ vs) H' ρ' fp' ([D] ++ G) ∧ H' D = some (.lst va) ∧ RPs K H' (Or1 (Fo fp') ([D] ++ G)) va acc ∧ Ext H1 (Fo fp1) H' (Or1 (Fo fp') [D]) ∧
    compW2 g tt ti1 g1 tt1 te vs vs1 (ts.drop i) acc ρ' (fun acc ρ2 => Qa (.val (.lst acc)) ρ2), ⟨_, _, fp0, [], [], rfl, Nat.zero_le _, R0', upd_same, .nil, x0, h1⟩, ?_⟩
  rintro i m H2 ⟨ρ2, fp2, va, acc, rfl, hi, R2, hD2, ra, x2, h2⟩
  obtain ⟨j2, stop⟩ := j1 H2 _ x2
  cases hd : ts.drop i with
  | nil =>
    have e : i = ts.length := by
      have := congrArg List.length hd
      simp at this; omega
    subst e
    rw [hd] at h2
    refine .inl ⟨stop, fin (.ref D) (.val (.lst acc)) [D] H2 ρ2 fp2 R2.unwipe ⟨⟨D, va, rfl, rfl, hD2, ra⟩, by simp, fun a m => by rw [List.mem_singleton.mp m]; exact nD⟩ (x1.trans x2) h2⟩
  | cons t r =>
    obtain ⟨e1, e2, e3⟩ := drop_at hd
    rw [hd] at h2
    obtain ⟨go, yl⟩ := j2 i t e1
    -- what a turn reaches
    refine .inr ⟨go, fun H3 => ∃ ρ3 fp3 va acc, RS K (wipe σ vs) H3 ρ3 fp3 ([D] ++ G) ∧ H3 D = some (.lst va) ∧ RPs K H3 (Or1 (Fo fp3) ([D] ++ G)) va acc ∧ Ext H1 (Fo fp1) H3 (Or1 (Fo fp3) [D]) ∧ compW2 g tt ti1 g1 tt1 te vs vs1 r acc ρ3 (fun acc ρ2 => Qa (.val (.lst acc)) ρ2),
      fun H3 ⟨ρ3, fp3, va, acc, R3, d3, r3, x3, h3⟩ => ⟨_, by omega, ρ3, fp3, va, acc, rfl, e3, R3, d3, r3, x3, by rw [e2]; exact h3⟩, fun x H3 y => ?_⟩
    obtain ⟨pr, rp⟩ := yl x H3 y
    have R3 := R2.pres pr
    have d3 := pr D _ hD2
    have ra3 := RPs.ext (F := Or1 (Fo fp2) ([D] ++ G)) pr.ext ra
    have x3 : Ext H1 (Fo fp1) H3 (Or1 (Fo fp2) [D]) := x2.trans (pr.ext)
    refine ⟨ρ2, fp2, [D] ++ G, _, t, R3, rp.weak fun a z => Or1.app.mp z, h2, fun σ4 ρ4 fp4 R4 i4 p4 l4 h4 => ?_⟩
    have w4 : wipe σ4 vs = wipe σ vs := by
      have := wipe_eq (σ := wipe σ vs) (σ' := σ4) vs (fun j m => p4 j (by simp [m])) l4
      rw [this, wipe_wipe]
    have x4 : Ext H1 (Fo fp1) H3 (Or1 (Fo fp4) [D]) := x3.weak (fun _ z => z) fun a z => z.imp (i4 a) fun m => m
    refine ⟨w4, ρ4, fp4, [D] ++ G, _, R4, h4, fun b H5 ρ5 fp5 R5 x5 h5 => ?_⟩
    have kD : ∀ {H H' : Hp} {f f' : Nat → List Addr} {ρ : AEnv} {σ : St} {A : List Addr}, RS K σ H ρ f ([D] ++ G) → Ext H (Fo f) H' (Or1 (Fo f') A) → ∀ u, H D = some u → H' D = some u := fun R x u e => x.keep D u e (R.gf D (List.mem_append_left _ (List.mem_singleton.mpr rfl)))
    have d5 := kD (A := []) R4 (x5.weak (fun _ z => z) fun a z => z.elim (fun q => q) fun m => (List.not_mem_nil m).elim) _ d3
    have ra5 : RPs K H5 (Or1 (Fo fp5) ([D] ++ G)) va acc := RPs.ext (x5.addG ([D] ++ G)) (RPs.weak ra3 fun a z => z.imp (i4 a) fun m => m)
    have x15 : Ext H1 (Fo fp1) H5 (Or1 (Fo fp5) [D]) := x4.trans (x5.addG [D])
    cases b with
    | false =>
      obtain ⟨fp6, R6, i6⟩ := R5.wipe vs
      rw [w4] at R6
      exact iteF ⟨_, fp6, va, acc, R6, d5, RPs.weak ra5 fun a z => z.imp (i6 a) fun m => m, x15.weak (fun _ z => z) fun a z => z.imp (i6 a) fun m => m, by simpa using h5⟩
    | true =>
      refine iteT ⟨ρ5, fp5, [D] ++ G, _, R5, (by simpa using h5), fun us J1 H6 ρ6 fp6 R6 j6 hsz6 x6 h6 => ?_⟩
      obtain ⟨hb6, h6⟩ := h6
      have d6 := kD (A := []) R5 (x6.weak (fun _ z => z) fun a z => z.elim (fun q => q) fun m => (List.not_mem_nil m).elim) _ d5
      have ra6 : RPs K H6 (Or1 (Fo fp6) ([D] ++ G)) va acc := RPs.ext (x6.addG ([D] ++ G)) ra5
      have x16 : Ext H1 (Fo fp1) H6 (Or1 (Fo fp6) [D]) := x15.trans (x6.addG [D])
      obtain ⟨fp7, R7, i7⟩ := R6.wipe vs1
      refine lc_inner nD (wipe_wipe vs1) R7 d6 (RPs.weak ra6 fun a z => z.imp (i7 a) fun m => m) i7 j6 hb6 h6 fun ρ8 fp8 H8 va8 acc8 R8 d8 ra8 x8 h8 => ?_
      obtain ⟨fp9, R9, i9⟩ := R8.wipe vs
      have w9 : wipe (wipe σ4 vs1) vs = wipe σ vs := by
        rw [← w4]
        exact wipe_eq vs (fun j m => wipe_out fun z => m (hv j z)) (wipe_length _ _)
      rw [w9] at R9
      exact ⟨_, fp9, va8, acc8, R9, d8, RPs.weak ra8 fun a z => z.imp (i9 a) fun m => m, ((x16.weak (fun _ z => z) fun a z => z.imp (i7 a) fun m => m).trans x8).weak (fun _ z => z) fun a z => z.imp (i9 a) fun m => m, h8⟩
section
variable {X : Cx} {elt tg iter tg1 iter1 : Expr} {ifs ifs1 : List Expr} {scope : Scope} {own : List (Str × Nat)} {pos : Pos} {ti ti1 : IT} {g g1 : GT} {tt tt1 : BT} {te : XT}
theorem ex_lc2 (vs1 : List Nat) (hc : X.calm = true) (hN : X.N.Nodup) (hi : IX X tg iter ti) (ok : BlkOk X.N X.env.scope scope own) (hv : ∀ i ∈ vs1, i ∈ own.map (·.2))
    (hg : ∀ (s : Shared) (H : Hp) (C : Addr) (cl : List (Str × Addr)) (fp : List Addr), GX (X.blk s H scope (compEnvC scope cl C X.env) fp) (fun j => !(own.map (·.2)).contains j) tg g)
    (ht : ∀ (s : Shared) (H : Hp) (C : Addr) (cl : List (Str × Addr)) (fp : List Addr), BXs (X.blk s H scope (compEnvC scope cl C X.env) fp) ifs tt)
    (hi1 : ∀ (s : Shared) (H : Hp) (C : Addr) (cl : List (Str × Addr)) (fp : List Addr), IX2 (X.blk s H scope (compEnvC scope cl C X.env) fp) tg1 iter1 ti1)
    (hg1 : ∀ (s : Shared) (H : Hp) (C : Addr) (cl : List (Str × Addr)) (fp : List Addr), GX (X.blk s H scope (compEnvC scope cl C X.env) fp) (fun j => !vs1.contains j) tg1 g1)
    (ht1 : ∀ (s : Shared) (H : Hp) (C : Addr) (cl : List (Str × Addr)) (fp : List Addr), BXs (X.blk s H scope (compEnvC scope cl C X.env) fp) ifs1 tt1)
    (he : ∀ (s : Shared) (H : Hp) (C : Addr) (cl : List (Str × Addr)) (fp : List Addr), EX (X.blk s H scope (compEnvC scope cl C X.env) fp) elt te) (hs : ∀ x, foldedSetIterable iter X.env x = pure x := by intro _; rfl) (hs1 : ∀ env x, foldedSetIterable iter1 env x = pure x := by intro _ _; rfl) :
    EX X (.ListComp elt [⟨tg, iter, ifs, 0⟩, ⟨tg1, iter1, ifs1, 0⟩] scope pos) (tComp2 ti g tt ti1 g1 tt1 te (own.map (·.2)) vs1) :=
  ⟨PE.imp (pe_lc2 (wi1 := LI2 X.K ti1) (te := LX X.K te) (tt := LT X.K tt) (g := LG X.K _ g) (tt1 := LT X.K tt1) (g1 := LG X.K _ g1) hc hN hi.pi ok hv (fun s H C cl fp => (hg s H C cl fp).pg) (fun s H C cl fp => (ht s H C cl fp).pts) (fun s H C cl fp => (hi1 s H C cl fp).pi)
    (fun s H C cl fp => (hg1 s H C cl fp).pg) (fun s H C cl fp => (ht1 s H C cl fp).pts) (fun s H C cl fp => (he s H C cl fp).pe) hs hs1) fun _ _ _ h => lc2_go hv h⟩
theorem sx_setLc2 {P : Nat → Bool} {y : Str} {py spos : Pos} (i : Nat) (vs1 : List Nat) (hc : X.calm = true) (hN : X.N.Nodup) (hy : X.N[i]? = some y) (hyl : X.env.scope.names.lookup y = some .local)
    (hsw : swapsWith (.ListComp elt [⟨tg, iter, ifs, 0⟩, ⟨tg1, iter1, ifs1, 0⟩] scope pos) (some (.Name y py)) spos.line X.env = pure true) (hi : IX X tg iter ti) (ok : BlkOk X.N X.env.scope scope own) (hv : ∀ i ∈ vs1, i ∈ own.map (·.2))
    (hg : ∀ (s : Shared) (H : Hp) (C : Addr) (cl : List (Str × Addr)) (fp : List Addr), GX (X.blk s H scope (compEnvC scope cl C X.env) fp) (fun j => !(own.map (·.2)).contains j) tg g)
    (ht : ∀ (s : Shared) (H : Hp) (C : Addr) (cl : List (Str × Addr)) (fp : List Addr), BXs (X.blk s H scope (compEnvC scope cl C X.env) fp) ifs tt)
    (hi1 : ∀ (s : Shared) (H : Hp) (C : Addr) (cl : List (Str × Addr)) (fp : List Addr), IX2 (X.blk s H scope (compEnvC scope cl C X.env) fp) tg1 iter1 ti1)
    (hg1 : ∀ (s : Shared) (H : Hp) (C : Addr) (cl : List (Str × Addr)) (fp : List Addr), GX (X.blk s H scope (compEnvC scope cl C X.env) fp) (fun j => !vs1.contains j) tg1 g1)
    (ht1 : ∀ (s : Shared) (H : Hp) (C : Addr) (cl : List (Str × Addr)) (fp : List Addr), BXs (X.blk s H scope (compEnvC scope cl C X.env) fp) ifs1 tt1)
    (he : ∀ (s : Shared) (H : Hp) (C : Addr) (cl : List (Str × Addr)) (fp : List Addr), EX (X.blk s H scope (compEnvC scope cl C X.env) fp) elt te) (hp : P i = false := by rfl) (hs : ∀ x, foldedSetIterable iter X.env x = pure x := by intro _; rfl) (hs1 : ∀ env x, foldedSetIterable iter1 env x = pure x := by intro _ _; rfl) :
    SX X P (.Assign [.Name y py] (.ListComp elt [⟨tg, iter, ifs, 0⟩, ⟨tg1, iter1, ifs1, 0⟩] scope pos) spos) (sSet i (tComp2 ti g tt ti1 g1 tt1 te (own.map (·.2)) vs1)) := by
  refine ⟨PS.imp (ps_setLc2 (wi1 := LI2 X.K ti1) (te := LX X.K te) (tt := LT X.K tt) (g := LG X.K _ g) (tt1 := LT X.K tt1) (g1 := LG X.K _ g1) hc hN hy hyl hsw hi.pi ok hv (fun s H C cl fp => (hg s H C cl fp).pg) (fun s H C cl fp => (ht s H C cl fp).pts) (fun s H C cl fp => (hi1 s H C cl fp).pi)
    (fun s H C cl fp => (hg1 s H C cl fp).pg) (fun s H C cl fp => (ht1 s H C cl fp).pts) (fun s H C cl fp => (he s H C cl fp).pe) hs hs1) fun D σ H h => ?_⟩
  have := set_go hp h
  exact lc2_go hv this
end
end DL

set_option Elab.async false
set_option linter.all false
set_option maxRecDepth 100000
set_option maxHeartbeats 4000000
/-! THE DATA LAYER, part 26: is True, is False; the new transformers, said by what is known. -/
namespace DL
open PySem PySem.Spec L2
open PyProof.Rows hiding St
theorem hu1 {n : Nat} (h : n + 200 < cLine) : n + 1 < cLine := by omega
def gIsB (neg : Bool) : G2 := fun x y Q => match x, y with
  | .pure (.bool a), .pure (.bool b) => Q (.pure (.bool (neg ^^ decide (a = b))))
  | _, _ => False
theorem opA_isB {X : Cx} : OpA X (compareOp .Is) (gIsB false) := OpA.mk fun pins s σ H F v u x y a b Q Qa I rx ry hx hy h fin => by
  unfold gIsB at h
  split at h
  · have e1 := RP.boolE hx; have e2 := RP.boolE hy; subst e1 e2
    exact op_is_bl pins s σ H _ _ _ _ Q I rx ry ⟨_, _, rfl, rfl, fin.bl (by simpa using h)⟩
  · exact h.elim
theorem opA_isNotB {X : Cx} : OpA X (compareOp .IsNot) (gIsB true) := OpA.mk fun pins s σ H F v u x y a b Q Qa I rx ry hx hy h fin => by
  unfold gIsB at h
  split at h
  · have e1 := RP.boolE hx; have e2 := RP.boolE hy; subst e1 e2
    exact op_isnot_bl pins s σ H _ _ _ _ Q I rx ry ⟨_, _, rfl, rfl, fin.bl (by simpa using h)⟩
  · exact h.elim
theorem frz_dct (l : List (Key × T)) : O.frz (.dct l) = dctT l := rfl
theorem gIxD_ok {x : O} {t y : T} {l : List (Key × T)} {k : Key} {Q : O → Prop} (h1 : dcX x = some l) (h2 : keyOf t = some k) (h3 : klook l k = some y) (h : Q (.pure y)) : gIxD x (.pure t) Q := by
  unfold gIxD; rw [h1]; dsimp only; rw [h2]; dsimp only; rw [h3]; exact h
theorem gDictL_ok {o : O} {ts : List T} {l : List (Key × T)} {Q : O → Prop} (h1 : lsO o = some ts) (h2 : pairsT ts = some l) (h : Q (.dct (kmerge [] l))) : gDictL [o] Q := by
  unfold gDictL; dsimp only; rw [h1]; dsimp only; rw [h2]; exact h
theorem dcX_dctT (l : List (Key × T)) : dcX (.pure (dctT l)) = some l := keysT_map l
/-- entries under different keys, put in one after another -/
theorem kput_new {l : List (Key × T)} {k : Key} {t : T} (h : ∀ p ∈ l, p.1 ≠ k) : kput l k t = l ++ [(k, t)] := by
  unfold kput
  rw [if_neg]
  intro q
  obtain ⟨p, hp, e⟩ := List.any_eq_true.mp q
  exact h p hp (of_decide_eq_true e)
theorem kmerge_nodup : ∀ (m l : List (Key × T)), ((l ++ m).map (·.1)).Nodup → kmerge l m = l ++ m
  | [], l, _ => by simp [kmerge]
  | p :: m, l, h => by
    have hn : ∀ q ∈ l, q.1 ≠ p.1 := fun q hq e => by
      rw [List.map_append, List.map_cons] at h
      exact (List.nodup_append.mp h).2.2 _ (List.mem_map_of_mem hq) _ List.mem_cons_self e
    have := kmerge_nodup m (l ++ [p]) (by simpa using h)
    unfold kmerge at this ⊢
    rw [List.foldl_cons, kput_new hn, this]
    simp
theorem klook_map {α : Type} {f : α → Key} {g : α → T} (inj : ∀ a b, f a = f b → a = b) (a : α) : ∀ l : List α, a ∈ l → klook (l.map fun x => (f x, g x)) (f a) = some (g a)
  | [], m => nomatch m
  | b :: l, m => by
    unfold klook
    rw [List.map_cons, List.find?_cons]
    by_cases e : f b = f a
    · have := inj _ _ e; subst this
      simp
    · rw [show decide (f b = f a) = false from decide_eq_false e]
      have m' : a ∈ l := (List.mem_cons.mp m).resolve_left fun q => e (by rw [q])
      exact klook_map inj a l m'
theorem klk_map {α β : Type} {f : α → Key} {g : α → β} (inj : ∀ a b, f a = f b → a = b) (a : α) : ∀ l : List α, a ∈ l → klk (l.map fun x => (f x, g x)) (f a) = some (g a)
  | [], m => nomatch m
  | b :: l, m => by
    unfold klk
    rw [List.map_cons, List.find?_cons]
    by_cases e : f b = f a
    · have := inj _ _ e; subst this
      simp
    · rw [show decide (f b = f a) = false from decide_eq_false e]
      have m' : a ∈ l := (List.mem_cons.mp m).resolve_left fun q => e (by rw [q])
      exact klk_map inj a l m'
theorem kupd_map {α β : Type} {f : α → Key} {g : α → β} (inj : ∀ a b, f a = f b → a = b) (a : α) (y : β) [DecidableEq α] : ∀ l : List α, l.Nodup → kupd (l.map fun x => (f x, g x)) (f a) y = l.map fun x => (f x, if x = a then y else g x)
  | [], _ => rfl
  | b :: l, nd => by
    obtain ⟨n1, n2⟩ := List.nodup_cons.mp nd
    rw [List.map_cons, List.map_cons, kupd]
    by_cases e : f b = f a
    · have := inj _ _ e; subst this
      rw [if_pos rfl, if_pos rfl]
      refine congrArg _ (List.map_congr_left fun x hx => ?_)
      have hne : x ≠ b := fun q => n1 (by rw [← q]; exact hx)
      rw [if_neg hne]
    · rw [if_neg e, kupd_map inj a y l n2, if_neg fun q => e (by rw [q])]
end DL

set_option Elab.async false
set_option linter.all false
set_option maxRecDepth 100000
set_option maxHeartbeats 4000000
/-! plain lemmas about the transformers -/
namespace DL
open PySem PySem.Spec L2
open PyProof.Rows hiding St

theorem isT_str (t : T) : isT "str" t = (match t with | .str _ => true | _ => false) := by cases t <;> rfl
theorem isT_tuple (t : T) : isT "tuple" t = (match t with | .tuple _ => true | _ => false) := by cases t <;> rfl
theorem isT_list (t : T) : isT "list" t = (match t with | .list _ => true | _ => false) := by cases t <;> rfl
theorem isT_dict (t : T) : isT "dict" t = (match t with | .dict _ => true | _ => false) := by cases t <;> rfl
theorem isT_bool (t : T) : isT "bool" t = (match t with | .bool _ => true | _ => false) := by cases t <;> rfl
theorem isT_int (t : T) : isT "int" t = (match t with | .int _ => true | .bool _ => true | _ => false) := by cases t <;> rfl
/-- a comprehension whose items do not change what is held -/
theorem compW_map {g : GT} {tt : BT} {te : XT} {vs : List Nat} {ρ : AEnv} {Q : List T → AEnv → Prop} (f : T → T) : ∀ (ts acc : List T),
    (∀ t ∈ ts, ∀ Q' : List T → AEnv → Prop, ∀ acc' ts', (compW g tt te vs ts' (acc' ++ [f t]) ρ Q') → compW g tt te vs (t :: ts') acc' ρ Q') → Q (acc ++ ts.map f) ρ → compW g tt te vs ts acc ρ Q
  | [], acc, _, q => by simpa [compW] using q
  | t :: ts, acc, h, q => h t List.mem_cons_self Q acc ts (compW_map f ts _ (fun t m => h t (List.mem_cons_of_mem _ m)) (by simpa using q))
theorem boolsOf_map (f : T → Bool) : ∀ ts : List T, boolsOf (ts.map fun t => .bool (f t)) = some (ts.map f)
  | [] => rfl
  | t :: ts => by simp [boolsOf, boolsOf_map f ts]
/-- a comprehension by an invariant; N: how many items there are -/
theorem compW_inv {g : GT} {tt : BT} {te : XT} {vs : List Nat} {Q : List T → AEnv → Prop} (Inv : Nat → List T → AEnv → Prop) (N : Nat) : ∀ (ts : List T) (i : Nat) (acc : List T) (ρ : AEnv), i + ts.length = N →
    (∀ i t acc ρ ts' (Q' : List T → AEnv → Prop), t ∈ ts → i < N → Inv i acc ρ → (∀ acc' ρ', Inv (i + 1) acc' ρ' → compW g tt te vs ts' acc' ρ' Q') → compW g tt te vs (t :: ts') acc ρ Q') →
    Inv i acc ρ → (∀ acc' ρ', Inv N acc' ρ' → Q acc' ρ') → compW g tt te vs ts acc ρ Q
  | [], i, acc, ρ, e, _, h, q => by
    unfold compW
    have : i = N := by simpa using e
    subst this
    exact q _ _ h
  | t :: ts, i, acc, ρ, e, st, h, q => st i t acc ρ ts Q List.mem_cons_self (by simp at e; omega) h fun acc' ρ' h' => compW_inv Inv N ts (i + 1) acc' ρ' (by simp at e; omega) (fun i t acc ρ ts' Q' m => st i t acc ρ ts' Q' (List.mem_cons_of_mem _ m)) h' q
/-- a loop by an invariant -/
theorem forW_inv {g : GT} {tb : ST} {D : AEnds} (Inv : Nat → AEnv → Prop) (N : Nat) : ∀ (ts : List T) (i : Nat) (ρ : AEnv), i + ts.length = N →
    (∀ i t ρ (D' : AEnds), t ∈ ts → i < N → Inv i ρ → (∀ ρ', Inv (i + 1) ρ' → D'.nx ρ') → (∀ ρ', Inv (i + 1) ρ' → D'.ct ρ') → D'.rt = D.rt → D'.bk = D.nx → g t ρ fun ρ1 => tb D' ρ1) →
    Inv i ρ → (∀ ρ', Inv N ρ' → D.nx ρ') → forW g tb D ts ρ
  | [], i, ρ, e, _, h, q => by
    unfold forW
    have : i = N := by simpa using e
    subst this
    exact q _ h
  | t :: ts, i, ρ, e, st, h, q => by
    have nxt : ∀ ρ', Inv (i + 1) ρ' → forW g tb D ts ρ' := fun ρ' h' => forW_inv Inv N ts (i + 1) ρ' (by simp at e; omega) (fun i t ρ D' m => st i t ρ D' (List.mem_cons_of_mem _ m)) h' q
    unfold forW
    exact st i t ρ _ List.mem_cons_self (by simp at e; omega) h nxt nxt rfl rfl
end DL

set_option Elab.async false
set_option linter.all false
set_option maxRecDepth 100000
set_option maxHeartbeats 4000000
/-! trees of bounded size, depth, numbers: what repr can show -/
namespace DL
open PySem PySem.Spec L2
open PyProof.Rows hiding St
mutual
def sz : T → Nat
  | .str x => x.length + 1
  | .list xs => szs xs + 1
  | .tuple xs => szs xs + 1
  | .none => 1
  | .bool _ => 1
  | .int _ => 1
  | .dict _ => 1
def szs : List T → Nat
  | [] => 0
  | x :: xs => sz x + szs xs
end
def asc (x : Str) : Bool := x.cps.toList.all fun c => decide (c < 128)
mutual
def lf (b : Nat) : T → Bool
  | .int i => decide (i.natAbs ≤ b)
  | .str x => asc x
  | .list xs => lfs b xs
  | .tuple xs => lfs b xs
  | .none => true
  | .bool _ => true
  | .dict kvs => kvs.isEmpty
def lfs (b : Nat) : List T → Bool
  | [] => true
  | x :: xs => lf b x && lfs b xs
end
theorem szs_app : ∀ (a b : List T), szs (a ++ b) = szs a + szs b
  | [], b => by simp [szs]
  | x :: a, b => by simp [szs, szs_app a b]; omega
theorem lfs_all {b : Nat} : ∀ {ts : List T}, lfs b ts = true ↔ ∀ t ∈ ts, lf b t = true
  | [] => by simp [lfs]
  | x :: ts => by simp [lfs, lfs_all (ts := ts)]
theorem dep_all {d : Nat} : ∀ {ts : List T}, PyData.depthAll ts ≤ d ↔ ∀ t ∈ ts, t.depth ≤ d
  | [] => by simp [PyData.depthAll]
  | x :: ts => by
    have h := dep_all (d := d) (ts := ts)
    simp only [PyData.depthAll, List.mem_cons, forall_eq_or_imp, ← h]
    omega
theorem sz_mem : ∀ {ts : List T} {t : T}, t ∈ ts → sz t ≤ szs ts
  | x :: ts, t, m => by
    simp only [szs]
    rcases List.mem_cons.mp m with rfl | m
    · omega
    · have := sz_mem m; omega
theorem szs_take (n : Nat) (ts : List T) : szs (ts.take n) ≤ szs ts := by
  have := szs_app (ts.take n) (ts.drop n)
  rw [List.take_append_drop] at this
  omega
theorem szs_drop (n : Nat) (ts : List T) : szs (ts.drop n) ≤ szs ts := by
  have := szs_app (ts.take n) (ts.drop n)
  rw [List.take_append_drop] at this
  omega
theorem szs_rev : ∀ ts : List T, szs ts.reverse = szs ts
  | [] => rfl
  | x :: ts => by rw [List.reverse_cons, szs_app, szs_rev ts]; simp [szs]; omega
theorem szs_len {k : Nat} : ∀ {ts : List T}, (∀ t ∈ ts, sz t ≤ k) → szs ts ≤ ts.length * k
  | [], _ => by simp [szs]
  | x :: ts, h => by
    have h1 := h x List.mem_cons_self
    have h2 := szs_len (k := k) (ts := ts) fun t m => h t (List.mem_cons_of_mem _ m)
    simp only [szs, List.length_cons, Nat.add_mul, Nat.one_mul]
    omega
theorem len_szs : ∀ {ts : List T}, ts.length ≤ szs ts
  | [] => by simp
  | x :: ts => by
    have := len_szs (ts := ts)
    have h : 1 ≤ sz x := by cases x <;> simp [sz]
    simp only [szs, List.length_cons]
    omega
/-- a tree within bounds -/
structure Gd (w d b : Nat) (t : T) : Prop where
  w : sz t ≤ w
  d : t.depth ≤ d
  l : lf b t = true
structure Gds (w d b : Nat) (ts : List T) : Prop where
  w : szs ts ≤ w
  d : ∀ t ∈ ts, t.depth ≤ d
  l : ∀ t ∈ ts, lf b t = true
section
variable {w w' d d' b b' : Nat} {t u : T} {ts us : List T}
mutual
theorem lf_mono (h : b ≤ b') : ∀ t : T, lf b t = true → lf b' t = true
  | .int i, e => by simp only [lf, decide_eq_true_eq] at e ⊢; omega
  | .str x, e => by simpa only [lf] using e
  | .list xs, e => by simp only [lf] at e ⊢; exact lfs_mono h xs e
  | .tuple xs, e => by simp only [lf] at e ⊢; exact lfs_mono h xs e
  | .none, _ => by simp only [lf]
  | .bool _, _ => by simp only [lf]
  | .dict kvs, e => by simpa only [lf] using e
theorem lfs_mono (h : b ≤ b') : ∀ ts : List T, lfs b ts = true → lfs b' ts = true
  | [], _ => by simp only [lfs]
  | x :: xs, e => by
    simp only [lfs, Bool.and_eq_true] at e ⊢
    exact ⟨lf_mono h x e.1, lfs_mono h xs e.2⟩
end
theorem Gd.mono (g : Gd w d b t) (h1 : w ≤ w') (h2 : d ≤ d') (h3 : b ≤ b') : Gd w' d' b' t := ⟨Nat.le_trans g.w h1, Nat.le_trans g.d h2, lf_mono h3 _ g.l⟩
theorem Gds.mono (g : Gds w d b ts) (h1 : w ≤ w') (h2 : d ≤ d') (h3 : b ≤ b') : Gds w' d' b' ts := ⟨Nat.le_trans g.w h1, fun t m => Nat.le_trans (g.d t m) h2, fun t m => lf_mono h3 _ (g.l t m)⟩
theorem Gds.nil : Gds 0 0 0 [] := ⟨by simp [szs], by simp, by simp⟩
theorem Gds.nil' : Gds w d b [] := ⟨by simp [szs], by simp, by simp⟩
theorem Gds.cons (g : Gd w d b t) (h : Gds w' d b ts) : Gds (w + w') d b (t :: ts) :=
  ⟨by simp only [szs]; have := g.w; have := h.w; omega, by simpa using ⟨g.d, h.d⟩, by simpa using ⟨g.l, h.l⟩⟩
theorem Gds.app (g : Gds w d b ts) (h : Gds w' d b us) : Gds (w + w') d b (ts ++ us) :=
  ⟨by rw [szs_app]; have := g.w; have := h.w; omega, fun t m => (List.mem_append.mp m).elim (g.d t) (h.d t), fun t m => (List.mem_append.mp m).elim (g.l t) (h.l t)⟩
theorem Gds.sub (g : Gds w d b ts) (h1 : szs us ≤ szs ts) (h2 : ∀ t ∈ us, t ∈ ts) : Gds w d b us := ⟨Nat.le_trans h1 g.w, fun t m => g.d t (h2 t m), fun t m => g.l t (h2 t m)⟩
theorem Gds.take (g : Gds w d b ts) (n : Nat) : Gds w d b (ts.take n) := g.sub (szs_take n ts) fun _ m => List.mem_of_mem_take m
theorem Gds.drop (g : Gds w d b ts) (n : Nat) : Gds w d b (ts.drop n) := g.sub (szs_drop n ts) fun _ m => List.mem_of_mem_drop m
theorem Gds.rev (g : Gds w d b ts) : Gds w d b ts.reverse := g.sub (by rw [szs_rev]; exact Nat.le_refl _) fun _ m => List.mem_reverse.mp m
theorem Gds.cut (g : Gds w d b ts) (lo hi : Option Int) : Gds w d b (cutT ts lo hi) := (g.drop _).take _
theorem Gds.mem (g : Gds w d b ts) (m : t ∈ ts) : Gd w d b t := ⟨Nat.le_trans (sz_mem m) g.w, g.d t m, g.l t m⟩
theorem Gds.one (g : Gd w d b t) : Gds w d b [t] := ⟨by simp only [szs]; exact g.w, by simpa using g.d, by simpa using g.l⟩
theorem Gds.len (g : Gds w d b ts) : ts.length ≤ w := Nat.le_trans len_szs g.w
theorem Gd.tup (g : Gds w d b ts) : Gd (w + 1) (d + 1) b (.tuple ts) := ⟨by simp only [sz]; have := g.w; omega, by simp only [PyData.depth]; have := dep_all.mpr g.d; omega, by simp only [lf]; exact lfs_all.mpr g.l⟩
theorem Gd.lst (g : Gds w d b ts) : Gd (w + 1) (d + 1) b (.list ts) := ⟨by simp only [sz]; have := g.w; omega, by simp only [PyData.depth]; have := dep_all.mpr g.d; omega, by simp only [lf]; exact lfs_all.mpr g.l⟩
theorem Gd.tupE (g : Gd w d b (.tuple ts)) : Gds (w - 1) (d - 1) b ts := by
  obtain ⟨h1, h2, h3⟩ := g
  simp only [sz, PyData.depth, lf] at h1 h2 h3
  exact ⟨by omega, dep_all.mp (by omega), lfs_all.mp h3⟩
theorem Gd.tupW (g : Gd w d b (.tuple ts)) : 1 ≤ w ∧ 1 ≤ d := by
  obtain ⟨h1, h2, h3⟩ := g
  simp only [sz, PyData.depth] at h1 h2
  omega
theorem Gd.str {x : Str} (h : x.length < w) (a : asc x = true) : Gd w d b (.str x) := ⟨by simp only [sz]; omega, by simp [PyData.depth], by simpa only [lf] using a⟩
theorem Gd.strE {x : Str} (g : Gd w d b (.str x)) : x.length < w ∧ asc x = true := ⟨by have := g.w; simp only [sz] at this; omega, by simpa only [lf] using g.l⟩
theorem Gd.int {i : Int} (h : i.natAbs ≤ b) : Gd 1 d b (.int i) := ⟨by simp [sz], by simp [PyData.depth], by simpa [lf] using h⟩
theorem Gd.intE {i : Int} (g : Gd w d b (.int i)) : i.natAbs ≤ b := by simpa only [lf, decide_eq_true_eq] using g.l
theorem Gd.bool {c : Bool} : Gd 1 d b (.bool c) := ⟨by simp [sz], by simp [PyData.depth], by simp [lf]⟩
theorem Gd.none : Gd 1 d b .none := ⟨by simp [sz], by simp [PyData.depth], by simp [lf]⟩
end
theorem asc_app {x y : Str} (h : asc x = true) (k : asc y = true) : asc (x ++ y) = true := by
  unfold asc at *
  rw [PySem.Str.cps_append, Array.toList_append, List.all_append, h, k]; rfl
theorem asc_cut {x : Str} (h : asc x = true) (lo hi : Option Int) : asc (cutS x lo hi) = true ∧ (cutS x lo hi).length ≤ x.length := by
  unfold asc cutS at *
  constructor
  · rw [List.all_eq_true] at h ⊢
    exact fun c m => h c (List.mem_of_mem_drop (List.mem_of_mem_take (by simpa using m)))
  · show ((List.take _ (List.drop _ x.cps.toList)).toArray).size ≤ x.cps.size
    simp only [List.size_toArray, List.length_take, List.length_drop, Array.length_toList]
    omega
theorem asc_one {c : Nat} (h : c < 128) : asc ⟨#[c]⟩ = true := by simp [asc, h]
theorem asc_int (i : Int) : asc (toString i) = true := by
  unfold asc
  rw [List.all_eq_true]
  intro c m
  have h := int_ascii i
  rw [PySem.Str.ofString_eq_toList] at m
  simp only [List.mem_map] at m
  obtain ⟨d, m, rfl⟩ := m
  exact decide_eq_true (h d m)
theorem asc_upperL : ∀ l : List Nat, (∀ c ∈ l, c < 128) → asc (Txt.upper ⟨l.toArray⟩) = true ∧ (Txt.upper ⟨l.toArray⟩).length = l.length
  | [], _ => by decide +kernel
  | c :: l, h => by
    have e : (⟨(c :: l).toArray⟩ : Str) = ⟨#[c]⟩ ++ ⟨l.toArray⟩ := PySem.Str.ext' (by rw [PySem.Str.cps_append]; simp)
    have hc := h c List.mem_cons_self
    obtain ⟨h1, h2⟩ := asc_upperL l fun d m => h d (List.mem_cons_of_mem _ m)
    rw [e, PySem.W.KOpn.upper_app, PySem.W.KOpn.upper_one hc]
    refine ⟨asc_app (asc_one (by split <;> omega)) h1, ?_⟩
    rw [strLen_append, h2]
    show 1 + l.length = _
    simp; omega
theorem asc_upper {x : Str} (h : asc x = true) : asc (Txt.upper x) = true ∧ (Txt.upper x).length = x.length := by
  have := asc_upperL x.cps.toList fun c m => of_decide_eq_true (List.all_eq_true.mp h c m)
  simpa [PySem.Str.length] using this
mutual
theorem shown_sz {b : Nat} (hb : b < 10 ^ 30) : ∀ t : T, lf b t = true → t.shown.length + 2 ≤ 40 * sz t
  | .int i, e => by
    simp only [lf, decide_eq_true_eq] at e
    have h : i.natAbs < 10 ^ 30 := by omega
    have h2 : (Str.ofString (toString i)).length ≤ 31 := by
      have := int_text_length_le10 (k := 30) (by decide) h
      rw [PySem.ofString_length]
      omega
    have e2 : (PyData.shown (.int i)) = Str.ofString (toString i) := by simp only [PyData.shown]
    rw [e2]
    simp only [sz]
    omega
  | .str x, e => by
    simp only [lf] at e
    have h : ∀ c ∈ x.cps.toList, c < 16 ^ 8 := fun c m => Nat.lt_trans (of_decide_eq_true (List.all_eq_true.mp e c m)) (by decide)
    have h2 := StrLaws.reprText_len x h
    simp only [PyData.shown, sz]
    omega
  | .list xs, e => by
    simp only [lf] at e
    have h1 := shown_szs hb xs e
    have h2 := listText_len_le (PyData.shownAll xs)
    simp only [PyData.shown, sz]
    omega
  | .tuple xs, e => by
    simp only [lf] at e
    have h1 := shown_szs hb xs e
    have h2 := tupleText_len_le (PyData.shownAll xs)
    simp only [PyData.shown, sz]
    omega
  | .none, _ => by
    have e : (PyData.shown .none).length = 4 := rfl
    simp only [sz]; omega
  | .bool c, _ => by
    have e : (PyData.shown (.bool c)).length ≤ 5 := by cases c <;> decide
    simp only [sz]; omega
  | .dict kvs, e => by
    simp only [lf, List.isEmpty_iff] at e
    subst e
    have h2 := dictText_len_le []
    simp only [PyData.shown, PyData.shownKv, sz]
    simp at h2
    omega
theorem shown_szs {b : Nat} (hb : b < 10 ^ 30) : ∀ xs : List T, lfs b xs = true → ((PyData.shownAll xs).map (·.length)).sum + 2 * (PyData.shownAll xs).length ≤ 40 * szs xs
  | [], _ => by simp [PyData.shownAll, szs]
  | x :: xs, e => by
    simp only [lfs, Bool.and_eq_true] at e
    have h1 := shown_sz hb x e.1
    have h2 := shown_szs hb xs e.2
    simp only [PyData.shownAll, szs, List.map_cons, List.sum_cons, List.length_cons]
    omega
end
mutual
theorem lf_showable {b : Nat} (hb : b < 10 ^ 30) : ∀ t : T, lf b t = true → t.showable = true
  | .int i, e => by
    simp only [lf, decide_eq_true_eq] at e
    simp only [PyData.showable, decide_eq_true_eq]
    have : i.natAbs < 2 ^ 100 := Nat.lt_of_le_of_lt e (Nat.lt_trans hb (by decide))
    exact Nat.lt_trans (PySem.Flt.log2_lt_of (by decide) this) (by decide)
  | .str x, e => by simp only [PyData.showable]
  | .list xs, e => by simp only [PyData.showable]; exact lfs_showable hb xs (by simpa only [lf] using e)
  | .tuple xs, e => by simp only [PyData.showable]; exact lfs_showable hb xs (by simpa only [lf] using e)
  | .none, _ => by simp only [PyData.showable]
  | .bool c, _ => by simp only [PyData.showable]
  | .dict kvs, e => by
    simp only [lf, List.isEmpty_iff] at e
    subst e
    simp only [PyData.showable, PyData.showableKv]
theorem lfs_showable {b : Nat} (hb : b < 10 ^ 30) : ∀ xs : List T, lfs b xs = true → PyData.showableAll xs = true
  | [], _ => by simp only [PyData.showableAll]
  | x :: xs, e => by
    simp only [lfs, Bool.and_eq_true] at e
    simp only [PyData.showableAll, lf_showable hb x e.1, lfs_showable hb xs e.2, Bool.and_self]
end
theorem dep_app : ∀ (a b : List T), PyData.depthAll (a ++ b) = max (PyData.depthAll a) (PyData.depthAll b)
  | [], b => by simp [PyData.depthAll]
  | x :: a, b => by simp only [List.cons_append, PyData.depthAll, dep_app a b]; omega
theorem dep_rev : ∀ a : List T, PyData.depthAll a.reverse = PyData.depthAll a
  | [] => rfl
  | x :: a => by rw [List.reverse_cons, dep_app, dep_rev a]; simp only [PyData.depthAll]; omega
theorem lfs_app {b : Nat} : ∀ (x y : List T), lfs b (x ++ y) = (lfs b x && lfs b y)
  | [], y => by simp [lfs]
  | z :: x, y => by simp only [List.cons_append, lfs, lfs_app x y, Bool.and_assoc]
theorem lfs_rev {b : Nat} : ∀ a : List T, lfs b a.reverse = lfs b a
  | [] => rfl
  | x :: a => by rw [List.reverse_cons, lfs_app, lfs_rev a]; simp only [lfs, Bool.and_true]; exact Bool.and_comm ..
theorem szs_cut (ts : List T) (lo hi : Option Int) : szs (cutT ts lo hi) ≤ szs ts := Nat.le_trans (szs_take _ _) (szs_drop _ _)
theorem dep_cut (ts : List T) (lo hi : Option Int) : PyData.depthAll (cutT ts lo hi) ≤ PyData.depthAll ts :=
  dep_all.mpr fun t m => dep_all.mp (Nat.le_refl _) t (List.mem_of_mem_drop (List.mem_of_mem_take m))
theorem lfs_cut {b : Nat} {ts : List T} (h : lfs b ts = true) (lo hi : Option Int) : lfs b (cutT ts lo hi) = true :=
  lfs_all.mpr fun t m => lfs_all.mp h t (List.mem_of_mem_drop (List.mem_of_mem_take m))
end DL

set_option Elab.async false
set_option linter.all false
set_option maxRecDepth 100000
set_option maxHeartbeats 4000000
/-! the transformers, said so that simp does not open what is not known yet -/
namespace DL
open PySem PySem.Spec L2
open PyProof.Rows hiding St
section
variable {ρ : AEnv} {j i : Nat} {p q : Opd} {ps : List Opd} {o : O} {P : Nat → Bool} {fl : List Bool}
def nameK (j : Nat) (ρ : AEnv) (Q : Opd → AEnv → Prop) : Option (Option O) → Prop
  | some (some (.pure t)) => Q (.val (.pure t)) ρ
  | some (some (.lst ts)) => Q (.slot j) ρ
  | some (some (.dct k)) => Q (.slot j) ρ
  | some (some (.dcl k)) => Q (.slot j) ρ
  | some none => False
  | none => False
theorem tName_k {Q : Opd → AEnv → Prop} : tName j ρ Q = nameK j ρ Q ρ[j]? := by
  unfold tName
  rcases ρ[j]? with _ | _ | o
  · rfl
  · rfl
  · cases o <;> rfl
def atK (Q : O → Prop) : Option (Option O) → Prop
  | some (some o) => Q o
  | some none => False
  | none => False
theorem take1_v {Q : T → AEnv → Prop} : take1 (.val o) ρ Q = Q o.frz ρ := rfl
theorem take1_s {Q : T → AEnv → Prop} : take1 (.slot j) ρ Q = atK (fun o => Q o.frz (ρ.set j (some (.pure o.frz)))) ρ[j]? := by
  rw [take1]
  rcases ρ[j]? with _ | _ | o <;> rfl
theorem takeO_v {Q : O → AEnv → Prop} : takeO (.val o) ρ Q = Q o ρ := rfl
theorem takeO_s {Q : O → AEnv → Prop} : takeO (.slot j) ρ Q = atK (fun o => Q (.pure o.frz) (ρ.set j (some (.pure o.frz)))) ρ[j]? := by
  rw [takeO]
  rcases ρ[j]? with _ | _ | o <;> rfl
theorem takeR_v {Q : O → AEnv → Prop} : takeR P (.val o) ρ Q = Q o ρ := rfl
theorem takeR_s {Q : O → AEnv → Prop} : takeR P (.slot j) ρ Q = atK (fun o => if P j = true then Q (.pure o.frz) (ρ.set j (some (.pure o.frz))) else Q o (ρ.set j none)) ρ[j]? := by
  rw [takeR]
  rcases ρ[j]? with _ | _ | o <;> rfl
theorem prep_n {Q : List O → List (Option Nat) → AEnv → Prop} : prep [] [] ρ Q = Q [] [] ρ := rfl
theorem prep_tv {Q : List O → List (Option Nat) → AEnv → Prop} : prep (true :: fl) (.val o :: ps) ρ Q = prep fl ps ρ fun os js ρ' => Q (o :: os) (none :: js) ρ' := rfl
theorem prep_ts {Q : List O → List (Option Nat) → AEnv → Prop} : prep (true :: fl) (.slot j :: ps) ρ Q = atK (fun o => prep fl ps (ρ.set j none) fun os js ρ' => Q (o :: os) (some j :: js) ρ') ρ[j]? := by
  rw [prep]
  rcases ρ[j]? with _ | _ | o <;> rfl
theorem prep_f {Q : List O → List (Option Nat) → AEnv → Prop} : prep (false :: fl) (p :: ps) ρ Q = take1 p ρ fun t ρ1 => prep fl ps ρ1 fun os js ρ' => Q (.pure t :: os) js ρ' := by
  rw [prep]
def lstK (Q : List T → Prop) : Option (Option O) → Prop
  | some (some (.lst ts)) => Q ts
  | some (some (.pure t)) => False
  | some (some (.dct k)) => False
  | some (some (.dcl k)) => False
  | some none => False
  | none => False
theorem lstAt_k {Q : List T → Prop} : lstAt ρ j Q = lstK Q ρ[j]? := by
  unfold lstAt
  rcases ρ[j]? with _ | _ | o
  · rfl
  · rfl
  · cases o <;> rfl
def g2K (g : G2) (Q : O → Prop) : Option O → Option O → Prop
  | some x, some y => g x y Q
  | none, _ => False
  | some _, none => False
theorem g2_k {g : G2} {Q : O → Prop} : g2 g ρ p q Q = g2K g Q (p.get ρ) (q.get ρ) := by
  unfold g2
  rcases p.get ρ with _ | x
  · rfl
  · rcases q.get ρ with _ | y <;> rfl
def g1K (g : G1) (Q : O → Prop) : Option O → Prop
  | some x => g x Q
  | none => False
theorem g1_k {g : G1} {Q : O → Prop} : g1 g ρ p Q = g1K g Q (p.get ρ) := by
  unfold g1
  rcases p.get ρ with _ | x <;> rfl
def gNK (g : GN) (Q : O → Prop) : Option (List O) → Prop
  | some x => g x Q
  | none => False
theorem gN_k {g : GN} {Q : O → Prop} : gN g ρ ps Q = gNK g Q (getAll ρ ps) := by
  unfold gN
  rcases getAll ρ ps with _ | x <;> rfl
def boK (Q : Bool → Prop) : Option O → Prop
  | some (.pure (.bool b)) => Q b
  | _ => False
theorem bOf_k {Q : Bool → Prop} : bOf ρ p Q = boK Q (p.get ρ) := by
  unfold bOf
  rcases p.get ρ with _ | x
  · rfl
  · cases x with
    | pure t => cases t <;> rfl
    | _ => rfl
def isiK (n : String) (ρ : AEnv) (Q : Opd → AEnv → Prop) : Option O → Prop
  | some o => Q (.val (.pure (.bool (isT n o.frz)))) ρ
  | none => False
theorem tIsi_k {n : String} {te : XT} {Q : Opd → AEnv → Prop} : tIsi n te ρ Q = te ρ fun p ρ1 => isiK n ρ1 Q (p.get ρ1) := by
  unfold tIsi
  refine congrArg _ (funext fun p => funext fun ρ1 => ?_)
  rcases p.get ρ1 with _ | x <;> rfl
def partK (ρ : AEnv) (Q : Option Int → AEnv → Prop) : Option O → Prop
  | some (.pure (.int i)) => Q (some i) ρ
  | _ => False
theorem part_n {Q : Option Int → AEnv → Prop} : partT none ρ Q = Q none ρ := rfl
theorem part_s {t : XT} {Q : Option Int → AEnv → Prop} : partT (some t) ρ Q = t ρ fun p ρ1 => partK ρ1 Q (p.get ρ1) := by
  rw [partT]
  refine congrArg _ (funext fun p => funext fun ρ1 => ?_)
  rcases p.get ρ1 with _ | x
  · rfl
  · cases x with
    | pure t => cases t <;> rfl
    | _ => rfl
def slcK (lo hi : Option Int) (ρ : AEnv) (Q : Opd → AEnv → Prop) : Option O → Prop
  | some (.pure (.str z)) => z.length ≤ 16777216 ∧ Q (.val (.pure (.str (cutS z lo hi)))) ρ
  | some (.pure (.tuple ts)) => Q (.val (.pure (.tuple (cutT ts lo hi)))) ρ
  | some (.lst ts) => Q (.val (.lst (cutT ts lo hi))) ρ
  | some (.pure (.list ts)) => Q (.val (.lst (cutT ts lo hi))) ρ
  | _ => False
theorem tSlc_k {te : XT} {tl th : Option XT} {Q : Opd → AEnv → Prop} : tSlc te tl th ρ Q = te ρ fun p ρ1 => partT tl ρ1 fun lo ρ2 => partT th ρ2 fun hi ρ3 => slcK lo hi ρ3 Q (p.get ρ3) := by
  unfold tSlc
  refine congrArg _ (funext fun p => funext fun ρ1 => ?_)
  refine congrArg _ (funext fun lo => funext fun ρ2 => ?_)
  refine congrArg _ (funext fun hi => funext fun ρ3 => ?_)
  rcases p.get ρ3 with _ | x
  · rfl
  · cases x with
    | pure t => cases t <;> rfl
    | _ => rfl
def revK (ρ : AEnv) (Q : Opd → AEnv → Prop) : Option O → Prop
  | some (.pure (.tuple ts)) => Q (.val (.pure (.tuple ts.reverse))) ρ
  | some (.lst ts) => Q (.val (.lst ts.reverse)) ρ
  | some (.pure (.list ts)) => Q (.val (.lst ts.reverse)) ρ
  | _ => False
theorem tRev_k {te : XT} {Q : Opd → AEnv → Prop} : tRev te ρ Q = te ρ fun p ρ1 => revK ρ1 Q (p.get ρ1) := by
  unfold tRev
  refine congrArg _ (funext fun p => funext fun ρ1 => ?_)
  rcases p.get ρ1 with _ | x
  · rfl
  · cases x with
    | pure t => cases t <;> rfl
    | _ => rfl
def strMK (f : Str → Str) (C : Str → Prop) (ρ : AEnv) (Q : Opd → AEnv → Prop) : Option O → Prop
  | some (.pure (.str z)) => C z ∧ Q (.val (.pure (.str (f z)))) ρ
  | _ => False
theorem tStrM_k {f : Str → Str} {C : Str → Prop} {te : XT} {Q : Opd → AEnv → Prop} : tStrM f C te ρ Q = te ρ fun p ρ1 => strMK f C ρ1 Q (p.get ρ1) := by
  unfold tStrM
  refine congrArg _ (funext fun p => funext fun ρ1 => ?_)
  rcases p.get ρ1 with _ | x
  · rfl
  · cases x with
    | pure t => cases t <;> rfl
    | _ => rfl
def itK (Q : List T → Prop) : Option (List T) → Prop
  | some ts => Q ts
  | none => False
theorem tIter_k {te : XT} {Q : List T → AEnv → Prop} : tIter te ρ Q = te ρ fun p ρ1 => take1 p ρ1 fun t ρ2 => itK (fun ts => Q ts ρ2) (itemsOf t) := by
  unfold tIter
  refine congrArg _ (funext fun p => funext fun ρ1 => ?_)
  refine congrArg _ (funext fun t => funext fun ρ2 => ?_)
  rcases itemsOf t with _ | x <;> rfl
def enumK (Q : List T → Prop) : List T → Prop
  | [t] => itK (fun ts => Q (enumItems ts)) (itemsOf t)
  | _ => False
theorem tEnum_k {ts : XTs} {Q : List T → AEnv → Prop} : tEnum ts ρ Q = ts ρ fun ps ρ1 => takeAll ps ρ1 fun ts ρ2 => enumK (fun ts => Q ts ρ2) ts := by
  unfold tEnum
  refine congrArg _ (funext fun p => funext fun ρ1 => ?_)
  refine congrArg _ (funext fun t => funext fun ρ2 => ?_)
  match t with
  | [] => rfl
  | [t] =>
    show (match itemsOf t with
      | some ts => Q (enumItems ts) ρ2
      | none => False) = itK _ (itemsOf t)
    rcases itemsOf t with _ | x <;> rfl
  | _ :: _ :: _ => rfl
def zipK (Q : List T → Prop) : List T → Prop
  | [.list ts, .list us] => Q (zipItems ts us)
  | [.tuple ts, .tuple us] => Q (zipItems ts us)
  | _ => False
theorem tZip_k {ts : XTs} {Q : List T → AEnv → Prop} : tZip ts ρ Q = ts ρ fun ps ρ1 => takeAll ps ρ1 fun ts ρ2 => zipK (fun ts => Q ts ρ2) ts := by
  unfold tZip
  refine congrArg _ (funext fun p => funext fun ρ1 => ?_)
  refine congrArg _ (funext fun t => funext fun ρ2 => ?_)
  unfold zipK
  split <;> simp_all
def intsK (Q : List Int → Prop) : Option (List O) → Prop
  | some [.pure (.int i)] => Q [i]
  | some [.pure (.int i), .pure (.int j)] => Q [i, j]
  | _ => False
theorem intsOf_k {Q : List Int → Prop} : intsOf ρ ps Q = intsK Q (getAll ρ ps) := by
  unfold intsOf intsK
  split <;> simp_all
def endK (Q : List O → Prop) : Option (List O) → Prop
  | some os => Q os
  | none => False
theorem endO_k {Q : List O → Prop} : endO fl ρ Q = endK Q (outsOf fl 0 ρ) := by
  unfold endO
  rcases outsOf fl 0 ρ with _ | x <;> rfl
def extK (j : Nat) (ρ : AEnv) (Q : Opd → AEnv → Prop) : Option O → Prop
  | some (.lst us) => lstK (fun ts => ts.length + us.length ≤ 16777216 ∧ Q (.val (.pure .none)) (ρ.set j (some (.lst (ts ++ us))))) ρ[j]?
  | _ => False
theorem tExtend_k {te : XT} {Q : Opd → AEnv → Prop} : tExtend j te ρ Q = lstK (fun _ => te ρ fun p ρ1 => extK j ρ1 Q (p.get ρ1)) ρ[j]? := by
  unfold tExtend
  rw [lstAt_k]
  refine congrArg (lstK · _) (funext fun _ => ?_)
  refine congrArg _ (funext fun p => funext fun ρ1 => ?_)
  rcases p.get ρ1 with _ | x
  · rfl
  · cases x with
    | lst t => show lstAt _ _ _ = lstK _ _; rw [lstAt_k]
    | _ => rfl
theorem tAppend_k {te : XT} {Q : Opd → AEnv → Prop} : tAppend j te ρ Q = lstK (fun _ => te ρ fun p ρ1 => take1 p ρ1 fun y ρ2 => lstK (fun ts => ts.length < 16777216 ∧ Q (.val (.pure .none)) (ρ2.set j (some (.lst (ts ++ [y]))))) ρ2[j]?) ρ[j]? := by
  unfold tAppend
  rw [lstAt_k]
  refine congrArg (lstK · _) (funext fun _ => ?_)
  refine congrArg _ (funext fun p => funext fun ρ1 => ?_)
  refine congrArg _ (funext fun y => funext fun ρ2 => ?_)
  rw [lstAt_k]
def setIxK (j : Nat) (y : T) (ρ : AEnv) (D : AEnds) : Option O → Prop
  | some (.pure (.int k)) => lstK (fun ts => match ixN ts.length k with
    | some m => D.nx (ρ.set j (some (.lst (ts.set m y))))
    | none => False) ρ[j]?
  | _ => False
theorem sSetIx_k {te ti : XT} {D : AEnds} : sSetIx j te ti D ρ = te ρ fun p ρ1 => take1 p ρ1 fun y ρ2 => lstK (fun _ => ti ρ2 fun q ρ3 => setIxK j y ρ3 D (q.get ρ3)) ρ2[j]? := by
  unfold sSetIx
  refine congrArg _ (funext fun p => funext fun ρ1 => ?_)
  refine congrArg _ (funext fun y => funext fun ρ2 => ?_)
  rw [lstAt_k]
  refine congrArg (lstK · _) (funext fun _ => ?_)
  refine congrArg _ (funext fun q => funext fun ρ3 => ?_)
  rcases q.get ρ3 with _ | x
  · rfl
  · cases x with
    | pure t =>
      cases t with
      | int k => show lstAt _ _ _ = lstK _ _; rw [lstAt_k] <;> rfl
      | _ => rfl
    | _ => rfl
def popAtK (j : Nat) (ρ : AEnv) (Q : Opd → AEnv → Prop) : Option O → Prop
  | some (.pure (.int i)) => lstK (fun ts => match ixN ts.length i with
    | some k => match ts[k]? with
      | some y => Q (.val (.pure y)) (ρ.set j (some (.lst (ts.eraseIdx k))))
      | none => False
    | none => False) ρ[j]?
  | _ => False
theorem tPopAt_k {te : XT} {Q : Opd → AEnv → Prop} : tPopAt j te ρ Q = lstK (fun _ => te ρ fun p ρ1 => popAtK j ρ1 Q (p.get ρ1)) ρ[j]? := by
  unfold tPopAt
  rw [lstAt_k]
  refine congrArg (lstK · _) (funext fun _ => ?_)
  refine congrArg _ (funext fun q => funext fun ρ3 => ?_)
  rcases q.get ρ3 with _ | x
  · rfl
  · cases x with
    | pure t =>
      cases t with
      | int k => show lstAt _ _ _ = lstK _ _; rw [lstAt_k] <;> rfl
      | _ => rfl
    | _ => rfl
theorem at_join {j : Nat} {ρ : AEnv} : ρ.at j = Option.join ρ[j]? := by
  unfold AEnv.at
  rcases ρ[j]? with _ | _ | o <;> rfl
theorem join_some {α : Type} {x : Option α} : Option.join (some x) = x := rfl
theorem back_nil {os : List O} {ρ : AEnv} : back [] os ρ = ρ := by
  cases os <;> rfl
theorem seqO_l {ts : List T} : seqO (.lst ts) = some ts := rfl
theorem seqO_p {ts : List T} : seqO (.pure (.list ts)) = some ts := rfl
theorem seqO_t {ts : List T} : seqO (.pure (.tuple ts)) = some ts := rfl
theorem at_some {x : Option O} {j : Nat} {ρ : AEnv} (h : ρ[j]? = some x) : ρ.at j = x := by
  unfold AEnv.at
  rw [h]
  cases x <;> rfl
end
theorem ati0 {α : Type} {a : α} {l : List α} : atI (a :: l) 0 = some a := by simp [atI, ixN]
theorem ati1 {α : Type} {a b : α} {l : List α} : atI (a :: b :: l) 1 = some b := by
  unfold atI ixN
  rw [if_pos (by omega), if_pos (by simp; omega)]
  rfl
theorem ati2 {α : Type} {a b c : α} {l : List α} : atI (a :: b :: c :: l) 2 = some c := by
  unfold atI ixN
  rw [if_pos (by omega), if_pos (by simp; omega)]
  rfl
/-! ### slices -/
theorem cut_take {ts : List T} {i : Int} (h : 0 ≤ i) : cutT ts none (some i) = ts.take i.toNat := by
  unfold cutT
  have e : HT.sIx ts.length ts.length (some i) = min i.toNat ts.length := by
    show (if i < 0 then _ else _) = _
    rw [if_neg (by omega)]
  rw [e, HT.sIx_none, Nat.sub_zero, List.drop_zero]
  by_cases g : i.toNat ≤ ts.length
  · rw [Nat.min_eq_left g]
  · rw [Nat.min_eq_right (by omega), List.take_length, List.take_of_length_le (by omega)]
theorem cut_drop {ts : List T} {i : Int} (h : 0 ≤ i) : cutT ts (some i) none = ts.drop i.toNat := by
  unfold cutT
  have e : HT.sIx ts.length 0 (some i) = min i.toNat ts.length := by
    show (if i < 0 then _ else _) = _
    rw [if_neg (by omega)]
  rw [e, HT.sIx_none]
  have e2 : ts.drop (min i.toNat ts.length) = ts.drop i.toNat := by
    by_cases g : i.toNat ≤ ts.length
    · rw [Nat.min_eq_left g]
    · rw [Nat.min_eq_right (by omega), List.drop_length, List.drop_of_length_le (by omega)]
  rw [e2]
  exact List.take_of_length_le (by rw [List.length_drop]; omega)
theorem cut_len {ts : List T} {lo hi : Option Int} : (cutT ts lo hi).length ≤ ts.length := by
  unfold cutT; simp only [List.length_take, List.length_drop]; omega
theorem at_nn {α : Type} {ts : List α} {i : Int} {t : α} (h : 0 ≤ i) (e : atI ts i = some t) : ts[i.toNat]? = some t := by
  unfold atI ixN at e
  rw [if_pos h] at e
  split at e
  · exact e
  · cases e
theorem at_split : ∀ {ts : List T} {i : Nat} {t : T}, ts[i]? = some t → szs (ts.take i) + sz t + szs (ts.drop (i + 1)) = szs ts
  | [], _, _, h => by simp at h
  | x :: ts, 0, t, h => by simp at h; subst h; simp [szs]
  | x :: ts, i + 1, t, h => by
    have := at_split (ts := ts) (i := i) (t := t) (by simpa using h)
    simp only [List.take_succ_cons, List.drop_succ_cons, szs]
    omega
end DL
namespace DL
open PySem PySem.Spec L2
open PyProof.Rows hiding St
theorem rps_ints {K : PySem.W.Frag} {H : Hp} {F : Addr → Prop} : ∀ ns : List Int, RPs K H F (ns.map V.int) (ns.map PyData.int)
  | [] => .nil
  | i :: ns => .cons (RP.int i) (rps_ints ns)
/-- the script as the law's argument -/
theorem asp_ints {K : PySem.W.Frag} {H : Hp} {a : Addr} {ns : List Int} {spec : FSpec} {Q : VK} {E : XK} (hS : SqL K H a (ns.map V.int)) (h : spec [.pure (.list (ns.map PyData.int))] fun o outs => o = .pure (.bool true)) (q : ∀ H', Q (.bl true) H') : ASp K [false] spec [.ref a] H Q E := by
  refine ⟨[.pure (.list (ns.map PyData.int))], fun _ => [], [], _, rfl, ?_, fun _ _ => rfl, h, fun v o A outs H' fp' R _ r _ _ _ _ e => ?_⟩
  · have nF : ∀ a, ¬ Or1 (Fo fun _ => []) [] a := fun a z => by
      rcases z with ⟨i, m⟩ | m
      · cases m
      · cases m
    refine ⟨fun i o e => ?_, fun _ _ => rfl, fun i j a m => (nomatch m), fun _ => List.nodup_nil, fun a m => (nomatch m), fun a m => (nomatch m), rfl⟩
    match i, e with
    | 0, e =>
      cases e
      refine ⟨.ref a, rfl, rfl, ?_⟩
      rcases hS with hS | ⟨o, its, n, h1, h2, h3, h4, h5, h6⟩
      · exact RP.lst hS (rps_ints ns) (nF a)
      · obtain ⟨as, r, m⟩ := (rps_ints (K := K) (H := H) (F := Or1 (Fo fun _ => []) []) ns).rvs
        exact ⟨as, .lstK h1 h2 h3 h4 h5 h6 r, m⟩
    | i + 1, e => simp at e
  · subst e
    obtain rfl := RP.boolE r.2
    exact q _
end DL

set_option Elab.async false
set_option linter.all false
set_option maxRecDepth 100000
set_option maxHeartbeats 4000000
namespace WS
open PySem PySem.Spec L2 DL
open PyProof.Rows hiding St
def letters : Str := "abcdefghijklmnopqrstuvwxyz"
def mWord : T → Bool
  | .str x => decide (1 ≤ (x.length : Int)) && decide ((x.length : Int) ≤ 8) && ((strItems x).all fun t => match t with | .str c => inStr c letters | _ => false)
  | _ => false
def szS (t : T) : Prop := ∀ x, t = .str x → x.length ≤ 16777216
def sp_is_name : FSpec := fun os Q => ∃ t, os = [.pure t] ∧ szS t ∧ Q (.pure (.bool (mWord t))) []
theorem strItems_mem {x : Str} {t : T} (h : t ∈ strItems x) : ∃ c : Nat, t = .str ⟨#[c]⟩ := by
  unfold strItems at h
  obtain ⟨c, _, e⟩ := List.mem_map.mp h
  exact ⟨c, e.symm⟩
theorem all_map {α : Type} (p : α → Bool) (l : List α) : (l.map p).all id = l.all p := by simp [List.all_map]
def pLt (a b : T) : Bool := match a, b with
  | .int i, .int j => decide (i < j)
  | d, e => PySem.W.dataLt d e
def mAsc (ts : List T) : Bool := (zipItems ts (cutT ts (some 1) none)).all fun p => match p with
  | .tuple [a, b] => pLt a b
  | _ => false
def ascOk (ts : List T) : Prop := ∀ a ∈ ts, ∀ b ∈ ts, (PySem.W.alike a b = true ∧ a ≠ .none ∧ a.depth ≤ 100)
theorem zip_mem {ts rs : List T} {t : T} (h : t ∈ zipItems ts rs) : ∃ a ∈ ts, ∃ b ∈ rs, t = .tuple [a, b] := by
  unfold zipItems at h
  obtain ⟨i, hi, e⟩ := List.getElem_of_mem h
  rw [List.getElem_zipWith] at e
  exact ⟨_, List.getElem_mem _, _, List.getElem_mem _, e.symm⟩
theorem cut_mem {ts : List T} {lo hi : Option Int} {t : T} (h : t ∈ cutT ts lo hi) : t ∈ ts := List.mem_of_mem_drop (List.mem_of_mem_take h)
theorem gLt_ok {a b : T} {Q : O → Prop} (h1 : PySem.W.alike a b = true) (h2 : a ≠ .none) (h3 : a.depth ≤ 100) (q : Q (.pure (.bool (pLt a b)))) : gLt (.pure a) (.pure b) Q := by
  have m : min a.depth b.depth ≤ 150 := Nat.le_trans (Nat.min_le_left _ _) (by omega)
  cases a with
  | int i =>
    cases b with
    | int j => exact q
    | _ => simp [PySem.W.alike] at h1
  | none => exact absurd rfl h2
  | _ => exact ⟨h1, h2, m, q⟩
theorem mWord_str {t : T} (h : mWord t = true) : ∃ x, t = .str x := by
  cases t with
  | str x => exact ⟨x, rfl⟩
  | _ => exact nomatch (show false = true from h)
theorem words_asc {ts : List T} (h : ts.all mWord = true) : ascOk ts := fun a ha b hb => by
  obtain ⟨x, rfl⟩ := mWord_str (List.all_eq_true.mp h a ha)
  obtain ⟨y, rfl⟩ := mWord_str (List.all_eq_true.mp h b hb)
  exact ⟨by simp [PySem.W.alike], by simp, by simp [PyData.depth]⟩
def seqT (b : Bool) (ts : List T) : T := if b = true then .tuple ts else .list ts
end WS

set_option Elab.async false
set_option linter.all false
set_option maxRecDepth 100000
set_option maxHeartbeats 4000000
namespace WS
open PySem PySem.Spec L2 DL
open PyProof.Rows hiding St
/-- a deck; n bounds its count of draws -/
def Dk (n : Nat) (o : O) : Prop := ∃ a b c : Int, o = .lst [.int a, .int b, .int c] ∧ 0 ≤ a ∧ a < 10 ^ 300 ∧ 0 ≤ b ∧ b < 2305843009213693921 ∧ 0 ≤ c ∧ c ≤ n
theorem Dk.mono {n m : Nat} {o : O} (h : Dk n o) (l : n ≤ m) : Dk m o := by
  obtain ⟨a, b, c, e, h1, h2, h3, h4, h5, h6⟩ := h
  exact ⟨a, b, c, e, h1, h2, h3, h4, h5, by omega⟩
/-- below 2^k -/
def Bd (k : Nat) (i : Int) : Prop := i.natAbs < 2 ^ k
theorem Bd.add {a b : Nat} {i j : Int} (h1 : Bd a i) (h2 : Bd b j) : Bd (a + b + 1) (i + j) := by
  unfold Bd at *
  have e1 : 2 ^ a ≤ 2 ^ (a + b) := Nat.pow_le_pow_right (by decide) (by omega)
  have e2 : 2 ^ b ≤ 2 ^ (a + b) := Nat.pow_le_pow_right (by decide) (by omega)
  have e3 : 2 ^ (a + b + 1) = 2 * 2 ^ (a + b) := by rw [Nat.pow_succ, Nat.mul_comm]
  omega
theorem Bd.mul {a b : Nat} {i j : Int} (h1 : Bd a i) (h2 : Bd b j) : Bd (a + b) (i * j) := wide_lt h1 h2
theorem Bd.of {k : Nat} {i j : Int} (h0 : 0 ≤ i) (h : i ≤ j) (hj : Bd k j) : Bd k i := Nat.lt_of_le_of_lt (by omega) hj
theorem Bd.log {a : Nat} {i : Int} (h : Bd a i) (h0 : 0 < a) : i.natAbs.log2 < a := PySem.Flt.log2_lt_of h0 h
theorem bd_mul {a b : Nat} {i j : Int} (h1 : Bd a i) (h2 : Bd b j) (h0 : 0 < a) (h3 : 0 < b) (h : a + b ≤ 1000000) : i.natAbs.log2 + j.natAbs.log2 < 1000000 := wide_mul h1 h2 h0 h3 h
theorem bd_mod {k : Nat} {i j : Int} (h : 0 < j) (hj : Bd k j) : Bd k (i % j) := by
  have h1 := Int.emod_nonneg i (by omega : j ≠ 0)
  have h2 := Int.emod_lt_of_pos i h
  unfold Bd at *
  omega
theorem at3_0 {α : Type} (a b c : α) : atI [a, b, c] 0 = some a := rfl
theorem at3_1 {α : Type} (a b c : α) : atI [a, b, c] 1 = some b := rfl
theorem at3_2 {α : Type} (a b c : α) : atI [a, b, c] 2 = some c := rfl
theorem ix3_0 : ixN 3 0 = some 0 := rfl
theorem ix3_2 : ixN 3 2 = some 2 := rfl
theorem at5 (p q r s t : T) (i : Int) : ∃ z, atI [p, q, r, s, t] (i % 5) = some z ∧ z ∈ [p, q, r, s, t] := by
  have : i % 5 = 0 ∨ i % 5 = 1 ∨ i % 5 = 2 ∨ i % 5 = 3 ∨ i % 5 = 4 := by omega
  rcases this with e | e | e | e | e <;> rw [e]
  · exact ⟨p, rfl, by simp⟩
  · exact ⟨q, rfl, by simp⟩
  · exact ⟨r, rfl, by simp⟩
  · exact ⟨s, rfl, by simp⟩
  · exact ⟨t, rfl, by simp⟩
def sp__law_draw : FSpec := fun os Q => ∃ n d m, n ≤ 1000000 ∧ os = [d, .pure (.int m)] ∧ Dk n d ∧ 1 ≤ m ∧ m ≤ 1000000000 ∧ ∀ r d', 0 ≤ r → r < m → Dk (n + 1) d' → Q (.pure (.int r)) [d']
/-- _law_draw: slots 0:_law_deck_here 1:_law_many 2:_law_digit 3:_law_prime 4:_law_mixed -/
def t__law_draw : ST := (sSeq (sIf (tTst (tBin gGt (tBin gIx (tName 0) (tCst (.int 0))) (tCst (.int 0)))) (sSeq (sSet 2 (tBin gMod (tBin gIx (tName 0) (tCst (.int 0))) (tName 1)))
  (sSeq (sSetIx 0 (tBin gFdiv (tBin gIx (tName 0) (tCst (.int 0))) (tName 1)) (tCst (.int 0)))
  (sRet (fun j => [true, false].getD j false) (tName 2)))) sNext)
  (sSeq (sSetIx 0 (tBin gAdd (tBin gIx (tName 0) (tCst (.int 2))) (tCst (.int 1))) (tCst (.int 2)))
  (sSeq (sSet 3 (tBin gIx (tLstD (tConsA (tCst (.int 2147483647)) (tConsA (tCst (.int 2147483629)) (tConsA (tCst (.int 2147483587)) (tConsA (tCst (.int 2147483579)) (tConsA (tCst (.int 2147483563)) tNilA)))))) (tBin gMod (tBin gIx (tName 0) (tCst (.int 2))) (tCst (.int 5)))))
  (sSeq (sSet 4 (tBin gMod (tBin gPow (tBin gAdd (tBin gAdd (tBin gIx (tName 0) (tCst (.int 1))) (tBin gMul2 (tBin gMul2 (tCst (.int 98317)) (tBin gIx (tName 0) (tCst (.int 2)))) (tBin gIx (tName 0) (tCst (.int 2))))) (tCst (.int 43))) (tCst (.int 3))) (tName 3)))
  (sRet (fun j => [true, false].getD j false) (tBin gMod (tBin gFdiv (tBin gMod (tBin gMul2 (tName 4) (tBin gAdd (tBin gMod (tName 4) (tCst (.int 10007))) (tBin gMul2 (tCst (.int 83)) (tBin gIx (tName 0) (tCst (.int 2)))))) (tCst (.int 2305843009213693907))) (tCst (.int 89))) (tName 1)))))))
theorem pl__law_draw (os : List O) (Qa : O → List O → Prop) (_ : os.length = 2) (h : sp__law_draw os Qa) : t__law_draw (endsOf [true, false] Qa) (startA 5 os) := by
  obtain ⟨n, d, m, hn, rfl, ⟨a, b, c, rfl, ha, ha2, hb, hb2, hc, hc2⟩, h1, h2, h⟩ := h
  unfold t__law_draw
  simp only [sSeq, sNext, sRet, sRetN, sDrop, sIf, sSet, sSetIx, sFor, sPar, sAsg, bAnd, bOr, bNot, tTst, bOf, tName, tCst, tBin, tUny, tNilA, tConsA, g2, g1, gN, getAll, tCallB, tCallF, tTupD, tLstD, tChainA, tChainE, tRg, rgK.eq_1, tStripX, strip1K.eq_1, strip2K.eq_1, tAndE, tOrE, tNotE, tIfE, tComp, bYes, Option.some.injEq, exists_eq, exists_eq', false_implies, Opd.slot.injEq, forall_eq, forall_eq', bO, tIsi, tSlc, partT, tRev, tDct0, tStrM, tAppend, tExtend, lstAt, tRange, intsOf, tIter, itemsOf, tEnum, tZip, tgName, tgTup, tgCons, tgNil, takeR, takeO, take1, takeAll, prep, back, setO, gAdd, gSub_, gMul2_s, gMul2_i, gMul2_l, gMul, gFdiv, gMod, gPow, gNeg, gGe, gGt, gLe, gLt, gEq, gNe, gInW, gIs, gIsNot, gLen, gAllAny, gAbs, gInt, gStr, gM2, gListOf, gTupOf, gSortS, gRepr, gIx, Opd.get, AEnv.at, O.frz, lsO, tuO, seqO, endsOf, endO, outsOf, startA, wipeA, List.getElem?_cons_zero, List.getElem?_cons_succ, List.length_cons, List.length_nil, List.map_cons, List.map_nil, List.set_cons_zero, List.set_cons_succ, List.replicate_succ, List.replicate_zero, List.cons_append, List.nil_append, List.getD_cons_zero, List.getD_cons_succ, if_true, if_false, Bool.false_eq_true, reduceIte, reduceCtorEq, Bool.not_true, Bool.not_false, implies_true, true_and, and_true, Nat.sub_self, Nat.reduceAdd, Nat.reduceSub, Nat.zero_add, List.all_cons, List.all_nil, Bool.and_true, Bool.true_and, at3_0, at3_1, at3_2, ix3_0, ix3_2]
  have bm : Bd 31 m := by unfold Bd; omega
  have bc : Bd 21 (c + 1) := by unfold Bd; omega
  have bb : Bd 62 b := by unfold Bd; omega
  by_cases g : 0 < a
  · rw [decide_eq_true g, if_pos rfl]
    refine ⟨by omega, rfl, by omega, Nat.lt_trans (bm.log (by decide)) (by decide), h _ _ (Int.emod_nonneg _ (by omega)) (Int.emod_lt_of_pos _ (by omega)) ?_⟩
    have e1 : 0 ≤ a / m := Int.ediv_nonneg ha (by omega)
    have e2 : a / m ≤ a := Int.ediv_le_self _ ha
    exact ⟨_, _, _, rfl, e1, by omega, hb, hb2, hc, by omega⟩
  · rw [decide_eq_false g, if_neg Bool.false_ne_true]
    refine ⟨by decide, ?_⟩
    obtain ⟨z, e, hz⟩ := at5 (.int 2147483647) (.int 2147483629) (.int 2147483587) (.int 2147483579) (.int 2147483563) (c + 1)
    rw [e]
    obtain ⟨p, rfl, hp, hp2⟩ : ∃ p : Int, z = .int p ∧ 0 < p ∧ p < 2147483648 := by
      simp only [List.mem_cons, List.not_mem_nil, or_false] at hz
      rcases hz with rfl | rfl | rfl | rfl | rfl <;> exact ⟨_, rfl, by decide, by decide⟩
    have bp : Bd 31 p := by unfold Bd; omega
    have k1 : Bd 17 98317 := by unfold Bd; decide
    have k2 : Bd 7 83 := by unfold Bd; decide
    have k3 : Bd 14 10007 := by unfold Bd; decide
    have k4 : Bd 6 43 := by unfold Bd; decide
    have m1 := k1.mul bc
    have m2 := m1.mul bc
    have m3 := (bb.add m2).add k4
    have q1 := bd_mod (i := (b + 98317 * (c + 1) * (c + 1) + 43) ^ Int.toNat 3) hp bp
    have q2 := (bd_mod (i := (b + 98317 * (c + 1) * (c + 1) + 43) ^ Int.toNat 3 % p) (by decide : (0 : Int) < 10007) k3).add (k2.mul bc)
    refine ⟨rfl, bd_mul k1 bc (by decide) (by decide) (by decide), bd_mul m1 bc (by decide) (by decide) (by decide), by decide, by decide, Nat.lt_trans (m3.log (by decide)) (by decide), hp, rfl, by decide, bd_mul k2 bc (by decide) (by decide) (by decide), bd_mul q1 q2 (by decide) (by decide) (by decide), by decide, by decide, by decide, by omega, ?_⟩
    exact h _ _ (Int.emod_nonneg _ (by omega)) (Int.emod_lt_of_pos _ (by omega)) ⟨_, _, _, rfl, ha, ha2, hb, hb2, by omega, by omega⟩
def sp__law_any : FSpec := fun os Q => ∃ n d ts, n ≤ 1000000 ∧ os = [d, .pure (.list ts)] ∧ Dk n d ∧ ts ≠ [] ∧ ts.length ≤ 1000000 ∧ ∀ t d', t ∈ ts → Dk (n + 1) d' → Q (.pure t) [d']
/-- _law_any: slots 0:_law_deck_here 1:_law_items -/
def t__law_any : ST := (sRet (fun j => [true, false].getD j false) (tBin gIx (tName 1) (tCallF [true, false] sp__law_draw (tConsA (tName 0) (tConsA (tCallB gLen (tConsA (tName 1) tNilA)) tNilA)))))
theorem Dk.frz {n : Nat} {o : O} (h : Dk n o) : ∃ ds, o = .lst ds := by obtain ⟨a, b, c, rfl, _⟩ := h; exact ⟨_, rfl⟩
theorem at_mem {ts : List T} {r : Int} (h0 : 0 ≤ r) (h1 : r < ts.length) : ∃ t, atI ts r = some t ∧ t ∈ ts := by
  have hl : r.toNat < ts.length := by omega
  refine ⟨ts[r.toNat], ?_, List.getElem_mem _⟩
  unfold atI ixN
  rw [if_pos h0, if_pos h1]
  exact List.getElem?_eq_getElem hl
theorem pl__law_any (os : List O) (Qa : O → List O → Prop) (_ : os.length = 2) (h : sp__law_any os Qa) : t__law_any (endsOf [true, false] Qa) (startA 2 os) := by
  obtain ⟨n, d, ts, hn, rfl, hd, hne, hl, h⟩ := h
  obtain ⟨ds, rfl⟩ := hd.frz
  have hp : 0 < ts.length := List.length_pos_iff.mpr hne
  unfold t__law_any
  simp only [sSeq, sNext, sRet, sRetN, sDrop, sIf, sSet, sSetIx, sFor, sPar, sAsg, bAnd, bOr, bNot, tTst, bOf, tName, tCst, tBin, tUny, tNilA, tConsA, g2, g1, gN, getAll, tCallB, tCallF, tTupD, tLstD, tChainA, tChainE, tRg, rgK.eq_1, tStripX, strip1K.eq_1, strip2K.eq_1, tAndE, tOrE, tNotE, tIfE, tComp, bYes, Option.some.injEq, exists_eq, exists_eq', false_implies, Opd.slot.injEq, forall_eq, forall_eq', bO, tIsi, tSlc, partT, tRev, tDct0, tStrM, tAppend, tExtend, lstAt, tRange, intsOf, tIter, itemsOf, tEnum, tZip, tgName, tgTup, tgCons, tgNil, takeR, takeO, take1, takeAll, prep, back, setO, gAdd, gSub_, gMul2_s, gMul2_i, gMul2_l, gMul, gFdiv, gMod, gPow, gNeg, gGe, gGt, gLe, gLt, gEq, gNe, gInW, gIs, gIsNot, gLen, gAllAny, gAbs, gInt, gStr, gM2, gListOf, gTupOf, gSortS, gRepr, gIx, Opd.get, AEnv.at, O.frz, lsO, tuO, seqO, endsOf, endO, outsOf, startA, wipeA, List.getElem?_cons_zero, List.getElem?_cons_succ, List.length_cons, List.length_nil, List.map_cons, List.map_nil, List.set_cons_zero, List.set_cons_succ, List.replicate_succ, List.replicate_zero, List.cons_append, List.nil_append, List.getD_cons_zero, List.getD_cons_succ, if_true, if_false, Bool.false_eq_true, reduceIte, reduceCtorEq, Bool.not_true, Bool.not_false, implies_true, true_and, and_true, Nat.sub_self, Nat.reduceAdd, Nat.reduceSub, Nat.zero_add, List.all_cons, List.all_nil, Bool.and_true, Bool.true_and]
  refine ⟨n, _, _, hn, rfl, hd, by omega, by omega, fun r d' h0 h1 hd' => ?_⟩
  obtain ⟨ds', rfl⟩ := hd'.frz
  obtain ⟨t, e, m⟩ := at_mem h0 h1
  simp only [sSeq, sNext, sRet, sRetN, sDrop, sIf, sSet, sSetIx, sFor, sPar, sAsg, bAnd, bOr, bNot, tTst, bOf, tName, tCst, tBin, tUny, tNilA, tConsA, g2, g1, gN, getAll, tCallB, tCallF, tTupD, tLstD, tChainA, tChainE, tRg, rgK.eq_1, tStripX, strip1K.eq_1, strip2K.eq_1, tAndE, tOrE, tNotE, tIfE, tComp, bYes, Option.some.injEq, exists_eq, exists_eq', false_implies, Opd.slot.injEq, forall_eq, forall_eq', bO, tIsi, tSlc, partT, tRev, tDct0, tStrM, tAppend, tExtend, lstAt, tRange, intsOf, tIter, itemsOf, tEnum, tZip, tgName, tgTup, tgCons, tgNil, takeR, takeO, take1, takeAll, prep, back, setO, gAdd, gSub_, gMul2_s, gMul2_i, gMul2_l, gMul, gFdiv, gMod, gPow, gNeg, gGe, gGt, gLe, gLt, gEq, gNe, gInW, gIs, gIsNot, gLen, gAllAny, gAbs, gInt, gStr, gM2, gListOf, gTupOf, gSortS, gRepr, gIx, Opd.get, AEnv.at, O.frz, lsO, tuO, seqO, endsOf, endO, outsOf, startA, wipeA, List.getElem?_cons_zero, List.getElem?_cons_succ, List.length_cons, List.length_nil, List.map_cons, List.map_nil, List.set_cons_zero, List.set_cons_succ, List.replicate_succ, List.replicate_zero, List.cons_append, List.nil_append, List.getD_cons_zero, List.getD_cons_succ, if_true, if_false, Bool.false_eq_true, reduceIte, reduceCtorEq, Bool.not_true, Bool.not_false, implies_true, true_and, and_true, Nat.sub_self, Nat.reduceAdd, Nat.reduceSub, Nat.zero_add, List.all_cons, List.all_nil, Bool.and_true, Bool.true_and]
  rw [e]
  exact h t _ m hd'
def sp__law_deck : FSpec := fun os Q => ∃ ts k, os = [.pure (.list ts), .pure (.int k)] ∧ (∀ t ∈ ts, ∃ i : Int, t = .int i) ∧ 0 ≤ k ∧ k ≤ 100 ∧ ∀ d, Dk 0 d → Q d []
/-- _law_deck: slots 0:_law_script 1:_law_k 2:_law_cell 3:_law_own -/
def t__law_deck : ST := (sSeq (sSet 2 (tBin gAdd (tBin gMul2 (tCst (.int 17)) (tName 1)) (tCst (.int 9))))
  (sSeq (sIf (tTst (tBin gLt (tName 1) (tCallB gLen (tConsA (tName 0) tNilA)))) (sSet 2 (tBin gIx (tName 0) (tName 1))) sNext)
  (sSeq (sSet 3 (tBin gMul2 (tBin gMod (tCallB gAbs (tConsA (tName 2) tNilA)) (tBin gPow (tBin gPow (tCst (.int 10)) (tCst (.int 60))) (tCst (.int 5)))) (tCallB gInt (tConsA (tBin gGe (tCallB gAbs (tConsA (tName 2) tNilA)) (tBin gPow (tCst (.int 10)) (tCst (.int 18)))) tNilA))))
  (sRet (fun j => [false, false].getD j false) (tLstD (tConsA (tName 3) (tConsA (tBin gMod (tBin gAdd (tBin gAdd (tBin gMul2 (tBin gMod (tName 2) (tCst (.int 2305843009213693951))) (tCst (.int 69857))) (tBin gMul2 (tBin gMul2 (tCst (.int 7907)) (tName 1)) (tName 1))) (tCst (.int 23))) (tCst (.int 2305843009213693921))) (tConsA (tCst (.int 0)) tNilA))))))))
theorem deck_fin {k c a : Int} {Q : O → List O → Prop} (h0 : 0 ≤ k) (h1 : k ≤ 100) (h : ∀ d, Dk 0 d → Q d []) :
    0 ≤ (60 : Int) ∧ (60 : Int) ≤ 1000 ∧ (Int.natAbs 10).log2 < 100000 ∧ 0 ≤ (5 : Int) ∧ (5 : Int) ≤ 1000 ∧ ((10 : Int) ^ Int.toNat 60).natAbs.log2 < 100000 ∧ 0 < ((10 : Int) ^ Int.toNat 60) ^ Int.toNat 5 ∧ 0 ≤ (18 : Int) ∧ (18 : Int) ≤ 1000 ∧ (Int.natAbs 10).log2 < 100000 ∧
      (a % ((10 : Int) ^ Int.toNat 60) ^ Int.toNat 5).natAbs.log2 + (if decide ((10 : Int) ^ Int.toNat 18 ≤ a) = true then (1 : Int) else 0).natAbs.log2 < 1000000 ∧ Nat.blt 3 4 = true ∧ 0 < (2305843009213693951 : Int) ∧
      (c % 2305843009213693951).natAbs.log2 + (Int.natAbs 69857).log2 < 1000000 ∧ (Int.natAbs 7907).log2 + k.natAbs.log2 < 1000000 ∧ (7907 * k).natAbs.log2 + k.natAbs.log2 < 1000000 ∧ 0 < (2305843009213693921 : Int) ∧
      Q (O.lst [PyData.int (a % ((10 : Int) ^ Int.toNat 60) ^ Int.toNat 5 * if decide ((10 : Int) ^ Int.toNat 18 ≤ a) = true then 1 else 0), PyData.int ((c % 2305843009213693951 * 69857 + 7907 * k * k + 23) % 2305843009213693921), PyData.int 0]) [] := by
  have e300 : ((10 : Int) ^ Int.toNat 60) ^ Int.toNat 5 = 10 ^ 300 := by decide +kernel
  rw [e300]
  have p300 : (0 : Int) < 10 ^ 300 := by decide +kernel
  have bk : Bd 7 k := by unfold Bd; omega
  have b2 := Bd.mul (i := 7907) (a := 13) (by unfold Bd; decide) bk
  have b3 : Bd 1000 ((10 : Int) ^ 300) := by unfold Bd; decide +kernel
  have b4 := bd_mod (i := a) p300 b3
  have m0 := Int.emod_nonneg a (by omega : (10 : Int) ^ 300 ≠ 0)
  have m1 := Int.emod_lt_of_pos a p300
  have b5 := bd_mod (i := c) (j := 2305843009213693951) (k := 62) (by decide) (by unfold Bd; decide)
  have l4 := b4.log (by decide)
  have l5 := b5.log (by decide)
  have lk := bk.log (by decide)
  have l2 := b2.log (by decide)
  refine ⟨by decide, by decide, by decide, by decide, by decide, by decide +kernel, p300, by decide, by decide, by decide, ?_, rfl, by decide, ?_, ?_, ?_, by decide, h _ ⟨_, _, _, rfl, ?_, ?_, Int.emod_nonneg _ (by decide), Int.emod_lt_of_pos _ (by decide), by decide, by decide⟩⟩
  · split
    · have : (Int.natAbs 1).log2 = 0 := by decide
      omega
    · have : (Int.natAbs 0).log2 = 0 := by decide
      omega
  · have : (Int.natAbs 69857).log2 = 16 := by decide
    omega
  · have : (Int.natAbs 7907).log2 = 12 := by decide
    omega
  · omega
  · split <;> omega
  · split <;> omega
theorem pl__law_deck (os : List O) (Qa : O → List O → Prop) (_ : os.length = 2) (h : sp__law_deck os Qa) : t__law_deck (endsOf [false, false] Qa) (startA 4 os) := by
  obtain ⟨ts, k, rfl, hi, h0, h1, h⟩ := h
  unfold t__law_deck
  have lk : k.natAbs.log2 < 7 := Bd.log (by unfold Bd; omega) (by decide)
  have l17 : (Int.natAbs 17).log2 = 4 := by decide
  simp only [sSeq, sNext, sRet, sRetN, sDrop, sIf, sSet, sFor, sPar, sAsg, bAnd, bOr, bNot, tTst, tCst, tBin, tUny, tNilA, tConsA, getAll, tCallB, tCallF, tTupD, tLstD, tChainA, tChainE, tRg, rgK.eq_1, tStripX, strip1K.eq_1, strip2K.eq_1, tAndE, tOrE, tNotE, tIfE, tComp, bYes, tDct0, tRange.eq_1, tgName, tgTup.eq_1, tgCons.eq_1, tgNil.eq_1, takeAll, back.eq_1, back.eq_2, back_nil, setO, tName_k, nameK.eq_1, nameK.eq_2, nameK.eq_3, nameK.eq_4, atK.eq_1, take1_v, take1_s, takeO_v, takeO_s, takeR_v, takeR_s, prep_n, prep_tv, prep_ts, prep_f, lstK.eq_1, lstAt_k, g2K.eq_1, g2_k, g1K.eq_1, g1_k, gNK.eq_1, gN_k, boK.eq_1, bOf_k, isiK.eq_1, tIsi_k, partK.eq_1, part_n, part_s, slcK.eq_1, slcK.eq_2, slcK.eq_3, slcK.eq_4, tSlc_k, revK.eq_1, revK.eq_2, revK.eq_3, tRev_k, strMK.eq_1, tStrM_k, itK.eq_1, tIter_k, enumK.eq_1, tEnum_k, zipK.eq_1, zipK.eq_2, tZip_k, intsK.eq_1, intsK.eq_2, intsOf_k, endK.eq_1, endO_k, extK.eq_1, tExtend_k, tAppend_k, setIxK.eq_1, sSetIx_k, popAtK.eq_1, tPopAt_k, bO.eq_1, itemsOf.eq_1, itemsOf.eq_2, itemsOf.eq_3, gAdd.eq_1, gAdd.eq_2, gAdd.eq_3, gAdd.eq_4, gAdd.eq_5, gAdd.eq_6, gSub_.eq_1, gSub_.eq_2, gMul2_s, gMul2_i, gMul2_l, gMulS.eq_1, gMul.eq_1, gMul.eq_2, gFdiv.eq_1, gMod.eq_1, gPow.eq_1, gNeg.eq_1, gNeg.eq_2, gGe.eq_1, gGt.eq_1, gLe.eq_1, gLt.eq_1, gLt.eq_2, gEq.eq_1, gNe.eq_1, gNe.eq_2, gNe.eq_3, gNe.eq_4, gInW.eq_1, gInW.eq_2, gIs.eq_1, gIsNot.eq_1, gLen.eq_1, gLen.eq_2, gAllAny.eq_1, gAbs.eq_1, gInt.eq_1, gInt.eq_2, gStr.eq_1, gStr.eq_2, gStr.eq_3, gM2.eq_1, gListOf.eq_1, gListOf.eq_2, gTupOf.eq_1, gTupOf.eq_2, gSort, gSortS.eq_1, gSortD.eq_1, gSortSet.eq_1, gRepr.eq_1, gM2S.eq_1, gIsB.eq_1, tCompN, tCompD, tCompI, tCompDI, tComp2, gIx.eq_1, gIx.eq_2, ati0, ati1, ati2, Option.some.injEq, exists_eq, exists_eq', false_implies, Opd.slot.injEq, forall_eq, forall_eq', Opd.get.eq_1, Opd.get.eq_2, at_join, join_some, O.frz.eq_1, O.frz.eq_2, frz_dct, O.frz.eq_4, lsO.eq_1, lsO.eq_2, tuO.eq_1, seqO_l, seqO_p, seqO_t, endsOf, outsOf, startA, wipeA, List.getElem?_cons_zero, List.getElem?_cons_succ, List.length_cons, List.length_nil, List.map_cons, List.map_nil, List.set_cons_zero, List.set_cons_succ, List.replicate_succ, List.replicate_zero, List.cons_append, List.nil_append, List.getD_cons_zero, List.getD_cons_succ, if_true, if_false, Bool.false_eq_true, reduceIte, reduceCtorEq, Bool.not_true, Bool.not_false, implies_true, true_and, and_true, Nat.sub_self, Nat.reduceAdd, Nat.reduceSub, Nat.zero_add, List.all_cons, List.all_nil, Bool.and_true, Bool.true_and]
  refine ⟨by omega, rfl, ?_⟩
  by_cases g : k < ts.length
  · rw [decide_eq_true g, if_pos rfl]
    obtain ⟨t, e, m⟩ := at_mem h0 g
    obtain ⟨c, rfl⟩ := hi t m
    rw [e]
    simp only [sSeq, sNext, sRet, sRetN, sDrop, sIf, sSet, sFor, sPar, sAsg, bAnd, bOr, bNot, tTst, tCst, tBin, tUny, tNilA, tConsA, getAll, tCallB, tCallF, tTupD, tLstD, tChainA, tChainE, tRg, rgK.eq_1, tStripX, strip1K.eq_1, strip2K.eq_1, tAndE, tOrE, tNotE, tIfE, tComp, bYes, tDct0, tRange.eq_1, tgName, tgTup.eq_1, tgCons.eq_1, tgNil.eq_1, takeAll, back.eq_1, back.eq_2, back_nil, setO, tName_k, nameK.eq_1, nameK.eq_2, nameK.eq_3, nameK.eq_4, atK.eq_1, take1_v, take1_s, takeO_v, takeO_s, takeR_v, takeR_s, prep_n, prep_tv, prep_ts, prep_f, lstK.eq_1, lstAt_k, g2K.eq_1, g2_k, g1K.eq_1, g1_k, gNK.eq_1, gN_k, boK.eq_1, bOf_k, isiK.eq_1, tIsi_k, partK.eq_1, part_n, part_s, slcK.eq_1, slcK.eq_2, slcK.eq_3, slcK.eq_4, tSlc_k, revK.eq_1, revK.eq_2, revK.eq_3, tRev_k, strMK.eq_1, tStrM_k, itK.eq_1, tIter_k, enumK.eq_1, tEnum_k, zipK.eq_1, zipK.eq_2, tZip_k, intsK.eq_1, intsK.eq_2, intsOf_k, endK.eq_1, endO_k, extK.eq_1, tExtend_k, tAppend_k, setIxK.eq_1, sSetIx_k, popAtK.eq_1, tPopAt_k, bO.eq_1, itemsOf.eq_1, itemsOf.eq_2, itemsOf.eq_3, gAdd.eq_1, gAdd.eq_2, gAdd.eq_3, gAdd.eq_4, gAdd.eq_5, gAdd.eq_6, gSub_.eq_1, gSub_.eq_2, gMul2_s, gMul2_i, gMul2_l, gMulS.eq_1, gMul.eq_1, gMul.eq_2, gFdiv.eq_1, gMod.eq_1, gPow.eq_1, gNeg.eq_1, gNeg.eq_2, gGe.eq_1, gGt.eq_1, gLe.eq_1, gLt.eq_1, gLt.eq_2, gEq.eq_1, gNe.eq_1, gNe.eq_2, gNe.eq_3, gNe.eq_4, gInW.eq_1, gInW.eq_2, gIs.eq_1, gIsNot.eq_1, gLen.eq_1, gLen.eq_2, gAllAny.eq_1, gAbs.eq_1, gInt.eq_1, gInt.eq_2, gStr.eq_1, gStr.eq_2, gStr.eq_3, gM2.eq_1, gListOf.eq_1, gListOf.eq_2, gTupOf.eq_1, gTupOf.eq_2, gSort, gSortS.eq_1, gSortD.eq_1, gSortSet.eq_1, gRepr.eq_1, gM2S.eq_1, gIsB.eq_1, tCompN, tCompD, tCompI, tCompDI, tComp2, gIx.eq_1, gIx.eq_2, ati0, ati1, ati2, Option.some.injEq, exists_eq, exists_eq', false_implies, Opd.slot.injEq, forall_eq, forall_eq', Opd.get.eq_1, Opd.get.eq_2, at_join, join_some, O.frz.eq_1, O.frz.eq_2, frz_dct, O.frz.eq_4, lsO.eq_1, lsO.eq_2, tuO.eq_1, seqO_l, seqO_p, seqO_t, endsOf, outsOf, startA, wipeA, List.getElem?_cons_zero, List.getElem?_cons_succ, List.length_cons, List.length_nil, List.map_cons, List.map_nil, List.set_cons_zero, List.set_cons_succ, List.replicate_succ, List.replicate_zero, List.cons_append, List.nil_append, List.getD_cons_zero, List.getD_cons_succ, if_true, if_false, Bool.false_eq_true, reduceIte, reduceCtorEq, Bool.not_true, Bool.not_false, implies_true, true_and, and_true, Nat.sub_self, Nat.reduceAdd, Nat.reduceSub, Nat.zero_add, List.all_cons, List.all_nil, Bool.and_true, Bool.true_and]
    exact ⟨rfl, deck_fin h0 h1 h⟩
  · rw [decide_eq_false g, if_neg Bool.false_ne_true]
    exact deck_fin h0 h1 h
theorem _root_.DL.Gd.one' {w d b : Nat} {t : T} (g : Gd w d b t) : Gds w d b [t] := Gds.one g
theorem gds_of {k w d b : Nat} {ts : List T} (h : ∀ t ∈ ts, Gd k d b t) (hw : ts.length * k ≤ w) : Gds w d b ts :=
  ⟨Nat.le_trans (szs_len fun t m => (h t m).w) hw, fun t m => (h t m).d, fun t m => (h t m).l⟩
theorem strItems_gd {x : Str} {t : T} (h : t ∈ strItems x) (a : asc x = true) : Gd 2 0 0 t := by
  unfold strItems at h
  obtain ⟨c, m, rfl⟩ := List.mem_map.mp h
  exact Gd.str (by show 1 < 2; omega) (asc_one (of_decide_eq_true (List.all_eq_true.mp a c m)))
theorem strItems_len {x : Str} : (strItems x).length = x.length := by simp [strItems, PySem.Str.length]
theorem enum_mem {ts : List T} {t : T} (h : t ∈ enumItems ts) : ∃ (i : Nat) (u : T), i < ts.length ∧ u ∈ ts ∧ t = .tuple [.int i, u] := by
  unfold enumItems at h
  obtain ⟨i, hi, e⟩ := List.getElem_of_mem h
  rw [List.getElem_zipWith] at e
  simp only [List.getElem_range] at e
  have : i < ts.length := by simpa using hi
  exact ⟨i, ts[i], this, List.getElem_mem _, e.symm⟩
end WS

set_option Elab.async false
set_option linter.all false
set_option maxRecDepth 100000
set_option maxHeartbeats 4000000
namespace WS
open PySem PySem.Spec L2 DL
open PyProof.Rows hiding St
/-- names: texts of at most 8 letters -/
def nameT (t : T) : Prop := ∃ x : Str, t = .str x ∧ x.length ≤ 8 ∧ asc x = true
/-- texts, each below the next ones -/
def upS (ts : List T) : Prop := ∃ ys : List Str, ts = ys.map PyData.str ∧ ys.Pairwise fun a b => a.cps.toList < b.cps.toList
def sp__law_names : FSpec := fun os Q => ∃ n d k, n ≤ 900000 ∧ os = [d, .pure (.int (k : Nat))] ∧ Dk n d ∧ k ≤ 20 ∧ ∀ ts d', ts.length = k → (∀ t ∈ ts, nameT t) → upS ts → Dk (n + 2) d' → Q (.lst ts) [d']
/-- _law_names: slots 0:_law_deck_here 1:_law_many 2:_law_stem 3:_law_first 4:_law_letters 5:_law_at -/
def t__law_names : ST := (sSeq (sPar [2, 3] (tConsA (tCallF [true, false] sp__law_any (tConsA (tName 0) (tConsA (tLstD (tConsA (tCst (.str "")) (tConsA (tCst (.str "")) (tConsA (tCst (.str "x")) (tConsA (tCst (.str "step")) (tConsA (tCst (.str "release")) tNilA)))))) tNilA))) (tConsA (tCallF [true, false] sp__law_draw (tConsA (tName 0) (tConsA (tCst (.int 26)) tNilA))) tNilA)))
  (sSeq (sSet 4 (tCst (.str "abcdefghijklmnopqrstuvwxyz")))
  (sRet (fun j => [true, false].getD j false) (tCallB gSort (tConsA (tComp (tRange (tConsA (tName 1) tNilA)) (tgName 5) bYes (tBin gAdd (tName 2) (tBin gIx (tName 4) (tBin gMod (tBin gAdd (tName 3) (tBin gMul2 (tCst (.int 5)) (tName 5))) (tCst (.int 26))))) [5]) tNilA)))))
theorem strsOf_map (f : T → Str) : ∀ ts : List T, strsOf (ts.map fun t => .str (f t)) = some (ts.map f)
  | [] => rfl
  | t :: ts => by simp [strsOf, strsOf_map f ts]
theorem rng_mem {lo : Int} {n : Nat} {t : T} (h : t ∈ rngItems lo n) : ∃ i : Int, (lo ≤ i ∧ i < lo + n) ∧ t = .int i := by
  unfold rngItems at h
  obtain ⟨i, hi, rfl⟩ := List.mem_map.mp h
  have := List.mem_range.mp hi
  exact ⟨_, ⟨by omega, by omega⟩, rfl⟩
def nmS (st : Str) (r : Int) : T → Str
  | .int i => st ++ ⟨#[(atI letters.cps.toList ((r + 5 * i) % 26)).getD 0]⟩
  | _ => st
theorem nmS_int (st : Str) (r i : Int) : nmS st r (.int i) = st ++ ⟨#[(atI letters.cps.toList ((r + 5 * i) % 26)).getD 0]⟩ := rfl
theorem lett_at (i : Int) : ∃ c, atI letters.cps.toList (i % 26) = some c := by
  have h0 := Int.emod_nonneg i (by decide : (26 : Int) ≠ 0)
  have h1 := Int.emod_lt_of_pos i (by decide : (0 : Int) < 26)
  have hl : letters.cps.toList.length = 26 := by decide +kernel
  unfold atI ixN
  rw [if_pos h0, if_pos (by omega)]
  exact ⟨_, List.getElem?_eq_getElem (by omega)⟩
theorem lett_asc : ∀ c ∈ letters.cps.toList, c < 128 := by decide +kernel
theorem atI_mem {α : Type} {l : List α} {i : Int} {x : α} (h : atI l i = some x) : x ∈ l := by
  unfold atI at h
  cases e : ixN l.length i with
  | none => rw [e] at h; cases h
  | some j => rw [e] at h; exact List.mem_of_getElem? h
theorem len_app (a b : Str) : (a ++ b).length = a.length + b.length := strLen_append a b
theorem lett_nodup : letters.cps.toList.Nodup := by decide +kernel
theorem nm_inj {st : Str} {r i j : Int} (h0 : 0 ≤ i) (hi : i < 26) (h1 : 0 ≤ j) (hj : j < 26) (e : nmS st r (.int i) = nmS st r (.int j)) : i = j := by
  obtain ⟨c, hc⟩ := lett_at (r + 5 * i)
  obtain ⟨d, hd⟩ := lett_at (r + 5 * j)
  rw [nmS_int, nmS_int, hc, hd] at e
  have e2 : c = d := by
    have : (st ++ (⟨#[c]⟩ : Str)).cps.toList = (st ++ (⟨#[d]⟩ : Str)).cps.toList := congrArg (fun z : Str => z.cps.toList) e
    rw [PySem.Str.cps_append, PySem.Str.cps_append, Array.toList_append, Array.toList_append] at this
    have := List.append_cancel_left this
    simpa using this
  subst e2
  have a0 := Int.emod_nonneg (r + 5 * i) (by decide : (26 : Int) ≠ 0)
  have a1 := Int.emod_lt_of_pos (r + 5 * i) (by decide : (0 : Int) < 26)
  have b0 := Int.emod_nonneg (r + 5 * j) (by decide : (26 : Int) ≠ 0)
  have b1 := Int.emod_lt_of_pos (r + 5 * j) (by decide : (0 : Int) < 26)
  have hl : letters.cps.toList.length = 26 := by decide +kernel
  unfold atI ixN at hc hd
  rw [if_pos a0, if_pos (by omega)] at hc
  rw [if_pos b0, if_pos (by omega)] at hd
  rw [Option.bind_some] at hc hd
  have := (List.getElem?_inj (by omega) lett_nodup).mp (hc.trans hd.symm)
  omega
theorem nm_nodup {st : Str} {r : Int} {n : Nat} (h : n ≤ 26) : ((rngItems 0 n).map (nmS st r)).Nodup := by
  unfold rngItems
  rw [List.map_map]
  refine List.pairwise_map.mpr (List.nodup_range.imp_of_mem fun {a b} ha hb ne q => ne ?_)
  have ha := List.mem_range.mp ha
  have hb := List.mem_range.mp hb
  have := nm_inj (st := st) (r := r) (i := 0 + a) (j := 0 + b) (by omega) (by omega) (by omega) (by omega) q
  omega
theorem cps_lt {a b : Str} (h : ltCps b.cps.toList a.cps.toList = false) (ne : a ≠ b) : a.cps.toList < b.cps.toList := by
  rw [ltCps_eq] at h
  have h := of_decide_eq_false h
  rcases Nat.lt_or_ge 0 1 with _ | _
  · by_cases q : a.cps.toList < b.cps.toList
    · exact q
    · exact absurd (PySem.Str.ext' (Array.toList_inj.mp (List.le_antisymm (List.not_lt.mp h) (List.not_lt.mp q)))) ne
  · omega
theorem up_from : ∀ (r : List Str) (p : Str), risingS p r = true → (p :: r).Nodup → (p :: r).Pairwise fun a b => a.cps.toList < b.cps.toList
  | [], p, _, _ => by simp
  | x :: r, p, h, nd => by
    unfold risingS at h
    cases q : ltCps x.cps.toList p.cps.toList with
    | true => rw [q] at h; cases h
    | false =>
      rw [q] at h
      obtain ⟨n1, n2⟩ := List.nodup_cons.mp nd
      have ih := up_from r x h n2
      have hp : p.cps.toList < x.cps.toList := cps_lt q fun e => n1 (e ▸ List.mem_cons_self)
      refine List.pairwise_cons.mpr ⟨fun y hy => ?_, ih⟩
      rcases List.mem_cons.mp hy with rfl | hy
      · exact hp
      · exact List.lt_trans hp ((List.pairwise_cons.mp ih).1 y hy)
theorem up_of {ys : List Str} (h : sortedS ys = true) (nd : ys.Nodup) : ys.Pairwise fun a b => a.cps.toList < b.cps.toList := by
  cases ys with
  | nil => exact .nil
  | cons p r => exact up_from r p h nd
theorem pl__law_names (os : List O) (Qa : O → List O → Prop) (_ : os.length = 2) (h : sp__law_names os Qa) : t__law_names (endsOf [true, false] Qa) (startA 6 os) := by
  obtain ⟨n, d, k, hn, rfl, hd, hk, h⟩ := h
  obtain ⟨ds, rfl⟩ := hd.frz
  unfold t__law_names
  simp only [sSeq, sNext, sRet, sRetN, sDrop, sIf, sSet, sSetIx, sFor, sPar, sAsg, bAnd, bOr, bNot, tTst, bOf, tName, tCst, tBin, tUny, tNilA, tConsA, g2, g1, gN, getAll, tCallB, tCallF, tTupD, tLstD, tChainA, tChainE, tRg, rgK.eq_1, tStripX, strip1K.eq_1, strip2K.eq_1, tAndE, tOrE, tNotE, tIfE, tComp, bYes, Option.some.injEq, exists_eq, exists_eq', false_implies, Opd.slot.injEq, forall_eq, forall_eq', bO, tIsi, tSlc, partT, tRev, tDct0, tStrM, tAppend, tExtend, lstAt, tRange, intsOf, tIter, itemsOf, tEnum, tZip, tgName, tgTup, tgCons, tgNil, takeR, takeO, take1, takeAll, prep, back, setO, gAdd, gSub_, gMul2_s, gMul2_i, gMul2_l, gMul, gFdiv, gMod, gPow, gNeg, gGe, gGt, gLe, gLt, gEq, gNe, gInW, gIs, gIsNot, gLen, gAllAny, gAbs, gInt, gStr, gM2, gListOf, gTupOf, gSortS, gRepr, gIx, Opd.get, AEnv.at, O.frz, lsO, tuO, seqO, endsOf, endO, outsOf, startA, wipeA, List.getElem?_cons_zero, List.getElem?_cons_succ, List.length_cons, List.length_nil, List.map_cons, List.map_nil, List.set_cons_zero, List.set_cons_succ, List.replicate_succ, List.replicate_zero, List.cons_append, List.nil_append, List.getD_cons_zero, List.getD_cons_succ, if_true, if_false, Bool.false_eq_true, reduceIte, reduceCtorEq, Bool.not_true, Bool.not_false, implies_true, true_and, and_true, Nat.sub_self, Nat.reduceAdd, Nat.reduceSub, Nat.zero_add, List.all_cons, List.all_nil, Bool.and_true, Bool.true_and]
  refine ⟨n, _, _, by omega, rfl, hd, by simp, by simp, fun t d' ht hd' => ?_⟩
  obtain ⟨ds', rfl⟩ := hd'.frz
  simp only [sSeq, sNext, sRet, sRetN, sDrop, sIf, sSet, sSetIx, sFor, sPar, sAsg, bAnd, bOr, bNot, tTst, bOf, tName, tCst, tBin, tUny, tNilA, tConsA, g2, g1, gN, getAll, tCallB, tCallF, tTupD, tLstD, tChainA, tChainE, tRg, rgK.eq_1, tStripX, strip1K.eq_1, strip2K.eq_1, tAndE, tOrE, tNotE, tIfE, tComp, bYes, Option.some.injEq, exists_eq, exists_eq', false_implies, Opd.slot.injEq, forall_eq, forall_eq', bO, tIsi, tSlc, partT, tRev, tDct0, tStrM, tAppend, tExtend, lstAt, tRange, intsOf, tIter, itemsOf, tEnum, tZip, tgName, tgTup, tgCons, tgNil, takeR, takeO, take1, takeAll, prep, back, setO, gAdd, gSub_, gMul2_s, gMul2_i, gMul2_l, gMul, gFdiv, gMod, gPow, gNeg, gGe, gGt, gLe, gLt, gEq, gNe, gInW, gIs, gIsNot, gLen, gAllAny, gAbs, gInt, gStr, gM2, gListOf, gTupOf, gSortS, gRepr, gIx, Opd.get, AEnv.at, O.frz, lsO, tuO, seqO, endsOf, endO, outsOf, startA, wipeA, List.getElem?_cons_zero, List.getElem?_cons_succ, List.length_cons, List.length_nil, List.map_cons, List.map_nil, List.set_cons_zero, List.set_cons_succ, List.replicate_succ, List.replicate_zero, List.cons_append, List.nil_append, List.getD_cons_zero, List.getD_cons_succ, if_true, if_false, Bool.false_eq_true, reduceIte, reduceCtorEq, Bool.not_true, Bool.not_false, implies_true, true_and, and_true, Nat.sub_self, Nat.reduceAdd, Nat.reduceSub, Nat.zero_add, List.all_cons, List.all_nil, Bool.and_true, Bool.true_and]
  refine ⟨n + 1, _, _, by omega, rfl, hd', by decide, by decide, fun r d' h0 h1 hd' => ?_⟩
  obtain ⟨ds', rfl⟩ := hd'.frz
  simp only [sSeq, sNext, sRet, sRetN, sDrop, sIf, sSet, sSetIx, sFor, sPar, sAsg, bAnd, bOr, bNot, tTst, bOf, tName, tCst, tBin, tUny, tNilA, tConsA, g2, g1, gN, getAll, tCallB, tCallF, tTupD, tLstD, tChainA, tChainE, tRg, rgK.eq_1, tStripX, strip1K.eq_1, strip2K.eq_1, tAndE, tOrE, tNotE, tIfE, tComp, bYes, Option.some.injEq, exists_eq, exists_eq', false_implies, Opd.slot.injEq, forall_eq, forall_eq', bO, tIsi, tSlc, partT, tRev, tDct0, tStrM, tAppend, tExtend, lstAt, tRange, intsOf, tIter, itemsOf, tEnum, tZip, tgName, tgTup, tgCons, tgNil, takeR, takeO, take1, takeAll, prep, back, setO, gAdd, gSub_, gMul2_s, gMul2_i, gMul2_l, gMul, gFdiv, gMod, gPow, gNeg, gGe, gGt, gLe, gLt, gEq, gNe, gInW, gIs, gIsNot, gLen, gAllAny, gAbs, gInt, gStr, gM2, gListOf, gTupOf, gSortS, gRepr, gIx, Opd.get, AEnv.at, O.frz, lsO, tuO, seqO, endsOf, endO, outsOf, startA, wipeA, List.getElem?_cons_zero, List.getElem?_cons_succ, List.length_cons, List.length_nil, List.map_cons, List.map_nil, List.set_cons_zero, List.set_cons_succ, List.replicate_succ, List.replicate_zero, List.cons_append, List.nil_append, List.getD_cons_zero, List.getD_cons_succ, if_true, if_false, Bool.false_eq_true, reduceIte, reduceCtorEq, Bool.not_true, Bool.not_false, implies_true, true_and, and_true, Nat.sub_self, Nat.reduceAdd, Nat.reduceSub, Nat.zero_add, List.all_cons, List.all_nil, Bool.and_true, Bool.true_and]
  obtain ⟨st, rfl, hst, hsa⟩ : ∃ st : Str, t = .str st ∧ st.length ≤ 7 ∧ asc st = true := by
    simp only [List.mem_cons, List.not_mem_nil, or_false] at ht
    rcases ht with rfl | rfl | rfl | rfl | rfl <;> exact ⟨_, rfl, by decide, by decide +kernel⟩
  refine ⟨rfl, rfl, by omega, by omega, ?_⟩
  refine compW_map (fun t => .str (nmS st r t)) _ _ (fun t m Q' acc ts' q => ?_) ?_
  · obtain ⟨i, hi, rfl⟩ := rng_mem m
    unfold compW
    simp only [sSeq, sNext, sRet, sRetN, sDrop, sIf, sSet, sSetIx, sFor, sPar, sAsg, bAnd, bOr, bNot, tTst, bOf, tName, tCst, tBin, tUny, tNilA, tConsA, g2, g1, gN, getAll, tCallB, tCallF, tTupD, tLstD, tChainA, tChainE, tRg, rgK.eq_1, tStripX, strip1K.eq_1, strip2K.eq_1, tAndE, tOrE, tNotE, tIfE, tComp, bYes, Option.some.injEq, exists_eq, exists_eq', false_implies, Opd.slot.injEq, forall_eq, forall_eq', bO, tIsi, tSlc, partT, tRev, tDct0, tStrM, tAppend, tExtend, lstAt, tRange, intsOf, tIter, itemsOf, tEnum, tZip, tgName, tgTup, tgCons, tgNil, takeR, takeO, take1, takeAll, prep, back, setO, gAdd, gSub_, gMul2_s, gMul2_i, gMul2_l, gMul, gFdiv, gMod, gPow, gNeg, gGe, gGt, gLe, gLt, gEq, gNe, gInW, gIs, gIsNot, gLen, gAllAny, gAbs, gInt, gStr, gM2, gListOf, gTupOf, gSortS, gRepr, gIx, Opd.get, AEnv.at, O.frz, lsO, tuO, seqO, endsOf, endO, outsOf, startA, wipeA, List.getElem?_cons_zero, List.getElem?_cons_succ, List.length_cons, List.length_nil, List.map_cons, List.map_nil, List.set_cons_zero, List.set_cons_succ, List.replicate_succ, List.replicate_zero, List.cons_append, List.nil_append, List.getD_cons_zero, List.getD_cons_succ, if_true, if_false, Bool.false_eq_true, reduceIte, reduceCtorEq, Bool.not_true, Bool.not_false, implies_true, true_and, and_true, Nat.sub_self, Nat.reduceAdd, Nat.reduceSub, Nat.zero_add, List.all_cons, List.all_nil, Bool.and_true, Bool.true_and]
    obtain ⟨c, hc⟩ := lett_at (r + 5 * i)
    have e : nmS st r (.int i) = st ++ ⟨#[c]⟩ := by rw [nmS_int, hc]; rfl
    rw [e] at q
    refine ⟨rfl, by
      have : (5 : Int).natAbs.log2 = 2 := by decide
      have h2 : Bd 5 i := by unfold Bd; omega
      have := h2.log (by decide)
      omega, by decide, by decide, ?_⟩
    have hc' : atI (Str.ofString "abcdefghijklmnopqrstuvwxyz").cps.toList ((r + 5 * i) % 26) = some c := hc
    rw [hc']
    refine ⟨?_, q⟩
    have : (⟨#[c]⟩ : Str).length = 1 := rfl
    omega
  · refine .inl ?_
    simp only [gSortS, lsO]
    rw [List.nil_append, strsOf_map]
    simp only [sSeq, sNext, sRet, sRetN, sDrop, sIf, sSet, sSetIx, sFor, sPar, sAsg, bAnd, bOr, bNot, tTst, bOf, tName, tCst, tBin, tUny, tNilA, tConsA, g2, g1, gN, getAll, tCallB, tCallF, tTupD, tLstD, tChainA, tChainE, tRg, rgK.eq_1, tStripX, strip1K.eq_1, strip2K.eq_1, tAndE, tOrE, tNotE, tIfE, tComp, bYes, Option.some.injEq, exists_eq, exists_eq', false_implies, Opd.slot.injEq, forall_eq, forall_eq', bO, tIsi, tSlc, partT, tRev, tDct0, tStrM, tAppend, tExtend, lstAt, tRange, intsOf, tIter, itemsOf, tEnum, tZip, tgName, tgTup, tgCons, tgNil, takeR, takeO, take1, takeAll, prep, back, setO, gAdd, gSub_, gMul2_s, gMul2_i, gMul2_l, gMul, gFdiv, gMod, gPow, gNeg, gGe, gGt, gLe, gLt, gEq, gNe, gInW, gIs, gIsNot, gLen, gAllAny, gAbs, gInt, gStr, gM2, gListOf, gTupOf, gSortS, gRepr, gIx, Opd.get, AEnv.at, O.frz, lsO, tuO, seqO, endsOf, endO, outsOf, startA, wipeA, List.getElem?_cons_zero, List.getElem?_cons_succ, List.length_cons, List.length_nil, List.map_cons, List.map_nil, List.set_cons_zero, List.set_cons_succ, List.replicate_succ, List.replicate_zero, List.cons_append, List.nil_append, List.getD_cons_zero, List.getD_cons_succ, if_true, if_false, Bool.false_eq_true, reduceIte, reduceCtorEq, Bool.not_true, Bool.not_false, implies_true, true_and, and_true, Nat.sub_self, Nat.reduceAdd, Nat.reduceSub, Nat.zero_add, List.all_cons, List.all_nil, Bool.and_true, Bool.true_and]
    have hl : ((rngItems 0 ((k : Int)).toNat).map (nmS st r)).length = k := by simp [rngItems]
    refine ⟨by rw [hl]; omega, fun ys hp hso => h _ _ (by rw [List.length_map, hp.length_eq, hl]) (fun t m => ?_) ⟨ys, rfl, up_of hso (hp.nodup_iff.mpr (nm_nodup (by omega)))⟩ hd'⟩
    obtain ⟨y, hy, rfl⟩ := List.mem_map.mp m
    obtain ⟨z, hz, rfl⟩ := List.mem_map.mp (hp.mem_iff.mp hy)
    obtain ⟨i, _, rfl⟩ := rng_mem hz
    obtain ⟨c, hc⟩ := lett_at (r + 5 * i)
    have hc2 : c < 128 := lett_asc c (atI_mem hc)
    refine ⟨_, rfl, ?_, ?_⟩
    · rw [nmS_int, len_app]
      have : ((⟨#[(atI letters.cps.toList ((r + 5 * i) % 26)).getD 0]⟩ : Str)).length = 1 := rfl
      omega
    · rw [nmS_int, hc]
      exact asc_app hsa (asc_one hc2)
theorem name_gd {t : T} (h : nameT t) : Gd 9 0 0 t := by
  obtain ⟨x, rfl, h1, h2⟩ := h
  exact Gd.str (by omega) h2
end WS

set_option Elab.async false
set_option linter.all false
set_option maxRecDepth 100000
set_option maxHeartbeats 4000000
namespace WS
open PySem PySem.Spec L2 DL
open PyProof.Rows hiding St
/-! networks: services ascending, talks between a service and one behind it -/
abbrev Up (ys : List Str) : Prop := ys.Pairwise fun a b => a.cps.toList < b.cps.toList
/-- a network of the services ys and the talks us -/
structure NetOk (ys : List Str) (us : List (Str × Str)) : Prop where
  up : Up ys
  n1 : 1 ≤ ys.length
  n2 : ys.length ≤ 12
  nm : ∀ y ∈ ys, y.length ≤ 8 ∧ asc y = true
  m : us.length ≤ 40
  tk : ∀ u ∈ us, u.1 ∈ ys ∧ u.2 ∈ ys ∧ u.1.cps.toList < u.2.cps.toList
def talkO (u : Str × Str) : T := .tuple [.str u.1, .str u.2]
def netO (ys : List Str) (us : List (Str × Str)) : T := .tuple [.tuple (ys.map PyData.str), .tuple (us.map talkO)]
def sp__law_network : FSpec := fun os Q => ∃ n d, ∃ (k : Nat) (b : Bool), n ≤ 800000 ∧ os = [d, .pure (.int (k : Nat)), .pure (.bool b)] ∧ Dk n d ∧ 1 ≤ k ∧ k ≤ 12 ∧ ∀ ys us d', NetOk ys us → Dk (n + 200) d' → Q (.pure (netO ys us)) [d']
/-- _law_network: slots 0:_law_deck_here 1:_law_many 2:_law_is_sided 3:_law_services 4:_law_talks 5:_law_share 6:_law_side 7:_law_at 8:_law_one 9:_law_to 10:_law_is_wanted 11:_law_service -/
def t__law_network_b1 : ST := (sSeq (sSet 10 (tOrE (tNotE (tName 2)) (tBin gNe (tBin gIx (tName 6) (tName 7)) (tBin gIx (tName 6) (tName 9)))))
  (sIf (bAnd (tTst (tName 10)) (bAnd (tTst (tBin gLt (tCallB gLen (tConsA (tName 4) tNilA)) (tCst (.int 40)))) (tTst (tBin gEq (tCallF [true, false] sp__law_draw (tConsA (tName 0) (tConsA (tName 5) tNilA))) (tCst (.int 0)))))) (sDrop (tAppend 4 (tTupD (tConsA (tName 8) (tConsA (tBin gIx (tName 3) (tName 9)) tNilA))))) sNext))
def t__law_network_b2 : ST := (sFor (tRange (tConsA (tBin gAdd (tName 7) (tCst (.int 1))) (tConsA (tName 1) tNilA))) (tgName 9) t__law_network_b1)
def t__law_network : ST := (sSeq (sPar [3, 4, 5] (tConsA (tCallF [true, false] sp__law_names (tConsA (tName 0) (tConsA (tName 1) tNilA))) (tConsA (tLstD tNilA) (tConsA (tCallF [true, false] sp__law_any (tConsA (tName 0) (tConsA (tLstD (tConsA (tCst (.int 1)) (tConsA (tCst (.int 2)) (tConsA (tCst (.int 3)) (tConsA (tCst (.int 6)) tNilA))))) tNilA))) tNilA))))
  (sSeq (sSet 6 (tComp (tIter (tName 3)) (tgName 11) bYes (tCallF [true, false] sp__law_draw (tConsA (tName 0) (tConsA (tCst (.int 2)) tNilA))) [11]))
  (sSeq (sFor (tEnum (tConsA (tName 3) tNilA)) (tgTup 2 (tgCons (tgName 7) (tgCons (tgName 8) tgNil))) t__law_network_b2)
  (sRet (fun j => [true, false, false].getD j false) (tTupD (tConsA (tCallB gTupOf (tConsA (tName 3) tNilA)) (tConsA (tCallB gTupOf (tConsA (tName 4) tNilA)) tNilA)))))))
def netE (ds : List T) (k : Nat) (b : Bool) (ss us : List T) (q : Int) (acc : List T) (x7 x8 x9 x10 : Option O) : AEnv :=
  [some (.lst ds), some (.pure (.int k)), some (.pure (.bool b)), some (.pure (.list ss)), some (.lst us), some (.pure (.int q)), some (.lst acc), x7, x8, x9, x10, none]
def tkOk (ys : List Str) (u : Str × Str) : Prop := u.1 ∈ ys ∧ u.2 ∈ ys ∧ u.1.cps.toList < u.2.cps.toList
theorem up_at {ys : List Str} (h : Up ys) {i j : Nat} {a b : Str} (hi : ys[i]? = some a) (hj : ys[j]? = some b) (lt : i < j) : a.cps.toList < b.cps.toList := by
  obtain ⟨li, ei⟩ := List.getElem?_eq_some_iff.mp hi
  obtain ⟨lj, ej⟩ := List.getElem?_eq_some_iff.mp hj
  have := List.pairwise_iff_getElem.mp h i j li lj lt
  rw [ei, ej] at this; exact this
theorem strs_at {ys : List Str} {j : Nat} (h : j < ys.length) : ∃ y, ys[j]? = some y ∧ y ∈ ys ∧ atI (ys.map PyData.str) (j : Int) = some (.str y) := by
  refine ⟨ys[j], List.getElem?_eq_getElem h, List.getElem_mem _, ?_⟩
  unfold atI ixN
  rw [if_pos (by omega), if_pos (by rw [List.length_map]; omega), Option.bind_some, List.getElem?_map, show ((j : Int)).toNat = j from rfl, List.getElem?_eq_getElem h]
  rfl
theorem net_b1 {m k : Nat} {b : Bool} {ys : List Str} {us : List (Str × Str)} {acc ds : List T} {q : Int} {i j : Nat} {one : Str} {x10 : Option O} {D : AEnds} (hm : m ≤ 900000) (hd : Dk m (.lst ds)) (hss : ys.length = k) (hup : Up ys) (hacc : acc.length = k) (hai : ∀ t ∈ acc, ∃ z : Int, t = .int z) (hq1 : 1 ≤ q) (hq2 : q ≤ 6)
    (hi : i < j) (hj : j < k) (hone : ys[i]? = some one) (hus : us.length ≤ 40) (hut : ∀ u ∈ us, tkOk ys u)
    (nx : ∀ (ds' : List T) (us' : List (Str × Str)) (x10' : Option O), Dk (m + 1) (.lst ds') → us'.length ≤ 40 → (∀ u ∈ us', tkOk ys u) → D.nx (netE ds' k b (ys.map PyData.str) (us'.map talkO) q acc (some (.pure (.int i))) (some (.pure (.str one))) (some (.pure (.int j))) x10')) :
    t__law_network_b1 D (netE ds k b (ys.map PyData.str) (us.map talkO) q acc (some (.pure (.int i))) (some (.pure (.str one))) (some (.pure (.int j))) x10) := by
  obtain ⟨ti, ei, mi⟩ := at_mem (ts := acc) (r := i) (by omega) (by omega)
  obtain ⟨tj, ej, mj⟩ := at_mem (ts := acc) (r := j) (by omega) (by omega)
  obtain ⟨si, es0, ms, es⟩ := strs_at (ys := ys) (j := j) (by omega)
  obtain ⟨zi, rfl⟩ := hai _ mi
  obtain ⟨zj, rfl⟩ := hai _ mj
  unfold t__law_network_b1 netE
  unfold netE at nx
  have ap : us.map talkO ++ [PyData.tuple [PyData.str one, PyData.str si]] = (us ++ [(one, si)]).map talkO := by rw [List.map_append]; rfl
  have tk : ∀ u ∈ us ++ [(one, si)], tkOk ys u := fun u mu => by
    rcases List.mem_append.mp mu with mu | mu
    · exact hut u mu
    · obtain rfl := List.mem_singleton.mp mu
      exact ⟨List.mem_of_getElem? hone, ms, up_at hup hone es0 hi⟩
  cases b with
  | false =>
    simp only [sSeq, sNext, sRet, sRetN, sDrop, sIf, sSet, sSetIx, sFor, sPar, sAsg, bAnd, bOr, bNot, tTst, bOf, tName, tCst, tBin, tUny, tNilA, tConsA, g2, g1, gN, getAll, tCallB, tCallF, tTupD, tLstD, tChainA, tChainE, tRg, rgK.eq_1, tStripX, strip1K.eq_1, strip2K.eq_1, tAndE, tOrE, tNotE, tIfE, tComp, bYes, Option.some.injEq, exists_eq, exists_eq', false_implies, Opd.slot.injEq, forall_eq, forall_eq', bO, tIsi, tSlc, partT, tRev, tDct0, tStrM, tAppend, tExtend, lstAt, tRange, intsOf, tIter, itemsOf, tEnum, tZip, tgName, tgTup, tgCons, tgNil, takeR, takeO, take1, takeAll, prep, back, setO, gAdd, gSub_, gMul2_s, gMul2_i, gMul2_l, gMul, gFdiv, gMod, gPow, gNeg, gGe, gGt, gLe, gLt, gEq, gNe, gInW, gIs, gIsNot, gLen, gAllAny, gAbs, gInt, gStr, gM2, gListOf, gTupOf, gSortS, gRepr, gIx, Opd.get, AEnv.at, O.frz, lsO, tuO, seqO, endsOf, endO, outsOf, startA, wipeA, List.getElem?_cons_zero, List.getElem?_cons_succ, List.length_cons, List.length_nil, List.map_cons, List.map_nil, List.set_cons_zero, List.set_cons_succ, List.replicate_succ, List.replicate_zero, List.cons_append, List.nil_append, List.getD_cons_zero, List.getD_cons_succ, if_true, if_false, Bool.false_eq_true, reduceIte, reduceCtorEq, Bool.not_true, Bool.not_false, implies_true, true_and, and_true, Nat.sub_self, Nat.reduceAdd, Nat.reduceSub, Nat.zero_add, List.all_cons, List.all_nil, Bool.and_true, Bool.true_and]
    refine ⟨rfl, ?_⟩
    by_cases g : ((us.map talkO).length : Int) < 40
    · rw [decide_eq_true g, if_pos rfl]
      rw [List.length_map] at g
      refine ⟨m, _, q, by omega, rfl, hd, hq1, by omega, fun r d' h0 h1 hd' => ?_⟩
      obtain ⟨ds', rfl⟩ := hd'.frz
      simp only [sSeq, sNext, sRet, sRetN, sDrop, sIf, sSet, sSetIx, sFor, sPar, sAsg, bAnd, bOr, bNot, tTst, bOf, tName, tCst, tBin, tUny, tNilA, tConsA, g2, g1, gN, getAll, tCallB, tCallF, tTupD, tLstD, tChainA, tChainE, tRg, rgK.eq_1, tStripX, strip1K.eq_1, strip2K.eq_1, tAndE, tOrE, tNotE, tIfE, tComp, bYes, Option.some.injEq, exists_eq, exists_eq', false_implies, Opd.slot.injEq, forall_eq, forall_eq', bO, tIsi, tSlc, partT, tRev, tDct0, tStrM, tAppend, tExtend, lstAt, tRange, intsOf, tIter, itemsOf, tEnum, tZip, tgName, tgTup, tgCons, tgNil, takeR, takeO, take1, takeAll, prep, back, setO, gAdd, gSub_, gMul2_s, gMul2_i, gMul2_l, gMul, gFdiv, gMod, gPow, gNeg, gGe, gGt, gLe, gLt, gEq, gNe, gInW, gIs, gIsNot, gLen, gAllAny, gAbs, gInt, gStr, gM2, gListOf, gTupOf, gSortS, gRepr, gIx, Opd.get, AEnv.at, O.frz, lsO, tuO, seqO, endsOf, endO, outsOf, startA, wipeA, List.getElem?_cons_zero, List.getElem?_cons_succ, List.length_cons, List.length_nil, List.map_cons, List.map_nil, List.set_cons_zero, List.set_cons_succ, List.replicate_succ, List.replicate_zero, List.cons_append, List.nil_append, List.getD_cons_zero, List.getD_cons_succ, if_true, if_false, Bool.false_eq_true, reduceIte, reduceCtorEq, Bool.not_true, Bool.not_false, implies_true, true_and, and_true, Nat.sub_self, Nat.reduceAdd, Nat.reduceSub, Nat.zero_add, List.all_cons, List.all_nil, Bool.and_true, Bool.true_and, es]
      refine ⟨by simp [cmpOk], by simp [PyData.depth], ?_⟩
      by_cases gr : r = 0
      · subst gr
        rw [if_pos (by simp [PyData.eqv])]
        refine ⟨by rw [List.length_map]; omega, ?_⟩
        rw [ap]
        exact nx _ _ _ hd' (by rw [List.length_append]; simp; omega) tk
      · rw [if_neg (by simp [PyData.eqv, gr])]
        exact nx _ _ _ hd' hus hut
    · rw [decide_eq_false g, if_neg Bool.false_ne_true]
      exact nx _ _ _ (hd.mono (by omega)) hus hut
  | true =>
    simp only [sSeq, sNext, sRet, sRetN, sDrop, sIf, sSet, sSetIx, sFor, sPar, sAsg, bAnd, bOr, bNot, tTst, bOf, tName, tCst, tBin, tUny, tNilA, tConsA, g2, g1, gN, getAll, tCallB, tCallF, tTupD, tLstD, tChainA, tChainE, tRg, rgK.eq_1, tStripX, strip1K.eq_1, strip2K.eq_1, tAndE, tOrE, tNotE, tIfE, tComp, bYes, Option.some.injEq, exists_eq, exists_eq', false_implies, Opd.slot.injEq, forall_eq, forall_eq', bO, tIsi, tSlc, partT, tRev, tDct0, tStrM, tAppend, tExtend, lstAt, tRange, intsOf, tIter, itemsOf, tEnum, tZip, tgName, tgTup, tgCons, tgNil, takeR, takeO, take1, takeAll, prep, back, setO, gAdd, gSub_, gMul2_s, gMul2_i, gMul2_l, gMul, gFdiv, gMod, gPow, gNeg, gGe, gGt, gLe, gLt, gEq, gNe, gInW, gIs, gIsNot, gLen, gAllAny, gAbs, gInt, gStr, gM2, gListOf, gTupOf, gSortS, gRepr, gIx, Opd.get, AEnv.at, O.frz, lsO, tuO, seqO, endsOf, endO, outsOf, startA, wipeA, List.getElem?_cons_zero, List.getElem?_cons_succ, List.length_cons, List.length_nil, List.map_cons, List.map_nil, List.set_cons_zero, List.set_cons_succ, List.replicate_succ, List.replicate_zero, List.cons_append, List.nil_append, List.getD_cons_zero, List.getD_cons_succ, if_true, if_false, Bool.false_eq_true, reduceIte, reduceCtorEq, Bool.not_true, Bool.not_false, implies_true, true_and, and_true, Nat.sub_self, Nat.reduceAdd, Nat.reduceSub, Nat.zero_add, List.all_cons, List.all_nil, Bool.and_true, Bool.true_and, ei, ej]
    refine ⟨rfl, ?_⟩
    by_cases gz : zi = zj
    · rw [if_neg (by simp [gz])]
      exact nx _ _ _ (hd.mono (by omega)) hus hut
    rw [if_pos (by simp [gz])]
    by_cases g : ((us.map talkO).length : Int) < 40
    · rw [decide_eq_true g, if_pos rfl]
      rw [List.length_map] at g
      refine ⟨m, _, q, by omega, rfl, hd, hq1, by omega, fun r d' h0 h1 hd' => ?_⟩
      obtain ⟨ds', rfl⟩ := hd'.frz
      simp only [sSeq, sNext, sRet, sRetN, sDrop, sIf, sSet, sSetIx, sFor, sPar, sAsg, bAnd, bOr, bNot, tTst, bOf, tName, tCst, tBin, tUny, tNilA, tConsA, g2, g1, gN, getAll, tCallB, tCallF, tTupD, tLstD, tChainA, tChainE, tRg, rgK.eq_1, tStripX, strip1K.eq_1, strip2K.eq_1, tAndE, tOrE, tNotE, tIfE, tComp, bYes, Option.some.injEq, exists_eq, exists_eq', false_implies, Opd.slot.injEq, forall_eq, forall_eq', bO, tIsi, tSlc, partT, tRev, tDct0, tStrM, tAppend, tExtend, lstAt, tRange, intsOf, tIter, itemsOf, tEnum, tZip, tgName, tgTup, tgCons, tgNil, takeR, takeO, take1, takeAll, prep, back, setO, gAdd, gSub_, gMul2_s, gMul2_i, gMul2_l, gMul, gFdiv, gMod, gPow, gNeg, gGe, gGt, gLe, gLt, gEq, gNe, gInW, gIs, gIsNot, gLen, gAllAny, gAbs, gInt, gStr, gM2, gListOf, gTupOf, gSortS, gRepr, gIx, Opd.get, AEnv.at, O.frz, lsO, tuO, seqO, endsOf, endO, outsOf, startA, wipeA, List.getElem?_cons_zero, List.getElem?_cons_succ, List.length_cons, List.length_nil, List.map_cons, List.map_nil, List.set_cons_zero, List.set_cons_succ, List.replicate_succ, List.replicate_zero, List.cons_append, List.nil_append, List.getD_cons_zero, List.getD_cons_succ, if_true, if_false, Bool.false_eq_true, reduceIte, reduceCtorEq, Bool.not_true, Bool.not_false, implies_true, true_and, and_true, Nat.sub_self, Nat.reduceAdd, Nat.reduceSub, Nat.zero_add, List.all_cons, List.all_nil, Bool.and_true, Bool.true_and, es]
      refine ⟨by simp [cmpOk], by simp [PyData.depth], ?_⟩
      by_cases gr : r = 0
      · subst gr
        rw [if_pos (by simp [PyData.eqv])]
        refine ⟨by rw [List.length_map]; omega, ?_⟩
        rw [ap]
        exact nx _ _ _ hd' (by rw [List.length_append]; simp; omega) tk
      · rw [if_neg (by simp [PyData.eqv, gr])]
        exact nx _ _ _ hd' hus hut
    · rw [decide_eq_false g, if_neg Bool.false_ne_true]
      exact nx _ _ _ (hd.mono (by omega)) hus hut
theorem net_b2 {m k : Nat} {b : Bool} {ys : List Str} {us : List (Str × Str)} {acc ds : List T} {q : Int} {i : Nat} {one : Str} {x9 x10 : Option O} {D : AEnds} (hm : m ≤ 850000) (hd : Dk m (.lst ds)) (hss : ys.length = k) (hk : k ≤ 12) (hup : Up ys) (hacc : acc.length = k) (hai : ∀ t ∈ acc, ∃ z : Int, t = .int z) (hq1 : 1 ≤ q) (hq2 : q ≤ 6)
    (hone : ys[i]? = some one) (hi : i < k) (hus : us.length ≤ 40) (hut : ∀ u ∈ us, tkOk ys u)
    (nx : ∀ (ds' : List T) (us' : List (Str × Str)) (x9' x10' : Option O), Dk (m + 12) (.lst ds') → us'.length ≤ 40 → (∀ u ∈ us', tkOk ys u) → D.nx (netE ds' k b (ys.map PyData.str) (us'.map talkO) q acc (some (.pure (.int i))) (some (.pure (.str one))) x9' x10')) :
    t__law_network_b2 D (netE ds k b (ys.map PyData.str) (us.map talkO) q acc (some (.pure (.int i))) (some (.pure (.str one))) x9 x10) := by
  unfold t__law_network_b2 netE
  unfold netE at nx
  simp only [sSeq, sNext, sRet, sRetN, sDrop, sIf, sSet, sSetIx, sFor, sPar, sAsg, bAnd, bOr, bNot, tTst, bOf, tName, tCst, tBin, tUny, tNilA, tConsA, g2, g1, gN, getAll, tCallB, tCallF, tTupD, tLstD, tChainA, tChainE, tRg, rgK.eq_1, tStripX, strip1K.eq_1, strip2K.eq_1, tAndE, tOrE, tNotE, tIfE, tComp, bYes, Option.some.injEq, exists_eq, exists_eq', false_implies, Opd.slot.injEq, forall_eq, forall_eq', bO, tIsi, tSlc, partT, tRev, tDct0, tStrM, tAppend, tExtend, lstAt, tRange, intsOf, tIter, itemsOf, tEnum, tZip, tgName, tgTup, tgCons, tgNil, takeR, takeO, take1, takeAll, prep, back, setO, gAdd, gSub_, gMul2_s, gMul2_i, gMul2_l, gMul, gFdiv, gMod, gPow, gNeg, gGe, gGt, gLe, gLt, gEq, gNe, gInW, gIs, gIsNot, gLen, gAllAny, gAbs, gInt, gStr, gM2, gListOf, gTupOf, gSortS, gRepr, gIx, Opd.get, AEnv.at, O.frz, lsO, tuO, seqO, endsOf, endO, outsOf, startA, wipeA, List.getElem?_cons_zero, List.getElem?_cons_succ, List.length_cons, List.length_nil, List.map_cons, List.map_nil, List.set_cons_zero, List.set_cons_succ, List.replicate_succ, List.replicate_zero, List.cons_append, List.nil_append, List.getD_cons_zero, List.getD_cons_succ, if_true, if_false, Bool.false_eq_true, reduceIte, reduceCtorEq, Bool.not_true, Bool.not_false, implies_true, true_and, and_true, Nat.sub_self, Nat.reduceAdd, Nat.reduceSub, Nat.zero_add, List.all_cons, List.all_nil, Bool.and_true, Bool.true_and]
  repeat refine And.intro (by omega) ?_
  refine forW_inv (fun c ρ => ∃ ds us x9 x10, Dk (m + c) (.lst ds) ∧ us.length ≤ 40 ∧ (∀ u ∈ us, tkOk ys u) ∧ ρ = netE ds k b (ys.map PyData.str) (us.map talkO) q acc (some (.pure (.int i))) (some (.pure (.str one))) x9 x10) ((k : Int) - (i + 1)).toNat _ 0 _ (by simp [rngItems]) (fun c t ρ D' mt hc hinv n1 _ _ _ => ?_) ⟨ds, us, x9, x10, hd, hus, hut, rfl⟩ fun ρ hinv => ?_
  · obtain ⟨j, hj, rfl⟩ := rng_mem mt
    obtain ⟨ds, us, x9, x10, hd, hus, hut, rfl⟩ := hinv
    obtain ⟨jn, rfl⟩ := Int.eq_ofNat_of_zero_le (show 0 ≤ j by omega)
    refine ⟨rfl, ?_⟩
    exact net_b1 (m := m + c) (by omega) hd hss hup hacc hai hq1 hq2 (by omega) (by omega) hone hus hut fun ds' us' x10' h1 h2 h3 => n1 _ ⟨ds', us', _, _, h1, h2, h3, rfl⟩
  · obtain ⟨ds, us, x9, x10, hd, hus, hut, rfl⟩ := hinv
    exact nx ds us x9 x10 (hd.mono (by omega)) hus hut
theorem enum_strs {ys : List Str} {t : T} (h : t ∈ enumItems (ys.map PyData.str)) : ∃ (i : Nat) (u : Str), i < ys.length ∧ ys[i]? = some u ∧ t = .tuple [.int i, .str u] := by
  unfold enumItems at h
  obtain ⟨i, hi, e⟩ := List.getElem_of_mem h
  rw [List.getElem_zipWith] at e
  simp only [List.getElem_range, List.getElem_map] at e
  have : i < ys.length := by simpa using hi
  exact ⟨i, ys[i], this, List.getElem?_eq_getElem this, e.symm⟩
theorem pl__law_network (os : List O) (Qa : O → List O → Prop) (_ : os.length = 3) (h : sp__law_network os Qa) : t__law_network (endsOf [true, false, false] Qa) (startA 12 os) := by
  obtain ⟨n, d, k, b, hn, rfl, hd, hk1, hk, h⟩ := h
  obtain ⟨ds, rfl⟩ := hd.frz
  unfold t__law_network
  simp only [sSeq, sNext, sRet, sRetN, sDrop, sIf, sSet, sSetIx, sFor, sPar, sAsg, bAnd, bOr, bNot, tTst, bOf, tName, tCst, tBin, tUny, tNilA, tConsA, g2, g1, gN, getAll, tCallB, tCallF, tTupD, tLstD, tChainA, tChainE, tRg, rgK.eq_1, tStripX, strip1K.eq_1, strip2K.eq_1, tAndE, tOrE, tNotE, tIfE, tComp, bYes, Option.some.injEq, exists_eq, exists_eq', false_implies, Opd.slot.injEq, forall_eq, forall_eq', bO, tIsi, tSlc, partT, tRev, tDct0, tStrM, tAppend, tExtend, lstAt, tRange, intsOf, tIter, itemsOf, tEnum, tZip, tgName, tgTup, tgCons, tgNil, takeR, takeO, take1, takeAll, prep, back, setO, gAdd, gSub_, gMul2_s, gMul2_i, gMul2_l, gMul, gFdiv, gMod, gPow, gNeg, gGe, gGt, gLe, gLt, gEq, gNe, gInW, gIs, gIsNot, gLen, gAllAny, gAbs, gInt, gStr, gM2, gListOf, gTupOf, gSortS, gRepr, gIx, Opd.get, AEnv.at, O.frz, lsO, tuO, seqO, endsOf, endO, outsOf, startA, wipeA, List.getElem?_cons_zero, List.getElem?_cons_succ, List.length_cons, List.length_nil, List.map_cons, List.map_nil, List.set_cons_zero, List.set_cons_succ, List.replicate_succ, List.replicate_zero, List.cons_append, List.nil_append, List.getD_cons_zero, List.getD_cons_succ, if_true, if_false, Bool.false_eq_true, reduceIte, reduceCtorEq, Bool.not_true, Bool.not_false, implies_true, true_and, and_true, Nat.sub_self, Nat.reduceAdd, Nat.reduceSub, Nat.zero_add, List.all_cons, List.all_nil, Bool.and_true, Bool.true_and]
  refine ⟨n, _, k, by omega, rfl, hd, by omega, fun ss d' hss hsn hup hd' => ?_⟩
  obtain ⟨ys, rfl, hup⟩ := hup
  obtain ⟨ds', rfl⟩ := hd'.frz
  rw [List.length_map] at hss
  simp only [sSeq, sNext, sRet, sRetN, sDrop, sIf, sSet, sSetIx, sFor, sPar, sAsg, bAnd, bOr, bNot, tTst, bOf, tName, tCst, tBin, tUny, tNilA, tConsA, g2, g1, gN, getAll, tCallB, tCallF, tTupD, tLstD, tChainA, tChainE, tRg, rgK.eq_1, tStripX, strip1K.eq_1, strip2K.eq_1, tAndE, tOrE, tNotE, tIfE, tComp, bYes, Option.some.injEq, exists_eq, exists_eq', false_implies, Opd.slot.injEq, forall_eq, forall_eq', bO, tIsi, tSlc, partT, tRev, tDct0, tStrM, tAppend, tExtend, lstAt, tRange, intsOf, tIter, itemsOf, tEnum, tZip, tgName, tgTup, tgCons, tgNil, takeR, takeO, take1, takeAll, prep, back, setO, gAdd, gSub_, gMul2_s, gMul2_i, gMul2_l, gMul, gFdiv, gMod, gPow, gNeg, gGe, gGt, gLe, gLt, gEq, gNe, gInW, gIs, gIsNot, gLen, gAllAny, gAbs, gInt, gStr, gM2, gListOf, gTupOf, gSortS, gRepr, gIx, Opd.get, AEnv.at, O.frz, lsO, tuO, seqO, endsOf, endO, outsOf, startA, wipeA, List.getElem?_cons_zero, List.getElem?_cons_succ, List.length_cons, List.length_nil, List.map_cons, List.map_nil, List.set_cons_zero, List.set_cons_succ, List.replicate_succ, List.replicate_zero, List.cons_append, List.nil_append, List.getD_cons_zero, List.getD_cons_succ, if_true, if_false, Bool.false_eq_true, reduceIte, reduceCtorEq, Bool.not_true, Bool.not_false, implies_true, true_and, and_true, Nat.sub_self, Nat.reduceAdd, Nat.reduceSub, Nat.zero_add, List.all_cons, List.all_nil, Bool.and_true, Bool.true_and]
  refine ⟨n + 2, _, _, by omega, rfl, hd', by simp, by simp, fun sh d' hsh hd' => ?_⟩
  obtain ⟨ds', rfl⟩ := hd'.frz
  obtain ⟨q, rfl, hq1, hq2⟩ : ∃ q : Int, sh = .int q ∧ 1 ≤ q ∧ q ≤ 6 := by
    simp only [List.mem_cons, List.not_mem_nil, or_false] at hsh
    rcases hsh with rfl | rfl | rfl | rfl <;> exact ⟨_, rfl, by decide, by decide⟩
  simp only [sSeq, sNext, sRet, sRetN, sDrop, sIf, sSet, sSetIx, sFor, sPar, sAsg, bAnd, bOr, bNot, tTst, bOf, tName, tCst, tBin, tUny, tNilA, tConsA, g2, g1, gN, getAll, tCallB, tCallF, tTupD, tLstD, tChainA, tChainE, tRg, rgK.eq_1, tStripX, strip1K.eq_1, strip2K.eq_1, tAndE, tOrE, tNotE, tIfE, tComp, bYes, Option.some.injEq, exists_eq, exists_eq', false_implies, Opd.slot.injEq, forall_eq, forall_eq', bO, tIsi, tSlc, partT, tRev, tDct0, tStrM, tAppend, tExtend, lstAt, tRange, intsOf, tIter, itemsOf, tEnum, tZip, tgName, tgTup, tgCons, tgNil, takeR, takeO, take1, takeAll, prep, back, setO, gAdd, gSub_, gMul2_s, gMul2_i, gMul2_l, gMul, gFdiv, gMod, gPow, gNeg, gGe, gGt, gLe, gLt, gEq, gNe, gInW, gIs, gIsNot, gLen, gAllAny, gAbs, gInt, gStr, gM2, gListOf, gTupOf, gSortS, gRepr, gIx, Opd.get, AEnv.at, O.frz, lsO, tuO, seqO, endsOf, endO, outsOf, startA, wipeA, List.getElem?_cons_zero, List.getElem?_cons_succ, List.length_cons, List.length_nil, List.map_cons, List.map_nil, List.set_cons_zero, List.set_cons_succ, List.replicate_succ, List.replicate_zero, List.cons_append, List.nil_append, List.getD_cons_zero, List.getD_cons_succ, if_true, if_false, Bool.false_eq_true, reduceIte, reduceCtorEq, Bool.not_true, Bool.not_false, implies_true, true_and, and_true, Nat.sub_self, Nat.reduceAdd, Nat.reduceSub, Nat.zero_add, List.all_cons, List.all_nil, Bool.and_true, Bool.true_and]
  refine ⟨rfl, compW_inv (fun i acc ρ => ∃ ds, Dk (n + 3 + i) (.lst ds) ∧ acc.length = i ∧ (∀ t ∈ acc, ∃ z : Int, t = .int z) ∧
    ρ = [some (.lst ds), some (.pure (.int k)), some (.pure (.bool b)), some (.pure (.list (ys.map PyData.str))), some (.lst []), some (.pure (.int q)), none, none, none, none, none, none]) k _ 0 _ _ (by rw [List.length_map]; omega) (fun i t acc ρ ts' Q' m hik hi nx => ?_) ⟨_, hd', rfl, by simp, rfl⟩ fun acc ρ hi => ?_⟩
  · obtain ⟨ds, hd, hl, ha, rfl⟩ := hi
    unfold compW
    simp only [sSeq, sNext, sRet, sRetN, sDrop, sIf, sSet, sSetIx, sFor, sPar, sAsg, bAnd, bOr, bNot, tTst, bOf, tName, tCst, tBin, tUny, tNilA, tConsA, g2, g1, gN, getAll, tCallB, tCallF, tTupD, tLstD, tChainA, tChainE, tRg, rgK.eq_1, tStripX, strip1K.eq_1, strip2K.eq_1, tAndE, tOrE, tNotE, tIfE, tComp, bYes, Option.some.injEq, exists_eq, exists_eq', false_implies, Opd.slot.injEq, forall_eq, forall_eq', bO, tIsi, tSlc, partT, tRev, tDct0, tStrM, tAppend, tExtend, lstAt, tRange, intsOf, tIter, itemsOf, tEnum, tZip, tgName, tgTup, tgCons, tgNil, takeR, takeO, take1, takeAll, prep, back, setO, gAdd, gSub_, gMul2_s, gMul2_i, gMul2_l, gMul, gFdiv, gMod, gPow, gNeg, gGe, gGt, gLe, gLt, gEq, gNe, gInW, gIs, gIsNot, gLen, gAllAny, gAbs, gInt, gStr, gM2, gListOf, gTupOf, gSortS, gRepr, gIx, Opd.get, AEnv.at, O.frz, lsO, tuO, seqO, endsOf, endO, outsOf, startA, wipeA, List.getElem?_cons_zero, List.getElem?_cons_succ, List.length_cons, List.length_nil, List.map_cons, List.map_nil, List.set_cons_zero, List.set_cons_succ, List.replicate_succ, List.replicate_zero, List.cons_append, List.nil_append, List.getD_cons_zero, List.getD_cons_succ, if_true, if_false, Bool.false_eq_true, reduceIte, reduceCtorEq, Bool.not_true, Bool.not_false, implies_true, true_and, and_true, Nat.sub_self, Nat.reduceAdd, Nat.reduceSub, Nat.zero_add, List.all_cons, List.all_nil, Bool.and_true, Bool.true_and]
    refine ⟨rfl, n + 3 + i, _, 2, by omega, rfl, hd, by decide, by decide, fun r d' h0 h1 hd' => ?_⟩
    obtain ⟨ds', rfl⟩ := hd'.frz
    simp only [sSeq, sNext, sRet, sRetN, sDrop, sIf, sSet, sSetIx, sFor, sPar, sAsg, bAnd, bOr, bNot, tTst, bOf, tName, tCst, tBin, tUny, tNilA, tConsA, g2, g1, gN, getAll, tCallB, tCallF, tTupD, tLstD, tChainA, tChainE, tRg, rgK.eq_1, tStripX, strip1K.eq_1, strip2K.eq_1, tAndE, tOrE, tNotE, tIfE, tComp, bYes, Option.some.injEq, exists_eq, exists_eq', false_implies, Opd.slot.injEq, forall_eq, forall_eq', bO, tIsi, tSlc, partT, tRev, tDct0, tStrM, tAppend, tExtend, lstAt, tRange, intsOf, tIter, itemsOf, tEnum, tZip, tgName, tgTup, tgCons, tgNil, takeR, takeO, take1, takeAll, prep, back, setO, gAdd, gSub_, gMul2_s, gMul2_i, gMul2_l, gMul, gFdiv, gMod, gPow, gNeg, gGe, gGt, gLe, gLt, gEq, gNe, gInW, gIs, gIsNot, gLen, gAllAny, gAbs, gInt, gStr, gM2, gListOf, gTupOf, gSortS, gRepr, gIx, Opd.get, AEnv.at, O.frz, lsO, tuO, seqO, endsOf, endO, outsOf, startA, wipeA, List.getElem?_cons_zero, List.getElem?_cons_succ, List.length_cons, List.length_nil, List.map_cons, List.map_nil, List.set_cons_zero, List.set_cons_succ, List.replicate_succ, List.replicate_zero, List.cons_append, List.nil_append, List.getD_cons_zero, List.getD_cons_succ, if_true, if_false, Bool.false_eq_true, reduceIte, reduceCtorEq, Bool.not_true, Bool.not_false, implies_true, true_and, and_true, Nat.sub_self, Nat.reduceAdd, Nat.reduceSub, Nat.zero_add, List.all_cons, List.all_nil, Bool.and_true, Bool.true_and]
    refine nx _ _ ⟨ds', hd', by simp [hl], fun t mt => ?_, rfl⟩
    rcases List.mem_append.mp mt with mt | mt
    · exact ha t mt
    · exact ⟨r, List.mem_singleton.mp mt⟩
  · obtain ⟨ds2, hd2, hl2, ha2, rfl⟩ := hi
    simp only [sSeq, sNext, sRet, sRetN, sDrop, sIf, sSet, sSetIx, sFor, sPar, sAsg, bAnd, bOr, bNot, tTst, bOf, tName, tCst, tBin, tUny, tNilA, tConsA, g2, g1, gN, getAll, tCallB, tCallF, tTupD, tLstD, tChainA, tChainE, tRg, rgK.eq_1, tStripX, strip1K.eq_1, strip2K.eq_1, tAndE, tOrE, tNotE, tIfE, tComp, bYes, Option.some.injEq, exists_eq, exists_eq', false_implies, Opd.slot.injEq, forall_eq, forall_eq', bO, tIsi, tSlc, partT, tRev, tDct0, tStrM, tAppend, tExtend, lstAt, tRange, intsOf, tIter, itemsOf, tEnum, tZip, tgName, tgTup, tgCons, tgNil, takeR, takeO, take1, takeAll, prep, back, setO, gAdd, gSub_, gMul2_s, gMul2_i, gMul2_l, gMul, gFdiv, gMod, gPow, gNeg, gGe, gGt, gLe, gLt, gEq, gNe, gInW, gIs, gIsNot, gLen, gAllAny, gAbs, gInt, gStr, gM2, gListOf, gTupOf, gSortS, gRepr, gIx, Opd.get, AEnv.at, O.frz, lsO, tuO, seqO, endsOf, endO, outsOf, startA, wipeA, List.getElem?_cons_zero, List.getElem?_cons_succ, List.length_cons, List.length_nil, List.map_cons, List.map_nil, List.set_cons_zero, List.set_cons_succ, List.replicate_succ, List.replicate_zero, List.cons_append, List.nil_append, List.getD_cons_zero, List.getD_cons_succ, if_true, if_false, Bool.false_eq_true, reduceIte, reduceCtorEq, Bool.not_true, Bool.not_false, implies_true, true_and, and_true, Nat.sub_self, Nat.reduceAdd, Nat.reduceSub, Nat.zero_add, List.all_cons, List.all_nil, Bool.and_true, Bool.true_and]
    refine ⟨rfl, forW_inv (fun c ρ => ∃ ds us x7 x8 x9 x10, Dk (n + 3 + k + 12 * c) (.lst ds) ∧ us.length ≤ 40 ∧ (∀ u ∈ us, tkOk ys u) ∧ ρ = netE ds k b (ys.map PyData.str) (us.map talkO) q acc x7 x8 x9 x10) k _ 0 _ (by rw [enumLen, List.length_map]; omega) (fun c t ρ D' mt hc hinv n1 _ _ _ => ?_) ⟨ds2, [], none, none, none, none, hd2, by simp, by simp, rfl⟩ fun ρ hinv => ?_⟩
    · obtain ⟨j, u, hj, hu, rfl⟩ := enum_strs mt
      obtain ⟨ds, us, x7, x8, x9, x10, hd, hus, hut, rfl⟩ := hinv
      refine ⟨rfl, rfl, rfl, ?_⟩
      exact net_b2 (m := n + 3 + k + 12 * c) (by omega) hd hss hk hup (by omega) ha2 hq1 hq2 hu (by omega) hus hut fun ds' us' x9' x10' h1 h2 h3 => n1 _ ⟨ds', us', _, _, _, _, h1.mono (by omega), h2, h3, rfl⟩
    · obtain ⟨ds, us, x7, x8, x9, x10, hd, hus, hut, rfl⟩ := hinv
      unfold netE
      simp only [sSeq, sNext, sRet, sRetN, sDrop, sIf, sSet, sSetIx, sFor, sPar, sAsg, bAnd, bOr, bNot, tTst, bOf, tName, tCst, tBin, tUny, tNilA, tConsA, g2, g1, gN, getAll, tCallB, tCallF, tTupD, tLstD, tChainA, tChainE, tRg, rgK.eq_1, tStripX, strip1K.eq_1, strip2K.eq_1, tAndE, tOrE, tNotE, tIfE, tComp, bYes, Option.some.injEq, exists_eq, exists_eq', false_implies, Opd.slot.injEq, forall_eq, forall_eq', bO, tIsi, tSlc, partT, tRev, tDct0, tStrM, tAppend, tExtend, lstAt, tRange, intsOf, tIter, itemsOf, tEnum, tZip, tgName, tgTup, tgCons, tgNil, takeR, takeO, take1, takeAll, prep, back, setO, gAdd, gSub_, gMul2_s, gMul2_i, gMul2_l, gMul, gFdiv, gMod, gPow, gNeg, gGe, gGt, gLe, gLt, gEq, gNe, gInW, gIs, gIsNot, gLen, gAllAny, gAbs, gInt, gStr, gM2, gListOf, gTupOf, gSortS, gRepr, gIx, Opd.get, AEnv.at, O.frz, lsO, tuO, seqO, endsOf, endO, outsOf, startA, wipeA, List.getElem?_cons_zero, List.getElem?_cons_succ, List.length_cons, List.length_nil, List.map_cons, List.map_nil, List.set_cons_zero, List.set_cons_succ, List.replicate_succ, List.replicate_zero, List.cons_append, List.nil_append, List.getD_cons_zero, List.getD_cons_succ, if_true, if_false, Bool.false_eq_true, reduceIte, reduceCtorEq, Bool.not_true, Bool.not_false, implies_true, true_and, and_true, Nat.sub_self, Nat.reduceAdd, Nat.reduceSub, Nat.zero_add, List.all_cons, List.all_nil, Bool.and_true, Bool.true_and]
      refine h ys us _ ⟨hup, by omega, by omega, fun y hy => ?_, hus, hut⟩ (hd.mono (by omega))
      obtain ⟨x, ex, h1, h2⟩ := hsn _ (List.mem_map_of_mem hy)
      cases ex
      exact ⟨h1, h2⟩
end WS

set_option Elab.async false
set_option linter.all false
set_option maxRecDepth 100000
set_option maxHeartbeats 4000000
namespace WC
open PySem PySem.Spec L2 DL WS
open PyProof.Rows hiding St
/-- the neighbours of s, as the talks come -/
def adjL (us : List (Str × Str)) (s : Str) : List Str := us.flatMap fun u => (if s = u.1 then [u.2] else []) ++ (if s = u.2 then [u.1] else [])
def srt (l : List Str) : List T := (l.map PyData.str).mergeSort dLe
def tabL (ys : List Str) (us : List (Str × Str)) : List (Key × T) := ys.map fun s => (Sum.inr s, PyData.list (srt (adjL us s)))
def dcL (ys : List Str) (f : Str → List Str) : List (Key × List T) := ys.map fun s => (Sum.inr s, (f s).map PyData.str)
theorem key_inj : ∀ a b : Str, (Sum.inr a : Key) = Sum.inr b → a = b := fun _ _ e => by injection e
theorem lt_irr {l : List Nat} : ¬ l < l := List.lt_irrefl l
theorem up_nodup {ys : List Str} (h : Up ys) : ys.Nodup := List.Pairwise.imp (S := fun a b => a ≠ b) (fun {a b} q => fun e => by subst e; exact lt_irr q) h
theorem adj_snoc (us : List (Str × Str)) (u : Str × Str) (s : Str) : adjL (us ++ [u]) s = adjL us s ++ ((if s = u.1 then [u.2] else []) ++ (if s = u.2 then [u.1] else [])) := by
  unfold adjL; rw [List.flatMap_append]; simp
theorem adj_len (us : List (Str × Str)) (s : Str) : (adjL us s).length ≤ 2 * us.length := by
  unfold adjL
  rw [List.length_flatMap]
  induction us with
  | nil => simp
  | cons u us ih =>
    rw [List.map_cons, List.sum_cons, List.length_cons]
    have : ((if s = u.1 then [u.2] else []) ++ (if s = u.2 then [u.1] else [])).length ≤ 2 := by
      rw [List.length_append]; split <;> split <;> simp
    omega
/-- the two appends of a talk -/
theorem step_dc {ys : List Str} {f : Str → List Str} {a b : Str} (nd : ys.Nodup) (ha : a ∈ ys) (hb : b ∈ ys) (ne : a ≠ b) :
    klk (dcL ys f) (.inr a) = some ((f a).map PyData.str) ∧
    klk (kupd (dcL ys f) (.inr a) ((f a).map PyData.str ++ [.str b])) (.inr b) = some ((f b).map PyData.str) ∧
    kupd (kupd (dcL ys f) (.inr a) ((f a).map PyData.str ++ [.str b])) (.inr b) ((f b).map PyData.str ++ [.str a]) = dcL ys fun s => f s ++ ((if s = a then [b] else []) ++ (if s = b then [a] else [])) := by
  have e1 : kupd (dcL ys f) (.inr a) ((f a).map PyData.str ++ [.str b]) = ys.map fun s => (Sum.inr s, if s = a then (f a).map PyData.str ++ [PyData.str b] else (f s).map PyData.str) := kupd_map (f := Sum.inr) key_inj a _ ys nd
  refine ⟨klk_map (f := Sum.inr) key_inj a ys ha, ?_, ?_⟩
  · rw [e1]
    have := klk_map (f := (Sum.inr : Str → Key)) (g := fun s => if s = a then (f a).map PyData.str ++ [PyData.str b] else (f s).map PyData.str) key_inj b ys hb
    rw [this, if_neg (Ne.symm ne)]
  · rw [e1]
    have := kupd_map (f := (Sum.inr : Str → Key)) (g := fun s => if s = a then (f a).map PyData.str ++ [PyData.str b] else (f s).map PyData.str) key_inj b ((f b).map PyData.str ++ [PyData.str a]) ys nd
    rw [this]
    unfold dcL
    refine List.map_congr_left fun s _ => ?_
    refine Prod.ext rfl ?_
    dsimp only
    by_cases h1 : s = a
    · subst h1
      rw [if_neg ne, if_pos rfl, if_pos rfl, if_neg ne]; simp
    · by_cases h2 : s = b
      · subst h2
        rw [if_pos rfl, if_neg h1, if_pos rfl]; simp
      · rw [if_neg h2, if_neg h1, if_neg h1, if_neg h2]; simp
/-- {s: [] for s in ..} -/
theorem compDN_strs {n0 : Option O} {Q : List (Key × List T) → AEnv → Prop} : ∀ (rest done : List Str), (done ++ rest).Nodup → Q (dcL (done ++ rest) fun _ => []) [n0, none, none, none, none, none] →
    compDN (tgName 4) (tName 4) [4] (rest.map PyData.str) (dcL done fun _ => []) [n0, none, none, none, none, none] Q
  | [], done, _, q => by rw [List.append_nil] at q; exact q
  | s :: rest, done, nd, q => by
    rw [List.map_cons, compDN]
    simp only [sSeq, sNext, sRet, sRetN, sDrop, sIf, sSet, sFor, sPar, sAsg, bAnd, bOr, bNot, tTst, tCst, tBin, tUny, tNilA, tConsA, getAll, tCallB, tCallF, tTupD, tLstD, tChainA, tChainE, tRg, rgK.eq_1, tStripX, strip1K.eq_1, strip2K.eq_1, tAndE, tOrE, tNotE, tIfE, tComp, bYes, tDct0, tRange.eq_1, tgName, tgTup.eq_1, tgCons.eq_1, tgNil.eq_1, takeAll, back.eq_1, back.eq_2, back_nil, setO, tName_k, nameK.eq_1, nameK.eq_2, nameK.eq_3, nameK.eq_4, atK.eq_1, take1_v, take1_s, takeO_v, takeO_s, takeR_v, takeR_s, prep_n, prep_tv, prep_ts, prep_f, lstK.eq_1, lstAt_k, g2K.eq_1, g2_k, g1K.eq_1, g1_k, gNK.eq_1, gN_k, boK.eq_1, bOf_k, isiK.eq_1, tIsi_k, partK.eq_1, part_n, part_s, slcK.eq_1, slcK.eq_2, slcK.eq_3, slcK.eq_4, tSlc_k, revK.eq_1, revK.eq_2, revK.eq_3, tRev_k, strMK.eq_1, tStrM_k, itK.eq_1, tIter_k, enumK.eq_1, tEnum_k, zipK.eq_1, zipK.eq_2, tZip_k, intsK.eq_1, intsK.eq_2, intsOf_k, endK.eq_1, endO_k, extK.eq_1, tExtend_k, tAppend_k, setIxK.eq_1, sSetIx_k, popAtK.eq_1, tPopAt_k, bO.eq_1, itemsOf.eq_1, itemsOf.eq_2, itemsOf.eq_3, gAdd.eq_1, gAdd.eq_2, gAdd.eq_3, gAdd.eq_4, gAdd.eq_5, gAdd.eq_6, gSub_.eq_1, gSub_.eq_2, gMul2_s, gMul2_i, gMul2_l, gMulS.eq_1, gMul.eq_1, gMul.eq_2, gFdiv.eq_1, gMod.eq_1, gPow.eq_1, gNeg.eq_1, gNeg.eq_2, gGe.eq_1, gGt.eq_1, gLe.eq_1, gLt.eq_1, gLt.eq_2, gEq.eq_1, gNe.eq_1, gNe.eq_2, gNe.eq_3, gNe.eq_4, gInW.eq_1, gInW.eq_2, gIs.eq_1, gIsNot.eq_1, gLen.eq_1, gLen.eq_2, gAllAny.eq_1, gAbs.eq_1, gInt.eq_1, gInt.eq_2, gStr.eq_1, gStr.eq_2, gStr.eq_3, gM2.eq_1, gListOf.eq_1, gListOf.eq_2, gTupOf.eq_1, gTupOf.eq_2, gSort, gSortS.eq_1, gSortD.eq_1, gSortSet.eq_1, gRepr.eq_1, gM2S.eq_1, gIsB.eq_1, tCompN, tCompD, tCompI, tCompDI, tComp2, gIx.eq_1, gIx.eq_2, ati0, ati1, ati2, Option.some.injEq, exists_eq, exists_eq', false_implies, Opd.slot.injEq, forall_eq, forall_eq', Opd.get.eq_1, Opd.get.eq_2, at_join, join_some, O.frz.eq_1, O.frz.eq_2, frz_dct, O.frz.eq_4, lsO.eq_1, lsO.eq_2, tuO.eq_1, seqO_l, seqO_p, seqO_t, endsOf, outsOf, startA, wipeA, List.getElem?_cons_zero, List.getElem?_cons_succ, List.length_cons, List.length_nil, List.map_cons, List.map_nil, List.set_cons_zero, List.set_cons_succ, List.replicate_succ, List.replicate_zero, List.cons_append, List.nil_append, List.getD_cons_zero, List.getD_cons_succ, if_true, if_false, Bool.false_eq_true, reduceIte, reduceCtorEq, Bool.not_true, Bool.not_false, implies_true, true_and, and_true, Nat.sub_self, Nat.reduceAdd, Nat.reduceSub, Nat.zero_add, List.all_cons, List.all_nil, Bool.and_true, Bool.true_and]
    refine ⟨rfl, .inr s, rfl, ?_, ?_⟩
    · unfold klk dcL
      rw [List.find?_eq_none.mpr fun p hp => ?_]
      · rfl
      · obtain ⟨x, hx, rfl⟩ := List.mem_map.mp hp
        intro e
        have := key_inj _ _ (of_decide_eq_true e)
        exact (List.nodup_append.mp nd).2.2 x hx s List.mem_cons_self this
    · have := compDN_strs (n0 := n0) (Q := Q) rest (done ++ [s]) (by simpa using nd) (by simpa using q)
      have e : dcL (done ++ [s]) (fun _ => []) = dcL done (fun _ => []) ++ [((Sum.inr s : Key), ([] : List T))] := by unfold dcL; rw [List.map_append]; rfl
      rw [e] at this
      exact this
theorem strs_alike {l : List Str} : PySem.W.AllAlike (l.map PyData.str) ∧ PySem.W.Sortable (l.map PyData.str) ∧ ∀ t ∈ l.map PyData.str, t.depth ≤ 100 := by
  refine ⟨fun d hd e he => ?_, .inr fun d hd => ?_, fun d hd => ?_⟩
  · obtain ⟨x, _, rfl⟩ := List.mem_map.mp hd
    obtain ⟨y, _, rfl⟩ := List.mem_map.mp he
    simp [PySem.W.alike]
  · obtain ⟨x, _, rfl⟩ := List.mem_map.mp hd
    simp
  · obtain ⟨x, _, rfl⟩ := List.mem_map.mp hd
    simp [PyData.depth]
theorem tab_keys {ys : List Str} (f : Str → T) (nd : ys.Nodup) : ((ys.map fun s => ((Sum.inr s : Key), f s)).map (·.1)).Nodup := by
  rw [List.map_map]
  exact List.pairwise_map.mpr (nd.imp fun ne e => ne (key_inj _ _ e))
theorem pairs_map (f : Str → T) : ∀ ys : List Str, pairsT (ys.map fun s => .tuple [.str s, f s]) = some (ys.map fun s => (Sum.inr s, f s))
  | [] => rfl
  | y :: ys => by rw [List.map_cons, pairsT, pairs_map f ys]; rfl
def sp_neighbour_table : FSpec := fun os Q => ∃ ys us, os = [.pure (netO ys us)] ∧ NetOk ys us ∧ Q (.dct (tabL ys us)) []
def sp__law_beside : FSpec := sp_neighbour_table
/-- {s: sorted(some) for s, some in ..} -/
theorem compDV_strs {n0 n1 n2 n3 : Option O} {Q : List (Key × T) → AEnv → Prop} {f : Str → List Str} (hl : ∀ s, (f s).length ≤ 100) : ∀ (rest done : List Str), (done ++ rest).Nodup → Q ((done ++ rest).map fun s => (Sum.inr s, .list (srt (f s)))) [n0, n1, n2, n3, none, none] →
    compDV (tgTup 2 (tgCons (tgName 4) (tgCons (tgName 5) tgNil))) bYes (tName 4) (tCallB gSort (tConsA (tName 5) tNilA)) [4, 5] (rest.map fun s => .tuple [.str s, .list ((f s).map PyData.str)]) (done.map fun s => (Sum.inr s, .list (srt (f s)))) [n0, n1, n2, n3, none, none] Q
  | [], done, _, q => by rw [List.append_nil] at q; exact q
  | s :: rest, done, nd, q => by
    rw [List.map_cons, compDV]
    simp only [sSeq, sNext, sRet, sRetN, sDrop, sIf, sSet, sFor, sPar, sAsg, bAnd, bOr, bNot, tTst, tCst, tBin, tUny, tNilA, tConsA, getAll, tCallB, tCallF, tTupD, tLstD, tChainA, tChainE, tRg, rgK.eq_1, tStripX, strip1K.eq_1, strip2K.eq_1, tAndE, tOrE, tNotE, tIfE, tComp, bYes, tDct0, tRange.eq_1, tgName, tgTup.eq_1, tgCons.eq_1, tgNil.eq_1, takeAll, back.eq_1, back.eq_2, back_nil, setO, tName_k, nameK.eq_1, nameK.eq_2, nameK.eq_3, nameK.eq_4, atK.eq_1, take1_v, take1_s, takeO_v, takeO_s, takeR_v, takeR_s, prep_n, prep_tv, prep_ts, prep_f, lstK.eq_1, lstAt_k, g2K.eq_1, g2_k, g1K.eq_1, g1_k, gNK.eq_1, gN_k, boK.eq_1, bOf_k, isiK.eq_1, tIsi_k, partK.eq_1, part_n, part_s, slcK.eq_1, slcK.eq_2, slcK.eq_3, slcK.eq_4, tSlc_k, revK.eq_1, revK.eq_2, revK.eq_3, tRev_k, strMK.eq_1, tStrM_k, itK.eq_1, tIter_k, enumK.eq_1, tEnum_k, zipK.eq_1, zipK.eq_2, tZip_k, intsK.eq_1, intsK.eq_2, intsOf_k, endK.eq_1, endO_k, extK.eq_1, tExtend_k, tAppend_k, setIxK.eq_1, sSetIx_k, popAtK.eq_1, tPopAt_k, bO.eq_1, itemsOf.eq_1, itemsOf.eq_2, itemsOf.eq_3, gAdd.eq_1, gAdd.eq_2, gAdd.eq_3, gAdd.eq_4, gAdd.eq_5, gAdd.eq_6, gSub_.eq_1, gSub_.eq_2, gMul2_s, gMul2_i, gMul2_l, gMulS.eq_1, gMul.eq_1, gMul.eq_2, gFdiv.eq_1, gMod.eq_1, gPow.eq_1, gNeg.eq_1, gNeg.eq_2, gGe.eq_1, gGt.eq_1, gLe.eq_1, gLt.eq_1, gLt.eq_2, gEq.eq_1, gNe.eq_1, gNe.eq_2, gNe.eq_3, gNe.eq_4, gInW.eq_1, gInW.eq_2, gIs.eq_1, gIsNot.eq_1, gLen.eq_1, gLen.eq_2, gAllAny.eq_1, gAbs.eq_1, gInt.eq_1, gInt.eq_2, gStr.eq_1, gStr.eq_2, gStr.eq_3, gM2.eq_1, gListOf.eq_1, gListOf.eq_2, gTupOf.eq_1, gTupOf.eq_2, gSort, gSortS.eq_1, gSortD.eq_1, gSortSet.eq_1, gRepr.eq_1, gM2S.eq_1, gIsB.eq_1, tCompN, tCompD, tCompI, tCompDI, tComp2, gIx.eq_1, gIx.eq_2, ati0, ati1, ati2, Option.some.injEq, exists_eq, exists_eq', false_implies, Opd.slot.injEq, forall_eq, forall_eq', Opd.get.eq_1, Opd.get.eq_2, at_join, join_some, O.frz.eq_1, O.frz.eq_2, frz_dct, O.frz.eq_4, lsO.eq_1, lsO.eq_2, tuO.eq_1, seqO_l, seqO_p, seqO_t, endsOf, outsOf, startA, wipeA, List.getElem?_cons_zero, List.getElem?_cons_succ, List.length_cons, List.length_nil, List.map_cons, List.map_nil, List.set_cons_zero, List.set_cons_succ, List.replicate_succ, List.replicate_zero, List.cons_append, List.nil_append, List.getD_cons_zero, List.getD_cons_succ, if_true, if_false, Bool.false_eq_true, reduceIte, reduceCtorEq, Bool.not_true, Bool.not_false, implies_true, true_and, and_true, Nat.sub_self, Nat.reduceAdd, Nat.reduceSub, Nat.zero_add, List.all_cons, List.all_nil, Bool.and_true, Bool.true_and]
    refine ⟨rfl, rfl, .inr s, rfl, .inr ⟨strs_alike.1, strs_alike.2.1, strs_alike.2.2, by rw [List.length_map]; have := hl s; omega, ?_⟩⟩
    rw [kput_new]
    · have := compDV_strs (n0 := n0) (n1 := n1) (n2 := n2) (n3 := n3) (Q := Q) hl rest (done ++ [s]) (by simpa using nd) (by simpa using q)
      rw [List.map_append] at this
      exact this
    · intro p hp e
      obtain ⟨x, hx, rfl⟩ := List.mem_map.mp hp
      exact (List.nodup_append.mp nd).2.2 x hx s List.mem_cons_self (key_inj _ _ e)
/-- neighbour_table: slots 0:network 1:found 2:one 3:other 4:service 5:some -/
def t_neighbour_table_b1 : ST := (sSeq (sDrop (tAppIx 1 2 3))
  (sDrop (tAppIx 1 3 2)))
def t_neighbour_table : ST := (sSeq (sSet 1 (tCompN (tIter (tBin gIx (tName 0) (tCst (.int 0)))) (tgName 4) (tName 4) [4]))
  (sSeq (sFor (tIter (tBin gIx (tName 0) (tCst (.int 1)))) (tgTup 2 (tgCons (tgName 2) (tgCons (tgName 3) tgNil))) t_neighbour_table_b1)
  (sRet (fun j => [false].getD j false) (tCompDI 1 (tgTup 2 (tgCons (tgName 4) (tgCons (tgName 5) tgNil))) bYes (tName 4) (tCallB gSort (tConsA (tName 5) tNilA)) [4, 5]))))
/-- _law_beside: slots 0:_law_network_here 1:_law_found 2:_law_one 3:_law_other 4:_law_service 5:_law_some -/
def t__law_beside_b1 : ST := (sSeq (sDrop (tAppIx 1 2 3))
  (sDrop (tAppIx 1 3 2)))
def t__law_beside : ST := (sSeq (sSet 1 (tCompN (tIter (tBin gIx (tName 0) (tCst (.int 0)))) (tgName 4) (tName 4) [4]))
  (sSeq (sFor (tIter (tBin gIx (tName 0) (tCst (.int 1)))) (tgTup 2 (tgCons (tgName 2) (tgCons (tgName 3) tgNil))) t__law_beside_b1)
  (sRet (fun j => [false].getD j false) (tCallB gDictL (tConsA (tCompI 1 (tgTup 2 (tgCons (tgName 4) (tgCons (tgName 5) tgNil))) bYes (tTupD (tConsA (tName 4) (tConsA (tCallB gSort (tConsA (tName 5) tNilA)) tNilA))) [4, 5]) tNilA)))))
/-- the loop over the talks -/
theorem talks_loop {ys : List Str} (nd : ys.Nodup) {D : AEnds} {tb : ST} (hb : ∀ D a b f x4 x5, a ∈ ys → b ∈ ys → a ≠ b → (∀ s, (f s).length ≤ 100) → D.nx [x4, some (.dcl (dcL ys fun s => f s ++ ((if s = a then [b] else []) ++ (if s = b then [a] else [])))), some (.pure (.str a)), some (.pure (.str b)), x5, x5] →
      tb D [x4, some (.dcl (dcL ys f)), some (.pure (.str a)), some (.pure (.str b)), x5, x5]) {n0 : Option O} :
    ∀ (rest done : List (Str × Str)) (n2 n3 : Option O), done.length + rest.length ≤ 40 → (∀ u ∈ rest, tkOk ys u) → (∀ n2 n3, D.nx [n0, some (.dcl (dcL ys (adjL (done ++ rest)))), n2, n3, none, none]) →
    forW (tgTup 2 (tgCons (tgName 2) (tgCons (tgName 3) tgNil))) tb D (rest.map talkO) [n0, some (.dcl (dcL ys (adjL done))), n2, n3, none, none]
  | [], done, n2, n3, _, _, q => by rw [List.append_nil] at q; exact q n2 n3
  | u :: rest, done, n2, n3, hl, hu, q => by
    rw [List.map_cons, forW]
    rw [show talkO u = PyData.tuple [PyData.str u.1, PyData.str u.2] from rfl]
    simp only [sSeq, sNext, sRet, sRetN, sDrop, sIf, sSet, sFor, sPar, sAsg, bAnd, bOr, bNot, tTst, tCst, tBin, tUny, tNilA, tConsA, getAll, tCallB, tCallF, tTupD, tLstD, tChainA, tChainE, tRg, rgK.eq_1, tStripX, strip1K.eq_1, strip2K.eq_1, tAndE, tOrE, tNotE, tIfE, tComp, bYes, tDct0, tRange.eq_1, tgName, tgTup.eq_1, tgCons.eq_1, tgNil.eq_1, takeAll, back.eq_1, back.eq_2, back_nil, setO, tName_k, nameK.eq_1, nameK.eq_2, nameK.eq_3, nameK.eq_4, atK.eq_1, take1_v, take1_s, takeO_v, takeO_s, takeR_v, takeR_s, prep_n, prep_tv, prep_ts, prep_f, lstK.eq_1, lstAt_k, g2K.eq_1, g2_k, g1K.eq_1, g1_k, gNK.eq_1, gN_k, boK.eq_1, bOf_k, isiK.eq_1, tIsi_k, partK.eq_1, part_n, part_s, slcK.eq_1, slcK.eq_2, slcK.eq_3, slcK.eq_4, tSlc_k, revK.eq_1, revK.eq_2, revK.eq_3, tRev_k, strMK.eq_1, tStrM_k, itK.eq_1, tIter_k, enumK.eq_1, tEnum_k, zipK.eq_1, zipK.eq_2, tZip_k, intsK.eq_1, intsK.eq_2, intsOf_k, endK.eq_1, endO_k, extK.eq_1, tExtend_k, tAppend_k, setIxK.eq_1, sSetIx_k, popAtK.eq_1, tPopAt_k, bO.eq_1, itemsOf.eq_1, itemsOf.eq_2, itemsOf.eq_3, gAdd.eq_1, gAdd.eq_2, gAdd.eq_3, gAdd.eq_4, gAdd.eq_5, gAdd.eq_6, gSub_.eq_1, gSub_.eq_2, gMul2_s, gMul2_i, gMul2_l, gMulS.eq_1, gMul.eq_1, gMul.eq_2, gFdiv.eq_1, gMod.eq_1, gPow.eq_1, gNeg.eq_1, gNeg.eq_2, gGe.eq_1, gGt.eq_1, gLe.eq_1, gLt.eq_1, gLt.eq_2, gEq.eq_1, gNe.eq_1, gNe.eq_2, gNe.eq_3, gNe.eq_4, gInW.eq_1, gInW.eq_2, gIs.eq_1, gIsNot.eq_1, gLen.eq_1, gLen.eq_2, gAllAny.eq_1, gAbs.eq_1, gInt.eq_1, gInt.eq_2, gStr.eq_1, gStr.eq_2, gStr.eq_3, gM2.eq_1, gListOf.eq_1, gListOf.eq_2, gTupOf.eq_1, gTupOf.eq_2, gSort, gSortS.eq_1, gSortD.eq_1, gSortSet.eq_1, gRepr.eq_1, gM2S.eq_1, gIsB.eq_1, tCompN, tCompD, tCompI, tCompDI, tComp2, gIx.eq_1, gIx.eq_2, ati0, ati1, ati2, Option.some.injEq, exists_eq, exists_eq', false_implies, Opd.slot.injEq, forall_eq, forall_eq', Opd.get.eq_1, Opd.get.eq_2, at_join, join_some, O.frz.eq_1, O.frz.eq_2, frz_dct, O.frz.eq_4, lsO.eq_1, lsO.eq_2, tuO.eq_1, seqO_l, seqO_p, seqO_t, endsOf, outsOf, startA, wipeA, List.getElem?_cons_zero, List.getElem?_cons_succ, List.length_cons, List.length_nil, List.map_cons, List.map_nil, List.set_cons_zero, List.set_cons_succ, List.replicate_succ, List.replicate_zero, List.cons_append, List.nil_append, List.getD_cons_zero, List.getD_cons_succ, if_true, if_false, Bool.false_eq_true, reduceIte, reduceCtorEq, Bool.not_true, Bool.not_false, implies_true, true_and, and_true, Nat.sub_self, Nat.reduceAdd, Nat.reduceSub, Nat.zero_add, List.all_cons, List.all_nil, Bool.and_true, Bool.true_and]
    refine ⟨rfl, rfl, ?_⟩
    obtain ⟨h1, h2, h3⟩ := hu u List.mem_cons_self
    refine hb _ _ _ _ _ _ h1 h2 (fun e => lt_irr (e ▸ h3)) (fun s => by have := adj_len done s; rw [List.length_cons] at hl; omega) ?_
    have := talks_loop nd hb (n0 := n0) rest (done ++ [u]) (some (.pure (.str u.1))) (some (.pure (.str u.2))) (by rw [List.length_append, List.length_singleton]; rw [List.length_cons] at hl; omega) (fun v hv => hu v (List.mem_cons_of_mem _ hv)) (by simpa using q)
    have e : dcL ys (adjL (done ++ [u])) = dcL ys fun s => adjL done s ++ ((if s = u.1 then [u.2] else []) ++ (if s = u.2 then [u.1] else [])) := by
      unfold dcL; exact List.map_congr_left fun s _ => by rw [adj_snoc]
    rw [e] at this
    exact this
theorem pl_neighbour_table (os : List O) (Qa : O → List O → Prop) (_ : os.length = 1) (h : sp_neighbour_table os Qa) : t_neighbour_table (endsOf [false] Qa) (startA 6 os) := by
  obtain ⟨ys, us, rfl, net, h⟩ := h
  have nd := up_nodup net.up
  unfold t_neighbour_table netO
  simp only [sSeq, sNext, sRet, sRetN, sDrop, sIf, sSet, sFor, sPar, sAsg, bAnd, bOr, bNot, tTst, tCst, tBin, tUny, tNilA, tConsA, getAll, tCallB, tCallF, tTupD, tLstD, tChainA, tChainE, tRg, rgK.eq_1, tStripX, strip1K.eq_1, strip2K.eq_1, tAndE, tOrE, tNotE, tIfE, tComp, bYes, tDct0, tRange.eq_1, tgName, tgTup.eq_1, tgCons.eq_1, tgNil.eq_1, takeAll, back.eq_1, back.eq_2, back_nil, setO, tName_k, nameK.eq_1, nameK.eq_2, nameK.eq_3, nameK.eq_4, atK.eq_1, take1_v, take1_s, takeO_v, takeO_s, takeR_v, takeR_s, prep_n, prep_tv, prep_ts, prep_f, lstK.eq_1, lstAt_k, g2K.eq_1, g2_k, g1K.eq_1, g1_k, gNK.eq_1, gN_k, boK.eq_1, bOf_k, isiK.eq_1, tIsi_k, partK.eq_1, part_n, part_s, slcK.eq_1, slcK.eq_2, slcK.eq_3, slcK.eq_4, tSlc_k, revK.eq_1, revK.eq_2, revK.eq_3, tRev_k, strMK.eq_1, tStrM_k, itK.eq_1, tIter_k, enumK.eq_1, tEnum_k, zipK.eq_1, zipK.eq_2, tZip_k, intsK.eq_1, intsK.eq_2, intsOf_k, endK.eq_1, endO_k, extK.eq_1, tExtend_k, tAppend_k, setIxK.eq_1, sSetIx_k, popAtK.eq_1, tPopAt_k, bO.eq_1, itemsOf.eq_1, itemsOf.eq_2, itemsOf.eq_3, gAdd.eq_1, gAdd.eq_2, gAdd.eq_3, gAdd.eq_4, gAdd.eq_5, gAdd.eq_6, gSub_.eq_1, gSub_.eq_2, gMul2_s, gMul2_i, gMul2_l, gMulS.eq_1, gMul.eq_1, gMul.eq_2, gFdiv.eq_1, gMod.eq_1, gPow.eq_1, gNeg.eq_1, gNeg.eq_2, gGe.eq_1, gGt.eq_1, gLe.eq_1, gLt.eq_1, gLt.eq_2, gEq.eq_1, gNe.eq_1, gNe.eq_2, gNe.eq_3, gNe.eq_4, gInW.eq_1, gInW.eq_2, gIs.eq_1, gIsNot.eq_1, gLen.eq_1, gLen.eq_2, gAllAny.eq_1, gAbs.eq_1, gInt.eq_1, gInt.eq_2, gStr.eq_1, gStr.eq_2, gStr.eq_3, gM2.eq_1, gListOf.eq_1, gListOf.eq_2, gTupOf.eq_1, gTupOf.eq_2, gSort, gSortS.eq_1, gSortD.eq_1, gSortSet.eq_1, gRepr.eq_1, gM2S.eq_1, gIsB.eq_1, tCompN, tCompD, tCompI, tCompDI, tComp2, gIx.eq_1, gIx.eq_2, ati0, ati1, ati2, Option.some.injEq, exists_eq, exists_eq', false_implies, Opd.slot.injEq, forall_eq, forall_eq', Opd.get.eq_1, Opd.get.eq_2, at_join, join_some, O.frz.eq_1, O.frz.eq_2, frz_dct, O.frz.eq_4, lsO.eq_1, lsO.eq_2, tuO.eq_1, seqO_l, seqO_p, seqO_t, endsOf, outsOf, startA, wipeA, List.getElem?_cons_zero, List.getElem?_cons_succ, List.length_cons, List.length_nil, List.map_cons, List.map_nil, List.set_cons_zero, List.set_cons_succ, List.replicate_succ, List.replicate_zero, List.cons_append, List.nil_append, List.getD_cons_zero, List.getD_cons_succ, if_true, if_false, Bool.false_eq_true, reduceIte, reduceCtorEq, Bool.not_true, Bool.not_false, implies_true, true_and, and_true, Nat.sub_self, Nat.reduceAdd, Nat.reduceSub, Nat.zero_add, List.all_cons, List.all_nil, Bool.and_true, Bool.true_and]
  refine compDN_strs (n0 := _) ys [] (by simpa using nd) ?_
  simp only [sSeq, sNext, sRet, sRetN, sDrop, sIf, sSet, sFor, sPar, sAsg, bAnd, bOr, bNot, tTst, tCst, tBin, tUny, tNilA, tConsA, getAll, tCallB, tCallF, tTupD, tLstD, tChainA, tChainE, tRg, rgK.eq_1, tStripX, strip1K.eq_1, strip2K.eq_1, tAndE, tOrE, tNotE, tIfE, tComp, bYes, tDct0, tRange.eq_1, tgName, tgTup.eq_1, tgCons.eq_1, tgNil.eq_1, takeAll, back.eq_1, back.eq_2, back_nil, setO, tName_k, nameK.eq_1, nameK.eq_2, nameK.eq_3, nameK.eq_4, atK.eq_1, take1_v, take1_s, takeO_v, takeO_s, takeR_v, takeR_s, prep_n, prep_tv, prep_ts, prep_f, lstK.eq_1, lstAt_k, g2K.eq_1, g2_k, g1K.eq_1, g1_k, gNK.eq_1, gN_k, boK.eq_1, bOf_k, isiK.eq_1, tIsi_k, partK.eq_1, part_n, part_s, slcK.eq_1, slcK.eq_2, slcK.eq_3, slcK.eq_4, tSlc_k, revK.eq_1, revK.eq_2, revK.eq_3, tRev_k, strMK.eq_1, tStrM_k, itK.eq_1, tIter_k, enumK.eq_1, tEnum_k, zipK.eq_1, zipK.eq_2, tZip_k, intsK.eq_1, intsK.eq_2, intsOf_k, endK.eq_1, endO_k, extK.eq_1, tExtend_k, tAppend_k, setIxK.eq_1, sSetIx_k, popAtK.eq_1, tPopAt_k, bO.eq_1, itemsOf.eq_1, itemsOf.eq_2, itemsOf.eq_3, gAdd.eq_1, gAdd.eq_2, gAdd.eq_3, gAdd.eq_4, gAdd.eq_5, gAdd.eq_6, gSub_.eq_1, gSub_.eq_2, gMul2_s, gMul2_i, gMul2_l, gMulS.eq_1, gMul.eq_1, gMul.eq_2, gFdiv.eq_1, gMod.eq_1, gPow.eq_1, gNeg.eq_1, gNeg.eq_2, gGe.eq_1, gGt.eq_1, gLe.eq_1, gLt.eq_1, gLt.eq_2, gEq.eq_1, gNe.eq_1, gNe.eq_2, gNe.eq_3, gNe.eq_4, gInW.eq_1, gInW.eq_2, gIs.eq_1, gIsNot.eq_1, gLen.eq_1, gLen.eq_2, gAllAny.eq_1, gAbs.eq_1, gInt.eq_1, gInt.eq_2, gStr.eq_1, gStr.eq_2, gStr.eq_3, gM2.eq_1, gListOf.eq_1, gListOf.eq_2, gTupOf.eq_1, gTupOf.eq_2, gSort, gSortS.eq_1, gSortD.eq_1, gSortSet.eq_1, gRepr.eq_1, gM2S.eq_1, gIsB.eq_1, tCompN, tCompD, tCompI, tCompDI, tComp2, gIx.eq_1, gIx.eq_2, ati0, ati1, ati2, Option.some.injEq, exists_eq, exists_eq', false_implies, Opd.slot.injEq, forall_eq, forall_eq', Opd.get.eq_1, Opd.get.eq_2, at_join, join_some, O.frz.eq_1, O.frz.eq_2, frz_dct, O.frz.eq_4, lsO.eq_1, lsO.eq_2, tuO.eq_1, seqO_l, seqO_p, seqO_t, endsOf, outsOf, startA, wipeA, List.getElem?_cons_zero, List.getElem?_cons_succ, List.length_cons, List.length_nil, List.map_cons, List.map_nil, List.set_cons_zero, List.set_cons_succ, List.replicate_succ, List.replicate_zero, List.cons_append, List.nil_append, List.getD_cons_zero, List.getD_cons_succ, if_true, if_false, Bool.false_eq_true, reduceIte, reduceCtorEq, Bool.not_true, Bool.not_false, implies_true, true_and, and_true, Nat.sub_self, Nat.reduceAdd, Nat.reduceSub, Nat.zero_add, List.all_cons, List.all_nil, Bool.and_true, Bool.true_and]
  refine ⟨rfl, ?_⟩
  refine talks_loop nd (fun D a b f x4 x5 ha hb ne hf k => ?_) us [] none none (by simpa using net.m) net.tk fun n2 n3 => ?_
  · obtain ⟨k1, k2, k3⟩ := step_dc (f := f) nd ha hb ne
    unfold t_neighbour_table_b1
    simp only [sSeq, sNext, sRet, sRetN, sDrop, sIf, sSet, sFor, sPar, sAsg, bAnd, bOr, bNot, tTst, tCst, tBin, tUny, tNilA, tConsA, getAll, tCallB, tCallF, tTupD, tLstD, tChainA, tChainE, tRg, rgK.eq_1, tStripX, strip1K.eq_1, strip2K.eq_1, tAndE, tOrE, tNotE, tIfE, tComp, bYes, tDct0, tRange.eq_1, tgName, tgTup.eq_1, tgCons.eq_1, tgNil.eq_1, takeAll, back.eq_1, back.eq_2, back_nil, setO, tName_k, nameK.eq_1, nameK.eq_2, nameK.eq_3, nameK.eq_4, atK.eq_1, take1_v, take1_s, takeO_v, takeO_s, takeR_v, takeR_s, prep_n, prep_tv, prep_ts, prep_f, lstK.eq_1, lstAt_k, g2K.eq_1, g2_k, g1K.eq_1, g1_k, gNK.eq_1, gN_k, boK.eq_1, bOf_k, isiK.eq_1, tIsi_k, partK.eq_1, part_n, part_s, slcK.eq_1, slcK.eq_2, slcK.eq_3, slcK.eq_4, tSlc_k, revK.eq_1, revK.eq_2, revK.eq_3, tRev_k, strMK.eq_1, tStrM_k, itK.eq_1, tIter_k, enumK.eq_1, tEnum_k, zipK.eq_1, zipK.eq_2, tZip_k, intsK.eq_1, intsK.eq_2, intsOf_k, endK.eq_1, endO_k, extK.eq_1, tExtend_k, tAppend_k, setIxK.eq_1, sSetIx_k, popAtK.eq_1, tPopAt_k, bO.eq_1, itemsOf.eq_1, itemsOf.eq_2, itemsOf.eq_3, gAdd.eq_1, gAdd.eq_2, gAdd.eq_3, gAdd.eq_4, gAdd.eq_5, gAdd.eq_6, gSub_.eq_1, gSub_.eq_2, gMul2_s, gMul2_i, gMul2_l, gMulS.eq_1, gMul.eq_1, gMul.eq_2, gFdiv.eq_1, gMod.eq_1, gPow.eq_1, gNeg.eq_1, gNeg.eq_2, gGe.eq_1, gGt.eq_1, gLe.eq_1, gLt.eq_1, gLt.eq_2, gEq.eq_1, gNe.eq_1, gNe.eq_2, gNe.eq_3, gNe.eq_4, gInW.eq_1, gInW.eq_2, gIs.eq_1, gIsNot.eq_1, gLen.eq_1, gLen.eq_2, gAllAny.eq_1, gAbs.eq_1, gInt.eq_1, gInt.eq_2, gStr.eq_1, gStr.eq_2, gStr.eq_3, gM2.eq_1, gListOf.eq_1, gListOf.eq_2, gTupOf.eq_1, gTupOf.eq_2, gSort, gSortS.eq_1, gSortD.eq_1, gSortSet.eq_1, gRepr.eq_1, gM2S.eq_1, gIsB.eq_1, tCompN, tCompD, tCompI, tCompDI, tComp2, gIx.eq_1, gIx.eq_2, ati0, ati1, ati2, Option.some.injEq, exists_eq, exists_eq', false_implies, Opd.slot.injEq, forall_eq, forall_eq', Opd.get.eq_1, Opd.get.eq_2, at_join, join_some, O.frz.eq_1, O.frz.eq_2, frz_dct, O.frz.eq_4, lsO.eq_1, lsO.eq_2, tuO.eq_1, seqO_l, seqO_p, seqO_t, endsOf, outsOf, startA, wipeA, List.getElem?_cons_zero, List.getElem?_cons_succ, List.length_cons, List.length_nil, List.map_cons, List.map_nil, List.set_cons_zero, List.set_cons_succ, List.replicate_succ, List.replicate_zero, List.cons_append, List.nil_append, List.getD_cons_zero, List.getD_cons_succ, if_true, if_false, Bool.false_eq_true, reduceIte, reduceCtorEq, Bool.not_true, Bool.not_false, implies_true, true_and, and_true, Nat.sub_self, Nat.reduceAdd, Nat.reduceSub, Nat.zero_add, List.all_cons, List.all_nil, Bool.and_true, Bool.true_and]
    refine ⟨_, .inr a, .str b, _, rfl, rfl, rfl, k1, by rw [List.length_map]; have := hf a; omega, ?_⟩
    simp only [sSeq, sNext, sRet, sRetN, sDrop, sIf, sSet, sFor, sPar, sAsg, bAnd, bOr, bNot, tTst, tCst, tBin, tUny, tNilA, tConsA, getAll, tCallB, tCallF, tTupD, tLstD, tChainA, tChainE, tRg, rgK.eq_1, tStripX, strip1K.eq_1, strip2K.eq_1, tAndE, tOrE, tNotE, tIfE, tComp, bYes, tDct0, tRange.eq_1, tgName, tgTup.eq_1, tgCons.eq_1, tgNil.eq_1, takeAll, back.eq_1, back.eq_2, back_nil, setO, tName_k, nameK.eq_1, nameK.eq_2, nameK.eq_3, nameK.eq_4, atK.eq_1, take1_v, take1_s, takeO_v, takeO_s, takeR_v, takeR_s, prep_n, prep_tv, prep_ts, prep_f, lstK.eq_1, lstAt_k, g2K.eq_1, g2_k, g1K.eq_1, g1_k, gNK.eq_1, gN_k, boK.eq_1, bOf_k, isiK.eq_1, tIsi_k, partK.eq_1, part_n, part_s, slcK.eq_1, slcK.eq_2, slcK.eq_3, slcK.eq_4, tSlc_k, revK.eq_1, revK.eq_2, revK.eq_3, tRev_k, strMK.eq_1, tStrM_k, itK.eq_1, tIter_k, enumK.eq_1, tEnum_k, zipK.eq_1, zipK.eq_2, tZip_k, intsK.eq_1, intsK.eq_2, intsOf_k, endK.eq_1, endO_k, extK.eq_1, tExtend_k, tAppend_k, setIxK.eq_1, sSetIx_k, popAtK.eq_1, tPopAt_k, bO.eq_1, itemsOf.eq_1, itemsOf.eq_2, itemsOf.eq_3, gAdd.eq_1, gAdd.eq_2, gAdd.eq_3, gAdd.eq_4, gAdd.eq_5, gAdd.eq_6, gSub_.eq_1, gSub_.eq_2, gMul2_s, gMul2_i, gMul2_l, gMulS.eq_1, gMul.eq_1, gMul.eq_2, gFdiv.eq_1, gMod.eq_1, gPow.eq_1, gNeg.eq_1, gNeg.eq_2, gGe.eq_1, gGt.eq_1, gLe.eq_1, gLt.eq_1, gLt.eq_2, gEq.eq_1, gNe.eq_1, gNe.eq_2, gNe.eq_3, gNe.eq_4, gInW.eq_1, gInW.eq_2, gIs.eq_1, gIsNot.eq_1, gLen.eq_1, gLen.eq_2, gAllAny.eq_1, gAbs.eq_1, gInt.eq_1, gInt.eq_2, gStr.eq_1, gStr.eq_2, gStr.eq_3, gM2.eq_1, gListOf.eq_1, gListOf.eq_2, gTupOf.eq_1, gTupOf.eq_2, gSort, gSortS.eq_1, gSortD.eq_1, gSortSet.eq_1, gRepr.eq_1, gM2S.eq_1, gIsB.eq_1, tCompN, tCompD, tCompI, tCompDI, tComp2, gIx.eq_1, gIx.eq_2, ati0, ati1, ati2, Option.some.injEq, exists_eq, exists_eq', false_implies, Opd.slot.injEq, forall_eq, forall_eq', Opd.get.eq_1, Opd.get.eq_2, at_join, join_some, O.frz.eq_1, O.frz.eq_2, frz_dct, O.frz.eq_4, lsO.eq_1, lsO.eq_2, tuO.eq_1, seqO_l, seqO_p, seqO_t, endsOf, outsOf, startA, wipeA, List.getElem?_cons_zero, List.getElem?_cons_succ, List.length_cons, List.length_nil, List.map_cons, List.map_nil, List.set_cons_zero, List.set_cons_succ, List.replicate_succ, List.replicate_zero, List.cons_append, List.nil_append, List.getD_cons_zero, List.getD_cons_succ, if_true, if_false, Bool.false_eq_true, reduceIte, reduceCtorEq, Bool.not_true, Bool.not_false, implies_true, true_and, and_true, Nat.sub_self, Nat.reduceAdd, Nat.reduceSub, Nat.zero_add, List.all_cons, List.all_nil, Bool.and_true, Bool.true_and]
    refine ⟨_, .inr b, .str a, _, rfl, rfl, rfl, k2, by rw [List.length_map]; have := hf b; omega, ?_⟩
    rw [k3]
    exact k
  · simp only [sSeq, sNext, sRet, sRetN, sDrop, sIf, sSet, sFor, sPar, sAsg, bAnd, bOr, bNot, tTst, tCst, tBin, tUny, tNilA, tConsA, getAll, tCallB, tCallF, tTupD, tLstD, tChainA, tChainE, tRg, rgK.eq_1, tStripX, strip1K.eq_1, strip2K.eq_1, tAndE, tOrE, tNotE, tIfE, tComp, bYes, tDct0, tRange.eq_1, tgName, tgTup.eq_1, tgCons.eq_1, tgNil.eq_1, takeAll, back.eq_1, back.eq_2, back_nil, setO, tName_k, nameK.eq_1, nameK.eq_2, nameK.eq_3, nameK.eq_4, atK.eq_1, take1_v, take1_s, takeO_v, takeO_s, takeR_v, takeR_s, prep_n, prep_tv, prep_ts, prep_f, lstK.eq_1, lstAt_k, g2K.eq_1, g2_k, g1K.eq_1, g1_k, gNK.eq_1, gN_k, boK.eq_1, bOf_k, isiK.eq_1, tIsi_k, partK.eq_1, part_n, part_s, slcK.eq_1, slcK.eq_2, slcK.eq_3, slcK.eq_4, tSlc_k, revK.eq_1, revK.eq_2, revK.eq_3, tRev_k, strMK.eq_1, tStrM_k, itK.eq_1, tIter_k, enumK.eq_1, tEnum_k, zipK.eq_1, zipK.eq_2, tZip_k, intsK.eq_1, intsK.eq_2, intsOf_k, endK.eq_1, endO_k, extK.eq_1, tExtend_k, tAppend_k, setIxK.eq_1, sSetIx_k, popAtK.eq_1, tPopAt_k, bO.eq_1, itemsOf.eq_1, itemsOf.eq_2, itemsOf.eq_3, gAdd.eq_1, gAdd.eq_2, gAdd.eq_3, gAdd.eq_4, gAdd.eq_5, gAdd.eq_6, gSub_.eq_1, gSub_.eq_2, gMul2_s, gMul2_i, gMul2_l, gMulS.eq_1, gMul.eq_1, gMul.eq_2, gFdiv.eq_1, gMod.eq_1, gPow.eq_1, gNeg.eq_1, gNeg.eq_2, gGe.eq_1, gGt.eq_1, gLe.eq_1, gLt.eq_1, gLt.eq_2, gEq.eq_1, gNe.eq_1, gNe.eq_2, gNe.eq_3, gNe.eq_4, gInW.eq_1, gInW.eq_2, gIs.eq_1, gIsNot.eq_1, gLen.eq_1, gLen.eq_2, gAllAny.eq_1, gAbs.eq_1, gInt.eq_1, gInt.eq_2, gStr.eq_1, gStr.eq_2, gStr.eq_3, gM2.eq_1, gListOf.eq_1, gListOf.eq_2, gTupOf.eq_1, gTupOf.eq_2, gSort, gSortS.eq_1, gSortD.eq_1, gSortSet.eq_1, gRepr.eq_1, gM2S.eq_1, gIsB.eq_1, tCompN, tCompD, tCompI, tCompDI, tComp2, gIx.eq_1, gIx.eq_2, ati0, ati1, ati2, Option.some.injEq, exists_eq, exists_eq', false_implies, Opd.slot.injEq, forall_eq, forall_eq', Opd.get.eq_1, Opd.get.eq_2, at_join, join_some, O.frz.eq_1, O.frz.eq_2, frz_dct, O.frz.eq_4, lsO.eq_1, lsO.eq_2, tuO.eq_1, seqO_l, seqO_p, seqO_t, endsOf, outsOf, startA, wipeA, List.getElem?_cons_zero, List.getElem?_cons_succ, List.length_cons, List.length_nil, List.map_cons, List.map_nil, List.set_cons_zero, List.set_cons_succ, List.replicate_succ, List.replicate_zero, List.cons_append, List.nil_append, List.getD_cons_zero, List.getD_cons_succ, if_true, if_false, Bool.false_eq_true, reduceIte, reduceCtorEq, Bool.not_true, Bool.not_false, implies_true, true_and, and_true, Nat.sub_self, Nat.reduceAdd, Nat.reduceSub, Nat.zero_add, List.all_cons, List.all_nil, Bool.and_true, Bool.true_and]
    refine ⟨_, _, rfl, rfl, ?_, ?_⟩
    · unfold dcL; rw [List.length_map, List.length_map]; have := net.n2; omega
    · have e : ((dcL ys (adjL ([] ++ us))).map fun p => (p.1, PyData.list p.2)).map itemT = ys.map fun s => PyData.tuple [.str s, .list ((adjL us s).map PyData.str)] := by
        unfold dcL; rw [List.map_map, List.map_map]; rfl
      rw [List.nil_append] at e
      rw [e]
      exact compDV_strs (f := adjL us) (fun s => by have := adj_len us s; have := net.m; omega) ys [] (by simpa using nd) h
theorem pl__law_beside (os : List O) (Qa : O → List O → Prop) (_ : os.length = 1) (h : sp__law_beside os Qa) : t__law_beside (endsOf [false] Qa) (startA 6 os) := by
  obtain ⟨ys, us, rfl, net, h⟩ := h
  have nd := up_nodup net.up
  unfold t__law_beside netO
  simp only [sSeq, sNext, sRet, sRetN, sDrop, sIf, sSet, sFor, sPar, sAsg, bAnd, bOr, bNot, tTst, tCst, tBin, tUny, tNilA, tConsA, getAll, tCallB, tCallF, tTupD, tLstD, tChainA, tChainE, tRg, rgK.eq_1, tStripX, strip1K.eq_1, strip2K.eq_1, tAndE, tOrE, tNotE, tIfE, tComp, bYes, tDct0, tRange.eq_1, tgName, tgTup.eq_1, tgCons.eq_1, tgNil.eq_1, takeAll, back.eq_1, back.eq_2, back_nil, setO, tName_k, nameK.eq_1, nameK.eq_2, nameK.eq_3, nameK.eq_4, atK.eq_1, take1_v, take1_s, takeO_v, takeO_s, takeR_v, takeR_s, prep_n, prep_tv, prep_ts, prep_f, lstK.eq_1, lstAt_k, g2K.eq_1, g2_k, g1K.eq_1, g1_k, gNK.eq_1, gN_k, boK.eq_1, bOf_k, isiK.eq_1, tIsi_k, partK.eq_1, part_n, part_s, slcK.eq_1, slcK.eq_2, slcK.eq_3, slcK.eq_4, tSlc_k, revK.eq_1, revK.eq_2, revK.eq_3, tRev_k, strMK.eq_1, tStrM_k, itK.eq_1, tIter_k, enumK.eq_1, tEnum_k, zipK.eq_1, zipK.eq_2, tZip_k, intsK.eq_1, intsK.eq_2, intsOf_k, endK.eq_1, endO_k, extK.eq_1, tExtend_k, tAppend_k, setIxK.eq_1, sSetIx_k, popAtK.eq_1, tPopAt_k, bO.eq_1, itemsOf.eq_1, itemsOf.eq_2, itemsOf.eq_3, gAdd.eq_1, gAdd.eq_2, gAdd.eq_3, gAdd.eq_4, gAdd.eq_5, gAdd.eq_6, gSub_.eq_1, gSub_.eq_2, gMul2_s, gMul2_i, gMul2_l, gMulS.eq_1, gMul.eq_1, gMul.eq_2, gFdiv.eq_1, gMod.eq_1, gPow.eq_1, gNeg.eq_1, gNeg.eq_2, gGe.eq_1, gGt.eq_1, gLe.eq_1, gLt.eq_1, gLt.eq_2, gEq.eq_1, gNe.eq_1, gNe.eq_2, gNe.eq_3, gNe.eq_4, gInW.eq_1, gInW.eq_2, gIs.eq_1, gIsNot.eq_1, gLen.eq_1, gLen.eq_2, gAllAny.eq_1, gAbs.eq_1, gInt.eq_1, gInt.eq_2, gStr.eq_1, gStr.eq_2, gStr.eq_3, gM2.eq_1, gListOf.eq_1, gListOf.eq_2, gTupOf.eq_1, gTupOf.eq_2, gSort, gSortS.eq_1, gSortD.eq_1, gSortSet.eq_1, gRepr.eq_1, gM2S.eq_1, gIsB.eq_1, tCompN, tCompD, tCompI, tCompDI, tComp2, gIx.eq_1, gIx.eq_2, ati0, ati1, ati2, Option.some.injEq, exists_eq, exists_eq', false_implies, Opd.slot.injEq, forall_eq, forall_eq', Opd.get.eq_1, Opd.get.eq_2, at_join, join_some, O.frz.eq_1, O.frz.eq_2, frz_dct, O.frz.eq_4, lsO.eq_1, lsO.eq_2, tuO.eq_1, seqO_l, seqO_p, seqO_t, endsOf, outsOf, startA, wipeA, List.getElem?_cons_zero, List.getElem?_cons_succ, List.length_cons, List.length_nil, List.map_cons, List.map_nil, List.set_cons_zero, List.set_cons_succ, List.replicate_succ, List.replicate_zero, List.cons_append, List.nil_append, List.getD_cons_zero, List.getD_cons_succ, if_true, if_false, Bool.false_eq_true, reduceIte, reduceCtorEq, Bool.not_true, Bool.not_false, implies_true, true_and, and_true, Nat.sub_self, Nat.reduceAdd, Nat.reduceSub, Nat.zero_add, List.all_cons, List.all_nil, Bool.and_true, Bool.true_and]
  refine compDN_strs (n0 := _) ys [] (by simpa using nd) ?_
  simp only [sSeq, sNext, sRet, sRetN, sDrop, sIf, sSet, sFor, sPar, sAsg, bAnd, bOr, bNot, tTst, tCst, tBin, tUny, tNilA, tConsA, getAll, tCallB, tCallF, tTupD, tLstD, tChainA, tChainE, tRg, rgK.eq_1, tStripX, strip1K.eq_1, strip2K.eq_1, tAndE, tOrE, tNotE, tIfE, tComp, bYes, tDct0, tRange.eq_1, tgName, tgTup.eq_1, tgCons.eq_1, tgNil.eq_1, takeAll, back.eq_1, back.eq_2, back_nil, setO, tName_k, nameK.eq_1, nameK.eq_2, nameK.eq_3, nameK.eq_4, atK.eq_1, take1_v, take1_s, takeO_v, takeO_s, takeR_v, takeR_s, prep_n, prep_tv, prep_ts, prep_f, lstK.eq_1, lstAt_k, g2K.eq_1, g2_k, g1K.eq_1, g1_k, gNK.eq_1, gN_k, boK.eq_1, bOf_k, isiK.eq_1, tIsi_k, partK.eq_1, part_n, part_s, slcK.eq_1, slcK.eq_2, slcK.eq_3, slcK.eq_4, tSlc_k, revK.eq_1, revK.eq_2, revK.eq_3, tRev_k, strMK.eq_1, tStrM_k, itK.eq_1, tIter_k, enumK.eq_1, tEnum_k, zipK.eq_1, zipK.eq_2, tZip_k, intsK.eq_1, intsK.eq_2, intsOf_k, endK.eq_1, endO_k, extK.eq_1, tExtend_k, tAppend_k, setIxK.eq_1, sSetIx_k, popAtK.eq_1, tPopAt_k, bO.eq_1, itemsOf.eq_1, itemsOf.eq_2, itemsOf.eq_3, gAdd.eq_1, gAdd.eq_2, gAdd.eq_3, gAdd.eq_4, gAdd.eq_5, gAdd.eq_6, gSub_.eq_1, gSub_.eq_2, gMul2_s, gMul2_i, gMul2_l, gMulS.eq_1, gMul.eq_1, gMul.eq_2, gFdiv.eq_1, gMod.eq_1, gPow.eq_1, gNeg.eq_1, gNeg.eq_2, gGe.eq_1, gGt.eq_1, gLe.eq_1, gLt.eq_1, gLt.eq_2, gEq.eq_1, gNe.eq_1, gNe.eq_2, gNe.eq_3, gNe.eq_4, gInW.eq_1, gInW.eq_2, gIs.eq_1, gIsNot.eq_1, gLen.eq_1, gLen.eq_2, gAllAny.eq_1, gAbs.eq_1, gInt.eq_1, gInt.eq_2, gStr.eq_1, gStr.eq_2, gStr.eq_3, gM2.eq_1, gListOf.eq_1, gListOf.eq_2, gTupOf.eq_1, gTupOf.eq_2, gSort, gSortS.eq_1, gSortD.eq_1, gSortSet.eq_1, gRepr.eq_1, gM2S.eq_1, gIsB.eq_1, tCompN, tCompD, tCompI, tCompDI, tComp2, gIx.eq_1, gIx.eq_2, ati0, ati1, ati2, Option.some.injEq, exists_eq, exists_eq', false_implies, Opd.slot.injEq, forall_eq, forall_eq', Opd.get.eq_1, Opd.get.eq_2, at_join, join_some, O.frz.eq_1, O.frz.eq_2, frz_dct, O.frz.eq_4, lsO.eq_1, lsO.eq_2, tuO.eq_1, seqO_l, seqO_p, seqO_t, endsOf, outsOf, startA, wipeA, List.getElem?_cons_zero, List.getElem?_cons_succ, List.length_cons, List.length_nil, List.map_cons, List.map_nil, List.set_cons_zero, List.set_cons_succ, List.replicate_succ, List.replicate_zero, List.cons_append, List.nil_append, List.getD_cons_zero, List.getD_cons_succ, if_true, if_false, Bool.false_eq_true, reduceIte, reduceCtorEq, Bool.not_true, Bool.not_false, implies_true, true_and, and_true, Nat.sub_self, Nat.reduceAdd, Nat.reduceSub, Nat.zero_add, List.all_cons, List.all_nil, Bool.and_true, Bool.true_and]
  refine ⟨rfl, ?_⟩
  refine talks_loop nd (fun D a b f x4 x5 ha hb ne hf k => ?_) us [] none none (by simpa using net.m) net.tk fun n2 n3 => ?_
  · obtain ⟨k1, k2, k3⟩ := step_dc (f := f) nd ha hb ne
    unfold t__law_beside_b1
    simp only [sSeq, sNext, sRet, sRetN, sDrop, sIf, sSet, sFor, sPar, sAsg, bAnd, bOr, bNot, tTst, tCst, tBin, tUny, tNilA, tConsA, getAll, tCallB, tCallF, tTupD, tLstD, tChainA, tChainE, tRg, rgK.eq_1, tStripX, strip1K.eq_1, strip2K.eq_1, tAndE, tOrE, tNotE, tIfE, tComp, bYes, tDct0, tRange.eq_1, tgName, tgTup.eq_1, tgCons.eq_1, tgNil.eq_1, takeAll, back.eq_1, back.eq_2, back_nil, setO, tName_k, nameK.eq_1, nameK.eq_2, nameK.eq_3, nameK.eq_4, atK.eq_1, take1_v, take1_s, takeO_v, takeO_s, takeR_v, takeR_s, prep_n, prep_tv, prep_ts, prep_f, lstK.eq_1, lstAt_k, g2K.eq_1, g2_k, g1K.eq_1, g1_k, gNK.eq_1, gN_k, boK.eq_1, bOf_k, isiK.eq_1, tIsi_k, partK.eq_1, part_n, part_s, slcK.eq_1, slcK.eq_2, slcK.eq_3, slcK.eq_4, tSlc_k, revK.eq_1, revK.eq_2, revK.eq_3, tRev_k, strMK.eq_1, tStrM_k, itK.eq_1, tIter_k, enumK.eq_1, tEnum_k, zipK.eq_1, zipK.eq_2, tZip_k, intsK.eq_1, intsK.eq_2, intsOf_k, endK.eq_1, endO_k, extK.eq_1, tExtend_k, tAppend_k, setIxK.eq_1, sSetIx_k, popAtK.eq_1, tPopAt_k, bO.eq_1, itemsOf.eq_1, itemsOf.eq_2, itemsOf.eq_3, gAdd.eq_1, gAdd.eq_2, gAdd.eq_3, gAdd.eq_4, gAdd.eq_5, gAdd.eq_6, gSub_.eq_1, gSub_.eq_2, gMul2_s, gMul2_i, gMul2_l, gMulS.eq_1, gMul.eq_1, gMul.eq_2, gFdiv.eq_1, gMod.eq_1, gPow.eq_1, gNeg.eq_1, gNeg.eq_2, gGe.eq_1, gGt.eq_1, gLe.eq_1, gLt.eq_1, gLt.eq_2, gEq.eq_1, gNe.eq_1, gNe.eq_2, gNe.eq_3, gNe.eq_4, gInW.eq_1, gInW.eq_2, gIs.eq_1, gIsNot.eq_1, gLen.eq_1, gLen.eq_2, gAllAny.eq_1, gAbs.eq_1, gInt.eq_1, gInt.eq_2, gStr.eq_1, gStr.eq_2, gStr.eq_3, gM2.eq_1, gListOf.eq_1, gListOf.eq_2, gTupOf.eq_1, gTupOf.eq_2, gSort, gSortS.eq_1, gSortD.eq_1, gSortSet.eq_1, gRepr.eq_1, gM2S.eq_1, gIsB.eq_1, tCompN, tCompD, tCompI, tCompDI, tComp2, gIx.eq_1, gIx.eq_2, ati0, ati1, ati2, Option.some.injEq, exists_eq, exists_eq', false_implies, Opd.slot.injEq, forall_eq, forall_eq', Opd.get.eq_1, Opd.get.eq_2, at_join, join_some, O.frz.eq_1, O.frz.eq_2, frz_dct, O.frz.eq_4, lsO.eq_1, lsO.eq_2, tuO.eq_1, seqO_l, seqO_p, seqO_t, endsOf, outsOf, startA, wipeA, List.getElem?_cons_zero, List.getElem?_cons_succ, List.length_cons, List.length_nil, List.map_cons, List.map_nil, List.set_cons_zero, List.set_cons_succ, List.replicate_succ, List.replicate_zero, List.cons_append, List.nil_append, List.getD_cons_zero, List.getD_cons_succ, if_true, if_false, Bool.false_eq_true, reduceIte, reduceCtorEq, Bool.not_true, Bool.not_false, implies_true, true_and, and_true, Nat.sub_self, Nat.reduceAdd, Nat.reduceSub, Nat.zero_add, List.all_cons, List.all_nil, Bool.and_true, Bool.true_and]
    refine ⟨_, .inr a, .str b, _, rfl, rfl, rfl, k1, by rw [List.length_map]; have := hf a; omega, ?_⟩
    simp only [sSeq, sNext, sRet, sRetN, sDrop, sIf, sSet, sFor, sPar, sAsg, bAnd, bOr, bNot, tTst, tCst, tBin, tUny, tNilA, tConsA, getAll, tCallB, tCallF, tTupD, tLstD, tChainA, tChainE, tRg, rgK.eq_1, tStripX, strip1K.eq_1, strip2K.eq_1, tAndE, tOrE, tNotE, tIfE, tComp, bYes, tDct0, tRange.eq_1, tgName, tgTup.eq_1, tgCons.eq_1, tgNil.eq_1, takeAll, back.eq_1, back.eq_2, back_nil, setO, tName_k, nameK.eq_1, nameK.eq_2, nameK.eq_3, nameK.eq_4, atK.eq_1, take1_v, take1_s, takeO_v, takeO_s, takeR_v, takeR_s, prep_n, prep_tv, prep_ts, prep_f, lstK.eq_1, lstAt_k, g2K.eq_1, g2_k, g1K.eq_1, g1_k, gNK.eq_1, gN_k, boK.eq_1, bOf_k, isiK.eq_1, tIsi_k, partK.eq_1, part_n, part_s, slcK.eq_1, slcK.eq_2, slcK.eq_3, slcK.eq_4, tSlc_k, revK.eq_1, revK.eq_2, revK.eq_3, tRev_k, strMK.eq_1, tStrM_k, itK.eq_1, tIter_k, enumK.eq_1, tEnum_k, zipK.eq_1, zipK.eq_2, tZip_k, intsK.eq_1, intsK.eq_2, intsOf_k, endK.eq_1, endO_k, extK.eq_1, tExtend_k, tAppend_k, setIxK.eq_1, sSetIx_k, popAtK.eq_1, tPopAt_k, bO.eq_1, itemsOf.eq_1, itemsOf.eq_2, itemsOf.eq_3, gAdd.eq_1, gAdd.eq_2, gAdd.eq_3, gAdd.eq_4, gAdd.eq_5, gAdd.eq_6, gSub_.eq_1, gSub_.eq_2, gMul2_s, gMul2_i, gMul2_l, gMulS.eq_1, gMul.eq_1, gMul.eq_2, gFdiv.eq_1, gMod.eq_1, gPow.eq_1, gNeg.eq_1, gNeg.eq_2, gGe.eq_1, gGt.eq_1, gLe.eq_1, gLt.eq_1, gLt.eq_2, gEq.eq_1, gNe.eq_1, gNe.eq_2, gNe.eq_3, gNe.eq_4, gInW.eq_1, gInW.eq_2, gIs.eq_1, gIsNot.eq_1, gLen.eq_1, gLen.eq_2, gAllAny.eq_1, gAbs.eq_1, gInt.eq_1, gInt.eq_2, gStr.eq_1, gStr.eq_2, gStr.eq_3, gM2.eq_1, gListOf.eq_1, gListOf.eq_2, gTupOf.eq_1, gTupOf.eq_2, gSort, gSortS.eq_1, gSortD.eq_1, gSortSet.eq_1, gRepr.eq_1, gM2S.eq_1, gIsB.eq_1, tCompN, tCompD, tCompI, tCompDI, tComp2, gIx.eq_1, gIx.eq_2, ati0, ati1, ati2, Option.some.injEq, exists_eq, exists_eq', false_implies, Opd.slot.injEq, forall_eq, forall_eq', Opd.get.eq_1, Opd.get.eq_2, at_join, join_some, O.frz.eq_1, O.frz.eq_2, frz_dct, O.frz.eq_4, lsO.eq_1, lsO.eq_2, tuO.eq_1, seqO_l, seqO_p, seqO_t, endsOf, outsOf, startA, wipeA, List.getElem?_cons_zero, List.getElem?_cons_succ, List.length_cons, List.length_nil, List.map_cons, List.map_nil, List.set_cons_zero, List.set_cons_succ, List.replicate_succ, List.replicate_zero, List.cons_append, List.nil_append, List.getD_cons_zero, List.getD_cons_succ, if_true, if_false, Bool.false_eq_true, reduceIte, reduceCtorEq, Bool.not_true, Bool.not_false, implies_true, true_and, and_true, Nat.sub_self, Nat.reduceAdd, Nat.reduceSub, Nat.zero_add, List.all_cons, List.all_nil, Bool.and_true, Bool.true_and]
    refine ⟨_, .inr b, .str a, _, rfl, rfl, rfl, k2, by rw [List.length_map]; have := hf b; omega, ?_⟩
    rw [k3]
    exact k
  · simp only [sSeq, sNext, sRet, sRetN, sDrop, sIf, sSet, sFor, sPar, sAsg, bAnd, bOr, bNot, tTst, tCst, tBin, tUny, tNilA, tConsA, getAll, tCallB, tCallF, tTupD, tLstD, tChainA, tChainE, tRg, rgK.eq_1, tStripX, strip1K.eq_1, strip2K.eq_1, tAndE, tOrE, tNotE, tIfE, tComp, bYes, tDct0, tRange.eq_1, tgName, tgTup.eq_1, tgCons.eq_1, tgNil.eq_1, takeAll, back.eq_1, back.eq_2, back_nil, setO, tName_k, nameK.eq_1, nameK.eq_2, nameK.eq_3, nameK.eq_4, atK.eq_1, take1_v, take1_s, takeO_v, takeO_s, takeR_v, takeR_s, prep_n, prep_tv, prep_ts, prep_f, lstK.eq_1, lstAt_k, g2K.eq_1, g2_k, g1K.eq_1, g1_k, gNK.eq_1, gN_k, boK.eq_1, bOf_k, isiK.eq_1, tIsi_k, partK.eq_1, part_n, part_s, slcK.eq_1, slcK.eq_2, slcK.eq_3, slcK.eq_4, tSlc_k, revK.eq_1, revK.eq_2, revK.eq_3, tRev_k, strMK.eq_1, tStrM_k, itK.eq_1, tIter_k, enumK.eq_1, tEnum_k, zipK.eq_1, zipK.eq_2, tZip_k, intsK.eq_1, intsK.eq_2, intsOf_k, endK.eq_1, endO_k, extK.eq_1, tExtend_k, tAppend_k, setIxK.eq_1, sSetIx_k, popAtK.eq_1, tPopAt_k, bO.eq_1, itemsOf.eq_1, itemsOf.eq_2, itemsOf.eq_3, gAdd.eq_1, gAdd.eq_2, gAdd.eq_3, gAdd.eq_4, gAdd.eq_5, gAdd.eq_6, gSub_.eq_1, gSub_.eq_2, gMul2_s, gMul2_i, gMul2_l, gMulS.eq_1, gMul.eq_1, gMul.eq_2, gFdiv.eq_1, gMod.eq_1, gPow.eq_1, gNeg.eq_1, gNeg.eq_2, gGe.eq_1, gGt.eq_1, gLe.eq_1, gLt.eq_1, gLt.eq_2, gEq.eq_1, gNe.eq_1, gNe.eq_2, gNe.eq_3, gNe.eq_4, gInW.eq_1, gInW.eq_2, gIs.eq_1, gIsNot.eq_1, gLen.eq_1, gLen.eq_2, gAllAny.eq_1, gAbs.eq_1, gInt.eq_1, gInt.eq_2, gStr.eq_1, gStr.eq_2, gStr.eq_3, gM2.eq_1, gListOf.eq_1, gListOf.eq_2, gTupOf.eq_1, gTupOf.eq_2, gSort, gSortS.eq_1, gSortD.eq_1, gSortSet.eq_1, gRepr.eq_1, gM2S.eq_1, gIsB.eq_1, tCompN, tCompD, tCompI, tCompDI, tComp2, gIx.eq_1, gIx.eq_2, ati0, ati1, ati2, Option.some.injEq, exists_eq, exists_eq', false_implies, Opd.slot.injEq, forall_eq, forall_eq', Opd.get.eq_1, Opd.get.eq_2, at_join, join_some, O.frz.eq_1, O.frz.eq_2, frz_dct, O.frz.eq_4, lsO.eq_1, lsO.eq_2, tuO.eq_1, seqO_l, seqO_p, seqO_t, endsOf, outsOf, startA, wipeA, List.getElem?_cons_zero, List.getElem?_cons_succ, List.length_cons, List.length_nil, List.map_cons, List.map_nil, List.set_cons_zero, List.set_cons_succ, List.replicate_succ, List.replicate_zero, List.cons_append, List.nil_append, List.getD_cons_zero, List.getD_cons_succ, if_true, if_false, Bool.false_eq_true, reduceIte, reduceCtorEq, Bool.not_true, Bool.not_false, implies_true, true_and, and_true, Nat.sub_self, Nat.reduceAdd, Nat.reduceSub, Nat.zero_add, List.all_cons, List.all_nil, Bool.and_true, Bool.true_and]
    refine ⟨_, _, rfl, rfl, ?_, ?_⟩
    · unfold dcL; rw [List.length_map, List.length_map]; have := net.n2; omega
    · have e : ((dcL ys (adjL ([] ++ us))).map fun p => (p.1, PyData.list p.2)).map itemT = ys.map fun s => PyData.tuple [.str s, .list ((adjL us s).map PyData.str)] := by
        unfold dcL; rw [List.map_map, List.map_map]; rfl
      rw [List.nil_append] at e
      rw [e]
      refine compW_map (fun t => match t with | .tuple [a, .list ts] => .tuple [a, .list (ts.mergeSort dLe)] | t => t) _ _ (fun t m Q' acc ts' q => ?_) ?_
      · obtain ⟨s, _, rfl⟩ := List.mem_map.mp m
        rw [compW]
        simp only [sSeq, sNext, sRet, sRetN, sDrop, sIf, sSet, sFor, sPar, sAsg, bAnd, bOr, bNot, tTst, tCst, tBin, tUny, tNilA, tConsA, getAll, tCallB, tCallF, tTupD, tLstD, tChainA, tChainE, tRg, rgK.eq_1, tStripX, strip1K.eq_1, strip2K.eq_1, tAndE, tOrE, tNotE, tIfE, tComp, bYes, tDct0, tRange.eq_1, tgName, tgTup.eq_1, tgCons.eq_1, tgNil.eq_1, takeAll, back.eq_1, back.eq_2, back_nil, setO, tName_k, nameK.eq_1, nameK.eq_2, nameK.eq_3, nameK.eq_4, atK.eq_1, take1_v, take1_s, takeO_v, takeO_s, takeR_v, takeR_s, prep_n, prep_tv, prep_ts, prep_f, lstK.eq_1, lstAt_k, g2K.eq_1, g2_k, g1K.eq_1, g1_k, gNK.eq_1, gN_k, boK.eq_1, bOf_k, isiK.eq_1, tIsi_k, partK.eq_1, part_n, part_s, slcK.eq_1, slcK.eq_2, slcK.eq_3, slcK.eq_4, tSlc_k, revK.eq_1, revK.eq_2, revK.eq_3, tRev_k, strMK.eq_1, tStrM_k, itK.eq_1, tIter_k, enumK.eq_1, tEnum_k, zipK.eq_1, zipK.eq_2, tZip_k, intsK.eq_1, intsK.eq_2, intsOf_k, endK.eq_1, endO_k, extK.eq_1, tExtend_k, tAppend_k, setIxK.eq_1, sSetIx_k, popAtK.eq_1, tPopAt_k, bO.eq_1, itemsOf.eq_1, itemsOf.eq_2, itemsOf.eq_3, gAdd.eq_1, gAdd.eq_2, gAdd.eq_3, gAdd.eq_4, gAdd.eq_5, gAdd.eq_6, gSub_.eq_1, gSub_.eq_2, gMul2_s, gMul2_i, gMul2_l, gMulS.eq_1, gMul.eq_1, gMul.eq_2, gFdiv.eq_1, gMod.eq_1, gPow.eq_1, gNeg.eq_1, gNeg.eq_2, gGe.eq_1, gGt.eq_1, gLe.eq_1, gLt.eq_1, gLt.eq_2, gEq.eq_1, gNe.eq_1, gNe.eq_2, gNe.eq_3, gNe.eq_4, gInW.eq_1, gInW.eq_2, gIs.eq_1, gIsNot.eq_1, gLen.eq_1, gLen.eq_2, gAllAny.eq_1, gAbs.eq_1, gInt.eq_1, gInt.eq_2, gStr.eq_1, gStr.eq_2, gStr.eq_3, gM2.eq_1, gListOf.eq_1, gListOf.eq_2, gTupOf.eq_1, gTupOf.eq_2, gSort, gSortS.eq_1, gSortD.eq_1, gSortSet.eq_1, gRepr.eq_1, gM2S.eq_1, gIsB.eq_1, tCompN, tCompD, tCompI, tCompDI, tComp2, gIx.eq_1, gIx.eq_2, ati0, ati1, ati2, Option.some.injEq, exists_eq, exists_eq', false_implies, Opd.slot.injEq, forall_eq, forall_eq', Opd.get.eq_1, Opd.get.eq_2, at_join, join_some, O.frz.eq_1, O.frz.eq_2, frz_dct, O.frz.eq_4, lsO.eq_1, lsO.eq_2, tuO.eq_1, seqO_l, seqO_p, seqO_t, endsOf, outsOf, startA, wipeA, List.getElem?_cons_zero, List.getElem?_cons_succ, List.length_cons, List.length_nil, List.map_cons, List.map_nil, List.set_cons_zero, List.set_cons_succ, List.replicate_succ, List.replicate_zero, List.cons_append, List.nil_append, List.getD_cons_zero, List.getD_cons_succ, if_true, if_false, Bool.false_eq_true, reduceIte, reduceCtorEq, Bool.not_true, Bool.not_false, implies_true, true_and, and_true, Nat.sub_self, Nat.reduceAdd, Nat.reduceSub, Nat.zero_add, List.all_cons, List.all_nil, Bool.and_true, Bool.true_and]
        refine ⟨rfl, rfl, .inr ⟨strs_alike.1, strs_alike.2.1, strs_alike.2.2, by rw [List.length_map]; have := adj_len us s; have := net.m; omega, q⟩⟩
      · rw [List.nil_append, List.map_map]
        refine gDictL_ok rfl (pairs_map (fun s => .list (srt (adjL us s))) ys) ?_
        rw [kmerge_nodup _ [] (by rw [List.nil_append]; exact tab_keys _ nd), List.nil_append]
        exact h
end WC

set_option Elab.async false
set_option linter.all false
set_option maxRecDepth 100000
set_option maxHeartbeats 4000000
namespace WC
open PySem PySem.Spec L2 DL WS
open PyProof.Rows hiding St
theorem compW2_flat {g : GT} {tt : BT} {ti1 : IT} {g1 : GT} {tt1 : BT} {te : XT} {vs vs1 : List Nat} {ρ : AEnv} {Q : List T → AEnv → Prop} (F : T → List T) (c : Nat) : ∀ (ts acc : List T), acc.length + c * ts.length ≤ 16777216 → (∀ t ∈ ts, (F t).length ≤ c) →
    (∀ t ∈ ts, ∀ Q' : List T → AEnv → Prop, ∀ acc' ts', acc'.length + c ≤ 16777216 → compW2 g tt ti1 g1 tt1 te vs vs1 ts' (acc' ++ F t) ρ Q' → compW2 g tt ti1 g1 tt1 te vs vs1 (t :: ts') acc' ρ Q') → Q (acc ++ ts.flatMap F) ρ → compW2 g tt ti1 g1 tt1 te vs vs1 ts acc ρ Q
  | [], acc, _, _, _, q => by simpa [compW2] using q
  | t :: ts, acc, hl, hF, h, q => by
    have h1 := hF t List.mem_cons_self
    rw [List.length_cons, Nat.mul_succ] at hl
    exact h t List.mem_cons_self Q acc ts (by omega) (compW2_flat F c ts _ (by rw [List.length_append]; omega) (fun t m => hF t (List.mem_cons_of_mem _ m)) (fun t m => h t (List.mem_cons_of_mem _ m)) (by simpa using q))
def node (s : Str) (l : Int) : T := .tuple [.str s, .int l]
def lvls (far : Int) : List T := rngItems 1 (far - 1).toNat
def nodeT (s : Str) (t : T) : T := .tuple [.str s, t]
def nodesOf (us : List (Str × Str)) (far : Int) (s : Str) : List T := if adjL us s = [] then [] else (lvls far).map (nodeT s)
def nodesL (ys : List Str) (us : List (Str × Str)) (far : Int) : List T := ys.flatMap (nodesOf us far)
theorem lvls_len {far : Int} (h : far ≤ 100) : (lvls far).length ≤ 100 := by unfold lvls rngItems; simp; omega
theorem tab_look {ys : List Str} {us : List (Str × Str)} {s : Str} (h : s ∈ ys) : klook (tabL ys us) (.inr s) = some (.list (srt (adjL us s))) := klook_map (f := Sum.inr) key_inj s ys h
theorem srt_nil (l : List Str) : srt l = [] ↔ l = [] := by
  unfold srt
  constructor
  · intro e
    have := congrArg List.length e
    rw [List.length_mergeSort, List.length_map] at this
    exact List.eq_nil_of_length_eq_zero this
  · rintro rfl; simp
theorem mem_adj {us : List (Str × Str)} {s t : Str} : t ∈ adjL us s ↔ (s, t) ∈ us ∨ (t, s) ∈ us := by
  unfold adjL
  rw [List.mem_flatMap]
  constructor
  · rintro ⟨⟨a, b⟩, hu, h⟩
    rcases List.mem_append.mp h with h | h
    · dsimp only at h
      split at h
      · rename_i e
        have := List.mem_singleton.mp h
        subst this e
        exact .inl hu
      · cases h
    · dsimp only at h
      split at h
      · rename_i e
        have := List.mem_singleton.mp h
        subst this e
        exact .inr hu
      · cases h
  · rintro (h | h)
    · exact ⟨_, h, List.mem_append_left _ (by simp)⟩
    · exact ⟨_, h, List.mem_append_right _ (by simp)⟩
theorem canLay_asc {x : Str} (h : asc x = true) : PyData.canLay0 (.str x) = true := by
  unfold asc at h
  simp only [PyData.canLay0, PyData.strOk]
  rw [Array.all_eq_true_iff_forall_mem]
  exact fun c m => decide_eq_true (Nat.lt_trans (of_decide_eq_true (List.all_eq_true.mp h c (by simpa using m))) (by decide))
/-- the items, in whatever sequence -/
theorem lay_all {ts : List T} (h : ∀ t ∈ ts, PyData.canLay0 t = true) : PyData.canLayAll0 ts = true := by
  induction ts with
  | nil => rfl
  | cons t ts ih =>
    simp only [PyData.canLayAll0, Bool.and_eq_true]
    exact ⟨h t List.mem_cons_self, ih fun u m => h u (List.mem_cons_of_mem _ m)⟩
theorem srt_mem {l : List Str} {t : T} : t ∈ srt l ↔ ∃ x ∈ l, t = .str x := by
  unfold srt
  rw [List.mem_mergeSort, List.mem_map]
  exact ⟨fun ⟨x, hx, e⟩ => ⟨x, hx, e.symm⟩, fun ⟨x, hx, e⟩ => ⟨x, hx, e.symm⟩⟩
theorem adj_in {ys : List Str} {us : List (Str × Str)} (net : NetOk ys us) {s t : Str} (h : t ∈ adjL us s) : t ∈ ys := by
  rcases mem_adj.mp h with h | h
  · exact (net.tk _ h).2.1
  · exact (net.tk _ h).1
/-- what the test with [] asks of the list of neighbours -/
theorem srt_ne {ys : List Str} {us : List (Str × Str)} (net : NetOk ys us) (s : Str) : PyData.canLay0 (.list (srt (adjL us s))) = true ∧ (PyData.list []).canLay0 = true ∧ min (PyData.depth (.list (srt (adjL us s)))) (PyData.list []).depth ≤ 150 ∧ (!PyData.eqv (.list (srt (adjL us s))) (.list [])) = !decide (adjL us s = []) := by
  refine ⟨?_, by decide, ?_, ?_⟩
  · simp only [PyData.canLay0]
    refine lay_all fun t m => ?_
    obtain ⟨x, hx, rfl⟩ := srt_mem.mp m
    exact canLay_asc (net.nm x (adj_in net hx)).2
  · exact Nat.le_trans (Nat.min_le_right _ _) (by decide)
  · congr 1
    rw [show decide (adjL us s = []) = decide (srt (adjL us s) = []) from decide_eq_decide.mpr (srt_nil _).symm]
    cases srt (adjL us s) with
    | nil => simp [PyData.eqv, PyData.eqvAll]
    | cons a r => simp [PyData.eqv, PyData.eqvAll]
def sp_nodes : FSpec := fun os Q => ∃ ys us far, os = [.pure (netO ys us), .pure (.int far)] ∧ NetOk ys us ∧ 0 ≤ far ∧ far ≤ 100 ∧ Q (.pure (.tuple (nodesL ys us far))) []
/-- nodes: slots 0:network 1:distance 2:table 3:service 4:level -/
def t_nodes : ST := (sSeq (sSet 2 (tCallF [false] sp_neighbour_table (tConsA (tName 0) tNilA)))
  (sRet (fun j => [false, false].getD j false) (tCallB gTupOf (tConsA (tComp2 (tIter (tBin gIx (tName 0) (tCst (.int 0)))) (tgName 3) (tTst (tBin gNe (tBin gIxD (tName 2) (tName 3)) (tLstD tNilA))) (tRange (tConsA (tCst (.int 1)) (tConsA (tName 1) tNilA))) (tgName 4) bYes (tTupD (tConsA (tName 3) (tConsA (tName 4) tNilA))) [3, 4] [4]) tNilA))))
theorem pl_nodes (os : List O) (Qa : O → List O → Prop) (_ : os.length = 2) (h : sp_nodes os Qa) : t_nodes (endsOf [false, false] Qa) (startA 5 os) := by
  obtain ⟨ys, us, far, rfl, net, h0, h1, h⟩ := h
  unfold t_nodes
  simp only [sSeq, sNext, sRet, sRetN, sDrop, sIf, sSet, sFor, sPar, sAsg, bAnd, bOr, bNot, tTst, tCst, tBin, tUny, tNilA, tConsA, getAll, tCallB, tCallF, tTupD, tLstD, tChainA, tChainE, tRg, rgK.eq_1, tStripX, strip1K.eq_1, strip2K.eq_1, tAndE, tOrE, tNotE, tIfE, tComp, bYes, tDct0, tRange.eq_1, tgName, tgTup.eq_1, tgCons.eq_1, tgNil.eq_1, takeAll, back.eq_1, back.eq_2, back_nil, setO, tName_k, nameK.eq_1, nameK.eq_2, nameK.eq_3, nameK.eq_4, atK.eq_1, take1_v, take1_s, takeO_v, takeO_s, takeR_v, takeR_s, prep_n, prep_tv, prep_ts, prep_f, lstK.eq_1, lstAt_k, g2K.eq_1, g2_k, g1K.eq_1, g1_k, gNK.eq_1, gN_k, boK.eq_1, bOf_k, isiK.eq_1, tIsi_k, partK.eq_1, part_n, part_s, slcK.eq_1, slcK.eq_2, slcK.eq_3, slcK.eq_4, tSlc_k, revK.eq_1, revK.eq_2, revK.eq_3, tRev_k, strMK.eq_1, tStrM_k, itK.eq_1, tIter_k, enumK.eq_1, tEnum_k, zipK.eq_1, zipK.eq_2, tZip_k, intsK.eq_1, intsK.eq_2, intsOf_k, endK.eq_1, endO_k, extK.eq_1, tExtend_k, tAppend_k, setIxK.eq_1, sSetIx_k, popAtK.eq_1, tPopAt_k, bO.eq_1, itemsOf.eq_1, itemsOf.eq_2, itemsOf.eq_3, gAdd.eq_1, gAdd.eq_2, gAdd.eq_3, gAdd.eq_4, gAdd.eq_5, gAdd.eq_6, gSub_.eq_1, gSub_.eq_2, gMul2_s, gMul2_i, gMul2_l, gMulS.eq_1, gMul.eq_1, gMul.eq_2, gFdiv.eq_1, gMod.eq_1, gPow.eq_1, gNeg.eq_1, gNeg.eq_2, gGe.eq_1, gGt.eq_1, gLe.eq_1, gLt.eq_1, gLt.eq_2, gEq.eq_1, gNe.eq_1, gNe.eq_2, gNe.eq_3, gNe.eq_4, gInW.eq_1, gInW.eq_2, gIs.eq_1, gIsNot.eq_1, gLen.eq_1, gLen.eq_2, gAllAny.eq_1, gAbs.eq_1, gInt.eq_1, gInt.eq_2, gStr.eq_1, gStr.eq_2, gStr.eq_3, gM2.eq_1, gListOf.eq_1, gListOf.eq_2, gTupOf.eq_1, gTupOf.eq_2, gSort, gSortS.eq_1, gSortD.eq_1, gSortSet.eq_1, gRepr.eq_1, gM2S.eq_1, gIsB.eq_1, tCompN, tCompD, tCompI, tCompDI, tComp2, gIx.eq_1, gIx.eq_2, ati0, ati1, ati2, Option.some.injEq, exists_eq, exists_eq', false_implies, Opd.slot.injEq, forall_eq, forall_eq', Opd.get.eq_1, Opd.get.eq_2, at_join, join_some, O.frz.eq_1, O.frz.eq_2, frz_dct, O.frz.eq_4, lsO.eq_1, lsO.eq_2, tuO.eq_1, seqO_l, seqO_p, seqO_t, endsOf, outsOf, startA, wipeA, List.getElem?_cons_zero, List.getElem?_cons_succ, List.length_cons, List.length_nil, List.map_cons, List.map_nil, List.set_cons_zero, List.set_cons_succ, List.replicate_succ, List.replicate_zero, List.cons_append, List.nil_append, List.getD_cons_zero, List.getD_cons_succ, if_true, if_false, Bool.false_eq_true, reduceIte, reduceCtorEq, Bool.not_true, Bool.not_false, implies_true, true_and, and_true, Nat.sub_self, Nat.reduceAdd, Nat.reduceSub, Nat.zero_add, List.all_cons, List.all_nil, Bool.and_true, Bool.true_and]
  refine ⟨ys, us, rfl, net, ?_⟩
  unfold netO
  simp only [sSeq, sNext, sRet, sRetN, sDrop, sIf, sSet, sFor, sPar, sAsg, bAnd, bOr, bNot, tTst, tCst, tBin, tUny, tNilA, tConsA, getAll, tCallB, tCallF, tTupD, tLstD, tChainA, tChainE, tRg, rgK.eq_1, tStripX, strip1K.eq_1, strip2K.eq_1, tAndE, tOrE, tNotE, tIfE, tComp, bYes, tDct0, tRange.eq_1, tgName, tgTup.eq_1, tgCons.eq_1, tgNil.eq_1, takeAll, back.eq_1, back.eq_2, back_nil, setO, tName_k, nameK.eq_1, nameK.eq_2, nameK.eq_3, nameK.eq_4, atK.eq_1, take1_v, take1_s, takeO_v, takeO_s, takeR_v, takeR_s, prep_n, prep_tv, prep_ts, prep_f, lstK.eq_1, lstAt_k, g2K.eq_1, g2_k, g1K.eq_1, g1_k, gNK.eq_1, gN_k, boK.eq_1, bOf_k, isiK.eq_1, tIsi_k, partK.eq_1, part_n, part_s, slcK.eq_1, slcK.eq_2, slcK.eq_3, slcK.eq_4, tSlc_k, revK.eq_1, revK.eq_2, revK.eq_3, tRev_k, strMK.eq_1, tStrM_k, itK.eq_1, tIter_k, enumK.eq_1, tEnum_k, zipK.eq_1, zipK.eq_2, tZip_k, intsK.eq_1, intsK.eq_2, intsOf_k, endK.eq_1, endO_k, extK.eq_1, tExtend_k, tAppend_k, setIxK.eq_1, sSetIx_k, popAtK.eq_1, tPopAt_k, bO.eq_1, itemsOf.eq_1, itemsOf.eq_2, itemsOf.eq_3, gAdd.eq_1, gAdd.eq_2, gAdd.eq_3, gAdd.eq_4, gAdd.eq_5, gAdd.eq_6, gSub_.eq_1, gSub_.eq_2, gMul2_s, gMul2_i, gMul2_l, gMulS.eq_1, gMul.eq_1, gMul.eq_2, gFdiv.eq_1, gMod.eq_1, gPow.eq_1, gNeg.eq_1, gNeg.eq_2, gGe.eq_1, gGt.eq_1, gLe.eq_1, gLt.eq_1, gLt.eq_2, gEq.eq_1, gNe.eq_1, gNe.eq_2, gNe.eq_3, gNe.eq_4, gInW.eq_1, gInW.eq_2, gIs.eq_1, gIsNot.eq_1, gLen.eq_1, gLen.eq_2, gAllAny.eq_1, gAbs.eq_1, gInt.eq_1, gInt.eq_2, gStr.eq_1, gStr.eq_2, gStr.eq_3, gM2.eq_1, gListOf.eq_1, gListOf.eq_2, gTupOf.eq_1, gTupOf.eq_2, gSort, gSortS.eq_1, gSortD.eq_1, gSortSet.eq_1, gRepr.eq_1, gM2S.eq_1, gIsB.eq_1, tCompN, tCompD, tCompI, tCompDI, tComp2, gIx.eq_1, gIx.eq_2, ati0, ati1, ati2, Option.some.injEq, exists_eq, exists_eq', false_implies, Opd.slot.injEq, forall_eq, forall_eq', Opd.get.eq_1, Opd.get.eq_2, at_join, join_some, O.frz.eq_1, O.frz.eq_2, frz_dct, O.frz.eq_4, lsO.eq_1, lsO.eq_2, tuO.eq_1, seqO_l, seqO_p, seqO_t, endsOf, outsOf, startA, wipeA, List.getElem?_cons_zero, List.getElem?_cons_succ, List.length_cons, List.length_nil, List.map_cons, List.map_nil, List.set_cons_zero, List.set_cons_succ, List.replicate_succ, List.replicate_zero, List.cons_append, List.nil_append, List.getD_cons_zero, List.getD_cons_succ, if_true, if_false, Bool.false_eq_true, reduceIte, reduceCtorEq, Bool.not_true, Bool.not_false, implies_true, true_and, and_true, Nat.sub_self, Nat.reduceAdd, Nat.reduceSub, Nat.zero_add, List.all_cons, List.all_nil, Bool.and_true, Bool.true_and]
  refine ⟨rfl, ?_⟩
  refine compW2_flat (fun t => match t with | .str s => nodesOf us far s | _ => []) 100 (ys.map PyData.str) [] (by have := net.n2; simp; omega) (fun t m => ?_) (fun t m Q' acc ts' hl q => ?_) ?_
  · obtain ⟨s, _, rfl⟩ := List.mem_map.mp m
    dsimp only [nodesOf]
    split
    · simp
    · rw [List.length_map]; exact lvls_len h1
  · obtain ⟨s, hs, rfl⟩ := List.mem_map.mp m
    rw [compW2]
    simp only [sSeq, sNext, sRet, sRetN, sDrop, sIf, sSet, sFor, sPar, sAsg, bAnd, bOr, bNot, tTst, tCst, tBin, tUny, tNilA, tConsA, getAll, tCallB, tCallF, tTupD, tLstD, tChainA, tChainE, tRg, rgK.eq_1, tStripX, strip1K.eq_1, strip2K.eq_1, tAndE, tOrE, tNotE, tIfE, tComp, bYes, tDct0, tRange.eq_1, tgName, tgTup.eq_1, tgCons.eq_1, tgNil.eq_1, takeAll, back.eq_1, back.eq_2, back_nil, setO, tName_k, nameK.eq_1, nameK.eq_2, nameK.eq_3, nameK.eq_4, atK.eq_1, take1_v, take1_s, takeO_v, takeO_s, takeR_v, takeR_s, prep_n, prep_tv, prep_ts, prep_f, lstK.eq_1, lstAt_k, g2K.eq_1, g2_k, g1K.eq_1, g1_k, gNK.eq_1, gN_k, boK.eq_1, bOf_k, isiK.eq_1, tIsi_k, partK.eq_1, part_n, part_s, slcK.eq_1, slcK.eq_2, slcK.eq_3, slcK.eq_4, tSlc_k, revK.eq_1, revK.eq_2, revK.eq_3, tRev_k, strMK.eq_1, tStrM_k, itK.eq_1, tIter_k, enumK.eq_1, tEnum_k, zipK.eq_1, zipK.eq_2, tZip_k, intsK.eq_1, intsK.eq_2, intsOf_k, endK.eq_1, endO_k, extK.eq_1, tExtend_k, tAppend_k, setIxK.eq_1, sSetIx_k, popAtK.eq_1, tPopAt_k, bO.eq_1, itemsOf.eq_1, itemsOf.eq_2, itemsOf.eq_3, gAdd.eq_1, gAdd.eq_2, gAdd.eq_3, gAdd.eq_4, gAdd.eq_5, gAdd.eq_6, gSub_.eq_1, gSub_.eq_2, gMul2_s, gMul2_i, gMul2_l, gMulS.eq_1, gMul.eq_1, gMul.eq_2, gFdiv.eq_1, gMod.eq_1, gPow.eq_1, gNeg.eq_1, gNeg.eq_2, gGe.eq_1, gGt.eq_1, gLe.eq_1, gLt.eq_1, gLt.eq_2, gEq.eq_1, gNe.eq_1, gNe.eq_2, gNe.eq_3, gNe.eq_4, gInW.eq_1, gInW.eq_2, gIs.eq_1, gIsNot.eq_1, gLen.eq_1, gLen.eq_2, gAllAny.eq_1, gAbs.eq_1, gInt.eq_1, gInt.eq_2, gStr.eq_1, gStr.eq_2, gStr.eq_3, gM2.eq_1, gListOf.eq_1, gListOf.eq_2, gTupOf.eq_1, gTupOf.eq_2, gSort, gSortS.eq_1, gSortD.eq_1, gSortSet.eq_1, gRepr.eq_1, gM2S.eq_1, gIsB.eq_1, tCompN, tCompD, tCompI, tCompDI, tComp2, gIx.eq_1, gIx.eq_2, ati0, ati1, ati2, Option.some.injEq, exists_eq, exists_eq', false_implies, Opd.slot.injEq, forall_eq, forall_eq', Opd.get.eq_1, Opd.get.eq_2, at_join, join_some, O.frz.eq_1, O.frz.eq_2, frz_dct, O.frz.eq_4, lsO.eq_1, lsO.eq_2, tuO.eq_1, seqO_l, seqO_p, seqO_t, endsOf, outsOf, startA, wipeA, List.getElem?_cons_zero, List.getElem?_cons_succ, List.length_cons, List.length_nil, List.map_cons, List.map_nil, List.set_cons_zero, List.set_cons_succ, List.replicate_succ, List.replicate_zero, List.cons_append, List.nil_append, List.getD_cons_zero, List.getD_cons_succ, if_true, if_false, Bool.false_eq_true, reduceIte, reduceCtorEq, Bool.not_true, Bool.not_false, implies_true, true_and, and_true, Nat.sub_self, Nat.reduceAdd, Nat.reduceSub, Nat.zero_add, List.all_cons, List.all_nil, Bool.and_true, Bool.true_and]
    obtain ⟨f1, f2, f3, f4⟩ := srt_ne net s
    refine ⟨rfl, gIxD_ok rfl rfl (tab_look hs) ?_⟩
    refine ⟨f1, f2, f3, ?_⟩
    show if (!PyData.eqv (.list (srt (adjL us s))) (.list [])) = true then _ else _
    rw [f4]
    by_cases e : adjL us s = []
    · rw [if_neg (by simp [e])]
      have q' := q
      dsimp only [nodesOf] at q'
      rw [if_pos e, List.append_nil] at q'
      exact q'
    · rw [if_pos (by simp [e])]
      have ll := lvls_len h1
      unfold lvls at ll
      refine ⟨⟨by omega, by omega, by omega, by omega⟩, by omega, ?_⟩
      refine compW_map (nodeT s) _ _ (fun t m Q' acc ts' k => ?_) ?_
      · obtain ⟨i, _, rfl⟩ := rng_mem m
        rw [compW]
        simp only [sSeq, sNext, sRet, sRetN, sDrop, sIf, sSet, sFor, sPar, sAsg, bAnd, bOr, bNot, tTst, tCst, tBin, tUny, tNilA, tConsA, getAll, tCallB, tCallF, tTupD, tLstD, tChainA, tChainE, tRg, rgK.eq_1, tStripX, strip1K.eq_1, strip2K.eq_1, tAndE, tOrE, tNotE, tIfE, tComp, bYes, tDct0, tRange.eq_1, tgName, tgTup.eq_1, tgCons.eq_1, tgNil.eq_1, takeAll, back.eq_1, back.eq_2, back_nil, setO, tName_k, nameK.eq_1, nameK.eq_2, nameK.eq_3, nameK.eq_4, atK.eq_1, take1_v, take1_s, takeO_v, takeO_s, takeR_v, takeR_s, prep_n, prep_tv, prep_ts, prep_f, lstK.eq_1, lstAt_k, g2K.eq_1, g2_k, g1K.eq_1, g1_k, gNK.eq_1, gN_k, boK.eq_1, bOf_k, isiK.eq_1, tIsi_k, partK.eq_1, part_n, part_s, slcK.eq_1, slcK.eq_2, slcK.eq_3, slcK.eq_4, tSlc_k, revK.eq_1, revK.eq_2, revK.eq_3, tRev_k, strMK.eq_1, tStrM_k, itK.eq_1, tIter_k, enumK.eq_1, tEnum_k, zipK.eq_1, zipK.eq_2, tZip_k, intsK.eq_1, intsK.eq_2, intsOf_k, endK.eq_1, endO_k, extK.eq_1, tExtend_k, tAppend_k, setIxK.eq_1, sSetIx_k, popAtK.eq_1, tPopAt_k, bO.eq_1, itemsOf.eq_1, itemsOf.eq_2, itemsOf.eq_3, gAdd.eq_1, gAdd.eq_2, gAdd.eq_3, gAdd.eq_4, gAdd.eq_5, gAdd.eq_6, gSub_.eq_1, gSub_.eq_2, gMul2_s, gMul2_i, gMul2_l, gMulS.eq_1, gMul.eq_1, gMul.eq_2, gFdiv.eq_1, gMod.eq_1, gPow.eq_1, gNeg.eq_1, gNeg.eq_2, gGe.eq_1, gGt.eq_1, gLe.eq_1, gLt.eq_1, gLt.eq_2, gEq.eq_1, gNe.eq_1, gNe.eq_2, gNe.eq_3, gNe.eq_4, gInW.eq_1, gInW.eq_2, gIs.eq_1, gIsNot.eq_1, gLen.eq_1, gLen.eq_2, gAllAny.eq_1, gAbs.eq_1, gInt.eq_1, gInt.eq_2, gStr.eq_1, gStr.eq_2, gStr.eq_3, gM2.eq_1, gListOf.eq_1, gListOf.eq_2, gTupOf.eq_1, gTupOf.eq_2, gSort, gSortS.eq_1, gSortD.eq_1, gSortSet.eq_1, gRepr.eq_1, gM2S.eq_1, gIsB.eq_1, tCompN, tCompD, tCompI, tCompDI, tComp2, gIx.eq_1, gIx.eq_2, ati0, ati1, ati2, Option.some.injEq, exists_eq, exists_eq', false_implies, Opd.slot.injEq, forall_eq, forall_eq', Opd.get.eq_1, Opd.get.eq_2, at_join, join_some, O.frz.eq_1, O.frz.eq_2, frz_dct, O.frz.eq_4, lsO.eq_1, lsO.eq_2, tuO.eq_1, seqO_l, seqO_p, seqO_t, endsOf, outsOf, startA, wipeA, List.getElem?_cons_zero, List.getElem?_cons_succ, List.length_cons, List.length_nil, List.map_cons, List.map_nil, List.set_cons_zero, List.set_cons_succ, List.replicate_succ, List.replicate_zero, List.cons_append, List.nil_append, List.getD_cons_zero, List.getD_cons_succ, if_true, if_false, Bool.false_eq_true, reduceIte, reduceCtorEq, Bool.not_true, Bool.not_false, implies_true, true_and, and_true, Nat.sub_self, Nat.reduceAdd, Nat.reduceSub, Nat.zero_add, List.all_cons, List.all_nil, Bool.and_true, Bool.true_and]
        exact ⟨rfl, k⟩
      · have q' := q
        dsimp only [nodesOf] at q'
        rw [if_neg e] at q'
        exact q'
  · rw [List.nil_append, List.flatMap_map]
    exact h
theorem eqv_str (a b : Str) : PyData.eqv (.str a) (.str b) = decide (a = b) := by
  by_cases h : a = b
  · subst h; simp [PyData.eqv]
  · rw [decide_eq_false h]; simp only [PyData.eqv]; simp [h]
theorem eqv_int (a b : Int) : PyData.eqv (.int a) (.int b) = decide (a = b) := by
  by_cases h : a = b
  · subst h; simp [PyData.eqv]
  · rw [decide_eq_false h]; simp only [PyData.eqv]; simp [h]
theorem any_talk (us : List (Str × Str)) (a b : Str) : ((us.map talkO).any fun z => PyData.eqv z (.tuple [.str a, .str b])) = decide ((a, b) ∈ us) := by
  rw [List.any_map, Bool.eq_iff_iff, List.any_eq_true, decide_eq_true_eq]
  constructor
  · rintro ⟨⟨x, y⟩, hu, h⟩
    have : x = a ∧ y = b := by
      have h : PyData.eqv (.tuple [.str x, .str y]) (.tuple [.str a, .str b]) = true := h
      simp only [PyData.eqv, PyData.eqvAll] at h
      simpa using h
    obtain ⟨rfl, rfl⟩ := this
    exact hu
  · intro h
    refine ⟨_, h, ?_⟩
    show PyData.eqv (.tuple [.str a, .str b]) (.tuple [.str a, .str b]) = true
    simp [PyData.eqv, PyData.eqvAll]
/-- the talk of two services, whichever comes first -/
theorem talk_adj {ys : List Str} {us : List (Str × Str)} (net : NetOk ys us) {s t : Str} (ne : s ≠ t) : (((if sLt t s = true then t else s), (if sLt s t = true then t else s)) ∈ us) ↔ t ∈ adjL us s := by
  rw [mem_adj]
  unfold sLt
  by_cases h : s.cps.toList < t.cps.toList
  · have h' : ¬ t.cps.toList < s.cps.toList := fun q => lt_irr (List.lt_trans h q)
    rw [decide_eq_true h, decide_eq_false h', if_pos rfl, if_neg (by simp)]
    exact ⟨.inl, fun q => q.elim id fun q => absurd (net.tk _ q).2.2 h'⟩
  · have h' : t.cps.toList < s.cps.toList := cps_lt (by rw [ltCps_eq]; exact decide_eq_false h) ne.symm
    rw [decide_eq_false h, decide_eq_true h', if_pos rfl, if_neg (by simp)]
    exact ⟨.inr, fun q => q.elim (fun q => absurd (net.tk _ q).2.2 h) id⟩
def adjB (us : List (Str × Str)) (s : Str) (l : Int) (s' : Str) (l' : Int) : Bool := if s = s' then decide ((l - l').natAbs = 1) else decide (l = l') && decide (s' ∈ adjL us s)
def sp_are_adjacent : FSpec := fun os Q => ∃ ys us s l s' l', os = [.pure (netO ys us), .pure (node s l), .pure (node s' l')] ∧ NetOk ys us ∧ (-1000 ≤ l ∧ l ≤ 1000) ∧ (-1000 ≤ l' ∧ l' ≤ 1000) ∧ Q (.pure (.bool (adjB us s l s' l'))) []
/-- are_adjacent: slots 0:network 1:one 2:other -/
def t_are_adjacent : ST := (sSeq (sIf (tTst (tBin gEq (tBin gIx (tName 1) (tCst (.int 0))) (tBin gIx (tName 2) (tCst (.int 0))))) (sRet (fun j => [false, false, false].getD j false) (tBin gEq (tCallB gAbs (tConsA (tBin gSub_ (tBin gIx (tName 1) (tCst (.int 1))) (tBin gIx (tName 2) (tCst (.int 1)))) tNilA)) (tCst (.int 1)))) sNext)
  (sRet (fun j => [false, false, false].getD j false) (tAndE (tBin gEq (tBin gIx (tName 1) (tCst (.int 1))) (tBin gIx (tName 2) (tCst (.int 1)))) (tBin (gInW false) (tTupD (tConsA (tCallB (gM2S fun x y => sLt y x) (tConsA (tBin gIx (tName 1) (tCst (.int 0))) (tConsA (tBin gIx (tName 2) (tCst (.int 0))) tNilA))) (tConsA (tCallB (gM2S fun x y => sLt x y) (tConsA (tBin gIx (tName 1) (tCst (.int 0))) (tConsA (tBin gIx (tName 2) (tCst (.int 0))) tNilA))) tNilA))) (tBin gIx (tName 0) (tCst (.int 1)))))))
theorem pl_are_adjacent (os : List O) (Qa : O → List O → Prop) (_ : os.length = 3) (h : sp_are_adjacent os Qa) : t_are_adjacent (endsOf [false, false, false] Qa) (startA 3 os) := by
  obtain ⟨ys, us, s, l, s', l', rfl, net, hl, hl', h⟩ := h
  unfold t_are_adjacent node netO
  simp only [sSeq, sNext, sRet, sRetN, sDrop, sIf, sSet, sFor, sPar, sAsg, bAnd, bOr, bNot, tTst, tCst, tBin, tUny, tNilA, tConsA, getAll, tCallB, tCallF, tTupD, tLstD, tChainA, tChainE, tRg, rgK.eq_1, tStripX, strip1K.eq_1, strip2K.eq_1, tAndE, tOrE, tNotE, tIfE, tComp, bYes, tDct0, tRange.eq_1, tgName, tgTup.eq_1, tgCons.eq_1, tgNil.eq_1, takeAll, back.eq_1, back.eq_2, back_nil, setO, tName_k, nameK.eq_1, nameK.eq_2, nameK.eq_3, nameK.eq_4, atK.eq_1, take1_v, take1_s, takeO_v, takeO_s, takeR_v, takeR_s, prep_n, prep_tv, prep_ts, prep_f, lstK.eq_1, lstAt_k, g2K.eq_1, g2_k, g1K.eq_1, g1_k, gNK.eq_1, gN_k, boK.eq_1, bOf_k, isiK.eq_1, tIsi_k, partK.eq_1, part_n, part_s, slcK.eq_1, slcK.eq_2, slcK.eq_3, slcK.eq_4, tSlc_k, revK.eq_1, revK.eq_2, revK.eq_3, tRev_k, strMK.eq_1, tStrM_k, itK.eq_1, tIter_k, enumK.eq_1, tEnum_k, zipK.eq_1, zipK.eq_2, tZip_k, intsK.eq_1, intsK.eq_2, intsOf_k, endK.eq_1, endO_k, extK.eq_1, tExtend_k, tAppend_k, setIxK.eq_1, sSetIx_k, popAtK.eq_1, tPopAt_k, bO.eq_1, itemsOf.eq_1, itemsOf.eq_2, itemsOf.eq_3, gAdd.eq_1, gAdd.eq_2, gAdd.eq_3, gAdd.eq_4, gAdd.eq_5, gAdd.eq_6, gSub_.eq_1, gSub_.eq_2, gMul2_s, gMul2_i, gMul2_l, gMulS.eq_1, gMul.eq_1, gMul.eq_2, gFdiv.eq_1, gMod.eq_1, gPow.eq_1, gNeg.eq_1, gNeg.eq_2, gGe.eq_1, gGt.eq_1, gLe.eq_1, gLt.eq_1, gLt.eq_2, gEq.eq_1, gNe.eq_1, gNe.eq_2, gNe.eq_3, gNe.eq_4, gInW.eq_1, gInW.eq_2, gIs.eq_1, gIsNot.eq_1, gLen.eq_1, gLen.eq_2, gAllAny.eq_1, gAbs.eq_1, gInt.eq_1, gInt.eq_2, gStr.eq_1, gStr.eq_2, gStr.eq_3, gM2.eq_1, gListOf.eq_1, gListOf.eq_2, gTupOf.eq_1, gTupOf.eq_2, gSort, gSortS.eq_1, gSortD.eq_1, gSortSet.eq_1, gRepr.eq_1, gM2S.eq_1, gIsB.eq_1, tCompN, tCompD, tCompI, tCompDI, tComp2, gIx.eq_1, gIx.eq_2, ati0, ati1, ati2, Option.some.injEq, exists_eq, exists_eq', false_implies, Opd.slot.injEq, forall_eq, forall_eq', Opd.get.eq_1, Opd.get.eq_2, at_join, join_some, O.frz.eq_1, O.frz.eq_2, frz_dct, O.frz.eq_4, lsO.eq_1, lsO.eq_2, tuO.eq_1, seqO_l, seqO_p, seqO_t, endsOf, outsOf, startA, wipeA, List.getElem?_cons_zero, List.getElem?_cons_succ, List.length_cons, List.length_nil, List.map_cons, List.map_nil, List.set_cons_zero, List.set_cons_succ, List.replicate_succ, List.replicate_zero, List.cons_append, List.nil_append, List.getD_cons_zero, List.getD_cons_succ, if_true, if_false, Bool.false_eq_true, reduceIte, reduceCtorEq, Bool.not_true, Bool.not_false, implies_true, true_and, and_true, Nat.sub_self, Nat.reduceAdd, Nat.reduceSub, Nat.zero_add, List.all_cons, List.all_nil, Bool.and_true, Bool.true_and, eqv_str, eqv_int, any_talk]
  refine ⟨by simp [cmpOk], by simp [PyData.depth], ?_⟩
  unfold adjB at h
  by_cases e : s = s'
  · rw [if_pos e] at h
    rw [if_pos (decide_eq_true e)]
    refine ⟨by simp [cmpOk], by simp [PyData.depth], ?_⟩
    have : decide ((if l - l' < 0 then -(l - l') else l - l') = 1) = decide ((l - l').natAbs = 1) := by
      congr 1
      refine propext ?_
      split <;> omega
    rw [this]; exact h
  · rw [if_neg e] at h
    rw [if_neg (by simp [e])]
    refine ⟨by simp [cmpOk], by simp [PyData.depth], ?_⟩
    by_cases el : l = l'
    · rw [if_pos (decide_eq_true el)]
      refine ⟨?_, ?_⟩
      · rw [List.all_eq_true]
        intro z hz
        obtain ⟨u, _, rfl⟩ := List.mem_map.mp hz
        simp [talkO, cmpOk, cmpOks, PyData.depth, PyData.depthAll]
      · rw [decide_eq_true el, Bool.true_and, ← decide_eq_decide.mpr (talk_adj net e)] at h
        rw [Bool.false_xor]
        exact h
    · rw [if_neg (by simp [el])]
      rw [decide_eq_false el, Bool.false_and] at h
      exact h
end WC

set_option Elab.async false
set_option linter.all false
set_option maxRecDepth 100000
set_option maxHeartbeats 4000000
namespace WC
open PySem PySem.Spec L2 DL WS
open PyProof.Rows hiding St
theorem repr_ok {w d b : Nat} {t : T} (hw : w ≤ 100000) (hd : d ≤ 100) (hb : b < 10 ^ 30) (g : Gd w d b t) : t.showable = true ∧ t.depth ≤ 150 ∧ t.shown.length ≤ 16777216 := by
  have := shown_sz hb t g.l
  have := g.w
  have := g.d
  exact ⟨lf_showable hb t g.l, by omega, by omega⟩
def sp__law_pair_right : FSpec := fun os Q => ∃ ys us s l s' l', os = [.pure (dctT (tabL ys us)), .pure (netO ys us), .pure (node s l), .pure (node s' l')] ∧ NetOk ys us ∧ s ∈ ys ∧ s' ∈ ys ∧ (-1000 ≤ l ∧ l ≤ 1000) ∧ (-1000 ≤ l' ∧ l' ≤ 1000) ∧ Q (.pure (.bool true)) []
/-- _law_pair_right: slots 0:_law_beside_here 1:_law_net 2:_law_one 3:_law_other 4:_law_is_due -/
def t__law_pair_right : ST := (sSeq (sSet 4 (tOrE (tAndE (tBin gEq (tBin gIx (tName 2) (tCst (.int 0))) (tBin gIx (tName 3) (tCst (.int 0)))) (tBin (gInW false) (tBin gSub_ (tBin gIx (tName 2) (tCst (.int 1))) (tBin gIx (tName 3) (tCst (.int 1)))) (tTupD (tConsA (tCst (.int 1)) (tConsA (tUny gNeg (tCst (.int 1))) tNilA))))) (tAndE (tBin (gInW false) (tBin gIx (tName 3) (tCst (.int 0))) (tBin gIxD (tName 0) (tBin gIx (tName 2) (tCst (.int 0))))) (tBin gEq (tBin gIx (tName 2) (tCst (.int 1))) (tBin gIx (tName 3) (tCst (.int 1)))))))
  (sSeq (sIf (tTst (tBin gNe (tCallB gRepr (tConsA (tLstD (tConsA (tCallF [false, false, false] sp_are_adjacent (tConsA (tName 1) (tConsA (tName 2) (tConsA (tName 3) tNilA)))) (tConsA (tCallF [false, false, false] sp_are_adjacent (tConsA (tName 1) (tConsA (tName 3) (tConsA (tName 2) tNilA)))) tNilA))) tNilA)) (tCallB gRepr (tConsA (tLstD (tConsA (tName 4) (tConsA (tName 4) tNilA))) tNilA)))) (sRet (fun j => [false, false, false, false].getD j false) (tCst (.bool false))) sNext)
  (sRet (fun j => [false, false, false, false].getD j false) (tBin (gIsB false) (tCallF [false, false, false] sp_are_adjacent (tConsA (tName 1) (tConsA (tName 2) (tConsA (tName 2) tNilA)))) (tCst (.bool false))))))
theorem adj_irr {ys : List Str} {us : List (Str × Str)} (net : NetOk ys us) (s : Str) : s ∉ adjL us s := fun m => by
  rcases mem_adj.mp m with h | h <;> exact lt_irr (net.tk _ h).2.2
theorem adjB_sym {us : List (Str × Str)} (s : Str) (l : Int) (s' : Str) (l' : Int) : adjB us s' l' s l = adjB us s l s' l' := by
  unfold adjB
  by_cases e : s = s'
  · subst e
    rw [if_pos rfl, if_pos rfl]
    exact decide_eq_decide.mpr (by omega)
  · rw [if_neg e, if_neg (Ne.symm e)]
    rw [show decide (l' = l) = decide (l = l') from decide_eq_decide.mpr ⟨Eq.symm, Eq.symm⟩]
    rw [show decide (s ∈ adjL us s') = decide (s' ∈ adjL us s) from decide_eq_decide.mpr (by rw [mem_adj, mem_adj]; exact or_comm)]
theorem look_in {ys : List Str} {us : List (Str × Str)} {s s' : Str} (hs : s ∈ ys) {R : Bool → Prop} (h : R (decide (s' ∈ adjL us s))) :
    gIxD (.pure (dctT (tabL ys us))) (.pure (.str s)) fun o => gInW false (.pure (.str s')) o fun o => boK R (some o) := by
  refine gIxD_ok (dcX_dctT _) rfl (tab_look hs) ?_
  simp only [sSeq, sNext, sRet, sRetN, sDrop, sIf, sSet, sFor, sPar, sAsg, bAnd, bOr, bNot, tTst, tCst, tBin, tUny, tNilA, tConsA, getAll, tCallB, tCallF, tTupD, tLstD, tChainA, tChainE, tRg, rgK.eq_1, tStripX, strip1K.eq_1, strip2K.eq_1, tAndE, tOrE, tNotE, tIfE, tComp, bYes, tDct0, tRange.eq_1, tgName, tgTup.eq_1, tgCons.eq_1, tgNil.eq_1, takeAll, back.eq_1, back.eq_2, back_nil, setO, tName_k, nameK.eq_1, nameK.eq_2, nameK.eq_3, nameK.eq_4, atK.eq_1, take1_v, take1_s, takeO_v, takeO_s, takeR_v, takeR_s, prep_n, prep_tv, prep_ts, prep_f, lstK.eq_1, lstAt_k, g2K.eq_1, g2_k, g1K.eq_1, g1_k, gNK.eq_1, gN_k, boK.eq_1, bOf_k, isiK.eq_1, tIsi_k, partK.eq_1, part_n, part_s, slcK.eq_1, slcK.eq_2, slcK.eq_3, slcK.eq_4, tSlc_k, revK.eq_1, revK.eq_2, revK.eq_3, tRev_k, strMK.eq_1, tStrM_k, itK.eq_1, tIter_k, enumK.eq_1, tEnum_k, zipK.eq_1, zipK.eq_2, tZip_k, intsK.eq_1, intsK.eq_2, intsOf_k, endK.eq_1, endO_k, extK.eq_1, tExtend_k, tAppend_k, setIxK.eq_1, sSetIx_k, popAtK.eq_1, tPopAt_k, bO.eq_1, itemsOf.eq_1, itemsOf.eq_2, itemsOf.eq_3, gAdd.eq_1, gAdd.eq_2, gAdd.eq_3, gAdd.eq_4, gAdd.eq_5, gAdd.eq_6, gSub_.eq_1, gSub_.eq_2, gMul2_s, gMul2_i, gMul2_l, gMulS.eq_1, gMul.eq_1, gMul.eq_2, gFdiv.eq_1, gMod.eq_1, gPow.eq_1, gNeg.eq_1, gNeg.eq_2, gGe.eq_1, gGt.eq_1, gLe.eq_1, gLt.eq_1, gLt.eq_2, gEq.eq_1, gNe.eq_1, gNe.eq_2, gNe.eq_3, gNe.eq_4, gInW.eq_1, gInW.eq_2, gIs.eq_1, gIsNot.eq_1, gLen.eq_1, gLen.eq_2, gAllAny.eq_1, gAbs.eq_1, gInt.eq_1, gInt.eq_2, gStr.eq_1, gStr.eq_2, gStr.eq_3, gM2.eq_1, gListOf.eq_1, gListOf.eq_2, gTupOf.eq_1, gTupOf.eq_2, gSort, gSortS.eq_1, gSortD.eq_1, gSortSet.eq_1, gRepr.eq_1, gM2S.eq_1, gIsB.eq_1, tCompN, tCompD, tCompI, tCompDI, tComp2, gIx.eq_1, gIx.eq_2, ati0, ati1, ati2, Option.some.injEq, exists_eq, exists_eq', false_implies, Opd.slot.injEq, forall_eq, forall_eq', Opd.get.eq_1, Opd.get.eq_2, at_join, join_some, O.frz.eq_1, O.frz.eq_2, frz_dct, O.frz.eq_4, lsO.eq_1, lsO.eq_2, tuO.eq_1, seqO_l, seqO_p, seqO_t, endsOf, outsOf, startA, wipeA, List.getElem?_cons_zero, List.getElem?_cons_succ, List.length_cons, List.length_nil, List.map_cons, List.map_nil, List.set_cons_zero, List.set_cons_succ, List.replicate_succ, List.replicate_zero, List.cons_append, List.nil_append, List.getD_cons_zero, List.getD_cons_succ, if_true, if_false, Bool.false_eq_true, reduceIte, reduceCtorEq, Bool.not_true, Bool.not_false, implies_true, true_and, and_true, Nat.sub_self, Nat.reduceAdd, Nat.reduceSub, Nat.zero_add, List.all_cons, List.all_nil, Bool.and_true, Bool.true_and]
  refine ⟨?_, ?_⟩
  · rw [List.all_eq_true]
    intro z hz
    obtain ⟨x, _, rfl⟩ := srt_mem.mp hz
    simp [cmpOk, PyData.depth]
  · have : (srt (adjL us s)).any (fun z => PyData.eqv z (.str s')) = decide (s' ∈ adjL us s) := by
      rw [Bool.eq_iff_iff, List.any_eq_true, decide_eq_true_eq]
      constructor
      · rintro ⟨z, hz, e⟩
        obtain ⟨x, hx, rfl⟩ := srt_mem.mp hz
        rw [eqv_str] at e
        rw [← of_decide_eq_true e]; exact hx
      · intro m
        exact ⟨_, srt_mem.mpr ⟨s', m, rfl⟩, by rw [eqv_str]; simp⟩
    rw [this, Bool.false_xor]
    exact h
theorem pl__law_pair_right (os : List O) (Qa : O → List O → Prop) (_ : os.length = 4) (h : sp__law_pair_right os Qa) : t__law_pair_right (endsOf [false, false, false, false] Qa) (startA 5 os) := by
  obtain ⟨ys, us, s, l, s', l', rfl, net, hs, hs', hl, hl', h⟩ := h
  have key : ∀ {D : AEnds}, D.nx [some (.pure (dctT (tabL ys us))), some (.pure (netO ys us)), some (.pure (node s l)), some (.pure (node s' l')), some (.pure (.bool (adjB us s l s' l')))] → (sSet 4 (tOrE (tAndE (tBin gEq (tBin gIx (tName 2) (tCst (.int 0))) (tBin gIx (tName 3) (tCst (.int 0)))) (tBin (gInW false) (tBin gSub_ (tBin gIx (tName 2) (tCst (.int 1))) (tBin gIx (tName 3) (tCst (.int 1)))) (tTupD (tConsA (tCst (.int 1)) (tConsA (tUny gNeg (tCst (.int 1))) tNilA))))) (tAndE (tBin (gInW false) (tBin gIx (tName 3) (tCst (.int 0))) (tBin gIxD (tName 0) (tBin gIx (tName 2) (tCst (.int 0))))) (tBin gEq (tBin gIx (tName 2) (tCst (.int 1))) (tBin gIx (tName 3) (tCst (.int 1))))))) D [some (.pure (dctT (tabL ys us))), some (.pure (netO ys us)), some (.pure (node s l)), some (.pure (node s' l')), none] := by
    intro D k
    unfold node at *
    simp only [sSeq, sNext, sRet, sRetN, sDrop, sIf, sSet, sFor, sPar, sAsg, bAnd, bOr, bNot, tTst, tCst, tBin, tUny, tNilA, tConsA, getAll, tCallB, tCallF, tTupD, tLstD, tChainA, tChainE, tRg, rgK.eq_1, tStripX, strip1K.eq_1, strip2K.eq_1, tAndE, tOrE, tNotE, tIfE, tComp, bYes, tDct0, tRange.eq_1, tgName, tgTup.eq_1, tgCons.eq_1, tgNil.eq_1, takeAll, back.eq_1, back.eq_2, back_nil, setO, tName_k, nameK.eq_1, nameK.eq_2, nameK.eq_3, nameK.eq_4, atK.eq_1, take1_v, take1_s, takeO_v, takeO_s, takeR_v, takeR_s, prep_n, prep_tv, prep_ts, prep_f, lstK.eq_1, lstAt_k, g2K.eq_1, g2_k, g1K.eq_1, g1_k, gNK.eq_1, gN_k, boK.eq_1, bOf_k, isiK.eq_1, tIsi_k, partK.eq_1, part_n, part_s, slcK.eq_1, slcK.eq_2, slcK.eq_3, slcK.eq_4, tSlc_k, revK.eq_1, revK.eq_2, revK.eq_3, tRev_k, strMK.eq_1, tStrM_k, itK.eq_1, tIter_k, enumK.eq_1, tEnum_k, zipK.eq_1, zipK.eq_2, tZip_k, intsK.eq_1, intsK.eq_2, intsOf_k, endK.eq_1, endO_k, extK.eq_1, tExtend_k, tAppend_k, setIxK.eq_1, sSetIx_k, popAtK.eq_1, tPopAt_k, bO.eq_1, itemsOf.eq_1, itemsOf.eq_2, itemsOf.eq_3, gAdd.eq_1, gAdd.eq_2, gAdd.eq_3, gAdd.eq_4, gAdd.eq_5, gAdd.eq_6, gSub_.eq_1, gSub_.eq_2, gMul2_s, gMul2_i, gMul2_l, gMulS.eq_1, gMul.eq_1, gMul.eq_2, gFdiv.eq_1, gMod.eq_1, gPow.eq_1, gNeg.eq_1, gNeg.eq_2, gGe.eq_1, gGt.eq_1, gLe.eq_1, gLt.eq_1, gLt.eq_2, gEq.eq_1, gNe.eq_1, gNe.eq_2, gNe.eq_3, gNe.eq_4, gInW.eq_1, gInW.eq_2, gIs.eq_1, gIsNot.eq_1, gLen.eq_1, gLen.eq_2, gAllAny.eq_1, gAbs.eq_1, gInt.eq_1, gInt.eq_2, gStr.eq_1, gStr.eq_2, gStr.eq_3, gM2.eq_1, gListOf.eq_1, gListOf.eq_2, gTupOf.eq_1, gTupOf.eq_2, gSort, gSortS.eq_1, gSortD.eq_1, gSortSet.eq_1, gRepr.eq_1, gM2S.eq_1, gIsB.eq_1, tCompN, tCompD, tCompI, tCompDI, tComp2, gIx.eq_1, gIx.eq_2, ati0, ati1, ati2, Option.some.injEq, exists_eq, exists_eq', false_implies, Opd.slot.injEq, forall_eq, forall_eq', Opd.get.eq_1, Opd.get.eq_2, at_join, join_some, O.frz.eq_1, O.frz.eq_2, frz_dct, O.frz.eq_4, lsO.eq_1, lsO.eq_2, tuO.eq_1, seqO_l, seqO_p, seqO_t, endsOf, outsOf, startA, wipeA, List.getElem?_cons_zero, List.getElem?_cons_succ, List.length_cons, List.length_nil, List.map_cons, List.map_nil, List.set_cons_zero, List.set_cons_succ, List.replicate_succ, List.replicate_zero, List.cons_append, List.nil_append, List.getD_cons_zero, List.getD_cons_succ, if_true, if_false, Bool.false_eq_true, reduceIte, reduceCtorEq, Bool.not_true, Bool.not_false, implies_true, true_and, and_true, Nat.sub_self, Nat.reduceAdd, Nat.reduceSub, Nat.zero_add, List.all_cons, List.all_nil, Bool.and_true, Bool.true_and, eqv_str, eqv_int]
    have hany : (false ^^ [PyData.int 1, PyData.int (-1)].any fun z => PyData.eqv z (PyData.int (l - l'))) = decide ((l - l').natAbs = 1) := by
      rw [Bool.false_xor, List.any_cons, List.any_cons, List.any_nil, Bool.or_false, eqv_int, eqv_int, ← Bool.decide_or]
      exact decide_eq_decide.mpr (by omega)
    refine ⟨by simp [cmpOk], by simp [PyData.depth], ?_⟩
    unfold adjB at k
    by_cases e : s = s'
    · rw [if_pos e] at k
      rw [if_pos (decide_eq_true e), hany]
      refine ⟨by simp [cmpOk, PyData.depth], ?_⟩
      by_cases n : (l - l').natAbs = 1
      · rw [if_pos (decide_eq_true n)]
        rw [decide_eq_true n] at k
        exact ⟨rfl, k⟩
      · rw [if_neg (by simp [n])]
        rw [decide_eq_false n] at k
        refine look_in hs ?_
        rw [decide_eq_false (show s' ∉ adjL us s by rw [← e]; exact adj_irr net s), if_neg (by simp)]
        exact ⟨rfl, k⟩
    · rw [if_neg e] at k
      rw [if_neg (by simp [e])]
      refine look_in hs ?_
      by_cases m : s' ∈ adjL us s
      · rw [decide_eq_true m, Bool.and_true] at k
        rw [decide_eq_true m, if_pos rfl]
        exact ⟨by simp [cmpOk], by simp [PyData.depth], rfl, k⟩
      · rw [decide_eq_false m, Bool.and_false] at k
        rw [decide_eq_false m, if_neg (by simp)]
        exact ⟨rfl, k⟩
  unfold t__law_pair_right
  unfold sSeq
  refine key ?_
  simp only [sSeq, sNext, sRet, sRetN, sDrop, sIf, sSet, sFor, sPar, sAsg, bAnd, bOr, bNot, tTst, tCst, tBin, tUny, tNilA, tConsA, getAll, tCallB, tCallF, tTupD, tLstD, tChainA, tChainE, tRg, rgK.eq_1, tStripX, strip1K.eq_1, strip2K.eq_1, tAndE, tOrE, tNotE, tIfE, tComp, bYes, tDct0, tRange.eq_1, tgName, tgTup.eq_1, tgCons.eq_1, tgNil.eq_1, takeAll, back.eq_1, back.eq_2, back_nil, setO, tName_k, nameK.eq_1, nameK.eq_2, nameK.eq_3, nameK.eq_4, atK.eq_1, take1_v, take1_s, takeO_v, takeO_s, takeR_v, takeR_s, prep_n, prep_tv, prep_ts, prep_f, lstK.eq_1, lstAt_k, g2K.eq_1, g2_k, g1K.eq_1, g1_k, gNK.eq_1, gN_k, boK.eq_1, bOf_k, isiK.eq_1, tIsi_k, partK.eq_1, part_n, part_s, slcK.eq_1, slcK.eq_2, slcK.eq_3, slcK.eq_4, tSlc_k, revK.eq_1, revK.eq_2, revK.eq_3, tRev_k, strMK.eq_1, tStrM_k, itK.eq_1, tIter_k, enumK.eq_1, tEnum_k, zipK.eq_1, zipK.eq_2, tZip_k, intsK.eq_1, intsK.eq_2, intsOf_k, endK.eq_1, endO_k, extK.eq_1, tExtend_k, tAppend_k, setIxK.eq_1, sSetIx_k, popAtK.eq_1, tPopAt_k, bO.eq_1, itemsOf.eq_1, itemsOf.eq_2, itemsOf.eq_3, gAdd.eq_1, gAdd.eq_2, gAdd.eq_3, gAdd.eq_4, gAdd.eq_5, gAdd.eq_6, gSub_.eq_1, gSub_.eq_2, gMul2_s, gMul2_i, gMul2_l, gMulS.eq_1, gMul.eq_1, gMul.eq_2, gFdiv.eq_1, gMod.eq_1, gPow.eq_1, gNeg.eq_1, gNeg.eq_2, gGe.eq_1, gGt.eq_1, gLe.eq_1, gLt.eq_1, gLt.eq_2, gEq.eq_1, gNe.eq_1, gNe.eq_2, gNe.eq_3, gNe.eq_4, gInW.eq_1, gInW.eq_2, gIs.eq_1, gIsNot.eq_1, gLen.eq_1, gLen.eq_2, gAllAny.eq_1, gAbs.eq_1, gInt.eq_1, gInt.eq_2, gStr.eq_1, gStr.eq_2, gStr.eq_3, gM2.eq_1, gListOf.eq_1, gListOf.eq_2, gTupOf.eq_1, gTupOf.eq_2, gSort, gSortS.eq_1, gSortD.eq_1, gSortSet.eq_1, gRepr.eq_1, gM2S.eq_1, gIsB.eq_1, tCompN, tCompD, tCompI, tCompDI, tComp2, gIx.eq_1, gIx.eq_2, ati0, ati1, ati2, Option.some.injEq, exists_eq, exists_eq', false_implies, Opd.slot.injEq, forall_eq, forall_eq', Opd.get.eq_1, Opd.get.eq_2, at_join, join_some, O.frz.eq_1, O.frz.eq_2, frz_dct, O.frz.eq_4, lsO.eq_1, lsO.eq_2, tuO.eq_1, seqO_l, seqO_p, seqO_t, endsOf, outsOf, startA, wipeA, List.getElem?_cons_zero, List.getElem?_cons_succ, List.length_cons, List.length_nil, List.map_cons, List.map_nil, List.set_cons_zero, List.set_cons_succ, List.replicate_succ, List.replicate_zero, List.cons_append, List.nil_append, List.getD_cons_zero, List.getD_cons_succ, if_true, if_false, Bool.false_eq_true, reduceIte, reduceCtorEq, Bool.not_true, Bool.not_false, implies_true, true_and, and_true, Nat.sub_self, Nat.reduceAdd, Nat.reduceSub, Nat.zero_add, List.all_cons, List.all_nil, Bool.and_true, Bool.true_and]
  refine ⟨ys, us, s, l, s', l', rfl, net, hl, hl', ?_⟩
  refine ⟨ys, us, s', l', s, l, rfl, net, hl', hl, ?_⟩
  rw [adjB_sym s l s' l']
  simp only [sSeq, sNext, sRet, sRetN, sDrop, sIf, sSet, sFor, sPar, sAsg, bAnd, bOr, bNot, tTst, tCst, tBin, tUny, tNilA, tConsA, getAll, tCallB, tCallF, tTupD, tLstD, tChainA, tChainE, tRg, rgK.eq_1, tStripX, strip1K.eq_1, strip2K.eq_1, tAndE, tOrE, tNotE, tIfE, tComp, bYes, tDct0, tRange.eq_1, tgName, tgTup.eq_1, tgCons.eq_1, tgNil.eq_1, takeAll, back.eq_1, back.eq_2, back_nil, setO, tName_k, nameK.eq_1, nameK.eq_2, nameK.eq_3, nameK.eq_4, atK.eq_1, take1_v, take1_s, takeO_v, takeO_s, takeR_v, takeR_s, prep_n, prep_tv, prep_ts, prep_f, lstK.eq_1, lstAt_k, g2K.eq_1, g2_k, g1K.eq_1, g1_k, gNK.eq_1, gN_k, boK.eq_1, bOf_k, isiK.eq_1, tIsi_k, partK.eq_1, part_n, part_s, slcK.eq_1, slcK.eq_2, slcK.eq_3, slcK.eq_4, tSlc_k, revK.eq_1, revK.eq_2, revK.eq_3, tRev_k, strMK.eq_1, tStrM_k, itK.eq_1, tIter_k, enumK.eq_1, tEnum_k, zipK.eq_1, zipK.eq_2, tZip_k, intsK.eq_1, intsK.eq_2, intsOf_k, endK.eq_1, endO_k, extK.eq_1, tExtend_k, tAppend_k, setIxK.eq_1, sSetIx_k, popAtK.eq_1, tPopAt_k, bO.eq_1, itemsOf.eq_1, itemsOf.eq_2, itemsOf.eq_3, gAdd.eq_1, gAdd.eq_2, gAdd.eq_3, gAdd.eq_4, gAdd.eq_5, gAdd.eq_6, gSub_.eq_1, gSub_.eq_2, gMul2_s, gMul2_i, gMul2_l, gMulS.eq_1, gMul.eq_1, gMul.eq_2, gFdiv.eq_1, gMod.eq_1, gPow.eq_1, gNeg.eq_1, gNeg.eq_2, gGe.eq_1, gGt.eq_1, gLe.eq_1, gLt.eq_1, gLt.eq_2, gEq.eq_1, gNe.eq_1, gNe.eq_2, gNe.eq_3, gNe.eq_4, gInW.eq_1, gInW.eq_2, gIs.eq_1, gIsNot.eq_1, gLen.eq_1, gLen.eq_2, gAllAny.eq_1, gAbs.eq_1, gInt.eq_1, gInt.eq_2, gStr.eq_1, gStr.eq_2, gStr.eq_3, gM2.eq_1, gListOf.eq_1, gListOf.eq_2, gTupOf.eq_1, gTupOf.eq_2, gSort, gSortS.eq_1, gSortD.eq_1, gSortSet.eq_1, gRepr.eq_1, gM2S.eq_1, gIsB.eq_1, tCompN, tCompD, tCompI, tCompDI, tComp2, gIx.eq_1, gIx.eq_2, ati0, ati1, ati2, Option.some.injEq, exists_eq, exists_eq', false_implies, Opd.slot.injEq, forall_eq, forall_eq', Opd.get.eq_1, Opd.get.eq_2, at_join, join_some, O.frz.eq_1, O.frz.eq_2, frz_dct, O.frz.eq_4, lsO.eq_1, lsO.eq_2, tuO.eq_1, seqO_l, seqO_p, seqO_t, endsOf, outsOf, startA, wipeA, List.getElem?_cons_zero, List.getElem?_cons_succ, List.length_cons, List.length_nil, List.map_cons, List.map_nil, List.set_cons_zero, List.set_cons_succ, List.replicate_succ, List.replicate_zero, List.cons_append, List.nil_append, List.getD_cons_zero, List.getD_cons_succ, if_true, if_false, Bool.false_eq_true, reduceIte, reduceCtorEq, Bool.not_true, Bool.not_false, implies_true, true_and, and_true, Nat.sub_self, Nat.reduceAdd, Nat.reduceSub, Nat.zero_add, List.all_cons, List.all_nil, Bool.and_true, Bool.true_and]
  have g : Gd 40 2 0 (.list [.bool (adjB us s l s' l'), .bool (adjB us s l s' l')]) := by
    cases adjB us s l s' l' <;> exact ⟨by simp only [sz, szs, PyData.depth, PyData.depthAll, PyData.depthKv, lf, lfs, szs_app, szs_rev, dep_app, dep_rev, lfs_app, lfs_rev, Bool.and_true, Bool.true_and, Bool.and_self, List.isEmpty_nil] <;> omega, by simp only [sz, szs, PyData.depth, PyData.depthAll, PyData.depthKv, lf, lfs, szs_app, szs_rev, dep_app, dep_rev, lfs_app, lfs_rev, Bool.and_true, Bool.true_and, Bool.and_self, List.isEmpty_nil] <;> omega, by first | (simp only [sz, szs, PyData.depth, PyData.depthAll, PyData.depthKv, lf, lfs, szs_app, szs_rev, dep_app, dep_rev, lfs_app, lfs_rev, Bool.and_true, Bool.true_and, Bool.and_self, List.isEmpty_nil]; done) | (simp only [sz, szs, PyData.depth, PyData.depthAll, PyData.depthKv, lf, lfs, szs_app, szs_rev, dep_app, dep_rev, lfs_app, lfs_rev, Bool.and_true, Bool.true_and, Bool.and_self, List.isEmpty_nil]; decide)⟩
  obtain ⟨g1, g2, g3⟩ := repr_ok (w := 40) (by decide) (by decide) (by decide) g
  refine ⟨g1, g2, g3, g1, g2, g3, ?_⟩
  rw [if_neg (by simp)]
  refine ⟨ys, us, s, l, s, l, rfl, net, hl, hl, ?_⟩
  have e : adjB us s l s l = false := by
    unfold adjB
    rw [if_pos rfl]
    exact decide_eq_false (by omega)
  rw [e]
  simp only [sSeq, sNext, sRet, sRetN, sDrop, sIf, sSet, sFor, sPar, sAsg, bAnd, bOr, bNot, tTst, tCst, tBin, tUny, tNilA, tConsA, getAll, tCallB, tCallF, tTupD, tLstD, tChainA, tChainE, tRg, rgK.eq_1, tStripX, strip1K.eq_1, strip2K.eq_1, tAndE, tOrE, tNotE, tIfE, tComp, bYes, tDct0, tRange.eq_1, tgName, tgTup.eq_1, tgCons.eq_1, tgNil.eq_1, takeAll, back.eq_1, back.eq_2, back_nil, setO, tName_k, nameK.eq_1, nameK.eq_2, nameK.eq_3, nameK.eq_4, atK.eq_1, take1_v, take1_s, takeO_v, takeO_s, takeR_v, takeR_s, prep_n, prep_tv, prep_ts, prep_f, lstK.eq_1, lstAt_k, g2K.eq_1, g2_k, g1K.eq_1, g1_k, gNK.eq_1, gN_k, boK.eq_1, bOf_k, isiK.eq_1, tIsi_k, partK.eq_1, part_n, part_s, slcK.eq_1, slcK.eq_2, slcK.eq_3, slcK.eq_4, tSlc_k, revK.eq_1, revK.eq_2, revK.eq_3, tRev_k, strMK.eq_1, tStrM_k, itK.eq_1, tIter_k, enumK.eq_1, tEnum_k, zipK.eq_1, zipK.eq_2, tZip_k, intsK.eq_1, intsK.eq_2, intsOf_k, endK.eq_1, endO_k, extK.eq_1, tExtend_k, tAppend_k, setIxK.eq_1, sSetIx_k, popAtK.eq_1, tPopAt_k, bO.eq_1, itemsOf.eq_1, itemsOf.eq_2, itemsOf.eq_3, gAdd.eq_1, gAdd.eq_2, gAdd.eq_3, gAdd.eq_4, gAdd.eq_5, gAdd.eq_6, gSub_.eq_1, gSub_.eq_2, gMul2_s, gMul2_i, gMul2_l, gMulS.eq_1, gMul.eq_1, gMul.eq_2, gFdiv.eq_1, gMod.eq_1, gPow.eq_1, gNeg.eq_1, gNeg.eq_2, gGe.eq_1, gGt.eq_1, gLe.eq_1, gLt.eq_1, gLt.eq_2, gEq.eq_1, gNe.eq_1, gNe.eq_2, gNe.eq_3, gNe.eq_4, gInW.eq_1, gInW.eq_2, gIs.eq_1, gIsNot.eq_1, gLen.eq_1, gLen.eq_2, gAllAny.eq_1, gAbs.eq_1, gInt.eq_1, gInt.eq_2, gStr.eq_1, gStr.eq_2, gStr.eq_3, gM2.eq_1, gListOf.eq_1, gListOf.eq_2, gTupOf.eq_1, gTupOf.eq_2, gSort, gSortS.eq_1, gSortD.eq_1, gSortSet.eq_1, gRepr.eq_1, gM2S.eq_1, gIsB.eq_1, tCompN, tCompD, tCompI, tCompDI, tComp2, gIx.eq_1, gIx.eq_2, ati0, ati1, ati2, Option.some.injEq, exists_eq, exists_eq', false_implies, Opd.slot.injEq, forall_eq, forall_eq', Opd.get.eq_1, Opd.get.eq_2, at_join, join_some, O.frz.eq_1, O.frz.eq_2, frz_dct, O.frz.eq_4, lsO.eq_1, lsO.eq_2, tuO.eq_1, seqO_l, seqO_p, seqO_t, endsOf, outsOf, startA, wipeA, List.getElem?_cons_zero, List.getElem?_cons_succ, List.length_cons, List.length_nil, List.map_cons, List.map_nil, List.set_cons_zero, List.set_cons_succ, List.replicate_succ, List.replicate_zero, List.cons_append, List.nil_append, List.getD_cons_zero, List.getD_cons_succ, if_true, if_false, Bool.false_eq_true, reduceIte, reduceCtorEq, Bool.not_true, Bool.not_false, implies_true, true_and, and_true, Nat.sub_self, Nat.reduceAdd, Nat.reduceSub, Nat.zero_add, List.all_cons, List.all_nil, Bool.and_true, Bool.true_and]
  exact h
end WC

set_option Elab.async false
set_option linter.all false
set_option maxRecDepth 100000
set_option maxHeartbeats 4000000
namespace WC
open PySem PySem.Spec L2 DL WS
open PyProof.Rows hiding St
theorem compW_skip {g : GT} {tt : BT} {te : XT} {vs : List Nat} {ρ : AEnv} {Q : List T → AEnv → Prop} : ∀ (ts acc : List T),
    (∀ t ∈ ts, ∀ Q' : List T → AEnv → Prop, ∀ acc' ts', (compW g tt te vs ts' acc' ρ Q') → compW g tt te vs (t :: ts') acc' ρ Q') → Q acc ρ → compW g tt te vs ts acc ρ Q
  | [], acc, _, q => by simpa [compW] using q
  | t :: ts, acc, h, q => h t List.mem_cons_self Q acc ts (compW_skip ts acc (fun t m => h t (List.mem_cons_of_mem _ m)) q)
def sp__law_right : FSpec := fun os Q => ∃ n d, n ≤ 10000 ∧ os = [d] ∧ Dk n d ∧ ∀ d', Dk (n + 2000) d' → Q (.pure (.bool true)) [d']
/-- _law_right: slots 0:_law_deck_here 1:_law_turn 2:_law_net 3:_law_beside_here 4:_law_kept 5:_law_far 6:_law_due 7:_law_service 8:_law_pairs 9:_law_one 10:_law_level 11:_law_number 12:_law_other -/
def t__law_right_b1 : ST := (sDrop (tExtend 6 (tComp (tRange (tConsA (tCst (.int 1)) (tConsA (tName 5) tNilA))) (tgName 10) (tTst (tBin gNe (tBin gIxD (tName 3) (tName 7)) (tLstD tNilA))) (tTupD (tConsA (tName 7) (tConsA (tName 10) tNilA))) [10])))
def t__law_right_b2 : ST := (sDrop (tExtend 8 (tComp (tIter (tName 6)) (tgName 12) bYes (tTupD (tConsA (tName 9) (tConsA (tName 12) tNilA))) [12])))
def t__law_right_b3 : ST := (sSeq (sSet 6 (tLstD tNilA))
  (sSeq (sFor (tIter (tBin gIx (tName 2) (tCst (.int 0)))) (tgName 7) t__law_right_b1)
  (sSeq (sIf (tTst (tBin gNe (tCallB gRepr (tConsA (tCallF [false, false] sp_nodes (tConsA (tName 2) (tConsA (tName 5) tNilA))) tNilA)) (tCallB gRepr (tConsA (tCallB gTupOf (tConsA (tName 6) tNilA)) tNilA)))) (sRet (fun j => [true].getD j false) (tCst (.bool false))) sNext)
  (sSeq (sSet 8 (tComp (tRange (tConsA (tIfE (tTst (tBin gNe (tName 6) (tLstD tNilA))) (tCst (.int 12)) (tCst (.int 0))) tNilA)) (tgName 11) bYes (tTupD (tConsA (tCallF [true, false] sp__law_any (tConsA (tName 0) (tConsA (tName 6) tNilA))) (tConsA (tCallF [true, false] sp__law_any (tConsA (tName 0) (tConsA (tName 6) tNilA))) tNilA))) [11]))
  (sSeq (sIf (bOr (tTst (tBin gEq (tName 5) (tCst (.int 2)))) (tTst (tBin gEq (tName 5) (tCst (.int 3))))) (sFor (tIter (tSlc (tName 6) none (some (tCst (.int 8))))) (tgName 9) t__law_right_b2) sNext)
  (sIf (bNot (tTst (tCallB (gAllAny fun bs => bs.all id) (tConsA (tComp (tIter (tName 8)) (tgTup 2 (tgCons (tgName 9) (tgCons (tgName 12) tgNil))) bYes (tCallF [false, false, false, false] sp__law_pair_right (tConsA (tName 3) (tConsA (tName 2) (tConsA (tName 9) (tConsA (tName 12) tNilA))))) [9, 12]) tNilA)))) (sRet (fun j => [true].getD j false) (tCst (.bool false))) sNext))))))
def t__law_right_b4 : ST := (sSeq (sSet 2 (tCallF [true, false, false] sp__law_network (tConsA (tName 0) (tConsA (tBin gAdd (tCst (.int 1)) (tCallF [true, false] sp__law_draw (tConsA (tName 0) (tConsA (tCst (.int 12)) tNilA)))) (tConsA (tBin gEq (tCallF [true, false] sp__law_draw (tConsA (tName 0) (tConsA (tCst (.int 2)) tNilA))) (tCst (.int 0))) tNilA)))))
  (sSeq (sPar [3, 4] (tConsA (tCallF [false] sp__law_beside (tConsA (tName 2) tNilA)) (tConsA (tCallB gRepr (tConsA (tName 2) tNilA)) tNilA)))
  (sSeq (sFor (tRange (tConsA (tCst (.int 12)) tNilA)) (tgName 5) t__law_right_b3)
  (sIf (tTst (tBin gNe (tCallB gRepr (tConsA (tName 2) tNilA)) (tName 4))) (sRet (fun j => [true].getD j false) (tCst (.bool false))) sNext))))
def t__law_right : ST := (sSeq (sFor (tRange (tConsA (tCst (.int 3)) tNilA)) (tgName 1) t__law_right_b4)
  (sRet (fun j => [true].getD j false) (tCst (.bool true))))
/-- a dict as it is owned, or as it is given away -/
def IsTab (o : O) (L : List (Key × T)) : Prop := o = .dct L ∨ o = .pure (dctT L)
def IsLst (o : O) (L : List T) : Prop := o = .lst L ∨ o = .pure (.list L)
/-- the nodes of the law's own look -/
theorem due_loop {ys : List Str} {us : List (Str × Str)} (net : NetOk ys us) {far : Int} (h0 : 0 ≤ far) (h1 : far ≤ 100) {x0 x1 x2 x4 x8 x9 x11 x12 : Option O} {o3 : O} (ht : IsTab o3 (tabL ys us)) {D : AEnds} :
    ∀ (rest done : List Str) (x7 x10 : Option O), (∀ s ∈ rest, s ∈ ys) → done.length + rest.length ≤ 12 → (∀ x7 x10, D.nx [x0, x1, x2, some o3, x4, some (.pure (.int far)), some (.lst ((done ++ rest).flatMap (nodesOf us far))), x7, x8, x9, x10, x11, x12]) →
    forW (tgName 7) t__law_right_b1 D (rest.map PyData.str) [x0, x1, x2, some o3, x4, some (.pure (.int far)), some (.lst (done.flatMap (nodesOf us far))), x7, x8, x9, x10, x11, x12]
  | [], done, x7, x10, _, _, q => by rw [List.append_nil] at q; exact q x7 x10
  | s :: rest, done, x7, x10, hm, hl, q => by
    have hs := hm s List.mem_cons_self
    obtain ⟨f1, f2, f3, f4⟩ := srt_ne net s
    have ll := lvls_len h1
    have dl : (done.flatMap (nodesOf us far)).length ≤ 100 * done.length := by
      have : ∀ l : List Str, (l.flatMap (nodesOf us far)).length ≤ 100 * l.length := fun l => by
        induction l with
        | nil => simp
        | cons a l ih =>
          rw [List.flatMap_cons, List.length_append, List.length_cons]
          have : (nodesOf us far a).length ≤ 100 := by
            unfold nodesOf
            split
            · simp
            · rw [List.length_map]; exact ll
          omega
      exact this done
    have nxt : ∀ (x7 x10 : Option O), forW (tgName 7) t__law_right_b1 D (rest.map PyData.str) [x0, x1, x2, some o3, x4, some (.pure (.int far)), some (.lst (done.flatMap (nodesOf us far) ++ nodesOf us far s)), x7, x8, x9, x10, x11, x12] := fun x7 x10 => by
      have := due_loop net h0 h1 (x0 := x0) (x1 := x1) (x2 := x2) (x4 := x4) (x8 := x8) (x9 := x9) (x11 := x11) (x12 := x12) ht (D := D) rest (done ++ [s]) x7 x10 (fun s m => hm s (List.mem_cons_of_mem _ m)) (by rw [List.length_append, List.length_singleton]; rw [List.length_cons] at hl; omega) (by simpa using q)
      rw [List.flatMap_append] at this
      simpa using this
    rw [List.map_cons, forW]
    generalize hR : forW (tgName 7) t__law_right_b1 D (List.map PyData.str rest) = R at nxt ⊢
    unfold t__law_right_b1
    unfold lvls at ll
    have hb : done.length ≤ 12 := by omega
    rcases ht with rfl | rfl
    all_goals
      simp only [sSeq, sNext, sRet, sRetN, sDrop, sIf, sSet, sFor, sPar, sAsg, bAnd, bOr, bNot, tTst, tCst, tBin, tUny, tNilA, tConsA, getAll, tCallB, tCallF, tTupD, tLstD, tChainA, tChainE, tRg, rgK.eq_1, tStripX, strip1K.eq_1, strip2K.eq_1, tAndE, tOrE, tNotE, tIfE, tComp, bYes, tDct0, tRange.eq_1, tgName, tgTup.eq_1, tgCons.eq_1, tgNil.eq_1, takeAll, back.eq_1, back.eq_2, back_nil, setO, tName_k, nameK.eq_1, nameK.eq_2, nameK.eq_3, nameK.eq_4, atK.eq_1, take1_v, take1_s, takeO_v, takeO_s, takeR_v, takeR_s, prep_n, prep_tv, prep_ts, prep_f, lstK.eq_1, lstAt_k, g2K.eq_1, g2_k, g1K.eq_1, g1_k, gNK.eq_1, gN_k, boK.eq_1, bOf_k, isiK.eq_1, tIsi_k, partK.eq_1, part_n, part_s, slcK.eq_1, slcK.eq_2, slcK.eq_3, slcK.eq_4, tSlc_k, revK.eq_1, revK.eq_2, revK.eq_3, tRev_k, strMK.eq_1, tStrM_k, itK.eq_1, tIter_k, enumK.eq_1, tEnum_k, zipK.eq_1, zipK.eq_2, tZip_k, intsK.eq_1, intsK.eq_2, intsOf_k, endK.eq_1, endO_k, extK.eq_1, tExtend_k, tAppend_k, setIxK.eq_1, sSetIx_k, popAtK.eq_1, tPopAt_k, bO.eq_1, itemsOf.eq_1, itemsOf.eq_2, itemsOf.eq_3, gAdd.eq_1, gAdd.eq_2, gAdd.eq_3, gAdd.eq_4, gAdd.eq_5, gAdd.eq_6, gSub_.eq_1, gSub_.eq_2, gMul2_s, gMul2_i, gMul2_l, gMulS.eq_1, gMul.eq_1, gMul.eq_2, gFdiv.eq_1, gMod.eq_1, gPow.eq_1, gNeg.eq_1, gNeg.eq_2, gGe.eq_1, gGt.eq_1, gLe.eq_1, gLt.eq_1, gLt.eq_2, gEq.eq_1, gNe.eq_1, gNe.eq_2, gNe.eq_3, gNe.eq_4, gInW.eq_1, gInW.eq_2, gIs.eq_1, gIsNot.eq_1, gLen.eq_1, gLen.eq_2, gAllAny.eq_1, gAbs.eq_1, gInt.eq_1, gInt.eq_2, gStr.eq_1, gStr.eq_2, gStr.eq_3, gM2.eq_1, gListOf.eq_1, gListOf.eq_2, gTupOf.eq_1, gTupOf.eq_2, gSort, gSortS.eq_1, gSortD.eq_1, gSortSet.eq_1, gRepr.eq_1, gM2S.eq_1, gIsB.eq_1, tCompN, tCompD, tCompI, tCompDI, tComp2, gIx.eq_1, gIx.eq_2, ati0, ati1, ati2, Option.some.injEq, exists_eq, exists_eq', false_implies, Opd.slot.injEq, forall_eq, forall_eq', Opd.get.eq_1, Opd.get.eq_2, at_join, join_some, O.frz.eq_1, O.frz.eq_2, frz_dct, O.frz.eq_4, lsO.eq_1, lsO.eq_2, tuO.eq_1, seqO_l, seqO_p, seqO_t, endsOf, outsOf, startA, wipeA, List.getElem?_cons_zero, List.getElem?_cons_succ, List.length_cons, List.length_nil, List.map_cons, List.map_nil, List.set_cons_zero, List.set_cons_succ, List.replicate_succ, List.replicate_zero, List.cons_append, List.nil_append, List.getD_cons_zero, List.getD_cons_succ, if_true, if_false, Bool.false_eq_true, reduceIte, reduceCtorEq, Bool.not_true, Bool.not_false, implies_true, true_and, and_true, Nat.sub_self, Nat.reduceAdd, Nat.reduceSub, Nat.zero_add, List.all_cons, List.all_nil, Bool.and_true, Bool.true_and]
      refine ⟨rfl, ⟨by omega, by omega, by omega, by omega⟩, ?_⟩
      by_cases e : adjL us s = []
      · have nd : nodesOf us far s = [] := by unfold nodesOf; rw [if_pos e]
        rw [nd] at nxt
        refine compW_skip _ _ (fun t m Q' acc ts' k => ?_) ?_
        · rw [compW]
          simp only [sSeq, sNext, sRet, sRetN, sDrop, sIf, sSet, sFor, sPar, sAsg, bAnd, bOr, bNot, tTst, tCst, tBin, tUny, tNilA, tConsA, getAll, tCallB, tCallF, tTupD, tLstD, tChainA, tChainE, tRg, rgK.eq_1, tStripX, strip1K.eq_1, strip2K.eq_1, tAndE, tOrE, tNotE, tIfE, tComp, bYes, tDct0, tRange.eq_1, tgName, tgTup.eq_1, tgCons.eq_1, tgNil.eq_1, takeAll, back.eq_1, back.eq_2, back_nil, setO, tName_k, nameK.eq_1, nameK.eq_2, nameK.eq_3, nameK.eq_4, atK.eq_1, take1_v, take1_s, takeO_v, takeO_s, takeR_v, takeR_s, prep_n, prep_tv, prep_ts, prep_f, lstK.eq_1, lstAt_k, g2K.eq_1, g2_k, g1K.eq_1, g1_k, gNK.eq_1, gN_k, boK.eq_1, bOf_k, isiK.eq_1, tIsi_k, partK.eq_1, part_n, part_s, slcK.eq_1, slcK.eq_2, slcK.eq_3, slcK.eq_4, tSlc_k, revK.eq_1, revK.eq_2, revK.eq_3, tRev_k, strMK.eq_1, tStrM_k, itK.eq_1, tIter_k, enumK.eq_1, tEnum_k, zipK.eq_1, zipK.eq_2, tZip_k, intsK.eq_1, intsK.eq_2, intsOf_k, endK.eq_1, endO_k, extK.eq_1, tExtend_k, tAppend_k, setIxK.eq_1, sSetIx_k, popAtK.eq_1, tPopAt_k, bO.eq_1, itemsOf.eq_1, itemsOf.eq_2, itemsOf.eq_3, gAdd.eq_1, gAdd.eq_2, gAdd.eq_3, gAdd.eq_4, gAdd.eq_5, gAdd.eq_6, gSub_.eq_1, gSub_.eq_2, gMul2_s, gMul2_i, gMul2_l, gMulS.eq_1, gMul.eq_1, gMul.eq_2, gFdiv.eq_1, gMod.eq_1, gPow.eq_1, gNeg.eq_1, gNeg.eq_2, gGe.eq_1, gGt.eq_1, gLe.eq_1, gLt.eq_1, gLt.eq_2, gEq.eq_1, gNe.eq_1, gNe.eq_2, gNe.eq_3, gNe.eq_4, gInW.eq_1, gInW.eq_2, gIs.eq_1, gIsNot.eq_1, gLen.eq_1, gLen.eq_2, gAllAny.eq_1, gAbs.eq_1, gInt.eq_1, gInt.eq_2, gStr.eq_1, gStr.eq_2, gStr.eq_3, gM2.eq_1, gListOf.eq_1, gListOf.eq_2, gTupOf.eq_1, gTupOf.eq_2, gSort, gSortS.eq_1, gSortD.eq_1, gSortSet.eq_1, gRepr.eq_1, gM2S.eq_1, gIsB.eq_1, tCompN, tCompD, tCompI, tCompDI, tComp2, gIx.eq_1, gIx.eq_2, ati0, ati1, ati2, Option.some.injEq, exists_eq, exists_eq', false_implies, Opd.slot.injEq, forall_eq, forall_eq', Opd.get.eq_1, Opd.get.eq_2, at_join, join_some, O.frz.eq_1, O.frz.eq_2, frz_dct, O.frz.eq_4, lsO.eq_1, lsO.eq_2, tuO.eq_1, seqO_l, seqO_p, seqO_t, endsOf, outsOf, startA, wipeA, List.getElem?_cons_zero, List.getElem?_cons_succ, List.length_cons, List.length_nil, List.map_cons, List.map_nil, List.set_cons_zero, List.set_cons_succ, List.replicate_succ, List.replicate_zero, List.cons_append, List.nil_append, List.getD_cons_zero, List.getD_cons_succ, if_true, if_false, Bool.false_eq_true, reduceIte, reduceCtorEq, Bool.not_true, Bool.not_false, implies_true, true_and, and_true, Nat.sub_self, Nat.reduceAdd, Nat.reduceSub, Nat.zero_add, List.all_cons, List.all_nil, Bool.and_true, Bool.true_and]
          refine ⟨rfl, gIxD_ok (by first | rfl | exact dcX_dctT _) rfl (tab_look hs) ⟨f1, f2, f3, ?_⟩⟩
          show if (!PyData.eqv (.list (srt (adjL us s))) (.list [])) = true then _ else _
          rw [f4, if_neg (by simp [e])]
          exact k
        · simp only [sSeq, sNext, sRet, sRetN, sDrop, sIf, sSet, sFor, sPar, sAsg, bAnd, bOr, bNot, tTst, tCst, tBin, tUny, tNilA, tConsA, getAll, tCallB, tCallF, tTupD, tLstD, tChainA, tChainE, tRg, rgK.eq_1, tStripX, strip1K.eq_1, strip2K.eq_1, tAndE, tOrE, tNotE, tIfE, tComp, bYes, tDct0, tRange.eq_1, tgName, tgTup.eq_1, tgCons.eq_1, tgNil.eq_1, takeAll, back.eq_1, back.eq_2, back_nil, setO, tName_k, nameK.eq_1, nameK.eq_2, nameK.eq_3, nameK.eq_4, atK.eq_1, take1_v, take1_s, takeO_v, takeO_s, takeR_v, takeR_s, prep_n, prep_tv, prep_ts, prep_f, lstK.eq_1, lstAt_k, g2K.eq_1, g2_k, g1K.eq_1, g1_k, gNK.eq_1, gN_k, boK.eq_1, bOf_k, isiK.eq_1, tIsi_k, partK.eq_1, part_n, part_s, slcK.eq_1, slcK.eq_2, slcK.eq_3, slcK.eq_4, tSlc_k, revK.eq_1, revK.eq_2, revK.eq_3, tRev_k, strMK.eq_1, tStrM_k, itK.eq_1, tIter_k, enumK.eq_1, tEnum_k, zipK.eq_1, zipK.eq_2, tZip_k, intsK.eq_1, intsK.eq_2, intsOf_k, endK.eq_1, endO_k, extK.eq_1, tExtend_k, tAppend_k, setIxK.eq_1, sSetIx_k, popAtK.eq_1, tPopAt_k, bO.eq_1, itemsOf.eq_1, itemsOf.eq_2, itemsOf.eq_3, gAdd.eq_1, gAdd.eq_2, gAdd.eq_3, gAdd.eq_4, gAdd.eq_5, gAdd.eq_6, gSub_.eq_1, gSub_.eq_2, gMul2_s, gMul2_i, gMul2_l, gMulS.eq_1, gMul.eq_1, gMul.eq_2, gFdiv.eq_1, gMod.eq_1, gPow.eq_1, gNeg.eq_1, gNeg.eq_2, gGe.eq_1, gGt.eq_1, gLe.eq_1, gLt.eq_1, gLt.eq_2, gEq.eq_1, gNe.eq_1, gNe.eq_2, gNe.eq_3, gNe.eq_4, gInW.eq_1, gInW.eq_2, gIs.eq_1, gIsNot.eq_1, gLen.eq_1, gLen.eq_2, gAllAny.eq_1, gAbs.eq_1, gInt.eq_1, gInt.eq_2, gStr.eq_1, gStr.eq_2, gStr.eq_3, gM2.eq_1, gListOf.eq_1, gListOf.eq_2, gTupOf.eq_1, gTupOf.eq_2, gSort, gSortS.eq_1, gSortD.eq_1, gSortSet.eq_1, gRepr.eq_1, gM2S.eq_1, gIsB.eq_1, tCompN, tCompD, tCompI, tCompDI, tComp2, gIx.eq_1, gIx.eq_2, ati0, ati1, ati2, Option.some.injEq, exists_eq, exists_eq', false_implies, Opd.slot.injEq, forall_eq, forall_eq', Opd.get.eq_1, Opd.get.eq_2, at_join, join_some, O.frz.eq_1, O.frz.eq_2, frz_dct, O.frz.eq_4, lsO.eq_1, lsO.eq_2, tuO.eq_1, seqO_l, seqO_p, seqO_t, endsOf, outsOf, startA, wipeA, List.getElem?_cons_zero, List.getElem?_cons_succ, List.length_cons, List.length_nil, List.map_cons, List.map_nil, List.set_cons_zero, List.set_cons_succ, List.replicate_succ, List.replicate_zero, List.cons_append, List.nil_append, List.getD_cons_zero, List.getD_cons_succ, if_true, if_false, Bool.false_eq_true, reduceIte, reduceCtorEq, Bool.not_true, Bool.not_false, implies_true, true_and, and_true, Nat.sub_self, Nat.reduceAdd, Nat.reduceSub, Nat.zero_add, List.all_cons, List.all_nil, Bool.and_true, Bool.true_and]
          exact ⟨by omega, nxt _ _⟩
      · have nd : nodesOf us far s = (rngItems 1 (far - 1).toNat).map (nodeT s) := by unfold nodesOf; rw [if_neg e]; rfl
        rw [nd] at nxt
        refine compW_map (nodeT s) _ _ (fun t m Q' acc ts' k => ?_) ?_
        · obtain ⟨i, _, rfl⟩ := rng_mem m
          rw [compW]
          simp only [sSeq, sNext, sRet, sRetN, sDrop, sIf, sSet, sFor, sPar, sAsg, bAnd, bOr, bNot, tTst, tCst, tBin, tUny, tNilA, tConsA, getAll, tCallB, tCallF, tTupD, tLstD, tChainA, tChainE, tRg, rgK.eq_1, tStripX, strip1K.eq_1, strip2K.eq_1, tAndE, tOrE, tNotE, tIfE, tComp, bYes, tDct0, tRange.eq_1, tgName, tgTup.eq_1, tgCons.eq_1, tgNil.eq_1, takeAll, back.eq_1, back.eq_2, back_nil, setO, tName_k, nameK.eq_1, nameK.eq_2, nameK.eq_3, nameK.eq_4, atK.eq_1, take1_v, take1_s, takeO_v, takeO_s, takeR_v, takeR_s, prep_n, prep_tv, prep_ts, prep_f, lstK.eq_1, lstAt_k, g2K.eq_1, g2_k, g1K.eq_1, g1_k, gNK.eq_1, gN_k, boK.eq_1, bOf_k, isiK.eq_1, tIsi_k, partK.eq_1, part_n, part_s, slcK.eq_1, slcK.eq_2, slcK.eq_3, slcK.eq_4, tSlc_k, revK.eq_1, revK.eq_2, revK.eq_3, tRev_k, strMK.eq_1, tStrM_k, itK.eq_1, tIter_k, enumK.eq_1, tEnum_k, zipK.eq_1, zipK.eq_2, tZip_k, intsK.eq_1, intsK.eq_2, intsOf_k, endK.eq_1, endO_k, extK.eq_1, tExtend_k, tAppend_k, setIxK.eq_1, sSetIx_k, popAtK.eq_1, tPopAt_k, bO.eq_1, itemsOf.eq_1, itemsOf.eq_2, itemsOf.eq_3, gAdd.eq_1, gAdd.eq_2, gAdd.eq_3, gAdd.eq_4, gAdd.eq_5, gAdd.eq_6, gSub_.eq_1, gSub_.eq_2, gMul2_s, gMul2_i, gMul2_l, gMulS.eq_1, gMul.eq_1, gMul.eq_2, gFdiv.eq_1, gMod.eq_1, gPow.eq_1, gNeg.eq_1, gNeg.eq_2, gGe.eq_1, gGt.eq_1, gLe.eq_1, gLt.eq_1, gLt.eq_2, gEq.eq_1, gNe.eq_1, gNe.eq_2, gNe.eq_3, gNe.eq_4, gInW.eq_1, gInW.eq_2, gIs.eq_1, gIsNot.eq_1, gLen.eq_1, gLen.eq_2, gAllAny.eq_1, gAbs.eq_1, gInt.eq_1, gInt.eq_2, gStr.eq_1, gStr.eq_2, gStr.eq_3, gM2.eq_1, gListOf.eq_1, gListOf.eq_2, gTupOf.eq_1, gTupOf.eq_2, gSort, gSortS.eq_1, gSortD.eq_1, gSortSet.eq_1, gRepr.eq_1, gM2S.eq_1, gIsB.eq_1, tCompN, tCompD, tCompI, tCompDI, tComp2, gIx.eq_1, gIx.eq_2, ati0, ati1, ati2, Option.some.injEq, exists_eq, exists_eq', false_implies, Opd.slot.injEq, forall_eq, forall_eq', Opd.get.eq_1, Opd.get.eq_2, at_join, join_some, O.frz.eq_1, O.frz.eq_2, frz_dct, O.frz.eq_4, lsO.eq_1, lsO.eq_2, tuO.eq_1, seqO_l, seqO_p, seqO_t, endsOf, outsOf, startA, wipeA, List.getElem?_cons_zero, List.getElem?_cons_succ, List.length_cons, List.length_nil, List.map_cons, List.map_nil, List.set_cons_zero, List.set_cons_succ, List.replicate_succ, List.replicate_zero, List.cons_append, List.nil_append, List.getD_cons_zero, List.getD_cons_succ, if_true, if_false, Bool.false_eq_true, reduceIte, reduceCtorEq, Bool.not_true, Bool.not_false, implies_true, true_and, and_true, Nat.sub_self, Nat.reduceAdd, Nat.reduceSub, Nat.zero_add, List.all_cons, List.all_nil, Bool.and_true, Bool.true_and]
          refine ⟨rfl, gIxD_ok (by first | rfl | exact dcX_dctT _) rfl (tab_look hs) ⟨f1, f2, f3, ?_⟩⟩
          show if (!PyData.eqv (.list (srt (adjL us s))) (.list [])) = true then _ else _
          rw [f4, if_pos (by simp [e])]
          exact k
        · simp only [sSeq, sNext, sRet, sRetN, sDrop, sIf, sSet, sFor, sPar, sAsg, bAnd, bOr, bNot, tTst, tCst, tBin, tUny, tNilA, tConsA, getAll, tCallB, tCallF, tTupD, tLstD, tChainA, tChainE, tRg, rgK.eq_1, tStripX, strip1K.eq_1, strip2K.eq_1, tAndE, tOrE, tNotE, tIfE, tComp, bYes, tDct0, tRange.eq_1, tgName, tgTup.eq_1, tgCons.eq_1, tgNil.eq_1, takeAll, back.eq_1, back.eq_2, back_nil, setO, tName_k, nameK.eq_1, nameK.eq_2, nameK.eq_3, nameK.eq_4, atK.eq_1, take1_v, take1_s, takeO_v, takeO_s, takeR_v, takeR_s, prep_n, prep_tv, prep_ts, prep_f, lstK.eq_1, lstAt_k, g2K.eq_1, g2_k, g1K.eq_1, g1_k, gNK.eq_1, gN_k, boK.eq_1, bOf_k, isiK.eq_1, tIsi_k, partK.eq_1, part_n, part_s, slcK.eq_1, slcK.eq_2, slcK.eq_3, slcK.eq_4, tSlc_k, revK.eq_1, revK.eq_2, revK.eq_3, tRev_k, strMK.eq_1, tStrM_k, itK.eq_1, tIter_k, enumK.eq_1, tEnum_k, zipK.eq_1, zipK.eq_2, tZip_k, intsK.eq_1, intsK.eq_2, intsOf_k, endK.eq_1, endO_k, extK.eq_1, tExtend_k, tAppend_k, setIxK.eq_1, sSetIx_k, popAtK.eq_1, tPopAt_k, bO.eq_1, itemsOf.eq_1, itemsOf.eq_2, itemsOf.eq_3, gAdd.eq_1, gAdd.eq_2, gAdd.eq_3, gAdd.eq_4, gAdd.eq_5, gAdd.eq_6, gSub_.eq_1, gSub_.eq_2, gMul2_s, gMul2_i, gMul2_l, gMulS.eq_1, gMul.eq_1, gMul.eq_2, gFdiv.eq_1, gMod.eq_1, gPow.eq_1, gNeg.eq_1, gNeg.eq_2, gGe.eq_1, gGt.eq_1, gLe.eq_1, gLt.eq_1, gLt.eq_2, gEq.eq_1, gNe.eq_1, gNe.eq_2, gNe.eq_3, gNe.eq_4, gInW.eq_1, gInW.eq_2, gIs.eq_1, gIsNot.eq_1, gLen.eq_1, gLen.eq_2, gAllAny.eq_1, gAbs.eq_1, gInt.eq_1, gInt.eq_2, gStr.eq_1, gStr.eq_2, gStr.eq_3, gM2.eq_1, gListOf.eq_1, gListOf.eq_2, gTupOf.eq_1, gTupOf.eq_2, gSort, gSortS.eq_1, gSortD.eq_1, gSortSet.eq_1, gRepr.eq_1, gM2S.eq_1, gIsB.eq_1, tCompN, tCompD, tCompI, tCompDI, tComp2, gIx.eq_1, gIx.eq_2, ati0, ati1, ati2, Option.some.injEq, exists_eq, exists_eq', false_implies, Opd.slot.injEq, forall_eq, forall_eq', Opd.get.eq_1, Opd.get.eq_2, at_join, join_some, O.frz.eq_1, O.frz.eq_2, frz_dct, O.frz.eq_4, lsO.eq_1, lsO.eq_2, tuO.eq_1, seqO_l, seqO_p, seqO_t, endsOf, outsOf, startA, wipeA, List.getElem?_cons_zero, List.getElem?_cons_succ, List.length_cons, List.length_nil, List.map_cons, List.map_nil, List.set_cons_zero, List.set_cons_succ, List.replicate_succ, List.replicate_zero, List.cons_append, List.nil_append, List.getD_cons_zero, List.getD_cons_succ, if_true, if_false, Bool.false_eq_true, reduceIte, reduceCtorEq, Bool.not_true, Bool.not_false, implies_true, true_and, and_true, Nat.sub_self, Nat.reduceAdd, Nat.reduceSub, Nat.zero_add, List.all_cons, List.all_nil, Bool.and_true, Bool.true_and]
          exact ⟨by rw [List.length_map]; omega, nxt _ _⟩
end WC

set_option Elab.async false
set_option linter.all false
set_option maxRecDepth 100000
set_option maxHeartbeats 4000000
namespace WC
open PySem PySem.Spec L2 DL WS
open PyProof.Rows hiding St
theorem nodes_mem {ys : List Str} {us : List (Str × Str)} {far : Int} (h : far ≤ 100) {t : T} (m : t ∈ nodesL ys us far) : ∃ s l, t = node s l ∧ s ∈ ys ∧ 1 ≤ l ∧ l ≤ 100 := by
  unfold nodesL at m
  obtain ⟨s, hs, m⟩ := List.mem_flatMap.mp m
  unfold nodesOf at m
  split at m
  · cases m
  · obtain ⟨u, hu, rfl⟩ := List.mem_map.mp m
    obtain ⟨i, hi, rfl⟩ := rng_mem hu
    exact ⟨s, i, rfl, hs, by omega, by omega⟩
theorem nodes_len {ys : List Str} {us : List (Str × Str)} {far : Int} (h : far ≤ 100) (hy : ys.length ≤ 12) : (nodesL ys us far).length ≤ 1200 := by
  have : ∀ l : List Str, (l.flatMap (nodesOf us far)).length ≤ 100 * l.length := fun l => by
    induction l with
    | nil => simp
    | cons a l ih =>
      rw [List.flatMap_cons, List.length_append, List.length_cons]
      have : (nodesOf us far a).length ≤ 100 := by
        unfold nodesOf
        split
        · simp
        · rw [List.length_map]; exact lvls_len h
      omega
  have := this ys
  unfold nodesL
  omega
theorem node_gd {ys : List Str} {us : List (Str × Str)} (net : NetOk ys us) {s : Str} {l : Int} (hs : s ∈ ys) (h1 : 1 ≤ l) (h2 : l ≤ 100) : Gd 11 1 100 (node s l) := by
  have hn := net.nm s hs
  have g1 : Gd 9 0 100 (.str s) := Gd.str (by omega) hn.2
  exact (Gd.tup (g1.one'.app (Gd.int (i := l) (by omega)).one')).mono (by omega) (by omega) (Nat.le_refl _)
theorem nodes_gd {ys : List Str} {us : List (Str × Str)} (net : NetOk ys us) {far : Int} (h : far ≤ 100) : Gds 13200 1 100 (nodesL ys us far) := gds_of (k := 11) (fun t m => by
  obtain ⟨s, l, rfl, hs, h1, h2⟩ := nodes_mem h m
  exact node_gd net hs h1 h2) (by have := nodes_len (us := us) h net.n2; omega)
theorem nodes_lay {ys : List Str} {us : List (Str × Str)} (net : NetOk ys us) {far : Int} (h : far ≤ 100) : PyData.canLay0 (.list (nodesL ys us far)) = true := by
  simp only [PyData.canLay0]
  refine lay_all fun t m => ?_
  obtain ⟨s, l, rfl, hs, h1, h2⟩ := nodes_mem h m
  simp only [node, PyData.canLay0, PyData.canLayAll0, Bool.and_true]
  exact canLay_asc (net.nm s hs).2
theorem eqv_nil (l : List T) : (!PyData.eqv (.list l) (.list [])) = !decide (l = []) := by
  congr 1
  cases l with
  | nil => simp [PyData.eqv, PyData.eqvAll]
  | cons a r => simp [PyData.eqv, PyData.eqvAll]
def pairOk (ys : List Str) (t : T) : Prop := ∃ s l s' l', t = .tuple [node s l, node s' l'] ∧ s ∈ ys ∧ s' ∈ ys ∧ (1 ≤ l ∧ l ≤ 100) ∧ (1 ≤ l' ∧ l' ≤ 100)
theorem right_b2 {ys : List Str} {us : List (Str × Str)} {far : Int} (hf : far ≤ 100) (hy : ys.length ≤ 12) {L P : List T} (hL : L = nodesL ys us far) {one : T} (h1 : one ∈ L) {o6 : O} (h6 : IsLst o6 L) (hP : ∀ t ∈ P, pairOk ys t) (hl : P.length ≤ 15000000) {x0 x1 x2 x3 x4 x5 x7 x10 x11 x12 : Option O} {D : AEnds}
    (nx : ∀ P' x12', (∀ t ∈ P', pairOk ys t) → P'.length ≤ P.length + 1200 → D.nx [x0, x1, x2, x3, x4, x5, some (.pure (.list L)), x7, some (.lst P'), some (.pure one), x10, x11, x12']) :
    t__law_right_b2 D [x0, x1, x2, x3, x4, x5, some o6, x7, some (.lst P), some (.pure one), x10, x11, x12] := by
  have ll : L.length ≤ 1200 := by rw [hL]; exact nodes_len hf hy
  unfold t__law_right_b2
  rcases h6 with rfl | rfl
  all_goals
    simp only [sSeq, sNext, sRet, sRetN, sDrop, sIf, sSet, sFor, sPar, sAsg, bAnd, bOr, bNot, tTst, tCst, tBin, tUny, tNilA, tConsA, getAll, tCallB, tCallF, tTupD, tLstD, tChainA, tChainE, tRg, rgK.eq_1, tStripX, strip1K.eq_1, strip2K.eq_1, tAndE, tOrE, tNotE, tIfE, tComp, bYes, tDct0, tRange.eq_1, tgName, tgTup.eq_1, tgCons.eq_1, tgNil.eq_1, takeAll, back.eq_1, back.eq_2, back_nil, setO, tName_k, nameK.eq_1, nameK.eq_2, nameK.eq_3, nameK.eq_4, atK.eq_1, take1_v, take1_s, takeO_v, takeO_s, takeR_v, takeR_s, prep_n, prep_tv, prep_ts, prep_f, lstK.eq_1, lstAt_k, g2K.eq_1, g2_k, g1K.eq_1, g1_k, gNK.eq_1, gN_k, boK.eq_1, bOf_k, isiK.eq_1, tIsi_k, partK.eq_1, part_n, part_s, slcK.eq_1, slcK.eq_2, slcK.eq_3, slcK.eq_4, tSlc_k, revK.eq_1, revK.eq_2, revK.eq_3, tRev_k, strMK.eq_1, tStrM_k, itK.eq_1, tIter_k, enumK.eq_1, tEnum_k, zipK.eq_1, zipK.eq_2, tZip_k, intsK.eq_1, intsK.eq_2, intsOf_k, endK.eq_1, endO_k, extK.eq_1, tExtend_k, tAppend_k, setIxK.eq_1, sSetIx_k, popAtK.eq_1, tPopAt_k, bO.eq_1, itemsOf.eq_1, itemsOf.eq_2, itemsOf.eq_3, gAdd.eq_1, gAdd.eq_2, gAdd.eq_3, gAdd.eq_4, gAdd.eq_5, gAdd.eq_6, gSub_.eq_1, gSub_.eq_2, gMul2_s, gMul2_i, gMul2_l, gMulS.eq_1, gMul.eq_1, gMul.eq_2, gFdiv.eq_1, gMod.eq_1, gPow.eq_1, gNeg.eq_1, gNeg.eq_2, gGe.eq_1, gGt.eq_1, gLe.eq_1, gLt.eq_1, gLt.eq_2, gEq.eq_1, gNe.eq_1, gNe.eq_2, gNe.eq_3, gNe.eq_4, gInW.eq_1, gInW.eq_2, gIs.eq_1, gIsNot.eq_1, gLen.eq_1, gLen.eq_2, gAllAny.eq_1, gAbs.eq_1, gInt.eq_1, gInt.eq_2, gStr.eq_1, gStr.eq_2, gStr.eq_3, gM2.eq_1, gListOf.eq_1, gListOf.eq_2, gTupOf.eq_1, gTupOf.eq_2, gSort, gSortS.eq_1, gSortD.eq_1, gSortSet.eq_1, gRepr.eq_1, gM2S.eq_1, gIsB.eq_1, tCompN, tCompD, tCompI, tCompDI, tComp2, gIx.eq_1, gIx.eq_2, ati0, ati1, ati2, Option.some.injEq, exists_eq, exists_eq', false_implies, Opd.slot.injEq, forall_eq, forall_eq', Opd.get.eq_1, Opd.get.eq_2, at_join, join_some, O.frz.eq_1, O.frz.eq_2, frz_dct, O.frz.eq_4, lsO.eq_1, lsO.eq_2, tuO.eq_1, seqO_l, seqO_p, seqO_t, endsOf, outsOf, startA, wipeA, List.getElem?_cons_zero, List.getElem?_cons_succ, List.length_cons, List.length_nil, List.map_cons, List.map_nil, List.set_cons_zero, List.set_cons_succ, List.replicate_succ, List.replicate_zero, List.cons_append, List.nil_append, List.getD_cons_zero, List.getD_cons_succ, if_true, if_false, Bool.false_eq_true, reduceIte, reduceCtorEq, Bool.not_true, Bool.not_false, implies_true, true_and, and_true, Nat.sub_self, Nat.reduceAdd, Nat.reduceSub, Nat.zero_add, List.all_cons, List.all_nil, Bool.and_true, Bool.true_and]
    refine compW_map (fun t => .tuple [one, t]) _ _ (fun t m Q' acc ts' k => ?_) ?_
    · rw [compW]
      simp only [sSeq, sNext, sRet, sRetN, sDrop, sIf, sSet, sFor, sPar, sAsg, bAnd, bOr, bNot, tTst, tCst, tBin, tUny, tNilA, tConsA, getAll, tCallB, tCallF, tTupD, tLstD, tChainA, tChainE, tRg, rgK.eq_1, tStripX, strip1K.eq_1, strip2K.eq_1, tAndE, tOrE, tNotE, tIfE, tComp, bYes, tDct0, tRange.eq_1, tgName, tgTup.eq_1, tgCons.eq_1, tgNil.eq_1, takeAll, back.eq_1, back.eq_2, back_nil, setO, tName_k, nameK.eq_1, nameK.eq_2, nameK.eq_3, nameK.eq_4, atK.eq_1, take1_v, take1_s, takeO_v, takeO_s, takeR_v, takeR_s, prep_n, prep_tv, prep_ts, prep_f, lstK.eq_1, lstAt_k, g2K.eq_1, g2_k, g1K.eq_1, g1_k, gNK.eq_1, gN_k, boK.eq_1, bOf_k, isiK.eq_1, tIsi_k, partK.eq_1, part_n, part_s, slcK.eq_1, slcK.eq_2, slcK.eq_3, slcK.eq_4, tSlc_k, revK.eq_1, revK.eq_2, revK.eq_3, tRev_k, strMK.eq_1, tStrM_k, itK.eq_1, tIter_k, enumK.eq_1, tEnum_k, zipK.eq_1, zipK.eq_2, tZip_k, intsK.eq_1, intsK.eq_2, intsOf_k, endK.eq_1, endO_k, extK.eq_1, tExtend_k, tAppend_k, setIxK.eq_1, sSetIx_k, popAtK.eq_1, tPopAt_k, bO.eq_1, itemsOf.eq_1, itemsOf.eq_2, itemsOf.eq_3, gAdd.eq_1, gAdd.eq_2, gAdd.eq_3, gAdd.eq_4, gAdd.eq_5, gAdd.eq_6, gSub_.eq_1, gSub_.eq_2, gMul2_s, gMul2_i, gMul2_l, gMulS.eq_1, gMul.eq_1, gMul.eq_2, gFdiv.eq_1, gMod.eq_1, gPow.eq_1, gNeg.eq_1, gNeg.eq_2, gGe.eq_1, gGt.eq_1, gLe.eq_1, gLt.eq_1, gLt.eq_2, gEq.eq_1, gNe.eq_1, gNe.eq_2, gNe.eq_3, gNe.eq_4, gInW.eq_1, gInW.eq_2, gIs.eq_1, gIsNot.eq_1, gLen.eq_1, gLen.eq_2, gAllAny.eq_1, gAbs.eq_1, gInt.eq_1, gInt.eq_2, gStr.eq_1, gStr.eq_2, gStr.eq_3, gM2.eq_1, gListOf.eq_1, gListOf.eq_2, gTupOf.eq_1, gTupOf.eq_2, gSort, gSortS.eq_1, gSortD.eq_1, gSortSet.eq_1, gRepr.eq_1, gM2S.eq_1, gIsB.eq_1, tCompN, tCompD, tCompI, tCompDI, tComp2, gIx.eq_1, gIx.eq_2, ati0, ati1, ati2, Option.some.injEq, exists_eq, exists_eq', false_implies, Opd.slot.injEq, forall_eq, forall_eq', Opd.get.eq_1, Opd.get.eq_2, at_join, join_some, O.frz.eq_1, O.frz.eq_2, frz_dct, O.frz.eq_4, lsO.eq_1, lsO.eq_2, tuO.eq_1, seqO_l, seqO_p, seqO_t, endsOf, outsOf, startA, wipeA, List.getElem?_cons_zero, List.getElem?_cons_succ, List.length_cons, List.length_nil, List.map_cons, List.map_nil, List.set_cons_zero, List.set_cons_succ, List.replicate_succ, List.replicate_zero, List.cons_append, List.nil_append, List.getD_cons_zero, List.getD_cons_succ, if_true, if_false, Bool.false_eq_true, reduceIte, reduceCtorEq, Bool.not_true, Bool.not_false, implies_true, true_and, and_true, Nat.sub_self, Nat.reduceAdd, Nat.reduceSub, Nat.zero_add, List.all_cons, List.all_nil, Bool.and_true, Bool.true_and]
      exact ⟨rfl, k⟩
    · simp only [sSeq, sNext, sRet, sRetN, sDrop, sIf, sSet, sFor, sPar, sAsg, bAnd, bOr, bNot, tTst, tCst, tBin, tUny, tNilA, tConsA, getAll, tCallB, tCallF, tTupD, tLstD, tChainA, tChainE, tRg, rgK.eq_1, tStripX, strip1K.eq_1, strip2K.eq_1, tAndE, tOrE, tNotE, tIfE, tComp, bYes, tDct0, tRange.eq_1, tgName, tgTup.eq_1, tgCons.eq_1, tgNil.eq_1, takeAll, back.eq_1, back.eq_2, back_nil, setO, tName_k, nameK.eq_1, nameK.eq_2, nameK.eq_3, nameK.eq_4, atK.eq_1, take1_v, take1_s, takeO_v, takeO_s, takeR_v, takeR_s, prep_n, prep_tv, prep_ts, prep_f, lstK.eq_1, lstAt_k, g2K.eq_1, g2_k, g1K.eq_1, g1_k, gNK.eq_1, gN_k, boK.eq_1, bOf_k, isiK.eq_1, tIsi_k, partK.eq_1, part_n, part_s, slcK.eq_1, slcK.eq_2, slcK.eq_3, slcK.eq_4, tSlc_k, revK.eq_1, revK.eq_2, revK.eq_3, tRev_k, strMK.eq_1, tStrM_k, itK.eq_1, tIter_k, enumK.eq_1, tEnum_k, zipK.eq_1, zipK.eq_2, tZip_k, intsK.eq_1, intsK.eq_2, intsOf_k, endK.eq_1, endO_k, extK.eq_1, tExtend_k, tAppend_k, setIxK.eq_1, sSetIx_k, popAtK.eq_1, tPopAt_k, bO.eq_1, itemsOf.eq_1, itemsOf.eq_2, itemsOf.eq_3, gAdd.eq_1, gAdd.eq_2, gAdd.eq_3, gAdd.eq_4, gAdd.eq_5, gAdd.eq_6, gSub_.eq_1, gSub_.eq_2, gMul2_s, gMul2_i, gMul2_l, gMulS.eq_1, gMul.eq_1, gMul.eq_2, gFdiv.eq_1, gMod.eq_1, gPow.eq_1, gNeg.eq_1, gNeg.eq_2, gGe.eq_1, gGt.eq_1, gLe.eq_1, gLt.eq_1, gLt.eq_2, gEq.eq_1, gNe.eq_1, gNe.eq_2, gNe.eq_3, gNe.eq_4, gInW.eq_1, gInW.eq_2, gIs.eq_1, gIsNot.eq_1, gLen.eq_1, gLen.eq_2, gAllAny.eq_1, gAbs.eq_1, gInt.eq_1, gInt.eq_2, gStr.eq_1, gStr.eq_2, gStr.eq_3, gM2.eq_1, gListOf.eq_1, gListOf.eq_2, gTupOf.eq_1, gTupOf.eq_2, gSort, gSortS.eq_1, gSortD.eq_1, gSortSet.eq_1, gRepr.eq_1, gM2S.eq_1, gIsB.eq_1, tCompN, tCompD, tCompI, tCompDI, tComp2, gIx.eq_1, gIx.eq_2, ati0, ati1, ati2, Option.some.injEq, exists_eq, exists_eq', false_implies, Opd.slot.injEq, forall_eq, forall_eq', Opd.get.eq_1, Opd.get.eq_2, at_join, join_some, O.frz.eq_1, O.frz.eq_2, frz_dct, O.frz.eq_4, lsO.eq_1, lsO.eq_2, tuO.eq_1, seqO_l, seqO_p, seqO_t, endsOf, outsOf, startA, wipeA, List.getElem?_cons_zero, List.getElem?_cons_succ, List.length_cons, List.length_nil, List.map_cons, List.map_nil, List.set_cons_zero, List.set_cons_succ, List.replicate_succ, List.replicate_zero, List.cons_append, List.nil_append, List.getD_cons_zero, List.getD_cons_succ, if_true, if_false, Bool.false_eq_true, reduceIte, reduceCtorEq, Bool.not_true, Bool.not_false, implies_true, true_and, and_true, Nat.sub_self, Nat.reduceAdd, Nat.reduceSub, Nat.zero_add, List.all_cons, List.all_nil, Bool.and_true, Bool.true_and]
      refine ⟨by rw [List.length_map]; omega, nx _ _ (fun t m => ?_) (by rw [List.length_append, List.length_map]; omega)⟩
      rcases List.mem_append.mp m with m | m
      · exact hP t m
      · obtain ⟨u, hu, rfl⟩ := List.mem_map.mp m
        rw [hL] at h1 hu
        obtain ⟨s, l, rfl, a1, a2, a3⟩ := nodes_mem hf h1
        obtain ⟨s', l', rfl, b1, b2, b3⟩ := nodes_mem hf hu
        exact ⟨s, l, s', l', rfl, a1, b1, ⟨a2, a3⟩, b2, b3⟩
/-- all pairs are right -/
theorem right_all {ys : List Str} {us : List (Str × Str)} (net : NetOk ys us) {P : List T} (hP : ∀ t ∈ P, pairOk ys t) {o3 : O} (h3 : IsTab o3 (tabL ys us)) {x0 x1 x4 x5 x6 x7 x8 x10 x11 : Option O} {Q : List T → AEnv → Prop}
    (nx : ∀ acc o3', IsTab o3' (tabL ys us) → (∀ t ∈ acc, t = PyData.bool true) → Q acc [x0, x1, some (.pure (netO ys us)), some o3', x4, x5, x6, x7, x8, none, x10, x11, none]) :
    compW (tgTup 2 (tgCons (tgName 9) (tgCons (tgName 12) tgNil))) bYes (tCallF [false, false, false, false] sp__law_pair_right (tConsA (tName 3) (tConsA (tName 2) (tConsA (tName 9) (tConsA (tName 12) tNilA))))) [9, 12] P [] [x0, x1, some (.pure (netO ys us)), some o3, x4, x5, x6, x7, x8, none, x10, x11, none] Q := by
  refine compW_inv (fun i acc ρ => ∃ o3', IsTab o3' (tabL ys us) ∧ (∀ t ∈ acc, t = PyData.bool true) ∧ ρ = [x0, x1, some (.pure (netO ys us)), some o3', x4, x5, x6, x7, x8, none, x10, x11, none]) P.length _ 0 _ _ (by omega) (fun i t acc ρ ts' Q' m hik hi nx => ?_) ⟨o3, h3, by simp, rfl⟩ fun acc ρ hi => ?_
  · obtain ⟨o3', h3', ha, rfl⟩ := hi
    obtain ⟨s, l, s', l', rfl, a1, a2, a3, a4⟩ := hP t m
    rw [compW]
    rcases h3' with rfl | rfl
    all_goals
      simp only [sSeq, sNext, sRet, sRetN, sDrop, sIf, sSet, sFor, sPar, sAsg, bAnd, bOr, bNot, tTst, tCst, tBin, tUny, tNilA, tConsA, getAll, tCallB, tCallF, tTupD, tLstD, tChainA, tChainE, tRg, rgK.eq_1, tStripX, strip1K.eq_1, strip2K.eq_1, tAndE, tOrE, tNotE, tIfE, tComp, bYes, tDct0, tRange.eq_1, tgName, tgTup.eq_1, tgCons.eq_1, tgNil.eq_1, takeAll, back.eq_1, back.eq_2, back_nil, setO, tName_k, nameK.eq_1, nameK.eq_2, nameK.eq_3, nameK.eq_4, atK.eq_1, take1_v, take1_s, takeO_v, takeO_s, takeR_v, takeR_s, prep_n, prep_tv, prep_ts, prep_f, lstK.eq_1, lstAt_k, g2K.eq_1, g2_k, g1K.eq_1, g1_k, gNK.eq_1, gN_k, boK.eq_1, bOf_k, isiK.eq_1, tIsi_k, partK.eq_1, part_n, part_s, slcK.eq_1, slcK.eq_2, slcK.eq_3, slcK.eq_4, tSlc_k, revK.eq_1, revK.eq_2, revK.eq_3, tRev_k, strMK.eq_1, tStrM_k, itK.eq_1, tIter_k, enumK.eq_1, tEnum_k, zipK.eq_1, zipK.eq_2, tZip_k, intsK.eq_1, intsK.eq_2, intsOf_k, endK.eq_1, endO_k, extK.eq_1, tExtend_k, tAppend_k, setIxK.eq_1, sSetIx_k, popAtK.eq_1, tPopAt_k, bO.eq_1, itemsOf.eq_1, itemsOf.eq_2, itemsOf.eq_3, gAdd.eq_1, gAdd.eq_2, gAdd.eq_3, gAdd.eq_4, gAdd.eq_5, gAdd.eq_6, gSub_.eq_1, gSub_.eq_2, gMul2_s, gMul2_i, gMul2_l, gMulS.eq_1, gMul.eq_1, gMul.eq_2, gFdiv.eq_1, gMod.eq_1, gPow.eq_1, gNeg.eq_1, gNeg.eq_2, gGe.eq_1, gGt.eq_1, gLe.eq_1, gLt.eq_1, gLt.eq_2, gEq.eq_1, gNe.eq_1, gNe.eq_2, gNe.eq_3, gNe.eq_4, gInW.eq_1, gInW.eq_2, gIs.eq_1, gIsNot.eq_1, gLen.eq_1, gLen.eq_2, gAllAny.eq_1, gAbs.eq_1, gInt.eq_1, gInt.eq_2, gStr.eq_1, gStr.eq_2, gStr.eq_3, gM2.eq_1, gListOf.eq_1, gListOf.eq_2, gTupOf.eq_1, gTupOf.eq_2, gSort, gSortS.eq_1, gSortD.eq_1, gSortSet.eq_1, gRepr.eq_1, gM2S.eq_1, gIsB.eq_1, tCompN, tCompD, tCompI, tCompDI, tComp2, gIx.eq_1, gIx.eq_2, ati0, ati1, ati2, Option.some.injEq, exists_eq, exists_eq', false_implies, Opd.slot.injEq, forall_eq, forall_eq', Opd.get.eq_1, Opd.get.eq_2, at_join, join_some, O.frz.eq_1, O.frz.eq_2, frz_dct, O.frz.eq_4, lsO.eq_1, lsO.eq_2, tuO.eq_1, seqO_l, seqO_p, seqO_t, endsOf, outsOf, startA, wipeA, List.getElem?_cons_zero, List.getElem?_cons_succ, List.length_cons, List.length_nil, List.map_cons, List.map_nil, List.set_cons_zero, List.set_cons_succ, List.replicate_succ, List.replicate_zero, List.cons_append, List.nil_append, List.getD_cons_zero, List.getD_cons_succ, if_true, if_false, Bool.false_eq_true, reduceIte, reduceCtorEq, Bool.not_true, Bool.not_false, implies_true, true_and, and_true, Nat.sub_self, Nat.reduceAdd, Nat.reduceSub, Nat.zero_add, List.all_cons, List.all_nil, Bool.and_true, Bool.true_and]
      refine ⟨rfl, rfl, ys, us, s, l, s', l', rfl, net, a1, a2, ⟨by omega, by omega⟩, ⟨by omega, by omega⟩, ?_⟩
      simp only [sSeq, sNext, sRet, sRetN, sDrop, sIf, sSet, sFor, sPar, sAsg, bAnd, bOr, bNot, tTst, tCst, tBin, tUny, tNilA, tConsA, getAll, tCallB, tCallF, tTupD, tLstD, tChainA, tChainE, tRg, rgK.eq_1, tStripX, strip1K.eq_1, strip2K.eq_1, tAndE, tOrE, tNotE, tIfE, tComp, bYes, tDct0, tRange.eq_1, tgName, tgTup.eq_1, tgCons.eq_1, tgNil.eq_1, takeAll, back.eq_1, back.eq_2, back_nil, setO, tName_k, nameK.eq_1, nameK.eq_2, nameK.eq_3, nameK.eq_4, atK.eq_1, take1_v, take1_s, takeO_v, takeO_s, takeR_v, takeR_s, prep_n, prep_tv, prep_ts, prep_f, lstK.eq_1, lstAt_k, g2K.eq_1, g2_k, g1K.eq_1, g1_k, gNK.eq_1, gN_k, boK.eq_1, bOf_k, isiK.eq_1, tIsi_k, partK.eq_1, part_n, part_s, slcK.eq_1, slcK.eq_2, slcK.eq_3, slcK.eq_4, tSlc_k, revK.eq_1, revK.eq_2, revK.eq_3, tRev_k, strMK.eq_1, tStrM_k, itK.eq_1, tIter_k, enumK.eq_1, tEnum_k, zipK.eq_1, zipK.eq_2, tZip_k, intsK.eq_1, intsK.eq_2, intsOf_k, endK.eq_1, endO_k, extK.eq_1, tExtend_k, tAppend_k, setIxK.eq_1, sSetIx_k, popAtK.eq_1, tPopAt_k, bO.eq_1, itemsOf.eq_1, itemsOf.eq_2, itemsOf.eq_3, gAdd.eq_1, gAdd.eq_2, gAdd.eq_3, gAdd.eq_4, gAdd.eq_5, gAdd.eq_6, gSub_.eq_1, gSub_.eq_2, gMul2_s, gMul2_i, gMul2_l, gMulS.eq_1, gMul.eq_1, gMul.eq_2, gFdiv.eq_1, gMod.eq_1, gPow.eq_1, gNeg.eq_1, gNeg.eq_2, gGe.eq_1, gGt.eq_1, gLe.eq_1, gLt.eq_1, gLt.eq_2, gEq.eq_1, gNe.eq_1, gNe.eq_2, gNe.eq_3, gNe.eq_4, gInW.eq_1, gInW.eq_2, gIs.eq_1, gIsNot.eq_1, gLen.eq_1, gLen.eq_2, gAllAny.eq_1, gAbs.eq_1, gInt.eq_1, gInt.eq_2, gStr.eq_1, gStr.eq_2, gStr.eq_3, gM2.eq_1, gListOf.eq_1, gListOf.eq_2, gTupOf.eq_1, gTupOf.eq_2, gSort, gSortS.eq_1, gSortD.eq_1, gSortSet.eq_1, gRepr.eq_1, gM2S.eq_1, gIsB.eq_1, tCompN, tCompD, tCompI, tCompDI, tComp2, gIx.eq_1, gIx.eq_2, ati0, ati1, ati2, Option.some.injEq, exists_eq, exists_eq', false_implies, Opd.slot.injEq, forall_eq, forall_eq', Opd.get.eq_1, Opd.get.eq_2, at_join, join_some, O.frz.eq_1, O.frz.eq_2, frz_dct, O.frz.eq_4, lsO.eq_1, lsO.eq_2, tuO.eq_1, seqO_l, seqO_p, seqO_t, endsOf, outsOf, startA, wipeA, List.getElem?_cons_zero, List.getElem?_cons_succ, List.length_cons, List.length_nil, List.map_cons, List.map_nil, List.set_cons_zero, List.set_cons_succ, List.replicate_succ, List.replicate_zero, List.cons_append, List.nil_append, List.getD_cons_zero, List.getD_cons_succ, if_true, if_false, Bool.false_eq_true, reduceIte, reduceCtorEq, Bool.not_true, Bool.not_false, implies_true, true_and, and_true, Nat.sub_self, Nat.reduceAdd, Nat.reduceSub, Nat.zero_add, List.all_cons, List.all_nil, Bool.and_true, Bool.true_and]
      refine nx _ _ ⟨_, .inr rfl, fun t mt => ?_, rfl⟩
      rcases List.mem_append.mp mt with mt | mt
      · exact ha t mt
      · exact List.mem_singleton.mp mt
  · obtain ⟨o3', h3', ha, rfl⟩ := hi
    exact nx acc o3' h3' ha
end WC

set_option Elab.async false
set_option linter.all false
set_option maxRecDepth 100000
set_option maxHeartbeats 4000000
namespace WC
open PySem PySem.Spec L2 DL WS
open PyProof.Rows hiding St
/-- the second half of a turn of far -/
def fin3 : ST := (sIf (bNot (tTst (tCallB (gAllAny fun bs => bs.all id) (tConsA (tComp (tIter (tName 8)) (tgTup 2 (tgCons (tgName 9) (tgCons (tgName 12) tgNil))) bYes (tCallF [false, false, false, false] sp__law_pair_right (tConsA (tName 3) (tConsA (tName 2) (tConsA (tName 9) (tConsA (tName 12) tNilA))))) [9, 12]) tNilA)))) (sRet (fun j => [true].getD j false) (tCst (.bool false))) sNext)
theorem right_fin3 {ys : List Str} {us : List (Str × Str)} (net : NetOk ys us) {P : List T} (hP : ∀ t ∈ P, pairOk ys t) {o3 : O} (h3 : IsTab o3 (tabL ys us)) {x0 x1 x4 x5 x6 x7 x9 x10 x11 x12 : Option O} {D : AEnds}
    (nx : ∀ o3' x8', IsTab o3' (tabL ys us) → D.nx [x0, x1, some (.pure (netO ys us)), some o3', x4, x5, x6, x7, x8', none, x10, x11, none]) :
    fin3 D [x0, x1, some (.pure (netO ys us)), some o3, x4, x5, x6, x7, some (.lst P), x9, x10, x11, x12] := by
  unfold fin3
  simp only [sSeq, sNext, sRet, sRetN, sDrop, sIf, sSet, sFor, sPar, sAsg, bAnd, bOr, bNot, tTst, tCst, tBin, tUny, tNilA, tConsA, getAll, tCallB, tCallF, tTupD, tLstD, tChainA, tChainE, tRg, rgK.eq_1, tStripX, strip1K.eq_1, strip2K.eq_1, tAndE, tOrE, tNotE, tIfE, tComp, bYes, tDct0, tRange.eq_1, tgName, tgTup.eq_1, tgCons.eq_1, tgNil.eq_1, takeAll, back.eq_1, back.eq_2, back_nil, setO, tName_k, nameK.eq_1, nameK.eq_2, nameK.eq_3, nameK.eq_4, atK.eq_1, take1_v, take1_s, takeO_v, takeO_s, takeR_v, takeR_s, prep_n, prep_tv, prep_ts, prep_f, lstK.eq_1, lstAt_k, g2K.eq_1, g2_k, g1K.eq_1, g1_k, gNK.eq_1, gN_k, boK.eq_1, bOf_k, isiK.eq_1, tIsi_k, partK.eq_1, part_n, part_s, slcK.eq_1, slcK.eq_2, slcK.eq_3, slcK.eq_4, tSlc_k, revK.eq_1, revK.eq_2, revK.eq_3, tRev_k, strMK.eq_1, tStrM_k, itK.eq_1, tIter_k, enumK.eq_1, tEnum_k, zipK.eq_1, zipK.eq_2, tZip_k, intsK.eq_1, intsK.eq_2, intsOf_k, endK.eq_1, endO_k, extK.eq_1, tExtend_k, tAppend_k, setIxK.eq_1, sSetIx_k, popAtK.eq_1, tPopAt_k, bO.eq_1, itemsOf.eq_1, itemsOf.eq_2, itemsOf.eq_3, gAdd.eq_1, gAdd.eq_2, gAdd.eq_3, gAdd.eq_4, gAdd.eq_5, gAdd.eq_6, gSub_.eq_1, gSub_.eq_2, gMul2_s, gMul2_i, gMul2_l, gMulS.eq_1, gMul.eq_1, gMul.eq_2, gFdiv.eq_1, gMod.eq_1, gPow.eq_1, gNeg.eq_1, gNeg.eq_2, gGe.eq_1, gGt.eq_1, gLe.eq_1, gLt.eq_1, gLt.eq_2, gEq.eq_1, gNe.eq_1, gNe.eq_2, gNe.eq_3, gNe.eq_4, gInW.eq_1, gInW.eq_2, gIs.eq_1, gIsNot.eq_1, gLen.eq_1, gLen.eq_2, gAllAny.eq_1, gAbs.eq_1, gInt.eq_1, gInt.eq_2, gStr.eq_1, gStr.eq_2, gStr.eq_3, gM2.eq_1, gListOf.eq_1, gListOf.eq_2, gTupOf.eq_1, gTupOf.eq_2, gSort, gSortS.eq_1, gSortD.eq_1, gSortSet.eq_1, gRepr.eq_1, gM2S.eq_1, gIsB.eq_1, tCompN, tCompD, tCompI, tCompDI, tComp2, gIx.eq_1, gIx.eq_2, ati0, ati1, ati2, Option.some.injEq, exists_eq, exists_eq', false_implies, Opd.slot.injEq, forall_eq, forall_eq', Opd.get.eq_1, Opd.get.eq_2, at_join, join_some, O.frz.eq_1, O.frz.eq_2, frz_dct, O.frz.eq_4, lsO.eq_1, lsO.eq_2, tuO.eq_1, seqO_l, seqO_p, seqO_t, endsOf, outsOf, startA, wipeA, List.getElem?_cons_zero, List.getElem?_cons_succ, List.length_cons, List.length_nil, List.map_cons, List.map_nil, List.set_cons_zero, List.set_cons_succ, List.replicate_succ, List.replicate_zero, List.cons_append, List.nil_append, List.getD_cons_zero, List.getD_cons_succ, if_true, if_false, Bool.false_eq_true, reduceIte, reduceCtorEq, Bool.not_true, Bool.not_false, implies_true, true_and, and_true, Nat.sub_self, Nat.reduceAdd, Nat.reduceSub, Nat.zero_add, List.all_cons, List.all_nil, Bool.and_true, Bool.true_and]
  refine right_all net hP h3 fun acc o3' h3' ha => ?_
  have hb : boolsOf acc = some (acc.map fun _ => true) := by
    have e : acc = acc.map fun _ => PyData.bool true := by
      have := List.map_congr_left (f := fun t => t) (g := fun _ => PyData.bool true) (l := acc) fun t m => ha t m
      rw [List.map_id'] at this
      exact this
    have := boolsOf_map (fun _ => true) acc
    rw [← e] at this
    exact this
  simp only [sSeq, sNext, sRet, sRetN, sDrop, sIf, sSet, sFor, sPar, sAsg, bAnd, bOr, bNot, tTst, tCst, tBin, tUny, tNilA, tConsA, getAll, tCallB, tCallF, tTupD, tLstD, tChainA, tChainE, tRg, rgK.eq_1, tStripX, strip1K.eq_1, strip2K.eq_1, tAndE, tOrE, tNotE, tIfE, tComp, bYes, tDct0, tRange.eq_1, tgName, tgTup.eq_1, tgCons.eq_1, tgNil.eq_1, takeAll, back.eq_1, back.eq_2, back_nil, setO, tName_k, nameK.eq_1, nameK.eq_2, nameK.eq_3, nameK.eq_4, atK.eq_1, take1_v, take1_s, takeO_v, takeO_s, takeR_v, takeR_s, prep_n, prep_tv, prep_ts, prep_f, lstK.eq_1, lstAt_k, g2K.eq_1, g2_k, g1K.eq_1, g1_k, gNK.eq_1, gN_k, boK.eq_1, bOf_k, isiK.eq_1, tIsi_k, partK.eq_1, part_n, part_s, slcK.eq_1, slcK.eq_2, slcK.eq_3, slcK.eq_4, tSlc_k, revK.eq_1, revK.eq_2, revK.eq_3, tRev_k, strMK.eq_1, tStrM_k, itK.eq_1, tIter_k, enumK.eq_1, tEnum_k, zipK.eq_1, zipK.eq_2, tZip_k, intsK.eq_1, intsK.eq_2, intsOf_k, endK.eq_1, endO_k, extK.eq_1, tExtend_k, tAppend_k, setIxK.eq_1, sSetIx_k, popAtK.eq_1, tPopAt_k, bO.eq_1, itemsOf.eq_1, itemsOf.eq_2, itemsOf.eq_3, gAdd.eq_1, gAdd.eq_2, gAdd.eq_3, gAdd.eq_4, gAdd.eq_5, gAdd.eq_6, gSub_.eq_1, gSub_.eq_2, gMul2_s, gMul2_i, gMul2_l, gMulS.eq_1, gMul.eq_1, gMul.eq_2, gFdiv.eq_1, gMod.eq_1, gPow.eq_1, gNeg.eq_1, gNeg.eq_2, gGe.eq_1, gGt.eq_1, gLe.eq_1, gLt.eq_1, gLt.eq_2, gEq.eq_1, gNe.eq_1, gNe.eq_2, gNe.eq_3, gNe.eq_4, gInW.eq_1, gInW.eq_2, gIs.eq_1, gIsNot.eq_1, gLen.eq_1, gLen.eq_2, gAllAny.eq_1, gAbs.eq_1, gInt.eq_1, gInt.eq_2, gStr.eq_1, gStr.eq_2, gStr.eq_3, gM2.eq_1, gListOf.eq_1, gListOf.eq_2, gTupOf.eq_1, gTupOf.eq_2, gSort, gSortS.eq_1, gSortD.eq_1, gSortSet.eq_1, gRepr.eq_1, gM2S.eq_1, gIsB.eq_1, tCompN, tCompD, tCompI, tCompDI, tComp2, gIx.eq_1, gIx.eq_2, ati0, ati1, ati2, Option.some.injEq, exists_eq, exists_eq', false_implies, Opd.slot.injEq, forall_eq, forall_eq', Opd.get.eq_1, Opd.get.eq_2, at_join, join_some, O.frz.eq_1, O.frz.eq_2, frz_dct, O.frz.eq_4, lsO.eq_1, lsO.eq_2, tuO.eq_1, seqO_l, seqO_p, seqO_t, endsOf, outsOf, startA, wipeA, List.getElem?_cons_zero, List.getElem?_cons_succ, List.length_cons, List.length_nil, List.map_cons, List.map_nil, List.set_cons_zero, List.set_cons_succ, List.replicate_succ, List.replicate_zero, List.cons_append, List.nil_append, List.getD_cons_zero, List.getD_cons_succ, if_true, if_false, Bool.false_eq_true, reduceIte, reduceCtorEq, Bool.not_true, Bool.not_false, implies_true, true_and, and_true, Nat.sub_self, Nat.reduceAdd, Nat.reduceSub, Nat.zero_add, List.all_cons, List.all_nil, Bool.and_true, Bool.true_and, hb]
  rw [if_neg (by simp)]
  exact nx _ _ h3'
def mid3 : ST := (sIf (bOr (tTst (tBin gEq (tName 5) (tCst (.int 2)))) (tTst (tBin gEq (tName 5) (tCst (.int 3))))) (sFor (tIter (tSlc (tName 6) none (some (tCst (.int 8))))) (tgName 9) t__law_right_b2) sNext)
theorem right_for {ys : List Str} {us : List (Str × Str)} {far : Int} (hf : far ≤ 100) (hy : ys.length ≤ 12) {L P : List T} (hL : L = nodesL ys us far) {o6 : O} (h6 : IsLst o6 L) (hP : ∀ t ∈ P, pairOk ys t) (hl : P.length ≤ 12) {x0 x1 x2 x3 x4 x5 x7 x9 x10 x11 x12 : Option O} {D : AEnds} {cs : List T} (hc : ∀ t ∈ cs, t ∈ L) (hcl : cs.length ≤ 1200)
    (nx : ∀ P' o6' x9' x12', (∀ t ∈ P', pairOk ys t) → D.nx [x0, x1, x2, x3, x4, x5, some o6', x7, some (.lst P'), x9', x10, x11, x12']) :
    forW (tgName 9) t__law_right_b2 D cs [x0, x1, x2, x3, x4, x5, some o6, x7, some (.lst P), x9, x10, x11, x12] := by
  refine forW_inv (fun c ρ => ∃ P o6 x9 x12, (∀ t ∈ P, pairOk ys t) ∧ P.length ≤ 12 + 1200 * c ∧ IsLst o6 L ∧ ρ = [x0, x1, x2, x3, x4, x5, some o6, x7, some (.lst P), x9, x10, x11, x12]) cs.length _ 0 _ (by omega) (fun c t ρ D' mt hc2 hinv n1 _ _ _ => ?_) ⟨P, o6, x9, x12, hP, by omega, h6, rfl⟩ fun ρ hinv => ?_
  · obtain ⟨P, o6, x9, x12, hP, hl, h6, rfl⟩ := hinv
    simp only [sSeq, sNext, sRet, sRetN, sDrop, sIf, sSet, sFor, sPar, sAsg, bAnd, bOr, bNot, tTst, tCst, tBin, tUny, tNilA, tConsA, getAll, tCallB, tCallF, tTupD, tLstD, tChainA, tChainE, tRg, rgK.eq_1, tStripX, strip1K.eq_1, strip2K.eq_1, tAndE, tOrE, tNotE, tIfE, tComp, bYes, tDct0, tRange.eq_1, tgName, tgTup.eq_1, tgCons.eq_1, tgNil.eq_1, takeAll, back.eq_1, back.eq_2, back_nil, setO, tName_k, nameK.eq_1, nameK.eq_2, nameK.eq_3, nameK.eq_4, atK.eq_1, take1_v, take1_s, takeO_v, takeO_s, takeR_v, takeR_s, prep_n, prep_tv, prep_ts, prep_f, lstK.eq_1, lstAt_k, g2K.eq_1, g2_k, g1K.eq_1, g1_k, gNK.eq_1, gN_k, boK.eq_1, bOf_k, isiK.eq_1, tIsi_k, partK.eq_1, part_n, part_s, slcK.eq_1, slcK.eq_2, slcK.eq_3, slcK.eq_4, tSlc_k, revK.eq_1, revK.eq_2, revK.eq_3, tRev_k, strMK.eq_1, tStrM_k, itK.eq_1, tIter_k, enumK.eq_1, tEnum_k, zipK.eq_1, zipK.eq_2, tZip_k, intsK.eq_1, intsK.eq_2, intsOf_k, endK.eq_1, endO_k, extK.eq_1, tExtend_k, tAppend_k, setIxK.eq_1, sSetIx_k, popAtK.eq_1, tPopAt_k, bO.eq_1, itemsOf.eq_1, itemsOf.eq_2, itemsOf.eq_3, gAdd.eq_1, gAdd.eq_2, gAdd.eq_3, gAdd.eq_4, gAdd.eq_5, gAdd.eq_6, gSub_.eq_1, gSub_.eq_2, gMul2_s, gMul2_i, gMul2_l, gMulS.eq_1, gMul.eq_1, gMul.eq_2, gFdiv.eq_1, gMod.eq_1, gPow.eq_1, gNeg.eq_1, gNeg.eq_2, gGe.eq_1, gGt.eq_1, gLe.eq_1, gLt.eq_1, gLt.eq_2, gEq.eq_1, gNe.eq_1, gNe.eq_2, gNe.eq_3, gNe.eq_4, gInW.eq_1, gInW.eq_2, gIs.eq_1, gIsNot.eq_1, gLen.eq_1, gLen.eq_2, gAllAny.eq_1, gAbs.eq_1, gInt.eq_1, gInt.eq_2, gStr.eq_1, gStr.eq_2, gStr.eq_3, gM2.eq_1, gListOf.eq_1, gListOf.eq_2, gTupOf.eq_1, gTupOf.eq_2, gSort, gSortS.eq_1, gSortD.eq_1, gSortSet.eq_1, gRepr.eq_1, gM2S.eq_1, gIsB.eq_1, tCompN, tCompD, tCompI, tCompDI, tComp2, gIx.eq_1, gIx.eq_2, ati0, ati1, ati2, Option.some.injEq, exists_eq, exists_eq', false_implies, Opd.slot.injEq, forall_eq, forall_eq', Opd.get.eq_1, Opd.get.eq_2, at_join, join_some, O.frz.eq_1, O.frz.eq_2, frz_dct, O.frz.eq_4, lsO.eq_1, lsO.eq_2, tuO.eq_1, seqO_l, seqO_p, seqO_t, endsOf, outsOf, startA, wipeA, List.getElem?_cons_zero, List.getElem?_cons_succ, List.length_cons, List.length_nil, List.map_cons, List.map_nil, List.set_cons_zero, List.set_cons_succ, List.replicate_succ, List.replicate_zero, List.cons_append, List.nil_append, List.getD_cons_zero, List.getD_cons_succ, if_true, if_false, Bool.false_eq_true, reduceIte, reduceCtorEq, Bool.not_true, Bool.not_false, implies_true, true_and, and_true, Nat.sub_self, Nat.reduceAdd, Nat.reduceSub, Nat.zero_add, List.all_cons, List.all_nil, Bool.and_true, Bool.true_and]
    refine ⟨rfl, ?_⟩
    exact right_b2 hf hy hL (hc t mt) h6 hP (by omega) fun P' x12' h1 h2 => n1 _ ⟨P', _, _, x12', h1, by omega, .inr rfl, rfl⟩
  · obtain ⟨P, o6, x9, x12, hP, hl, h6, rfl⟩ := hinv
    exact nx P o6 x9 x12 hP
theorem right_mid {ys : List Str} {us : List (Str × Str)} {far : Int} (hf : far ≤ 100) (hy : ys.length ≤ 12) {L P : List T} (hL : L = nodesL ys us far) {o6 : O} (h6 : IsLst o6 L) (hP : ∀ t ∈ P, pairOk ys t) (hl : P.length ≤ 12) {x0 x1 x2 x3 x4 x7 x9 x10 x11 x12 : Option O} {D : AEnds}
    (nx : ∀ P' o6' x9' x12', (∀ t ∈ P', pairOk ys t) → D.nx [x0, x1, x2, x3, x4, some (.pure (.int far)), some o6', x7, some (.lst P'), x9', x10, x11, x12']) :
    mid3 D [x0, x1, x2, x3, x4, some (.pure (.int far)), some o6, x7, some (.lst P), x9, x10, x11, x12] := by
  have ll : L.length ≤ 1200 := by rw [hL]; exact nodes_len hf hy
  have cl : (cutT L none (some 8)).length ≤ 1200 := by unfold cutT; rw [List.length_take, List.length_drop]; omega
  unfold mid3
  rcases h6 with rfl | rfl
  all_goals
    simp only [sSeq, sNext, sRet, sRetN, sDrop, sIf, sSet, sFor, sPar, sAsg, bAnd, bOr, bNot, tTst, tCst, tBin, tUny, tNilA, tConsA, getAll, tCallB, tCallF, tTupD, tLstD, tChainA, tChainE, tRg, rgK.eq_1, tStripX, strip1K.eq_1, strip2K.eq_1, tAndE, tOrE, tNotE, tIfE, tComp, bYes, tDct0, tRange.eq_1, tgName, tgTup.eq_1, tgCons.eq_1, tgNil.eq_1, takeAll, back.eq_1, back.eq_2, back_nil, setO, tName_k, nameK.eq_1, nameK.eq_2, nameK.eq_3, nameK.eq_4, atK.eq_1, take1_v, take1_s, takeO_v, takeO_s, takeR_v, takeR_s, prep_n, prep_tv, prep_ts, prep_f, lstK.eq_1, lstAt_k, g2K.eq_1, g2_k, g1K.eq_1, g1_k, gNK.eq_1, gN_k, boK.eq_1, bOf_k, isiK.eq_1, tIsi_k, partK.eq_1, part_n, part_s, slcK.eq_1, slcK.eq_2, slcK.eq_3, slcK.eq_4, tSlc_k, revK.eq_1, revK.eq_2, revK.eq_3, tRev_k, strMK.eq_1, tStrM_k, itK.eq_1, tIter_k, enumK.eq_1, tEnum_k, zipK.eq_1, zipK.eq_2, tZip_k, intsK.eq_1, intsK.eq_2, intsOf_k, endK.eq_1, endO_k, extK.eq_1, tExtend_k, tAppend_k, setIxK.eq_1, sSetIx_k, popAtK.eq_1, tPopAt_k, bO.eq_1, itemsOf.eq_1, itemsOf.eq_2, itemsOf.eq_3, gAdd.eq_1, gAdd.eq_2, gAdd.eq_3, gAdd.eq_4, gAdd.eq_5, gAdd.eq_6, gSub_.eq_1, gSub_.eq_2, gMul2_s, gMul2_i, gMul2_l, gMulS.eq_1, gMul.eq_1, gMul.eq_2, gFdiv.eq_1, gMod.eq_1, gPow.eq_1, gNeg.eq_1, gNeg.eq_2, gGe.eq_1, gGt.eq_1, gLe.eq_1, gLt.eq_1, gLt.eq_2, gEq.eq_1, gNe.eq_1, gNe.eq_2, gNe.eq_3, gNe.eq_4, gInW.eq_1, gInW.eq_2, gIs.eq_1, gIsNot.eq_1, gLen.eq_1, gLen.eq_2, gAllAny.eq_1, gAbs.eq_1, gInt.eq_1, gInt.eq_2, gStr.eq_1, gStr.eq_2, gStr.eq_3, gM2.eq_1, gListOf.eq_1, gListOf.eq_2, gTupOf.eq_1, gTupOf.eq_2, gSort, gSortS.eq_1, gSortD.eq_1, gSortSet.eq_1, gRepr.eq_1, gM2S.eq_1, gIsB.eq_1, tCompN, tCompD, tCompI, tCompDI, tComp2, gIx.eq_1, gIx.eq_2, ati0, ati1, ati2, Option.some.injEq, exists_eq, exists_eq', false_implies, Opd.slot.injEq, forall_eq, forall_eq', Opd.get.eq_1, Opd.get.eq_2, at_join, join_some, O.frz.eq_1, O.frz.eq_2, frz_dct, O.frz.eq_4, lsO.eq_1, lsO.eq_2, tuO.eq_1, seqO_l, seqO_p, seqO_t, endsOf, outsOf, startA, wipeA, List.getElem?_cons_zero, List.getElem?_cons_succ, List.length_cons, List.length_nil, List.map_cons, List.map_nil, List.set_cons_zero, List.set_cons_succ, List.replicate_succ, List.replicate_zero, List.cons_append, List.nil_append, List.getD_cons_zero, List.getD_cons_succ, if_true, if_false, Bool.false_eq_true, reduceIte, reduceCtorEq, Bool.not_true, Bool.not_false, implies_true, true_and, and_true, Nat.sub_self, Nat.reduceAdd, Nat.reduceSub, Nat.zero_add, List.all_cons, List.all_nil, Bool.and_true, Bool.true_and, eqv_int]
    refine ⟨by simp [cmpOk], by simp [PyData.depth], ?_⟩
    by_cases e2 : far = 2
    · rw [if_pos (decide_eq_true e2)]
      exact right_for hf hy hL (by first | exact .inl rfl | exact .inr rfl) hP hl (fun t m => cut_mem m) cl nx
    · rw [if_neg (by simp [e2])]
      refine ⟨by simp [cmpOk], by simp [PyData.depth], ?_⟩
      by_cases e3 : far = 3
      · rw [if_pos (decide_eq_true e3)]
        exact right_for hf hy hL (by first | exact .inl rfl | exact .inr rfl) hP hl (fun t m => cut_mem m) cl nx
      · rw [if_neg (by simp [e3])]
        exact nx P _ _ _ hP
theorem right_b3 {n : Nat} {ys : List Str} {us : List (Str × Str)} (net : NetOk ys us) {ds : List T} (hn : n ≤ 20000) (hd : Dk n (.lst ds)) {far : Int} (hf0 : 0 ≤ far) (hf : far ≤ 100) {o3 : O} (h3 : IsTab o3 (tabL ys us)) {x1 x4 x6 x7 x8 x9 x10 x11 x12 : Option O} {D : AEnds}
    (nx : ∀ (ds' : List T) (o3' : O) (x6 x7 x8 x9 x10 x11 x12 : Option O), Dk (n + 24) (.lst ds') → IsTab o3' (tabL ys us) → D.nx [some (.lst ds'), x1, some (.pure (netO ys us)), some o3', x4, some (.pure (.int far)), x6, x7, x8, x9, x10, x11, x12]) :
    t__law_right_b3 D [some (.lst ds), x1, some (.pure (netO ys us)), some o3, x4, some (.pure (.int far)), x6, x7, x8, x9, x10, x11, x12] := by
  unfold t__law_right_b3
  rw [← fin3, ← mid3]
  have fin : ∀ (ds' : List T) (P : List T) (o6 : O) (x7 x9 x10 x11 x12 : Option O), Dk (n + 24) (.lst ds') → (∀ t ∈ P, pairOk ys t) → P.length ≤ 12 → IsLst o6 (nodesL ys us far) →
      mid3 { nx := fin3 D, rt := D.rt, bk := D.bk, ct := D.ct } [some (.lst ds'), x1, some (.pure (netO ys us)), some o3, x4, some (.pure (.int far)), some o6, x7, some (.lst P), x9, x10, x11, x12] := fun ds' P o6 x7 x9 x10 x11 x12 hd' hP hl h6 =>
    right_mid hf net.n2 rfl h6 hP hl fun P' o6' x9' x12' hP' => right_fin3 net hP' h3 fun o3' x8' h3' => nx _ _ _ _ _ _ _ _ _ hd' h3'
  simp only [sSeq, sNext, sRet, sRetN, sDrop, sIf, sSet, sFor, sPar, sAsg, bAnd, bOr, bNot, tTst, tCst, tBin, tUny, tNilA, tConsA, getAll, tCallB, tCallF, tTupD, tLstD, tChainA, tChainE, tRg, rgK.eq_1, tStripX, strip1K.eq_1, strip2K.eq_1, tAndE, tOrE, tNotE, tIfE, tComp, bYes, tDct0, tRange.eq_1, tgName, tgTup.eq_1, tgCons.eq_1, tgNil.eq_1, takeAll, back.eq_1, back.eq_2, back_nil, setO, tName_k, nameK.eq_1, nameK.eq_2, nameK.eq_3, nameK.eq_4, atK.eq_1, take1_v, take1_s, takeO_v, takeO_s, takeR_v, takeR_s, prep_n, prep_tv, prep_ts, prep_f, lstK.eq_1, lstAt_k, g2K.eq_1, g2_k, g1K.eq_1, g1_k, gNK.eq_1, gN_k, boK.eq_1, bOf_k, isiK.eq_1, tIsi_k, partK.eq_1, part_n, part_s, slcK.eq_1, slcK.eq_2, slcK.eq_3, slcK.eq_4, tSlc_k, revK.eq_1, revK.eq_2, revK.eq_3, tRev_k, strMK.eq_1, tStrM_k, itK.eq_1, tIter_k, enumK.eq_1, tEnum_k, zipK.eq_1, zipK.eq_2, tZip_k, intsK.eq_1, intsK.eq_2, intsOf_k, endK.eq_1, endO_k, extK.eq_1, tExtend_k, tAppend_k, setIxK.eq_1, sSetIx_k, popAtK.eq_1, tPopAt_k, bO.eq_1, itemsOf.eq_1, itemsOf.eq_2, itemsOf.eq_3, gAdd.eq_1, gAdd.eq_2, gAdd.eq_3, gAdd.eq_4, gAdd.eq_5, gAdd.eq_6, gSub_.eq_1, gSub_.eq_2, gMul2_s, gMul2_i, gMul2_l, gMulS.eq_1, gMul.eq_1, gMul.eq_2, gFdiv.eq_1, gMod.eq_1, gPow.eq_1, gNeg.eq_1, gNeg.eq_2, gGe.eq_1, gGt.eq_1, gLe.eq_1, gLt.eq_1, gLt.eq_2, gEq.eq_1, gNe.eq_1, gNe.eq_2, gNe.eq_3, gNe.eq_4, gInW.eq_1, gInW.eq_2, gIs.eq_1, gIsNot.eq_1, gLen.eq_1, gLen.eq_2, gAllAny.eq_1, gAbs.eq_1, gInt.eq_1, gInt.eq_2, gStr.eq_1, gStr.eq_2, gStr.eq_3, gM2.eq_1, gListOf.eq_1, gListOf.eq_2, gTupOf.eq_1, gTupOf.eq_2, gSort, gSortS.eq_1, gSortD.eq_1, gSortSet.eq_1, gRepr.eq_1, gM2S.eq_1, gIsB.eq_1, tCompN, tCompD, tCompI, tCompDI, tComp2, gIx.eq_1, gIx.eq_2, ati0, ati1, ati2, Option.some.injEq, exists_eq, exists_eq', false_implies, Opd.slot.injEq, forall_eq, forall_eq', Opd.get.eq_1, Opd.get.eq_2, at_join, join_some, O.frz.eq_1, O.frz.eq_2, frz_dct, O.frz.eq_4, lsO.eq_1, lsO.eq_2, tuO.eq_1, seqO_l, seqO_p, seqO_t, endsOf, outsOf, startA, wipeA, List.getElem?_cons_zero, List.getElem?_cons_succ, List.length_cons, List.length_nil, List.map_cons, List.map_nil, List.set_cons_zero, List.set_cons_succ, List.replicate_succ, List.replicate_zero, List.cons_append, List.nil_append, List.getD_cons_zero, List.getD_cons_succ, if_true, if_false, Bool.false_eq_true, reduceIte, reduceCtorEq, Bool.not_true, Bool.not_false, implies_true, true_and, and_true, Nat.sub_self, Nat.reduceAdd, Nat.reduceSub, Nat.zero_add, List.all_cons, List.all_nil, Bool.and_true, Bool.true_and]
  refine ⟨rfl, ?_⟩
  unfold netO
  unfold netO at fin
  simp only [sSeq, sNext, sRet, sRetN, sDrop, sIf, sSet, sFor, sPar, sAsg, bAnd, bOr, bNot, tTst, tCst, tBin, tUny, tNilA, tConsA, getAll, tCallB, tCallF, tTupD, tLstD, tChainA, tChainE, tRg, rgK.eq_1, tStripX, strip1K.eq_1, strip2K.eq_1, tAndE, tOrE, tNotE, tIfE, tComp, bYes, tDct0, tRange.eq_1, tgName, tgTup.eq_1, tgCons.eq_1, tgNil.eq_1, takeAll, back.eq_1, back.eq_2, back_nil, setO, tName_k, nameK.eq_1, nameK.eq_2, nameK.eq_3, nameK.eq_4, atK.eq_1, take1_v, take1_s, takeO_v, takeO_s, takeR_v, takeR_s, prep_n, prep_tv, prep_ts, prep_f, lstK.eq_1, lstAt_k, g2K.eq_1, g2_k, g1K.eq_1, g1_k, gNK.eq_1, gN_k, boK.eq_1, bOf_k, isiK.eq_1, tIsi_k, partK.eq_1, part_n, part_s, slcK.eq_1, slcK.eq_2, slcK.eq_3, slcK.eq_4, tSlc_k, revK.eq_1, revK.eq_2, revK.eq_3, tRev_k, strMK.eq_1, tStrM_k, itK.eq_1, tIter_k, enumK.eq_1, tEnum_k, zipK.eq_1, zipK.eq_2, tZip_k, intsK.eq_1, intsK.eq_2, intsOf_k, endK.eq_1, endO_k, extK.eq_1, tExtend_k, tAppend_k, setIxK.eq_1, sSetIx_k, popAtK.eq_1, tPopAt_k, bO.eq_1, itemsOf.eq_1, itemsOf.eq_2, itemsOf.eq_3, gAdd.eq_1, gAdd.eq_2, gAdd.eq_3, gAdd.eq_4, gAdd.eq_5, gAdd.eq_6, gSub_.eq_1, gSub_.eq_2, gMul2_s, gMul2_i, gMul2_l, gMulS.eq_1, gMul.eq_1, gMul.eq_2, gFdiv.eq_1, gMod.eq_1, gPow.eq_1, gNeg.eq_1, gNeg.eq_2, gGe.eq_1, gGt.eq_1, gLe.eq_1, gLt.eq_1, gLt.eq_2, gEq.eq_1, gNe.eq_1, gNe.eq_2, gNe.eq_3, gNe.eq_4, gInW.eq_1, gInW.eq_2, gIs.eq_1, gIsNot.eq_1, gLen.eq_1, gLen.eq_2, gAllAny.eq_1, gAbs.eq_1, gInt.eq_1, gInt.eq_2, gStr.eq_1, gStr.eq_2, gStr.eq_3, gM2.eq_1, gListOf.eq_1, gListOf.eq_2, gTupOf.eq_1, gTupOf.eq_2, gSort, gSortS.eq_1, gSortD.eq_1, gSortSet.eq_1, gRepr.eq_1, gM2S.eq_1, gIsB.eq_1, tCompN, tCompD, tCompI, tCompDI, tComp2, gIx.eq_1, gIx.eq_2, ati0, ati1, ati2, Option.some.injEq, exists_eq, exists_eq', false_implies, Opd.slot.injEq, forall_eq, forall_eq', Opd.get.eq_1, Opd.get.eq_2, at_join, join_some, O.frz.eq_1, O.frz.eq_2, frz_dct, O.frz.eq_4, lsO.eq_1, lsO.eq_2, tuO.eq_1, seqO_l, seqO_p, seqO_t, endsOf, outsOf, startA, wipeA, List.getElem?_cons_zero, List.getElem?_cons_succ, List.length_cons, List.length_nil, List.map_cons, List.map_nil, List.set_cons_zero, List.set_cons_succ, List.replicate_succ, List.replicate_zero, List.cons_append, List.nil_append, List.getD_cons_zero, List.getD_cons_succ, if_true, if_false, Bool.false_eq_true, reduceIte, reduceCtorEq, Bool.not_true, Bool.not_false, implies_true, true_and, and_true, Nat.sub_self, Nat.reduceAdd, Nat.reduceSub, Nat.zero_add, List.all_cons, List.all_nil, Bool.and_true, Bool.true_and]
  refine due_loop net hf0 hf h3 ys [] _ _ (fun s m => m) (by have := net.n2; simpa using this) fun x7 x10 => ?_
  have gT := Gd.tup (nodes_gd (us := us) net hf)
  obtain ⟨r1, r2, r3⟩ := repr_ok (by decide) (by decide) (by decide) gT
  have lay := nodes_lay (us := us) net hf
  have len := nodes_len (us := us) hf net.n2
  have mem := fun t => nodes_mem (ys := ys) (us := us) hf (t := t)
  rw [List.nil_append, show ys.flatMap (nodesOf us far) = nodesL ys us far from rfl]
  generalize hL : nodesL ys us far = L at *
  simp only [sSeq, sNext, sRet, sRetN, sDrop, sIf, sSet, sFor, sPar, sAsg, bAnd, bOr, bNot, tTst, tCst, tBin, tUny, tNilA, tConsA, getAll, tCallB, tCallF, tTupD, tLstD, tChainA, tChainE, tRg, rgK.eq_1, tStripX, strip1K.eq_1, strip2K.eq_1, tAndE, tOrE, tNotE, tIfE, tComp, bYes, tDct0, tRange.eq_1, tgName, tgTup.eq_1, tgCons.eq_1, tgNil.eq_1, takeAll, back.eq_1, back.eq_2, back_nil, setO, tName_k, nameK.eq_1, nameK.eq_2, nameK.eq_3, nameK.eq_4, atK.eq_1, take1_v, take1_s, takeO_v, takeO_s, takeR_v, takeR_s, prep_n, prep_tv, prep_ts, prep_f, lstK.eq_1, lstAt_k, g2K.eq_1, g2_k, g1K.eq_1, g1_k, gNK.eq_1, gN_k, boK.eq_1, bOf_k, isiK.eq_1, tIsi_k, partK.eq_1, part_n, part_s, slcK.eq_1, slcK.eq_2, slcK.eq_3, slcK.eq_4, tSlc_k, revK.eq_1, revK.eq_2, revK.eq_3, tRev_k, strMK.eq_1, tStrM_k, itK.eq_1, tIter_k, enumK.eq_1, tEnum_k, zipK.eq_1, zipK.eq_2, tZip_k, intsK.eq_1, intsK.eq_2, intsOf_k, endK.eq_1, endO_k, extK.eq_1, tExtend_k, tAppend_k, setIxK.eq_1, sSetIx_k, popAtK.eq_1, tPopAt_k, bO.eq_1, itemsOf.eq_1, itemsOf.eq_2, itemsOf.eq_3, gAdd.eq_1, gAdd.eq_2, gAdd.eq_3, gAdd.eq_4, gAdd.eq_5, gAdd.eq_6, gSub_.eq_1, gSub_.eq_2, gMul2_s, gMul2_i, gMul2_l, gMulS.eq_1, gMul.eq_1, gMul.eq_2, gFdiv.eq_1, gMod.eq_1, gPow.eq_1, gNeg.eq_1, gNeg.eq_2, gGe.eq_1, gGt.eq_1, gLe.eq_1, gLt.eq_1, gLt.eq_2, gEq.eq_1, gNe.eq_1, gNe.eq_2, gNe.eq_3, gNe.eq_4, gInW.eq_1, gInW.eq_2, gIs.eq_1, gIsNot.eq_1, gLen.eq_1, gLen.eq_2, gAllAny.eq_1, gAbs.eq_1, gInt.eq_1, gInt.eq_2, gStr.eq_1, gStr.eq_2, gStr.eq_3, gM2.eq_1, gListOf.eq_1, gListOf.eq_2, gTupOf.eq_1, gTupOf.eq_2, gSort, gSortS.eq_1, gSortD.eq_1, gSortSet.eq_1, gRepr.eq_1, gM2S.eq_1, gIsB.eq_1, tCompN, tCompD, tCompI, tCompDI, tComp2, gIx.eq_1, gIx.eq_2, ati0, ati1, ati2, Option.some.injEq, exists_eq, exists_eq', false_implies, Opd.slot.injEq, forall_eq, forall_eq', Opd.get.eq_1, Opd.get.eq_2, at_join, join_some, O.frz.eq_1, O.frz.eq_2, frz_dct, O.frz.eq_4, lsO.eq_1, lsO.eq_2, tuO.eq_1, seqO_l, seqO_p, seqO_t, endsOf, outsOf, startA, wipeA, List.getElem?_cons_zero, List.getElem?_cons_succ, List.length_cons, List.length_nil, List.map_cons, List.map_nil, List.set_cons_zero, List.set_cons_succ, List.replicate_succ, List.replicate_zero, List.cons_append, List.nil_append, List.getD_cons_zero, List.getD_cons_succ, if_true, if_false, Bool.false_eq_true, reduceIte, reduceCtorEq, Bool.not_true, Bool.not_false, implies_true, true_and, and_true, Nat.sub_self, Nat.reduceAdd, Nat.reduceSub, Nat.zero_add, List.all_cons, List.all_nil, Bool.and_true, Bool.true_and]
  refine ⟨ys, us, far, rfl, net, hf0, hf, ?_⟩
  rw [hL]
  simp only [sSeq, sNext, sRet, sRetN, sDrop, sIf, sSet, sFor, sPar, sAsg, bAnd, bOr, bNot, tTst, tCst, tBin, tUny, tNilA, tConsA, getAll, tCallB, tCallF, tTupD, tLstD, tChainA, tChainE, tRg, rgK.eq_1, tStripX, strip1K.eq_1, strip2K.eq_1, tAndE, tOrE, tNotE, tIfE, tComp, bYes, tDct0, tRange.eq_1, tgName, tgTup.eq_1, tgCons.eq_1, tgNil.eq_1, takeAll, back.eq_1, back.eq_2, back_nil, setO, tName_k, nameK.eq_1, nameK.eq_2, nameK.eq_3, nameK.eq_4, atK.eq_1, take1_v, take1_s, takeO_v, takeO_s, takeR_v, takeR_s, prep_n, prep_tv, prep_ts, prep_f, lstK.eq_1, lstAt_k, g2K.eq_1, g2_k, g1K.eq_1, g1_k, gNK.eq_1, gN_k, boK.eq_1, bOf_k, isiK.eq_1, tIsi_k, partK.eq_1, part_n, part_s, slcK.eq_1, slcK.eq_2, slcK.eq_3, slcK.eq_4, tSlc_k, revK.eq_1, revK.eq_2, revK.eq_3, tRev_k, strMK.eq_1, tStrM_k, itK.eq_1, tIter_k, enumK.eq_1, tEnum_k, zipK.eq_1, zipK.eq_2, tZip_k, intsK.eq_1, intsK.eq_2, intsOf_k, endK.eq_1, endO_k, extK.eq_1, tExtend_k, tAppend_k, setIxK.eq_1, sSetIx_k, popAtK.eq_1, tPopAt_k, bO.eq_1, itemsOf.eq_1, itemsOf.eq_2, itemsOf.eq_3, gAdd.eq_1, gAdd.eq_2, gAdd.eq_3, gAdd.eq_4, gAdd.eq_5, gAdd.eq_6, gSub_.eq_1, gSub_.eq_2, gMul2_s, gMul2_i, gMul2_l, gMulS.eq_1, gMul.eq_1, gMul.eq_2, gFdiv.eq_1, gMod.eq_1, gPow.eq_1, gNeg.eq_1, gNeg.eq_2, gGe.eq_1, gGt.eq_1, gLe.eq_1, gLt.eq_1, gLt.eq_2, gEq.eq_1, gNe.eq_1, gNe.eq_2, gNe.eq_3, gNe.eq_4, gInW.eq_1, gInW.eq_2, gIs.eq_1, gIsNot.eq_1, gLen.eq_1, gLen.eq_2, gAllAny.eq_1, gAbs.eq_1, gInt.eq_1, gInt.eq_2, gStr.eq_1, gStr.eq_2, gStr.eq_3, gM2.eq_1, gListOf.eq_1, gListOf.eq_2, gTupOf.eq_1, gTupOf.eq_2, gSort, gSortS.eq_1, gSortD.eq_1, gSortSet.eq_1, gRepr.eq_1, gM2S.eq_1, gIsB.eq_1, tCompN, tCompD, tCompI, tCompDI, tComp2, gIx.eq_1, gIx.eq_2, ati0, ati1, ati2, Option.some.injEq, exists_eq, exists_eq', false_implies, Opd.slot.injEq, forall_eq, forall_eq', Opd.get.eq_1, Opd.get.eq_2, at_join, join_some, O.frz.eq_1, O.frz.eq_2, frz_dct, O.frz.eq_4, lsO.eq_1, lsO.eq_2, tuO.eq_1, seqO_l, seqO_p, seqO_t, endsOf, outsOf, startA, wipeA, List.getElem?_cons_zero, List.getElem?_cons_succ, List.length_cons, List.length_nil, List.map_cons, List.map_nil, List.set_cons_zero, List.set_cons_succ, List.replicate_succ, List.replicate_zero, List.cons_append, List.nil_append, List.getD_cons_zero, List.getD_cons_succ, if_true, if_false, Bool.false_eq_true, reduceIte, reduceCtorEq, Bool.not_true, Bool.not_false, implies_true, true_and, and_true, Nat.sub_self, Nat.reduceAdd, Nat.reduceSub, Nat.zero_add, List.all_cons, List.all_nil, Bool.and_true, Bool.true_and]
  refine ⟨r1, r2, r3, r1, r2, r3, ?_⟩
  rw [if_neg (by simp)]
  refine ⟨lay, by decide, Nat.le_trans (Nat.min_le_right _ _) (by decide), ?_⟩
  rw [eqv_nil]
  by_cases e : L = []
  · rw [if_neg (by simp [e])]
    refine ⟨by decide, by decide, ?_⟩
    rw [show rngItems 0 (Int.toNat 0) = [] from rfl, compW]
    refine ⟨rfl, ?_⟩
    exact fin _ _ _ _ _ _ _ _ (hd.mono (by omega)) (by simp) (by simp) (.inl rfl)
  · rw [if_pos (by simp [e])]
    refine ⟨by decide, by decide, ?_⟩
    refine compW_inv (fun i acc ρ => ∃ ds o6 x11, Dk (n + 2 * i) (.lst ds) ∧ IsLst o6 L ∧ (∀ t ∈ acc, pairOk ys t) ∧ acc.length = i ∧
      ρ = [some (.lst ds), x1, some (.pure (.tuple [.tuple (ys.map PyData.str), .tuple (us.map talkO)])), some o3, x4, some (.pure (.int far)), some o6, x7, x8, x9, x10, x11, x12]) 12 _ 0 _ _ (by simp [rngItems]) (fun i t acc ρ ts' Q' m hik hi nx => ?_) ⟨ds, _, _, hd, .inl rfl, by simp, rfl, rfl⟩ fun acc ρ hi => ?_
    · obtain ⟨ds, o6, x11, hd, h6, ha, hl, rfl⟩ := hi
      rw [compW]
      rcases h6 with rfl | rfl
      all_goals
        simp only [sSeq, sNext, sRet, sRetN, sDrop, sIf, sSet, sFor, sPar, sAsg, bAnd, bOr, bNot, tTst, tCst, tBin, tUny, tNilA, tConsA, getAll, tCallB, tCallF, tTupD, tLstD, tChainA, tChainE, tRg, rgK.eq_1, tStripX, strip1K.eq_1, strip2K.eq_1, tAndE, tOrE, tNotE, tIfE, tComp, bYes, tDct0, tRange.eq_1, tgName, tgTup.eq_1, tgCons.eq_1, tgNil.eq_1, takeAll, back.eq_1, back.eq_2, back_nil, setO, tName_k, nameK.eq_1, nameK.eq_2, nameK.eq_3, nameK.eq_4, atK.eq_1, take1_v, take1_s, takeO_v, takeO_s, takeR_v, takeR_s, prep_n, prep_tv, prep_ts, prep_f, lstK.eq_1, lstAt_k, g2K.eq_1, g2_k, g1K.eq_1, g1_k, gNK.eq_1, gN_k, boK.eq_1, bOf_k, isiK.eq_1, tIsi_k, partK.eq_1, part_n, part_s, slcK.eq_1, slcK.eq_2, slcK.eq_3, slcK.eq_4, tSlc_k, revK.eq_1, revK.eq_2, revK.eq_3, tRev_k, strMK.eq_1, tStrM_k, itK.eq_1, tIter_k, enumK.eq_1, tEnum_k, zipK.eq_1, zipK.eq_2, tZip_k, intsK.eq_1, intsK.eq_2, intsOf_k, endK.eq_1, endO_k, extK.eq_1, tExtend_k, tAppend_k, setIxK.eq_1, sSetIx_k, popAtK.eq_1, tPopAt_k, bO.eq_1, itemsOf.eq_1, itemsOf.eq_2, itemsOf.eq_3, gAdd.eq_1, gAdd.eq_2, gAdd.eq_3, gAdd.eq_4, gAdd.eq_5, gAdd.eq_6, gSub_.eq_1, gSub_.eq_2, gMul2_s, gMul2_i, gMul2_l, gMulS.eq_1, gMul.eq_1, gMul.eq_2, gFdiv.eq_1, gMod.eq_1, gPow.eq_1, gNeg.eq_1, gNeg.eq_2, gGe.eq_1, gGt.eq_1, gLe.eq_1, gLt.eq_1, gLt.eq_2, gEq.eq_1, gNe.eq_1, gNe.eq_2, gNe.eq_3, gNe.eq_4, gInW.eq_1, gInW.eq_2, gIs.eq_1, gIsNot.eq_1, gLen.eq_1, gLen.eq_2, gAllAny.eq_1, gAbs.eq_1, gInt.eq_1, gInt.eq_2, gStr.eq_1, gStr.eq_2, gStr.eq_3, gM2.eq_1, gListOf.eq_1, gListOf.eq_2, gTupOf.eq_1, gTupOf.eq_2, gSort, gSortS.eq_1, gSortD.eq_1, gSortSet.eq_1, gRepr.eq_1, gM2S.eq_1, gIsB.eq_1, tCompN, tCompD, tCompI, tCompDI, tComp2, gIx.eq_1, gIx.eq_2, ati0, ati1, ati2, Option.some.injEq, exists_eq, exists_eq', false_implies, Opd.slot.injEq, forall_eq, forall_eq', Opd.get.eq_1, Opd.get.eq_2, at_join, join_some, O.frz.eq_1, O.frz.eq_2, frz_dct, O.frz.eq_4, lsO.eq_1, lsO.eq_2, tuO.eq_1, seqO_l, seqO_p, seqO_t, endsOf, outsOf, startA, wipeA, List.getElem?_cons_zero, List.getElem?_cons_succ, List.length_cons, List.length_nil, List.map_cons, List.map_nil, List.set_cons_zero, List.set_cons_succ, List.replicate_succ, List.replicate_zero, List.cons_append, List.nil_append, List.getD_cons_zero, List.getD_cons_succ, if_true, if_false, Bool.false_eq_true, reduceIte, reduceCtorEq, Bool.not_true, Bool.not_false, implies_true, true_and, and_true, Nat.sub_self, Nat.reduceAdd, Nat.reduceSub, Nat.zero_add, List.all_cons, List.all_nil, Bool.and_true, Bool.true_and]
        refine ⟨rfl, n + 2 * i, _, L, by omega, rfl, hd, e, by omega, fun u d' mu hd' => ?_⟩
        obtain ⟨ds', rfl⟩ := hd'.frz
        simp only [sSeq, sNext, sRet, sRetN, sDrop, sIf, sSet, sFor, sPar, sAsg, bAnd, bOr, bNot, tTst, tCst, tBin, tUny, tNilA, tConsA, getAll, tCallB, tCallF, tTupD, tLstD, tChainA, tChainE, tRg, rgK.eq_1, tStripX, strip1K.eq_1, strip2K.eq_1, tAndE, tOrE, tNotE, tIfE, tComp, bYes, tDct0, tRange.eq_1, tgName, tgTup.eq_1, tgCons.eq_1, tgNil.eq_1, takeAll, back.eq_1, back.eq_2, back_nil, setO, tName_k, nameK.eq_1, nameK.eq_2, nameK.eq_3, nameK.eq_4, atK.eq_1, take1_v, take1_s, takeO_v, takeO_s, takeR_v, takeR_s, prep_n, prep_tv, prep_ts, prep_f, lstK.eq_1, lstAt_k, g2K.eq_1, g2_k, g1K.eq_1, g1_k, gNK.eq_1, gN_k, boK.eq_1, bOf_k, isiK.eq_1, tIsi_k, partK.eq_1, part_n, part_s, slcK.eq_1, slcK.eq_2, slcK.eq_3, slcK.eq_4, tSlc_k, revK.eq_1, revK.eq_2, revK.eq_3, tRev_k, strMK.eq_1, tStrM_k, itK.eq_1, tIter_k, enumK.eq_1, tEnum_k, zipK.eq_1, zipK.eq_2, tZip_k, intsK.eq_1, intsK.eq_2, intsOf_k, endK.eq_1, endO_k, extK.eq_1, tExtend_k, tAppend_k, setIxK.eq_1, sSetIx_k, popAtK.eq_1, tPopAt_k, bO.eq_1, itemsOf.eq_1, itemsOf.eq_2, itemsOf.eq_3, gAdd.eq_1, gAdd.eq_2, gAdd.eq_3, gAdd.eq_4, gAdd.eq_5, gAdd.eq_6, gSub_.eq_1, gSub_.eq_2, gMul2_s, gMul2_i, gMul2_l, gMulS.eq_1, gMul.eq_1, gMul.eq_2, gFdiv.eq_1, gMod.eq_1, gPow.eq_1, gNeg.eq_1, gNeg.eq_2, gGe.eq_1, gGt.eq_1, gLe.eq_1, gLt.eq_1, gLt.eq_2, gEq.eq_1, gNe.eq_1, gNe.eq_2, gNe.eq_3, gNe.eq_4, gInW.eq_1, gInW.eq_2, gIs.eq_1, gIsNot.eq_1, gLen.eq_1, gLen.eq_2, gAllAny.eq_1, gAbs.eq_1, gInt.eq_1, gInt.eq_2, gStr.eq_1, gStr.eq_2, gStr.eq_3, gM2.eq_1, gListOf.eq_1, gListOf.eq_2, gTupOf.eq_1, gTupOf.eq_2, gSort, gSortS.eq_1, gSortD.eq_1, gSortSet.eq_1, gRepr.eq_1, gM2S.eq_1, gIsB.eq_1, tCompN, tCompD, tCompI, tCompDI, tComp2, gIx.eq_1, gIx.eq_2, ati0, ati1, ati2, Option.some.injEq, exists_eq, exists_eq', false_implies, Opd.slot.injEq, forall_eq, forall_eq', Opd.get.eq_1, Opd.get.eq_2, at_join, join_some, O.frz.eq_1, O.frz.eq_2, frz_dct, O.frz.eq_4, lsO.eq_1, lsO.eq_2, tuO.eq_1, seqO_l, seqO_p, seqO_t, endsOf, outsOf, startA, wipeA, List.getElem?_cons_zero, List.getElem?_cons_succ, List.length_cons, List.length_nil, List.map_cons, List.map_nil, List.set_cons_zero, List.set_cons_succ, List.replicate_succ, List.replicate_zero, List.cons_append, List.nil_append, List.getD_cons_zero, List.getD_cons_succ, if_true, if_false, Bool.false_eq_true, reduceIte, reduceCtorEq, Bool.not_true, Bool.not_false, implies_true, true_and, and_true, Nat.sub_self, Nat.reduceAdd, Nat.reduceSub, Nat.zero_add, List.all_cons, List.all_nil, Bool.and_true, Bool.true_and]
        refine ⟨n + 2 * i + 1, _, L, by omega, rfl, hd', e, by omega, fun u2 d' mu2 hd' => ?_⟩
        obtain ⟨ds', rfl⟩ := hd'.frz
        simp only [sSeq, sNext, sRet, sRetN, sDrop, sIf, sSet, sFor, sPar, sAsg, bAnd, bOr, bNot, tTst, tCst, tBin, tUny, tNilA, tConsA, getAll, tCallB, tCallF, tTupD, tLstD, tChainA, tChainE, tRg, rgK.eq_1, tStripX, strip1K.eq_1, strip2K.eq_1, tAndE, tOrE, tNotE, tIfE, tComp, bYes, tDct0, tRange.eq_1, tgName, tgTup.eq_1, tgCons.eq_1, tgNil.eq_1, takeAll, back.eq_1, back.eq_2, back_nil, setO, tName_k, nameK.eq_1, nameK.eq_2, nameK.eq_3, nameK.eq_4, atK.eq_1, take1_v, take1_s, takeO_v, takeO_s, takeR_v, takeR_s, prep_n, prep_tv, prep_ts, prep_f, lstK.eq_1, lstAt_k, g2K.eq_1, g2_k, g1K.eq_1, g1_k, gNK.eq_1, gN_k, boK.eq_1, bOf_k, isiK.eq_1, tIsi_k, partK.eq_1, part_n, part_s, slcK.eq_1, slcK.eq_2, slcK.eq_3, slcK.eq_4, tSlc_k, revK.eq_1, revK.eq_2, revK.eq_3, tRev_k, strMK.eq_1, tStrM_k, itK.eq_1, tIter_k, enumK.eq_1, tEnum_k, zipK.eq_1, zipK.eq_2, tZip_k, intsK.eq_1, intsK.eq_2, intsOf_k, endK.eq_1, endO_k, extK.eq_1, tExtend_k, tAppend_k, setIxK.eq_1, sSetIx_k, popAtK.eq_1, tPopAt_k, bO.eq_1, itemsOf.eq_1, itemsOf.eq_2, itemsOf.eq_3, gAdd.eq_1, gAdd.eq_2, gAdd.eq_3, gAdd.eq_4, gAdd.eq_5, gAdd.eq_6, gSub_.eq_1, gSub_.eq_2, gMul2_s, gMul2_i, gMul2_l, gMulS.eq_1, gMul.eq_1, gMul.eq_2, gFdiv.eq_1, gMod.eq_1, gPow.eq_1, gNeg.eq_1, gNeg.eq_2, gGe.eq_1, gGt.eq_1, gLe.eq_1, gLt.eq_1, gLt.eq_2, gEq.eq_1, gNe.eq_1, gNe.eq_2, gNe.eq_3, gNe.eq_4, gInW.eq_1, gInW.eq_2, gIs.eq_1, gIsNot.eq_1, gLen.eq_1, gLen.eq_2, gAllAny.eq_1, gAbs.eq_1, gInt.eq_1, gInt.eq_2, gStr.eq_1, gStr.eq_2, gStr.eq_3, gM2.eq_1, gListOf.eq_1, gListOf.eq_2, gTupOf.eq_1, gTupOf.eq_2, gSort, gSortS.eq_1, gSortD.eq_1, gSortSet.eq_1, gRepr.eq_1, gM2S.eq_1, gIsB.eq_1, tCompN, tCompD, tCompI, tCompDI, tComp2, gIx.eq_1, gIx.eq_2, ati0, ati1, ati2, Option.some.injEq, exists_eq, exists_eq', false_implies, Opd.slot.injEq, forall_eq, forall_eq', Opd.get.eq_1, Opd.get.eq_2, at_join, join_some, O.frz.eq_1, O.frz.eq_2, frz_dct, O.frz.eq_4, lsO.eq_1, lsO.eq_2, tuO.eq_1, seqO_l, seqO_p, seqO_t, endsOf, outsOf, startA, wipeA, List.getElem?_cons_zero, List.getElem?_cons_succ, List.length_cons, List.length_nil, List.map_cons, List.map_nil, List.set_cons_zero, List.set_cons_succ, List.replicate_succ, List.replicate_zero, List.cons_append, List.nil_append, List.getD_cons_zero, List.getD_cons_succ, if_true, if_false, Bool.false_eq_true, reduceIte, reduceCtorEq, Bool.not_true, Bool.not_false, implies_true, true_and, and_true, Nat.sub_self, Nat.reduceAdd, Nat.reduceSub, Nat.zero_add, List.all_cons, List.all_nil, Bool.and_true, Bool.true_and]
        refine nx _ _ ⟨ds', _, _, hd'.mono (by omega), .inr rfl, fun t mt => ?_, by simp [hl], rfl⟩
        rcases List.mem_append.mp mt with mt | mt
        · exact ha t mt
        · obtain rfl := List.mem_singleton.mp mt
          obtain ⟨s, l, rfl, a1, a2, a3⟩ := mem _ mu
          obtain ⟨s', l', rfl, b1, b2, b3⟩ := mem _ mu2
          exact ⟨s, l, s', l', rfl, a1, b1, ⟨a2, a3⟩, b2, b3⟩
    · obtain ⟨ds, o6, x11, hd, h6, ha, hl, rfl⟩ := hi
      refine ⟨rfl, ?_⟩
      exact fin _ _ _ _ _ _ _ _ hd ha (by omega) h6
end WC

set_option Elab.async false
set_option linter.all false
set_option maxRecDepth 100000
set_option maxHeartbeats 4000000
namespace WC
open PySem PySem.Spec L2 DL WS
open PyProof.Rows hiding St
theorem net_gd {ys : List Str} {us : List (Str × Str)} (net : NetOk ys us) : Gd 1100 3 0 (netO ys us) := by
  have gs : Gds 108 0 0 (ys.map PyData.str) := gds_of (k := 9) (fun t m => by
    obtain ⟨x, hx, rfl⟩ := List.mem_map.mp m
    exact Gd.str (by have := (net.nm x hx).1; omega) (net.nm x hx).2) (by rw [List.length_map]; have := net.n2; omega)
  have gu : Gds 760 1 0 (us.map talkO) := gds_of (k := 19) (fun t m => by
    obtain ⟨u, hu, rfl⟩ := List.mem_map.mp m
    obtain ⟨h1, h2, _⟩ := net.tk u hu
    have g1 : Gd 9 0 0 (.str u.1) := Gd.str (by have := (net.nm _ h1).1; omega) (net.nm _ h1).2
    have g2 : Gd 9 0 0 (.str u.2) := Gd.str (by have := (net.nm _ h2).1; omega) (net.nm _ h2).2
    exact (Gd.tup (g1.one'.app g2.one')).mono (by omega) (by omega) (by omega)) (by rw [List.length_map]; have := net.m; omega)
  exact (Gd.tup (((Gd.tup gs).mono (d' := 2) (Nat.le_refl _) (by omega) (Nat.le_refl _)).one'.app (Gd.tup gu).one')).mono (by omega) (by omega) (by omega)
theorem right_b4 {n : Nat} {ds : List T} (hn : n ≤ 15000) (hd : Dk n (.lst ds)) {x1 x2 x3 x4 x5 x6 x7 x8 x9 x10 x11 x12 : Option O} {D : AEnds}
    (nx : ∀ (ds' : List T) (x2 x3 x4 x5 x6 x7 x8 x9 x10 x11 x12 : Option O), Dk (n + 600) (.lst ds') → D.nx [some (.lst ds'), x1, x2, x3, x4, x5, x6, x7, x8, x9, x10, x11, x12]) :
    t__law_right_b4 D [some (.lst ds), x1, x2, x3, x4, x5, x6, x7, x8, x9, x10, x11, x12] := by
  unfold t__law_right_b4
  simp only [sSeq, sNext, sRet, sRetN, sDrop, sIf, sSet, sFor, sPar, sAsg, bAnd, bOr, bNot, tTst, tCst, tBin, tUny, tNilA, tConsA, getAll, tCallB, tCallF, tTupD, tLstD, tChainA, tChainE, tRg, rgK.eq_1, tStripX, strip1K.eq_1, strip2K.eq_1, tAndE, tOrE, tNotE, tIfE, tComp, bYes, tDct0, tRange.eq_1, tgName, tgTup.eq_1, tgCons.eq_1, tgNil.eq_1, takeAll, back.eq_1, back.eq_2, back_nil, setO, tName_k, nameK.eq_1, nameK.eq_2, nameK.eq_3, nameK.eq_4, atK.eq_1, take1_v, take1_s, takeO_v, takeO_s, takeR_v, takeR_s, prep_n, prep_tv, prep_ts, prep_f, lstK.eq_1, lstAt_k, g2K.eq_1, g2_k, g1K.eq_1, g1_k, gNK.eq_1, gN_k, boK.eq_1, bOf_k, isiK.eq_1, tIsi_k, partK.eq_1, part_n, part_s, slcK.eq_1, slcK.eq_2, slcK.eq_3, slcK.eq_4, tSlc_k, revK.eq_1, revK.eq_2, revK.eq_3, tRev_k, strMK.eq_1, tStrM_k, itK.eq_1, tIter_k, enumK.eq_1, tEnum_k, zipK.eq_1, zipK.eq_2, tZip_k, intsK.eq_1, intsK.eq_2, intsOf_k, endK.eq_1, endO_k, extK.eq_1, tExtend_k, tAppend_k, setIxK.eq_1, sSetIx_k, popAtK.eq_1, tPopAt_k, bO.eq_1, itemsOf.eq_1, itemsOf.eq_2, itemsOf.eq_3, gAdd.eq_1, gAdd.eq_2, gAdd.eq_3, gAdd.eq_4, gAdd.eq_5, gAdd.eq_6, gSub_.eq_1, gSub_.eq_2, gMul2_s, gMul2_i, gMul2_l, gMulS.eq_1, gMul.eq_1, gMul.eq_2, gFdiv.eq_1, gMod.eq_1, gPow.eq_1, gNeg.eq_1, gNeg.eq_2, gGe.eq_1, gGt.eq_1, gLe.eq_1, gLt.eq_1, gLt.eq_2, gEq.eq_1, gNe.eq_1, gNe.eq_2, gNe.eq_3, gNe.eq_4, gInW.eq_1, gInW.eq_2, gIs.eq_1, gIsNot.eq_1, gLen.eq_1, gLen.eq_2, gAllAny.eq_1, gAbs.eq_1, gInt.eq_1, gInt.eq_2, gStr.eq_1, gStr.eq_2, gStr.eq_3, gM2.eq_1, gListOf.eq_1, gListOf.eq_2, gTupOf.eq_1, gTupOf.eq_2, gSort, gSortS.eq_1, gSortD.eq_1, gSortSet.eq_1, gRepr.eq_1, gM2S.eq_1, gIsB.eq_1, tCompN, tCompD, tCompI, tCompDI, tComp2, gIx.eq_1, gIx.eq_2, ati0, ati1, ati2, Option.some.injEq, exists_eq, exists_eq', false_implies, Opd.slot.injEq, forall_eq, forall_eq', Opd.get.eq_1, Opd.get.eq_2, at_join, join_some, O.frz.eq_1, O.frz.eq_2, frz_dct, O.frz.eq_4, lsO.eq_1, lsO.eq_2, tuO.eq_1, seqO_l, seqO_p, seqO_t, endsOf, outsOf, startA, wipeA, List.getElem?_cons_zero, List.getElem?_cons_succ, List.length_cons, List.length_nil, List.map_cons, List.map_nil, List.set_cons_zero, List.set_cons_succ, List.replicate_succ, List.replicate_zero, List.cons_append, List.nil_append, List.getD_cons_zero, List.getD_cons_succ, if_true, if_false, Bool.false_eq_true, reduceIte, reduceCtorEq, Bool.not_true, Bool.not_false, implies_true, true_and, and_true, Nat.sub_self, Nat.reduceAdd, Nat.reduceSub, Nat.zero_add, List.all_cons, List.all_nil, Bool.and_true, Bool.true_and]
  refine ⟨n, _, _, by omega, rfl, hd, by decide, by decide, fun r d' h0 h1 hd' => ?_⟩
  obtain ⟨ds', rfl⟩ := hd'.frz
  simp only [sSeq, sNext, sRet, sRetN, sDrop, sIf, sSet, sFor, sPar, sAsg, bAnd, bOr, bNot, tTst, tCst, tBin, tUny, tNilA, tConsA, getAll, tCallB, tCallF, tTupD, tLstD, tChainA, tChainE, tRg, rgK.eq_1, tStripX, strip1K.eq_1, strip2K.eq_1, tAndE, tOrE, tNotE, tIfE, tComp, bYes, tDct0, tRange.eq_1, tgName, tgTup.eq_1, tgCons.eq_1, tgNil.eq_1, takeAll, back.eq_1, back.eq_2, back_nil, setO, tName_k, nameK.eq_1, nameK.eq_2, nameK.eq_3, nameK.eq_4, atK.eq_1, take1_v, take1_s, takeO_v, takeO_s, takeR_v, takeR_s, prep_n, prep_tv, prep_ts, prep_f, lstK.eq_1, lstAt_k, g2K.eq_1, g2_k, g1K.eq_1, g1_k, gNK.eq_1, gN_k, boK.eq_1, bOf_k, isiK.eq_1, tIsi_k, partK.eq_1, part_n, part_s, slcK.eq_1, slcK.eq_2, slcK.eq_3, slcK.eq_4, tSlc_k, revK.eq_1, revK.eq_2, revK.eq_3, tRev_k, strMK.eq_1, tStrM_k, itK.eq_1, tIter_k, enumK.eq_1, tEnum_k, zipK.eq_1, zipK.eq_2, tZip_k, intsK.eq_1, intsK.eq_2, intsOf_k, endK.eq_1, endO_k, extK.eq_1, tExtend_k, tAppend_k, setIxK.eq_1, sSetIx_k, popAtK.eq_1, tPopAt_k, bO.eq_1, itemsOf.eq_1, itemsOf.eq_2, itemsOf.eq_3, gAdd.eq_1, gAdd.eq_2, gAdd.eq_3, gAdd.eq_4, gAdd.eq_5, gAdd.eq_6, gSub_.eq_1, gSub_.eq_2, gMul2_s, gMul2_i, gMul2_l, gMulS.eq_1, gMul.eq_1, gMul.eq_2, gFdiv.eq_1, gMod.eq_1, gPow.eq_1, gNeg.eq_1, gNeg.eq_2, gGe.eq_1, gGt.eq_1, gLe.eq_1, gLt.eq_1, gLt.eq_2, gEq.eq_1, gNe.eq_1, gNe.eq_2, gNe.eq_3, gNe.eq_4, gInW.eq_1, gInW.eq_2, gIs.eq_1, gIsNot.eq_1, gLen.eq_1, gLen.eq_2, gAllAny.eq_1, gAbs.eq_1, gInt.eq_1, gInt.eq_2, gStr.eq_1, gStr.eq_2, gStr.eq_3, gM2.eq_1, gListOf.eq_1, gListOf.eq_2, gTupOf.eq_1, gTupOf.eq_2, gSort, gSortS.eq_1, gSortD.eq_1, gSortSet.eq_1, gRepr.eq_1, gM2S.eq_1, gIsB.eq_1, tCompN, tCompD, tCompI, tCompDI, tComp2, gIx.eq_1, gIx.eq_2, ati0, ati1, ati2, Option.some.injEq, exists_eq, exists_eq', false_implies, Opd.slot.injEq, forall_eq, forall_eq', Opd.get.eq_1, Opd.get.eq_2, at_join, join_some, O.frz.eq_1, O.frz.eq_2, frz_dct, O.frz.eq_4, lsO.eq_1, lsO.eq_2, tuO.eq_1, seqO_l, seqO_p, seqO_t, endsOf, outsOf, startA, wipeA, List.getElem?_cons_zero, List.getElem?_cons_succ, List.length_cons, List.length_nil, List.map_cons, List.map_nil, List.set_cons_zero, List.set_cons_succ, List.replicate_succ, List.replicate_zero, List.cons_append, List.nil_append, List.getD_cons_zero, List.getD_cons_succ, if_true, if_false, Bool.false_eq_true, reduceIte, reduceCtorEq, Bool.not_true, Bool.not_false, implies_true, true_and, and_true, Nat.sub_self, Nat.reduceAdd, Nat.reduceSub, Nat.zero_add, List.all_cons, List.all_nil, Bool.and_true, Bool.true_and]
  refine ⟨n + 1, _, _, by omega, rfl, hd', by decide, by decide, fun r2 d' h20 h21 hd' => ?_⟩
  obtain ⟨ds', rfl⟩ := hd'.frz
  simp only [sSeq, sNext, sRet, sRetN, sDrop, sIf, sSet, sFor, sPar, sAsg, bAnd, bOr, bNot, tTst, tCst, tBin, tUny, tNilA, tConsA, getAll, tCallB, tCallF, tTupD, tLstD, tChainA, tChainE, tRg, rgK.eq_1, tStripX, strip1K.eq_1, strip2K.eq_1, tAndE, tOrE, tNotE, tIfE, tComp, bYes, tDct0, tRange.eq_1, tgName, tgTup.eq_1, tgCons.eq_1, tgNil.eq_1, takeAll, back.eq_1, back.eq_2, back_nil, setO, tName_k, nameK.eq_1, nameK.eq_2, nameK.eq_3, nameK.eq_4, atK.eq_1, take1_v, take1_s, takeO_v, takeO_s, takeR_v, takeR_s, prep_n, prep_tv, prep_ts, prep_f, lstK.eq_1, lstAt_k, g2K.eq_1, g2_k, g1K.eq_1, g1_k, gNK.eq_1, gN_k, boK.eq_1, bOf_k, isiK.eq_1, tIsi_k, partK.eq_1, part_n, part_s, slcK.eq_1, slcK.eq_2, slcK.eq_3, slcK.eq_4, tSlc_k, revK.eq_1, revK.eq_2, revK.eq_3, tRev_k, strMK.eq_1, tStrM_k, itK.eq_1, tIter_k, enumK.eq_1, tEnum_k, zipK.eq_1, zipK.eq_2, tZip_k, intsK.eq_1, intsK.eq_2, intsOf_k, endK.eq_1, endO_k, extK.eq_1, tExtend_k, tAppend_k, setIxK.eq_1, sSetIx_k, popAtK.eq_1, tPopAt_k, bO.eq_1, itemsOf.eq_1, itemsOf.eq_2, itemsOf.eq_3, gAdd.eq_1, gAdd.eq_2, gAdd.eq_3, gAdd.eq_4, gAdd.eq_5, gAdd.eq_6, gSub_.eq_1, gSub_.eq_2, gMul2_s, gMul2_i, gMul2_l, gMulS.eq_1, gMul.eq_1, gMul.eq_2, gFdiv.eq_1, gMod.eq_1, gPow.eq_1, gNeg.eq_1, gNeg.eq_2, gGe.eq_1, gGt.eq_1, gLe.eq_1, gLt.eq_1, gLt.eq_2, gEq.eq_1, gNe.eq_1, gNe.eq_2, gNe.eq_3, gNe.eq_4, gInW.eq_1, gInW.eq_2, gIs.eq_1, gIsNot.eq_1, gLen.eq_1, gLen.eq_2, gAllAny.eq_1, gAbs.eq_1, gInt.eq_1, gInt.eq_2, gStr.eq_1, gStr.eq_2, gStr.eq_3, gM2.eq_1, gListOf.eq_1, gListOf.eq_2, gTupOf.eq_1, gTupOf.eq_2, gSort, gSortS.eq_1, gSortD.eq_1, gSortSet.eq_1, gRepr.eq_1, gM2S.eq_1, gIsB.eq_1, tCompN, tCompD, tCompI, tCompDI, tComp2, gIx.eq_1, gIx.eq_2, ati0, ati1, ati2, Option.some.injEq, exists_eq, exists_eq', false_implies, Opd.slot.injEq, forall_eq, forall_eq', Opd.get.eq_1, Opd.get.eq_2, at_join, join_some, O.frz.eq_1, O.frz.eq_2, frz_dct, O.frz.eq_4, lsO.eq_1, lsO.eq_2, tuO.eq_1, seqO_l, seqO_p, seqO_t, endsOf, outsOf, startA, wipeA, List.getElem?_cons_zero, List.getElem?_cons_succ, List.length_cons, List.length_nil, List.map_cons, List.map_nil, List.set_cons_zero, List.set_cons_succ, List.replicate_succ, List.replicate_zero, List.cons_append, List.nil_append, List.getD_cons_zero, List.getD_cons_succ, if_true, if_false, Bool.false_eq_true, reduceIte, reduceCtorEq, Bool.not_true, Bool.not_false, implies_true, true_and, and_true, Nat.sub_self, Nat.reduceAdd, Nat.reduceSub, Nat.zero_add, List.all_cons, List.all_nil, Bool.and_true, Bool.true_and]
  refine ⟨by simp [cmpOk], by simp [PyData.depth], n + 2, _, (1 + r).toNat, _, by omega, by rw [Int.toNat_of_nonneg (by omega)], hd', by omega, by omega, fun ys us d' net hd' => ?_⟩
  obtain ⟨ds', rfl⟩ := hd'.frz
  obtain ⟨g1, g2, g3⟩ := repr_ok (by decide) (by decide) (by decide) (net_gd net)
  simp only [sSeq, sNext, sRet, sRetN, sDrop, sIf, sSet, sFor, sPar, sAsg, bAnd, bOr, bNot, tTst, tCst, tBin, tUny, tNilA, tConsA, getAll, tCallB, tCallF, tTupD, tLstD, tChainA, tChainE, tRg, rgK.eq_1, tStripX, strip1K.eq_1, strip2K.eq_1, tAndE, tOrE, tNotE, tIfE, tComp, bYes, tDct0, tRange.eq_1, tgName, tgTup.eq_1, tgCons.eq_1, tgNil.eq_1, takeAll, back.eq_1, back.eq_2, back_nil, setO, tName_k, nameK.eq_1, nameK.eq_2, nameK.eq_3, nameK.eq_4, atK.eq_1, take1_v, take1_s, takeO_v, takeO_s, takeR_v, takeR_s, prep_n, prep_tv, prep_ts, prep_f, lstK.eq_1, lstAt_k, g2K.eq_1, g2_k, g1K.eq_1, g1_k, gNK.eq_1, gN_k, boK.eq_1, bOf_k, isiK.eq_1, tIsi_k, partK.eq_1, part_n, part_s, slcK.eq_1, slcK.eq_2, slcK.eq_3, slcK.eq_4, tSlc_k, revK.eq_1, revK.eq_2, revK.eq_3, tRev_k, strMK.eq_1, tStrM_k, itK.eq_1, tIter_k, enumK.eq_1, tEnum_k, zipK.eq_1, zipK.eq_2, tZip_k, intsK.eq_1, intsK.eq_2, intsOf_k, endK.eq_1, endO_k, extK.eq_1, tExtend_k, tAppend_k, setIxK.eq_1, sSetIx_k, popAtK.eq_1, tPopAt_k, bO.eq_1, itemsOf.eq_1, itemsOf.eq_2, itemsOf.eq_3, gAdd.eq_1, gAdd.eq_2, gAdd.eq_3, gAdd.eq_4, gAdd.eq_5, gAdd.eq_6, gSub_.eq_1, gSub_.eq_2, gMul2_s, gMul2_i, gMul2_l, gMulS.eq_1, gMul.eq_1, gMul.eq_2, gFdiv.eq_1, gMod.eq_1, gPow.eq_1, gNeg.eq_1, gNeg.eq_2, gGe.eq_1, gGt.eq_1, gLe.eq_1, gLt.eq_1, gLt.eq_2, gEq.eq_1, gNe.eq_1, gNe.eq_2, gNe.eq_3, gNe.eq_4, gInW.eq_1, gInW.eq_2, gIs.eq_1, gIsNot.eq_1, gLen.eq_1, gLen.eq_2, gAllAny.eq_1, gAbs.eq_1, gInt.eq_1, gInt.eq_2, gStr.eq_1, gStr.eq_2, gStr.eq_3, gM2.eq_1, gListOf.eq_1, gListOf.eq_2, gTupOf.eq_1, gTupOf.eq_2, gSort, gSortS.eq_1, gSortD.eq_1, gSortSet.eq_1, gRepr.eq_1, gM2S.eq_1, gIsB.eq_1, tCompN, tCompD, tCompI, tCompDI, tComp2, gIx.eq_1, gIx.eq_2, ati0, ati1, ati2, Option.some.injEq, exists_eq, exists_eq', false_implies, Opd.slot.injEq, forall_eq, forall_eq', Opd.get.eq_1, Opd.get.eq_2, at_join, join_some, O.frz.eq_1, O.frz.eq_2, frz_dct, O.frz.eq_4, lsO.eq_1, lsO.eq_2, tuO.eq_1, seqO_l, seqO_p, seqO_t, endsOf, outsOf, startA, wipeA, List.getElem?_cons_zero, List.getElem?_cons_succ, List.length_cons, List.length_nil, List.map_cons, List.map_nil, List.set_cons_zero, List.set_cons_succ, List.replicate_succ, List.replicate_zero, List.cons_append, List.nil_append, List.getD_cons_zero, List.getD_cons_succ, if_true, if_false, Bool.false_eq_true, reduceIte, reduceCtorEq, Bool.not_true, Bool.not_false, implies_true, true_and, and_true, Nat.sub_self, Nat.reduceAdd, Nat.reduceSub, Nat.zero_add, List.all_cons, List.all_nil, Bool.and_true, Bool.true_and]
  refine ⟨rfl, ys, us, rfl, net, ?_⟩
  refine ⟨g1, g2, g3, rfl, by decide, by decide, ?_⟩
  refine forW_inv (fun c ρ => ∃ ds o3 x5 x6 x7 x8 x9 x10 x11 x12, Dk (n + 202 + 24 * c) (.lst ds) ∧ IsTab o3 (tabL ys us) ∧ ρ = [some (.lst ds), x1, some (.pure (netO ys us)), some o3, some (.pure (.str (PyData.shown (netO ys us)))), x5, x6, x7, x8, x9, x10, x11, x12]) 12 _ 0 _ (by simp [rngItems]) (fun c t ρ D' mt hc2 hinv n1 _ _ _ => ?_) ⟨ds', _, x5, x6, x7, x8, x9, x10, x11, x12, hd', .inl rfl, rfl⟩ fun ρ hinv => ?_
  · obtain ⟨ds, o3, x5, x6, x7, x8, x9, x10, x11, x12, hd, h3, rfl⟩ := hinv
    obtain ⟨far, hfar, rfl⟩ := rng_mem mt
    have h12 : Int.toNat 12 = 12 := rfl
    rw [h12] at hfar
    simp only [sSeq, sNext, sRet, sRetN, sDrop, sIf, sSet, sFor, sPar, sAsg, bAnd, bOr, bNot, tTst, tCst, tBin, tUny, tNilA, tConsA, getAll, tCallB, tCallF, tTupD, tLstD, tChainA, tChainE, tRg, rgK.eq_1, tStripX, strip1K.eq_1, strip2K.eq_1, tAndE, tOrE, tNotE, tIfE, tComp, bYes, tDct0, tRange.eq_1, tgName, tgTup.eq_1, tgCons.eq_1, tgNil.eq_1, takeAll, back.eq_1, back.eq_2, back_nil, setO, tName_k, nameK.eq_1, nameK.eq_2, nameK.eq_3, nameK.eq_4, atK.eq_1, take1_v, take1_s, takeO_v, takeO_s, takeR_v, takeR_s, prep_n, prep_tv, prep_ts, prep_f, lstK.eq_1, lstAt_k, g2K.eq_1, g2_k, g1K.eq_1, g1_k, gNK.eq_1, gN_k, boK.eq_1, bOf_k, isiK.eq_1, tIsi_k, partK.eq_1, part_n, part_s, slcK.eq_1, slcK.eq_2, slcK.eq_3, slcK.eq_4, tSlc_k, revK.eq_1, revK.eq_2, revK.eq_3, tRev_k, strMK.eq_1, tStrM_k, itK.eq_1, tIter_k, enumK.eq_1, tEnum_k, zipK.eq_1, zipK.eq_2, tZip_k, intsK.eq_1, intsK.eq_2, intsOf_k, endK.eq_1, endO_k, extK.eq_1, tExtend_k, tAppend_k, setIxK.eq_1, sSetIx_k, popAtK.eq_1, tPopAt_k, bO.eq_1, itemsOf.eq_1, itemsOf.eq_2, itemsOf.eq_3, gAdd.eq_1, gAdd.eq_2, gAdd.eq_3, gAdd.eq_4, gAdd.eq_5, gAdd.eq_6, gSub_.eq_1, gSub_.eq_2, gMul2_s, gMul2_i, gMul2_l, gMulS.eq_1, gMul.eq_1, gMul.eq_2, gFdiv.eq_1, gMod.eq_1, gPow.eq_1, gNeg.eq_1, gNeg.eq_2, gGe.eq_1, gGt.eq_1, gLe.eq_1, gLt.eq_1, gLt.eq_2, gEq.eq_1, gNe.eq_1, gNe.eq_2, gNe.eq_3, gNe.eq_4, gInW.eq_1, gInW.eq_2, gIs.eq_1, gIsNot.eq_1, gLen.eq_1, gLen.eq_2, gAllAny.eq_1, gAbs.eq_1, gInt.eq_1, gInt.eq_2, gStr.eq_1, gStr.eq_2, gStr.eq_3, gM2.eq_1, gListOf.eq_1, gListOf.eq_2, gTupOf.eq_1, gTupOf.eq_2, gSort, gSortS.eq_1, gSortD.eq_1, gSortSet.eq_1, gRepr.eq_1, gM2S.eq_1, gIsB.eq_1, tCompN, tCompD, tCompI, tCompDI, tComp2, gIx.eq_1, gIx.eq_2, ati0, ati1, ati2, Option.some.injEq, exists_eq, exists_eq', false_implies, Opd.slot.injEq, forall_eq, forall_eq', Opd.get.eq_1, Opd.get.eq_2, at_join, join_some, O.frz.eq_1, O.frz.eq_2, frz_dct, O.frz.eq_4, lsO.eq_1, lsO.eq_2, tuO.eq_1, seqO_l, seqO_p, seqO_t, endsOf, outsOf, startA, wipeA, List.getElem?_cons_zero, List.getElem?_cons_succ, List.length_cons, List.length_nil, List.map_cons, List.map_nil, List.set_cons_zero, List.set_cons_succ, List.replicate_succ, List.replicate_zero, List.cons_append, List.nil_append, List.getD_cons_zero, List.getD_cons_succ, if_true, if_false, Bool.false_eq_true, reduceIte, reduceCtorEq, Bool.not_true, Bool.not_false, implies_true, true_and, and_true, Nat.sub_self, Nat.reduceAdd, Nat.reduceSub, Nat.zero_add, List.all_cons, List.all_nil, Bool.and_true, Bool.true_and]
    refine ⟨rfl, ?_⟩
    exact right_b3 (n := n + 202 + 24 * c) net (by omega) hd (by omega) (by omega) h3 fun ds' o3' x6 x7 x8 x9 x10 x11 x12 hd' h3' => n1 _ ⟨ds', o3', _, _, _, _, _, _, _, _, hd'.mono (by omega), h3', rfl⟩
  · obtain ⟨ds, o3, x5, x6, x7, x8, x9, x10, x11, x12, hd, h3, rfl⟩ := hinv
    simp only [sSeq, sNext, sRet, sRetN, sDrop, sIf, sSet, sFor, sPar, sAsg, bAnd, bOr, bNot, tTst, tCst, tBin, tUny, tNilA, tConsA, getAll, tCallB, tCallF, tTupD, tLstD, tChainA, tChainE, tRg, rgK.eq_1, tStripX, strip1K.eq_1, strip2K.eq_1, tAndE, tOrE, tNotE, tIfE, tComp, bYes, tDct0, tRange.eq_1, tgName, tgTup.eq_1, tgCons.eq_1, tgNil.eq_1, takeAll, back.eq_1, back.eq_2, back_nil, setO, tName_k, nameK.eq_1, nameK.eq_2, nameK.eq_3, nameK.eq_4, atK.eq_1, take1_v, take1_s, takeO_v, takeO_s, takeR_v, takeR_s, prep_n, prep_tv, prep_ts, prep_f, lstK.eq_1, lstAt_k, g2K.eq_1, g2_k, g1K.eq_1, g1_k, gNK.eq_1, gN_k, boK.eq_1, bOf_k, isiK.eq_1, tIsi_k, partK.eq_1, part_n, part_s, slcK.eq_1, slcK.eq_2, slcK.eq_3, slcK.eq_4, tSlc_k, revK.eq_1, revK.eq_2, revK.eq_3, tRev_k, strMK.eq_1, tStrM_k, itK.eq_1, tIter_k, enumK.eq_1, tEnum_k, zipK.eq_1, zipK.eq_2, tZip_k, intsK.eq_1, intsK.eq_2, intsOf_k, endK.eq_1, endO_k, extK.eq_1, tExtend_k, tAppend_k, setIxK.eq_1, sSetIx_k, popAtK.eq_1, tPopAt_k, bO.eq_1, itemsOf.eq_1, itemsOf.eq_2, itemsOf.eq_3, gAdd.eq_1, gAdd.eq_2, gAdd.eq_3, gAdd.eq_4, gAdd.eq_5, gAdd.eq_6, gSub_.eq_1, gSub_.eq_2, gMul2_s, gMul2_i, gMul2_l, gMulS.eq_1, gMul.eq_1, gMul.eq_2, gFdiv.eq_1, gMod.eq_1, gPow.eq_1, gNeg.eq_1, gNeg.eq_2, gGe.eq_1, gGt.eq_1, gLe.eq_1, gLt.eq_1, gLt.eq_2, gEq.eq_1, gNe.eq_1, gNe.eq_2, gNe.eq_3, gNe.eq_4, gInW.eq_1, gInW.eq_2, gIs.eq_1, gIsNot.eq_1, gLen.eq_1, gLen.eq_2, gAllAny.eq_1, gAbs.eq_1, gInt.eq_1, gInt.eq_2, gStr.eq_1, gStr.eq_2, gStr.eq_3, gM2.eq_1, gListOf.eq_1, gListOf.eq_2, gTupOf.eq_1, gTupOf.eq_2, gSort, gSortS.eq_1, gSortD.eq_1, gSortSet.eq_1, gRepr.eq_1, gM2S.eq_1, gIsB.eq_1, tCompN, tCompD, tCompI, tCompDI, tComp2, gIx.eq_1, gIx.eq_2, ati0, ati1, ati2, Option.some.injEq, exists_eq, exists_eq', false_implies, Opd.slot.injEq, forall_eq, forall_eq', Opd.get.eq_1, Opd.get.eq_2, at_join, join_some, O.frz.eq_1, O.frz.eq_2, frz_dct, O.frz.eq_4, lsO.eq_1, lsO.eq_2, tuO.eq_1, seqO_l, seqO_p, seqO_t, endsOf, outsOf, startA, wipeA, List.getElem?_cons_zero, List.getElem?_cons_succ, List.length_cons, List.length_nil, List.map_cons, List.map_nil, List.set_cons_zero, List.set_cons_succ, List.replicate_succ, List.replicate_zero, List.cons_append, List.nil_append, List.getD_cons_zero, List.getD_cons_succ, if_true, if_false, Bool.false_eq_true, reduceIte, reduceCtorEq, Bool.not_true, Bool.not_false, implies_true, true_and, and_true, Nat.sub_self, Nat.reduceAdd, Nat.reduceSub, Nat.zero_add, List.all_cons, List.all_nil, Bool.and_true, Bool.true_and]
    refine ⟨g1, g2, g3, ?_⟩
    rw [if_neg (by simp)]
    exact nx _ _ _ _ _ _ _ _ _ _ _ _ (hd.mono (by omega))
theorem pl__law_right (os : List O) (Qa : O → List O → Prop) (_ : os.length = 1) (h : sp__law_right os Qa) : t__law_right (endsOf [true] Qa) (startA 13 os) := by
  obtain ⟨n, d, hn, rfl, hd, h⟩ := h
  obtain ⟨ds, rfl⟩ := hd.frz
  unfold t__law_right
  simp only [sSeq, sNext, sRet, sRetN, sDrop, sIf, sSet, sFor, sPar, sAsg, bAnd, bOr, bNot, tTst, tCst, tBin, tUny, tNilA, tConsA, getAll, tCallB, tCallF, tTupD, tLstD, tChainA, tChainE, tRg, rgK.eq_1, tStripX, strip1K.eq_1, strip2K.eq_1, tAndE, tOrE, tNotE, tIfE, tComp, bYes, tDct0, tRange.eq_1, tgName, tgTup.eq_1, tgCons.eq_1, tgNil.eq_1, takeAll, back.eq_1, back.eq_2, back_nil, setO, tName_k, nameK.eq_1, nameK.eq_2, nameK.eq_3, nameK.eq_4, atK.eq_1, take1_v, take1_s, takeO_v, takeO_s, takeR_v, takeR_s, prep_n, prep_tv, prep_ts, prep_f, lstK.eq_1, lstAt_k, g2K.eq_1, g2_k, g1K.eq_1, g1_k, gNK.eq_1, gN_k, boK.eq_1, bOf_k, isiK.eq_1, tIsi_k, partK.eq_1, part_n, part_s, slcK.eq_1, slcK.eq_2, slcK.eq_3, slcK.eq_4, tSlc_k, revK.eq_1, revK.eq_2, revK.eq_3, tRev_k, strMK.eq_1, tStrM_k, itK.eq_1, tIter_k, enumK.eq_1, tEnum_k, zipK.eq_1, zipK.eq_2, tZip_k, intsK.eq_1, intsK.eq_2, intsOf_k, endK.eq_1, endO_k, extK.eq_1, tExtend_k, tAppend_k, setIxK.eq_1, sSetIx_k, popAtK.eq_1, tPopAt_k, bO.eq_1, itemsOf.eq_1, itemsOf.eq_2, itemsOf.eq_3, gAdd.eq_1, gAdd.eq_2, gAdd.eq_3, gAdd.eq_4, gAdd.eq_5, gAdd.eq_6, gSub_.eq_1, gSub_.eq_2, gMul2_s, gMul2_i, gMul2_l, gMulS.eq_1, gMul.eq_1, gMul.eq_2, gFdiv.eq_1, gMod.eq_1, gPow.eq_1, gNeg.eq_1, gNeg.eq_2, gGe.eq_1, gGt.eq_1, gLe.eq_1, gLt.eq_1, gLt.eq_2, gEq.eq_1, gNe.eq_1, gNe.eq_2, gNe.eq_3, gNe.eq_4, gInW.eq_1, gInW.eq_2, gIs.eq_1, gIsNot.eq_1, gLen.eq_1, gLen.eq_2, gAllAny.eq_1, gAbs.eq_1, gInt.eq_1, gInt.eq_2, gStr.eq_1, gStr.eq_2, gStr.eq_3, gM2.eq_1, gListOf.eq_1, gListOf.eq_2, gTupOf.eq_1, gTupOf.eq_2, gSort, gSortS.eq_1, gSortD.eq_1, gSortSet.eq_1, gRepr.eq_1, gM2S.eq_1, gIsB.eq_1, tCompN, tCompD, tCompI, tCompDI, tComp2, gIx.eq_1, gIx.eq_2, ati0, ati1, ati2, Option.some.injEq, exists_eq, exists_eq', false_implies, Opd.slot.injEq, forall_eq, forall_eq', Opd.get.eq_1, Opd.get.eq_2, at_join, join_some, O.frz.eq_1, O.frz.eq_2, frz_dct, O.frz.eq_4, lsO.eq_1, lsO.eq_2, tuO.eq_1, seqO_l, seqO_p, seqO_t, endsOf, outsOf, startA, wipeA, List.getElem?_cons_zero, List.getElem?_cons_succ, List.length_cons, List.length_nil, List.map_cons, List.map_nil, List.set_cons_zero, List.set_cons_succ, List.replicate_succ, List.replicate_zero, List.cons_append, List.nil_append, List.getD_cons_zero, List.getD_cons_succ, if_true, if_false, Bool.false_eq_true, reduceIte, reduceCtorEq, Bool.not_true, Bool.not_false, implies_true, true_and, and_true, Nat.sub_self, Nat.reduceAdd, Nat.reduceSub, Nat.zero_add, List.all_cons, List.all_nil, Bool.and_true, Bool.true_and]
  refine ⟨by decide, by decide, ?_⟩
  refine forW_inv (fun c ρ => ∃ ds x1 x2 x3 x4 x5 x6 x7 x8 x9 x10 x11 x12, Dk (n + 600 * c) (.lst ds) ∧ ρ = [some (.lst ds), x1, x2, x3, x4, x5, x6, x7, x8, x9, x10, x11, x12]) 3 _ 0 _ (by simp [rngItems]) (fun c t ρ D' mt hc2 hinv n1 _ _ _ => ?_) ⟨ds, none, none, none, none, none, none, none, none, none, none, none, none, hd, rfl⟩ fun ρ hinv => ?_
  · obtain ⟨ds, x1, x2, x3, x4, x5, x6, x7, x8, x9, x10, x11, x12, hd, rfl⟩ := hinv
    simp only [sSeq, sNext, sRet, sRetN, sDrop, sIf, sSet, sFor, sPar, sAsg, bAnd, bOr, bNot, tTst, tCst, tBin, tUny, tNilA, tConsA, getAll, tCallB, tCallF, tTupD, tLstD, tChainA, tChainE, tRg, rgK.eq_1, tStripX, strip1K.eq_1, strip2K.eq_1, tAndE, tOrE, tNotE, tIfE, tComp, bYes, tDct0, tRange.eq_1, tgName, tgTup.eq_1, tgCons.eq_1, tgNil.eq_1, takeAll, back.eq_1, back.eq_2, back_nil, setO, tName_k, nameK.eq_1, nameK.eq_2, nameK.eq_3, nameK.eq_4, atK.eq_1, take1_v, take1_s, takeO_v, takeO_s, takeR_v, takeR_s, prep_n, prep_tv, prep_ts, prep_f, lstK.eq_1, lstAt_k, g2K.eq_1, g2_k, g1K.eq_1, g1_k, gNK.eq_1, gN_k, boK.eq_1, bOf_k, isiK.eq_1, tIsi_k, partK.eq_1, part_n, part_s, slcK.eq_1, slcK.eq_2, slcK.eq_3, slcK.eq_4, tSlc_k, revK.eq_1, revK.eq_2, revK.eq_3, tRev_k, strMK.eq_1, tStrM_k, itK.eq_1, tIter_k, enumK.eq_1, tEnum_k, zipK.eq_1, zipK.eq_2, tZip_k, intsK.eq_1, intsK.eq_2, intsOf_k, endK.eq_1, endO_k, extK.eq_1, tExtend_k, tAppend_k, setIxK.eq_1, sSetIx_k, popAtK.eq_1, tPopAt_k, bO.eq_1, itemsOf.eq_1, itemsOf.eq_2, itemsOf.eq_3, gAdd.eq_1, gAdd.eq_2, gAdd.eq_3, gAdd.eq_4, gAdd.eq_5, gAdd.eq_6, gSub_.eq_1, gSub_.eq_2, gMul2_s, gMul2_i, gMul2_l, gMulS.eq_1, gMul.eq_1, gMul.eq_2, gFdiv.eq_1, gMod.eq_1, gPow.eq_1, gNeg.eq_1, gNeg.eq_2, gGe.eq_1, gGt.eq_1, gLe.eq_1, gLt.eq_1, gLt.eq_2, gEq.eq_1, gNe.eq_1, gNe.eq_2, gNe.eq_3, gNe.eq_4, gInW.eq_1, gInW.eq_2, gIs.eq_1, gIsNot.eq_1, gLen.eq_1, gLen.eq_2, gAllAny.eq_1, gAbs.eq_1, gInt.eq_1, gInt.eq_2, gStr.eq_1, gStr.eq_2, gStr.eq_3, gM2.eq_1, gListOf.eq_1, gListOf.eq_2, gTupOf.eq_1, gTupOf.eq_2, gSort, gSortS.eq_1, gSortD.eq_1, gSortSet.eq_1, gRepr.eq_1, gM2S.eq_1, gIsB.eq_1, tCompN, tCompD, tCompI, tCompDI, tComp2, gIx.eq_1, gIx.eq_2, ati0, ati1, ati2, Option.some.injEq, exists_eq, exists_eq', false_implies, Opd.slot.injEq, forall_eq, forall_eq', Opd.get.eq_1, Opd.get.eq_2, at_join, join_some, O.frz.eq_1, O.frz.eq_2, frz_dct, O.frz.eq_4, lsO.eq_1, lsO.eq_2, tuO.eq_1, seqO_l, seqO_p, seqO_t, endsOf, outsOf, startA, wipeA, List.getElem?_cons_zero, List.getElem?_cons_succ, List.length_cons, List.length_nil, List.map_cons, List.map_nil, List.set_cons_zero, List.set_cons_succ, List.replicate_succ, List.replicate_zero, List.cons_append, List.nil_append, List.getD_cons_zero, List.getD_cons_succ, if_true, if_false, Bool.false_eq_true, reduceIte, reduceCtorEq, Bool.not_true, Bool.not_false, implies_true, true_and, and_true, Nat.sub_self, Nat.reduceAdd, Nat.reduceSub, Nat.zero_add, List.all_cons, List.all_nil, Bool.and_true, Bool.true_and]
    refine ⟨rfl, ?_⟩
    exact right_b4 (n := n + 600 * c) (by omega) hd fun ds' x2 x3 x4 x5 x6 x7 x8 x9 x10 x11 x12 hd' => n1 _ ⟨ds', _, _, _, _, _, _, _, _, _, _, _, _, hd'.mono (by omega), rfl⟩
  · obtain ⟨ds, x1, x2, x3, x4, x5, x6, x7, x8, x9, x10, x11, x12, hd, rfl⟩ := hinv
    simp only [sSeq, sNext, sRet, sRetN, sDrop, sIf, sSet, sFor, sPar, sAsg, bAnd, bOr, bNot, tTst, tCst, tBin, tUny, tNilA, tConsA, getAll, tCallB, tCallF, tTupD, tLstD, tChainA, tChainE, tRg, rgK.eq_1, tStripX, strip1K.eq_1, strip2K.eq_1, tAndE, tOrE, tNotE, tIfE, tComp, bYes, tDct0, tRange.eq_1, tgName, tgTup.eq_1, tgCons.eq_1, tgNil.eq_1, takeAll, back.eq_1, back.eq_2, back_nil, setO, tName_k, nameK.eq_1, nameK.eq_2, nameK.eq_3, nameK.eq_4, atK.eq_1, take1_v, take1_s, takeO_v, takeO_s, takeR_v, takeR_s, prep_n, prep_tv, prep_ts, prep_f, lstK.eq_1, lstAt_k, g2K.eq_1, g2_k, g1K.eq_1, g1_k, gNK.eq_1, gN_k, boK.eq_1, bOf_k, isiK.eq_1, tIsi_k, partK.eq_1, part_n, part_s, slcK.eq_1, slcK.eq_2, slcK.eq_3, slcK.eq_4, tSlc_k, revK.eq_1, revK.eq_2, revK.eq_3, tRev_k, strMK.eq_1, tStrM_k, itK.eq_1, tIter_k, enumK.eq_1, tEnum_k, zipK.eq_1, zipK.eq_2, tZip_k, intsK.eq_1, intsK.eq_2, intsOf_k, endK.eq_1, endO_k, extK.eq_1, tExtend_k, tAppend_k, setIxK.eq_1, sSetIx_k, popAtK.eq_1, tPopAt_k, bO.eq_1, itemsOf.eq_1, itemsOf.eq_2, itemsOf.eq_3, gAdd.eq_1, gAdd.eq_2, gAdd.eq_3, gAdd.eq_4, gAdd.eq_5, gAdd.eq_6, gSub_.eq_1, gSub_.eq_2, gMul2_s, gMul2_i, gMul2_l, gMulS.eq_1, gMul.eq_1, gMul.eq_2, gFdiv.eq_1, gMod.eq_1, gPow.eq_1, gNeg.eq_1, gNeg.eq_2, gGe.eq_1, gGt.eq_1, gLe.eq_1, gLt.eq_1, gLt.eq_2, gEq.eq_1, gNe.eq_1, gNe.eq_2, gNe.eq_3, gNe.eq_4, gInW.eq_1, gInW.eq_2, gIs.eq_1, gIsNot.eq_1, gLen.eq_1, gLen.eq_2, gAllAny.eq_1, gAbs.eq_1, gInt.eq_1, gInt.eq_2, gStr.eq_1, gStr.eq_2, gStr.eq_3, gM2.eq_1, gListOf.eq_1, gListOf.eq_2, gTupOf.eq_1, gTupOf.eq_2, gSort, gSortS.eq_1, gSortD.eq_1, gSortSet.eq_1, gRepr.eq_1, gM2S.eq_1, gIsB.eq_1, tCompN, tCompD, tCompI, tCompDI, tComp2, gIx.eq_1, gIx.eq_2, ati0, ati1, ati2, Option.some.injEq, exists_eq, exists_eq', false_implies, Opd.slot.injEq, forall_eq, forall_eq', Opd.get.eq_1, Opd.get.eq_2, at_join, join_some, O.frz.eq_1, O.frz.eq_2, frz_dct, O.frz.eq_4, lsO.eq_1, lsO.eq_2, tuO.eq_1, seqO_l, seqO_p, seqO_t, endsOf, outsOf, startA, wipeA, List.getElem?_cons_zero, List.getElem?_cons_succ, List.length_cons, List.length_nil, List.map_cons, List.map_nil, List.set_cons_zero, List.set_cons_succ, List.replicate_succ, List.replicate_zero, List.cons_append, List.nil_append, List.getD_cons_zero, List.getD_cons_succ, if_true, if_false, Bool.false_eq_true, reduceIte, reduceCtorEq, Bool.not_true, Bool.not_false, implies_true, true_and, and_true, Nat.sub_self, Nat.reduceAdd, Nat.reduceSub, Nat.zero_add, List.all_cons, List.all_nil, Bool.and_true, Bool.true_and]
    exact h _ (hd.mono (by omega))
def sp_law : FSpec := fun os Q => ∃ ts, os = [.pure (.list ts)] ∧ (∀ t ∈ ts, ∃ i : Int, t = .int i) ∧ Q (.pure (.bool true)) []
/-- law: slots 0:_law_script 1:_law_k -/
def t_law : ST := (sRet (fun j => [false].getD j false) (tCallB (gAllAny fun bs => bs.all id) (tConsA (tComp (tRange (tConsA (tCallB (gM2 fun i j => if j > i then j else i) (tConsA (tCst (.int 1)) (tConsA (tCallB (gM2 fun i j => if j < i then j else i) (tConsA (tCst (.int 3)) (tConsA (tCallB gLen (tConsA (tName 0) tNilA)) tNilA))) tNilA))) tNilA)) (tgName 1) bYes (tCallF [true] sp__law_right (tConsA (tCallF [false, false] sp__law_deck (tConsA (tName 0) (tConsA (tName 1) tNilA))) tNilA)) [1]) tNilA)))
theorem pl_law (os : List O) (Qa : O → List O → Prop) (_ : os.length = 1) (h : sp_law os Qa) : t_law (endsOf [false] Qa) (startA 2 os) := by
  obtain ⟨ts, rfl, hi, h⟩ := h
  unfold t_law
  simp only [sSeq, sNext, sRet, sRetN, sDrop, sIf, sSet, sFor, sPar, sAsg, bAnd, bOr, bNot, tTst, tCst, tBin, tUny, tNilA, tConsA, getAll, tCallB, tCallF, tTupD, tLstD, tChainA, tChainE, tRg, rgK.eq_1, tStripX, strip1K.eq_1, strip2K.eq_1, tAndE, tOrE, tNotE, tIfE, tComp, bYes, tDct0, tRange.eq_1, tgName, tgTup.eq_1, tgCons.eq_1, tgNil.eq_1, takeAll, back.eq_1, back.eq_2, back_nil, setO, tName_k, nameK.eq_1, nameK.eq_2, nameK.eq_3, nameK.eq_4, atK.eq_1, take1_v, take1_s, takeO_v, takeO_s, takeR_v, takeR_s, prep_n, prep_tv, prep_ts, prep_f, lstK.eq_1, lstAt_k, g2K.eq_1, g2_k, g1K.eq_1, g1_k, gNK.eq_1, gN_k, boK.eq_1, bOf_k, isiK.eq_1, tIsi_k, partK.eq_1, part_n, part_s, slcK.eq_1, slcK.eq_2, slcK.eq_3, slcK.eq_4, tSlc_k, revK.eq_1, revK.eq_2, revK.eq_3, tRev_k, strMK.eq_1, tStrM_k, itK.eq_1, tIter_k, enumK.eq_1, tEnum_k, zipK.eq_1, zipK.eq_2, tZip_k, intsK.eq_1, intsK.eq_2, intsOf_k, endK.eq_1, endO_k, extK.eq_1, tExtend_k, tAppend_k, setIxK.eq_1, sSetIx_k, popAtK.eq_1, tPopAt_k, bO.eq_1, itemsOf.eq_1, itemsOf.eq_2, itemsOf.eq_3, gAdd.eq_1, gAdd.eq_2, gAdd.eq_3, gAdd.eq_4, gAdd.eq_5, gAdd.eq_6, gSub_.eq_1, gSub_.eq_2, gMul2_s, gMul2_i, gMul2_l, gMulS.eq_1, gMul.eq_1, gMul.eq_2, gFdiv.eq_1, gMod.eq_1, gPow.eq_1, gNeg.eq_1, gNeg.eq_2, gGe.eq_1, gGt.eq_1, gLe.eq_1, gLt.eq_1, gLt.eq_2, gEq.eq_1, gNe.eq_1, gNe.eq_2, gNe.eq_3, gNe.eq_4, gInW.eq_1, gInW.eq_2, gIs.eq_1, gIsNot.eq_1, gLen.eq_1, gLen.eq_2, gAllAny.eq_1, gAbs.eq_1, gInt.eq_1, gInt.eq_2, gStr.eq_1, gStr.eq_2, gStr.eq_3, gM2.eq_1, gListOf.eq_1, gListOf.eq_2, gTupOf.eq_1, gTupOf.eq_2, gSort, gSortS.eq_1, gSortD.eq_1, gSortSet.eq_1, gRepr.eq_1, gM2S.eq_1, gIsB.eq_1, tCompN, tCompD, tCompI, tCompDI, tComp2, gIx.eq_1, gIx.eq_2, ati0, ati1, ati2, Option.some.injEq, exists_eq, exists_eq', false_implies, Opd.slot.injEq, forall_eq, forall_eq', Opd.get.eq_1, Opd.get.eq_2, at_join, join_some, O.frz.eq_1, O.frz.eq_2, frz_dct, O.frz.eq_4, lsO.eq_1, lsO.eq_2, tuO.eq_1, seqO_l, seqO_p, seqO_t, endsOf, outsOf, startA, wipeA, List.getElem?_cons_zero, List.getElem?_cons_succ, List.length_cons, List.length_nil, List.map_cons, List.map_nil, List.set_cons_zero, List.set_cons_succ, List.replicate_succ, List.replicate_zero, List.cons_append, List.nil_append, List.getD_cons_zero, List.getD_cons_succ, if_true, if_false, Bool.false_eq_true, reduceIte, reduceCtorEq, Bool.not_true, Bool.not_false, implies_true, true_and, and_true, Nat.sub_self, Nat.reduceAdd, Nat.reduceSub, Nat.zero_add, List.all_cons, List.all_nil, Bool.and_true, Bool.true_and, tComp]
  obtain ⟨m, e, h1, h2⟩ : ∃ m : Int, (if (if (ts.length : Int) < 3 then (ts.length : Int) else 3) > 1 then (if (ts.length : Int) < 3 then (ts.length : Int) else 3) else 1) = m ∧ 1 ≤ m ∧ m ≤ 3 := ⟨_, rfl, by split <;> split <;> omega, by split <;> split <;> omega⟩
  rw [e]
  refine ⟨by omega, by omega, compW_inv (fun i acc ρ => (∃ n, acc = List.replicate n (.bool true)) ∧ ∃ x1, ρ = [some (.pure (.list ts)), x1]) m.toNat _ 0 _ _ (by simp [rngItems]) (fun i t acc ρ ts' Q' mt hik hinv nx => ?_) ⟨⟨0, rfl⟩, none, rfl⟩ fun acc ρ hinv => ?_⟩
  · obtain ⟨⟨n, rfl⟩, x1, rfl⟩ := hinv
    obtain ⟨j, hj, rfl⟩ := rng_mem mt
    unfold compW
    simp only [sSeq, sNext, sRet, sRetN, sDrop, sIf, sSet, sFor, sPar, sAsg, bAnd, bOr, bNot, tTst, tCst, tBin, tUny, tNilA, tConsA, getAll, tCallB, tCallF, tTupD, tLstD, tChainA, tChainE, tRg, rgK.eq_1, tStripX, strip1K.eq_1, strip2K.eq_1, tAndE, tOrE, tNotE, tIfE, tComp, bYes, tDct0, tRange.eq_1, tgName, tgTup.eq_1, tgCons.eq_1, tgNil.eq_1, takeAll, back.eq_1, back.eq_2, back_nil, setO, tName_k, nameK.eq_1, nameK.eq_2, nameK.eq_3, nameK.eq_4, atK.eq_1, take1_v, take1_s, takeO_v, takeO_s, takeR_v, takeR_s, prep_n, prep_tv, prep_ts, prep_f, lstK.eq_1, lstAt_k, g2K.eq_1, g2_k, g1K.eq_1, g1_k, gNK.eq_1, gN_k, boK.eq_1, bOf_k, isiK.eq_1, tIsi_k, partK.eq_1, part_n, part_s, slcK.eq_1, slcK.eq_2, slcK.eq_3, slcK.eq_4, tSlc_k, revK.eq_1, revK.eq_2, revK.eq_3, tRev_k, strMK.eq_1, tStrM_k, itK.eq_1, tIter_k, enumK.eq_1, tEnum_k, zipK.eq_1, zipK.eq_2, tZip_k, intsK.eq_1, intsK.eq_2, intsOf_k, endK.eq_1, endO_k, extK.eq_1, tExtend_k, tAppend_k, setIxK.eq_1, sSetIx_k, popAtK.eq_1, tPopAt_k, bO.eq_1, itemsOf.eq_1, itemsOf.eq_2, itemsOf.eq_3, gAdd.eq_1, gAdd.eq_2, gAdd.eq_3, gAdd.eq_4, gAdd.eq_5, gAdd.eq_6, gSub_.eq_1, gSub_.eq_2, gMul2_s, gMul2_i, gMul2_l, gMulS.eq_1, gMul.eq_1, gMul.eq_2, gFdiv.eq_1, gMod.eq_1, gPow.eq_1, gNeg.eq_1, gNeg.eq_2, gGe.eq_1, gGt.eq_1, gLe.eq_1, gLt.eq_1, gLt.eq_2, gEq.eq_1, gNe.eq_1, gNe.eq_2, gNe.eq_3, gNe.eq_4, gInW.eq_1, gInW.eq_2, gIs.eq_1, gIsNot.eq_1, gLen.eq_1, gLen.eq_2, gAllAny.eq_1, gAbs.eq_1, gInt.eq_1, gInt.eq_2, gStr.eq_1, gStr.eq_2, gStr.eq_3, gM2.eq_1, gListOf.eq_1, gListOf.eq_2, gTupOf.eq_1, gTupOf.eq_2, gSort, gSortS.eq_1, gSortD.eq_1, gSortSet.eq_1, gRepr.eq_1, gM2S.eq_1, gIsB.eq_1, tCompN, tCompD, tCompI, tCompDI, tComp2, gIx.eq_1, gIx.eq_2, ati0, ati1, ati2, Option.some.injEq, exists_eq, exists_eq', false_implies, Opd.slot.injEq, forall_eq, forall_eq', Opd.get.eq_1, Opd.get.eq_2, at_join, join_some, O.frz.eq_1, O.frz.eq_2, frz_dct, O.frz.eq_4, lsO.eq_1, lsO.eq_2, tuO.eq_1, seqO_l, seqO_p, seqO_t, endsOf, outsOf, startA, wipeA, List.getElem?_cons_zero, List.getElem?_cons_succ, List.length_cons, List.length_nil, List.map_cons, List.map_nil, List.set_cons_zero, List.set_cons_succ, List.replicate_succ, List.replicate_zero, List.cons_append, List.nil_append, List.getD_cons_zero, List.getD_cons_succ, if_true, if_false, Bool.false_eq_true, reduceIte, reduceCtorEq, Bool.not_true, Bool.not_false, implies_true, true_and, and_true, Nat.sub_self, Nat.reduceAdd, Nat.reduceSub, Nat.zero_add, List.all_cons, List.all_nil, Bool.and_true, Bool.true_and]
    refine ⟨rfl, ts, j, rfl, hi, by omega, by omega, fun d hd => ?_⟩
    refine ⟨0, _, by decide, rfl, hd, fun d' hd' => ?_⟩
    simp only [sSeq, sNext, sRet, sRetN, sDrop, sIf, sSet, sFor, sPar, sAsg, bAnd, bOr, bNot, tTst, tCst, tBin, tUny, tNilA, tConsA, getAll, tCallB, tCallF, tTupD, tLstD, tChainA, tChainE, tRg, rgK.eq_1, tStripX, strip1K.eq_1, strip2K.eq_1, tAndE, tOrE, tNotE, tIfE, tComp, bYes, tDct0, tRange.eq_1, tgName, tgTup.eq_1, tgCons.eq_1, tgNil.eq_1, takeAll, back.eq_1, back.eq_2, back_nil, setO, tName_k, nameK.eq_1, nameK.eq_2, nameK.eq_3, nameK.eq_4, atK.eq_1, take1_v, take1_s, takeO_v, takeO_s, takeR_v, takeR_s, prep_n, prep_tv, prep_ts, prep_f, lstK.eq_1, lstAt_k, g2K.eq_1, g2_k, g1K.eq_1, g1_k, gNK.eq_1, gN_k, boK.eq_1, bOf_k, isiK.eq_1, tIsi_k, partK.eq_1, part_n, part_s, slcK.eq_1, slcK.eq_2, slcK.eq_3, slcK.eq_4, tSlc_k, revK.eq_1, revK.eq_2, revK.eq_3, tRev_k, strMK.eq_1, tStrM_k, itK.eq_1, tIter_k, enumK.eq_1, tEnum_k, zipK.eq_1, zipK.eq_2, tZip_k, intsK.eq_1, intsK.eq_2, intsOf_k, endK.eq_1, endO_k, extK.eq_1, tExtend_k, tAppend_k, setIxK.eq_1, sSetIx_k, popAtK.eq_1, tPopAt_k, bO.eq_1, itemsOf.eq_1, itemsOf.eq_2, itemsOf.eq_3, gAdd.eq_1, gAdd.eq_2, gAdd.eq_3, gAdd.eq_4, gAdd.eq_5, gAdd.eq_6, gSub_.eq_1, gSub_.eq_2, gMul2_s, gMul2_i, gMul2_l, gMulS.eq_1, gMul.eq_1, gMul.eq_2, gFdiv.eq_1, gMod.eq_1, gPow.eq_1, gNeg.eq_1, gNeg.eq_2, gGe.eq_1, gGt.eq_1, gLe.eq_1, gLt.eq_1, gLt.eq_2, gEq.eq_1, gNe.eq_1, gNe.eq_2, gNe.eq_3, gNe.eq_4, gInW.eq_1, gInW.eq_2, gIs.eq_1, gIsNot.eq_1, gLen.eq_1, gLen.eq_2, gAllAny.eq_1, gAbs.eq_1, gInt.eq_1, gInt.eq_2, gStr.eq_1, gStr.eq_2, gStr.eq_3, gM2.eq_1, gListOf.eq_1, gListOf.eq_2, gTupOf.eq_1, gTupOf.eq_2, gSort, gSortS.eq_1, gSortD.eq_1, gSortSet.eq_1, gRepr.eq_1, gM2S.eq_1, gIsB.eq_1, tCompN, tCompD, tCompI, tCompDI, tComp2, gIx.eq_1, gIx.eq_2, ati0, ati1, ati2, Option.some.injEq, exists_eq, exists_eq', false_implies, Opd.slot.injEq, forall_eq, forall_eq', Opd.get.eq_1, Opd.get.eq_2, at_join, join_some, O.frz.eq_1, O.frz.eq_2, frz_dct, O.frz.eq_4, lsO.eq_1, lsO.eq_2, tuO.eq_1, seqO_l, seqO_p, seqO_t, endsOf, outsOf, startA, wipeA, List.getElem?_cons_zero, List.getElem?_cons_succ, List.length_cons, List.length_nil, List.map_cons, List.map_nil, List.set_cons_zero, List.set_cons_succ, List.replicate_succ, List.replicate_zero, List.cons_append, List.nil_append, List.getD_cons_zero, List.getD_cons_succ, if_true, if_false, Bool.false_eq_true, reduceIte, reduceCtorEq, Bool.not_true, Bool.not_false, implies_true, true_and, and_true, Nat.sub_self, Nat.reduceAdd, Nat.reduceSub, Nat.zero_add, List.all_cons, List.all_nil, Bool.and_true, Bool.true_and]
    exact nx _ _ ⟨⟨n + 1, by first | (rw [List.replicate_succ']; done) | (rw [List.replicate_succ']; rfl)⟩, _, rfl⟩
  · obtain ⟨⟨n, rfl⟩, x1, rfl⟩ := hinv
    have e1 : boolsOf (List.replicate n (PyData.bool true)) = some (List.replicate n true) := by
      have := boolsOf_map (fun _ => true) (List.replicate n PyData.none)
      simpa using this
    rw [e1]
    have e2 : (List.replicate n true).all id = true := by simp
    simp only [e2]
    exact h
end WC

set_option Elab.async false
set_option linter.all false
set_option maxRecDepth 100000
set_option maxHeartbeats 4000000
namespace WC
open PySem PySem.Spec L2 DL WS
open PyProof.Rows hiding St
def top (i : Nat) : Stmt := PySem.Challenge.pw_gridupgrade_k13_nodes_of_grids.main.body.getD i (.Pass ⟨0, 0, 0, 0⟩)
abbrev FnP (K : PySem.W.Frag) (x : Str) (st : Stmt) (f : Addr) (fd : FuncData) : Prop := FunD K x x (defArgs st) (defBody st) (defScope st) [] [] f fd
theorem sc_neighbour_table : FnScope ["network", "found", "one", "other", "service", "some"] ["network"] (defScope (top 1)) := ⟨rfl, rfl, rfl, by decide +kernel, rfl, by decide +kernel, by decide +kernel⟩
theorem ok_neighbour_table {P : Program} {w : World} {K : PySem.W.Frag} {mg : Str → Option Value} {base : Heap} {f : Addr} {fd : FuncData} (F : FnP K "neighbour_table" (top 1) f fd)
    (m_sorted : mg "sorted" = none)
    {spec : FSpec} (rd : ∀ os Qa, os.length = 1 → spec os Qa → t_neighbour_table (endsOf [false] Qa) (startA 6 os)) : FnG P w K mg base CX0 (0 + 1) f fd ["network"] (ASp K [false] spec) := by
  refine fng_ok (N := ["network", "found", "one", "other", "service", "some"]) [false] t_neighbour_table F sc_neighbour_table rfl (fun cdv A outer s H E hr => ?_) rd
  have hr0 := hr.mono (Nat.zero_le _)
  have hu := hr0.room.un
  have nd := sc_neighbour_table.nd
  exact by_t (sxs_cons (sx_setDcN 1  rfl nd rfl rfl rfl (ix_any (ex_ix ixA_seq (ex_name 0) ex_int (fun _ _ => rfl))) (blkOk_by (own := [("service", 4)]) (by rfl)) (fun _ _ _ _ _ => (gx_name 4 nd rfl (by first | exact Or.inl rfl | exact Or.inr rfl))) (fun _ _ _ _ _ => (ex_name 4)))
    (sxs_cons (sx_for PassesOwn.never rfl (ix_any (ex_ix ixA_seq (ex_name 0) ex_int (fun _ _ => rfl))) (gx_tup (n := 2) rfl (gxs_cons (gx_name 2 nd rfl (Or.inl rfl)) (gxs_cons (gx_name 3 nd rfl (Or.inl rfl)) gxs_nil))) (sxs_cons (sx_expr (ex_appIx 1 2 3 (hu1 hu) rfl rfl rfl))
    (sxs_one (sx_expr (ex_appIx 1 3 2 (hu1 hu) rfl rfl rfl)))))
    (sxs_one (sx_ret (ex_dcItems 1 rfl nd rfl (blkOk_by (own := [("service", 4), ("some", 5)]) (by rfl)) (fun _ _ _ _ _ => (gx_tup (n := 2) rfl (gxs_cons (gx_name 4 nd rfl (by first | exact Or.inl rfl | exact Or.inr rfl)) (gxs_cons (gx_name 5 nd rfl (by first | exact Or.inl rfl | exact Or.inr rfl)) gxs_nil)))) (fun _ _ _ _ _ => bxs_nil) (fun _ _ _ _ _ => (ex_name 4)) (fun _ _ _ _ _ => (ex_callB (callA_sort hu) (by rfl) m_sorted bn_sorted (exs_cons (ex_name 5) exs_nil)))))))) (by rfl)
theorem sc_nodes : FnScope ["network", "distance", "table", "service", "level"] ["network", "distance"] (defScope (top 3)) := ⟨rfl, rfl, rfl, by decide +kernel, rfl, by decide +kernel, by decide +kernel⟩
theorem ok_nodes {P : Program} {w : World} {K : PySem.W.Frag} {mg : Str → Option Value} {base : Heap} {f : Addr} {fd : FuncData} (F : FnP K "nodes" (top 3) f fd)
    {f_neighbour_table : Addr} {d_neighbour_table : FuncData} (F_neighbour_table : FnG P w K mg base CX0 1 f_neighbour_table d_neighbour_table ["network"] (ASp K [false] sp_neighbour_table)) (g_neighbour_table : mg "neighbour_table" = some (.ref f_neighbour_table)) (k_neighbour_table : PySem.W.keepIn K (.ref f_neighbour_table) = true) (b_neighbour_table : Binds K d_neighbour_table ["network"] [])
    (m_range : mg "range" = none)
    (m_tuple : mg "tuple" = none)
    {spec : FSpec} (rd : ∀ os Qa, os.length = 2 → spec os Qa → t_nodes (endsOf [false, false] Qa) (startA 5 os)) : FnG P w K mg base CX0 (1 + 1) f fd ["network", "distance"] (ASp K [false, false] spec) := by
  refine fng_ok (N := ["network", "distance", "table", "service", "level"]) [false, false] t_nodes F sc_nodes rfl (fun cdv A outer s H E hr => ?_) rd
  have hr0 := hr.mono (Nat.zero_le _)
  have hu := hr0.room.un
  have nd := sc_nodes.nd
  exact by_t (sxs_cons (sx_set 2 nd rfl (Or.inr rfl) (ex_callG F_neighbour_table (hr.mono (by omega)) (by rfl) g_neighbour_table k_neighbour_table b_neighbour_table (exs_cons (ex_name 0) exs_nil)))
    (sxs_one (sx_ret (ex_callTy (callA_tuple rfl) (by rfl) m_tuple bn_tuple (exs_cons (ex_lc2 [4] rfl nd (ix_any (ex_ix ixA_seq (ex_name 0) ex_int (fun _ _ => rfl))) (blkOk_by (own := [("service", 3), ("level", 4)]) (by rfl)) (by decide) (fun _ _ _ _ _ => (gx_name 3 nd rfl (by first | exact Or.inl rfl | exact Or.inr rfl))) (fun _ _ _ _ _ => (bxs_one (tx_cmp (opA_ne hu) (ex_ix (ixA_dict (hu1 hu)) (ex_name 2) (ex_name 3) (fun _ _ => rfl)) (ex_lst exs_nil) (nomark _)))) (fun _ _ _ _ _ => (ix2_range2 (by rfl) m_range (exs_cons ex_int (exs_cons (ex_name 1) exs_nil)))) (fun _ _ _ _ _ => (gx_name 4 nd rfl (by first | exact Or.inl rfl | exact Or.inr rfl))) (fun _ _ _ _ _ => bxs_nil) (fun _ _ _ _ _ => (ex_tup (exs_cons (ex_name 3) (exs_cons (ex_name 4) exs_nil))))) exs_nil))))) (by rfl)
theorem sc_are_adjacent : FnScope ["network", "one", "other"] ["network", "one", "other"] (defScope (top 4)) := ⟨rfl, rfl, rfl, by decide +kernel, rfl, by decide +kernel, by decide +kernel⟩
theorem ok_are_adjacent {P : Program} {w : World} {K : PySem.W.Frag} {mg : Str → Option Value} {base : Heap} {f : Addr} {fd : FuncData} (F : FnP K "are_adjacent" (top 4) f fd)
    (m_abs : mg "abs" = none)
    (m_min : mg "min" = none)
    (m_max : mg "max" = none)
    {spec : FSpec} (rd : ∀ os Qa, os.length = 3 → spec os Qa → t_are_adjacent (endsOf [false, false, false] Qa) (startA 3 os)) : FnG P w K mg base CX0 (0 + 1) f fd ["network", "one", "other"] (ASp K [false, false, false] spec) := by
  refine fng_ok (N := ["network", "one", "other"]) [false, false, false] t_are_adjacent F sc_are_adjacent rfl (fun cdv A outer s H E hr => ?_) rd
  have hr0 := hr.mono (Nat.zero_le _)
  have hu := hr0.room.un
  have nd := sc_are_adjacent.nd
  exact by_t (sxs_cons (sx_if (tx_cmp (opA_eq hu) (ex_ix ixA_seq (ex_name 1) ex_int (fun _ _ => rfl)) (ex_ix ixA_seq (ex_name 2) ex_int (fun _ _ => rfl)) (nomark _)) (sxs_one (sx_ret (ex_cmp (opA_eq hu) (ex_callB callA_abs (by rfl) m_abs bn_abs (exs_cons (ex_bin opA_sub (ex_ix ixA_seq (ex_name 1) ex_int (fun _ _ => rfl)) (ex_ix ixA_seq (ex_name 2) ex_int (fun _ _ => rfl))) exs_nil)) ex_int (nomark _)))) sxs_nil)
    (sxs_one (sx_ret (ex_and (ex_cmp (opA_eq hu) (ex_ix ixA_seq (ex_name 1) ex_int (fun _ _ => rfl)) (ex_ix ixA_seq (ex_name 2) ex_int (fun _ _ => rfl)) (nomark _)) (ex_one (ex_cmp (opA_in hu) (ex_tup (exs_cons (ex_callB (callA_min2S rfl) (by rfl) m_min bn_min (exs_cons (ex_ix ixA_seq (ex_name 1) ex_int (fun _ _ => rfl)) (exs_cons (ex_ix ixA_seq (ex_name 2) ex_int (fun _ _ => rfl)) exs_nil))) (exs_cons (ex_callB (callA_max2S rfl) (by rfl) m_max bn_max (exs_cons (ex_ix ixA_seq (ex_name 1) ex_int (fun _ _ => rfl)) (exs_cons (ex_ix ixA_seq (ex_name 2) ex_int (fun _ _ => rfl)) exs_nil))) exs_nil))) (ex_ix ixA_seq (ex_name 0) ex_int (fun _ _ => rfl)) (by rfl))))))) (by rfl)
theorem sc__law_deck : FnScope ["_law_script", "_law_k", "_law_cell", "_law_own"] ["_law_script", "_law_k"] (defScope (top 6)) := ⟨rfl, rfl, rfl, by decide +kernel, rfl, by decide +kernel, by decide +kernel⟩
theorem ok__law_deck {P : Program} {w : World} {K : PySem.W.Frag} {mg : Str → Option Value} {base : Heap} {f : Addr} {fd : FuncData} (F : FnP K "_law_deck" (top 6) f fd)
    (m_len : mg "len" = none)
    (m_abs : mg "abs" = none)
    (m_int : mg "int" = none)
    {spec : FSpec} (rd : ∀ os Qa, os.length = 2 → spec os Qa → t__law_deck (endsOf [false, false] Qa) (startA 4 os)) : FnG P w K mg base CX0 (0 + 1) f fd ["_law_script", "_law_k"] (ASp K [false, false] spec) := by
  refine fng_ok (N := ["_law_script", "_law_k", "_law_cell", "_law_own"]) [false, false] t__law_deck F sc__law_deck rfl (fun cdv A outer s H E hr => ?_) rd
  have hr0 := hr.mono (Nat.zero_le _)
  have hu := hr0.room.un
  have nd := sc__law_deck.nd
  exact by_t (sxs_cons (sx_set 2 nd rfl (Or.inl rfl) (ex_bin opA_add (ex_bin opA_mul2 ex_int (ex_name 1)) ex_int))
    (sxs_cons (sx_if (tx_cmp (opA_lt hu) (ex_name 1) (ex_callB callA_len (by rfl) m_len bn_len (exs_cons (ex_name 0) exs_nil)) (nomark _)) (sxs_one (sx_set 2 nd rfl (Or.inl rfl) (ex_ix ixA_seq (ex_name 0) (ex_name 1) (fun _ _ => rfl)))) sxs_nil)
    (sxs_cons (sx_set 3 nd rfl (Or.inl rfl) (ex_bin opA_mul2 (ex_bin opA_mod (ex_callB callA_abs (by rfl) m_abs bn_abs (exs_cons (ex_name 2) exs_nil)) (ex_bin opA_pow (ex_bin opA_pow ex_int ex_int) ex_int)) (ex_callTy callA_int (by rfl) m_int bn_int (exs_cons (ex_cmp opA_ge (ex_callB callA_abs (by rfl) m_abs bn_abs (exs_cons (ex_name 2) exs_nil)) (ex_bin opA_pow ex_int ex_int) (nomark _)) exs_nil))))
    (sxs_one (sx_ret (ex_lst (exs_cons (ex_name 3) (exs_cons (ex_bin opA_mod (ex_bin opA_add (ex_bin opA_add (ex_bin opA_mul2 (ex_bin opA_mod (ex_name 2) ex_int) ex_int) (ex_bin opA_mul2 (ex_bin opA_mul2 ex_int (ex_name 1)) (ex_name 1))) ex_int) ex_int) (exs_cons ex_int exs_nil))))))))) (by rfl)
theorem sc__law_draw : FnScope ["_law_deck_here", "_law_many", "_law_digit", "_law_prime", "_law_mixed"] ["_law_deck_here", "_law_many"] (defScope (top 7)) := ⟨rfl, rfl, rfl, by decide +kernel, rfl, by decide +kernel, by decide +kernel⟩
theorem ok__law_draw {P : Program} {w : World} {K : PySem.W.Frag} {mg : Str → Option Value} {base : Heap} {f : Addr} {fd : FuncData} (F : FnP K "_law_draw" (top 7) f fd)
    {spec : FSpec} (rd : ∀ os Qa, os.length = 2 → spec os Qa → t__law_draw (endsOf [true, false] Qa) (startA 5 os)) : FnG P w K mg base CX0 (0 + 1) f fd ["_law_deck_here", "_law_many"] (ASp K [true, false] spec) := by
  refine fng_ok (N := ["_law_deck_here", "_law_many", "_law_digit", "_law_prime", "_law_mixed"]) [true, false] t__law_draw F sc__law_draw rfl (fun cdv A outer s H E hr => ?_) rd
  have hr0 := hr.mono (Nat.zero_le _)
  have hu := hr0.room.un
  have nd := sc__law_draw.nd
  exact by_t (sxs_cons (sx_if (tx_cmp opA_gt (ex_ix ixA_seq (ex_name 0) ex_int (fun _ _ => rfl)) ex_int (nomark _)) (sxs_cons (sx_set 2 nd rfl (Or.inl rfl) (ex_bin opA_mod (ex_ix ixA_seq (ex_name 0) ex_int (fun _ _ => rfl)) (ex_name 1)))
    (sxs_cons (sx_setIx 0 rfl (ex_bin opA_fdiv (ex_ix ixA_seq (ex_name 0) ex_int (fun _ _ => rfl)) (ex_name 1)) ex_int)
    (sxs_one (sx_ret (ex_name 2))))) sxs_nil)
    (sxs_cons (sx_setIx 0 rfl (ex_bin opA_add (ex_ix ixA_seq (ex_name 0) ex_int (fun _ _ => rfl)) ex_int) ex_int)
    (sxs_cons (sx_set 3 nd rfl (Or.inl rfl) (ex_ix ixA_seq (ex_lst (exs_cons ex_int (exs_cons ex_int (exs_cons ex_int (exs_cons ex_int (exs_cons ex_int exs_nil)))))) (ex_bin opA_mod (ex_ix ixA_seq (ex_name 0) ex_int (fun _ _ => rfl)) ex_int) (fun _ _ => rfl)))
    (sxs_cons (sx_set 4 nd rfl (Or.inl rfl) (ex_bin opA_mod (ex_bin opA_pow (ex_bin opA_add (ex_bin opA_add (ex_ix ixA_seq (ex_name 0) ex_int (fun _ _ => rfl)) (ex_bin opA_mul2 (ex_bin opA_mul2 ex_int (ex_ix ixA_seq (ex_name 0) ex_int (fun _ _ => rfl))) (ex_ix ixA_seq (ex_name 0) ex_int (fun _ _ => rfl)))) ex_int) ex_int) (ex_name 3)))
    (sxs_one (sx_ret (ex_bin opA_mod (ex_bin opA_fdiv (ex_bin opA_mod (ex_bin opA_mul2 (ex_name 4) (ex_bin opA_add (ex_bin opA_mod (ex_name 4) ex_int) (ex_bin opA_mul2 ex_int (ex_ix ixA_seq (ex_name 0) ex_int (fun _ _ => rfl))))) ex_int) ex_int) (ex_name 1)))))))) (by rfl)
theorem sc__law_any : FnScope ["_law_deck_here", "_law_items"] ["_law_deck_here", "_law_items"] (defScope (top 8)) := ⟨rfl, rfl, rfl, by decide +kernel, rfl, by decide +kernel, by decide +kernel⟩
theorem ok__law_any {P : Program} {w : World} {K : PySem.W.Frag} {mg : Str → Option Value} {base : Heap} {f : Addr} {fd : FuncData} (F : FnP K "_law_any" (top 8) f fd)
    (m_len : mg "len" = none)
    {f__law_draw : Addr} {d__law_draw : FuncData} (F__law_draw : FnG P w K mg base CX0 1 f__law_draw d__law_draw ["_law_deck_here", "_law_many"] (ASp K [true, false] sp__law_draw)) (g__law_draw : mg "_law_draw" = some (.ref f__law_draw)) (k__law_draw : PySem.W.keepIn K (.ref f__law_draw) = true) (b__law_draw : Binds K d__law_draw ["_law_deck_here", "_law_many"] [])
    {spec : FSpec} (rd : ∀ os Qa, os.length = 2 → spec os Qa → t__law_any (endsOf [true, false] Qa) (startA 2 os)) : FnG P w K mg base CX0 (1 + 1) f fd ["_law_deck_here", "_law_items"] (ASp K [true, false] spec) := by
  refine fng_ok (N := ["_law_deck_here", "_law_items"]) [true, false] t__law_any F sc__law_any rfl (fun cdv A outer s H E hr => ?_) rd
  have hr0 := hr.mono (Nat.zero_le _)
  have hu := hr0.room.un
  have nd := sc__law_any.nd
  exact by_t (sxs_one (sx_ret (ex_ix ixA_seq (ex_name 1) (ex_callG F__law_draw (hr.mono (by omega)) (by rfl) g__law_draw k__law_draw b__law_draw (exs_cons (ex_name 0) (exs_cons (ex_callB callA_len (by rfl) m_len bn_len (exs_cons (ex_name 1) exs_nil)) exs_nil))) (fun _ _ => rfl)))) (by rfl)
theorem sc__law_names : FnScope ["_law_deck_here", "_law_many", "_law_stem", "_law_first", "_law_letters", "_law_at"] ["_law_deck_here", "_law_many"] (defScope (top 9)) := ⟨rfl, rfl, rfl, by decide +kernel, rfl, by decide +kernel, by decide +kernel⟩
theorem ok__law_names {P : Program} {w : World} {K : PySem.W.Frag} {mg : Str → Option Value} {base : Heap} {f : Addr} {fd : FuncData} (F : FnP K "_law_names" (top 9) f fd)
    {f__law_any : Addr} {d__law_any : FuncData} (F__law_any : FnG P w K mg base CX0 2 f__law_any d__law_any ["_law_deck_here", "_law_items"] (ASp K [true, false] sp__law_any)) (g__law_any : mg "_law_any" = some (.ref f__law_any)) (k__law_any : PySem.W.keepIn K (.ref f__law_any) = true) (b__law_any : Binds K d__law_any ["_law_deck_here", "_law_items"] [])
    {f__law_draw : Addr} {d__law_draw : FuncData} (F__law_draw : FnG P w K mg base CX0 1 f__law_draw d__law_draw ["_law_deck_here", "_law_many"] (ASp K [true, false] sp__law_draw)) (g__law_draw : mg "_law_draw" = some (.ref f__law_draw)) (k__law_draw : PySem.W.keepIn K (.ref f__law_draw) = true) (b__law_draw : Binds K d__law_draw ["_law_deck_here", "_law_many"] [])
    (m_range : mg "range" = none)
    (m_sorted : mg "sorted" = none)
    {spec : FSpec} (rd : ∀ os Qa, os.length = 2 → spec os Qa → t__law_names (endsOf [true, false] Qa) (startA 6 os)) : FnG P w K mg base CX0 (2 + 1) f fd ["_law_deck_here", "_law_many"] (ASp K [true, false] spec) := by
  refine fng_ok (N := ["_law_deck_here", "_law_many", "_law_stem", "_law_first", "_law_letters", "_law_at"]) [true, false] t__law_names F sc__law_names rfl (fun cdv A outer s H E hr => ?_) rd
  have hr0 := hr.mono (Nat.zero_le _)
  have hu := hr0.room.un
  have nd := sc__law_names.nd
  exact by_t (sxs_cons (sx_parC2 2 3 rfl nd rfl rfl (Or.inr rfl) (Or.inr rfl) (exs_cons (ex_callG F__law_any (hr.mono (by omega)) (by rfl) g__law_any k__law_any b__law_any (exs_cons (ex_name 0) (exs_cons (ex_lst (exs_cons ex_str (exs_cons ex_str (exs_cons ex_str (exs_cons ex_str (exs_cons ex_str exs_nil)))))) exs_nil))) (exs_cons (ex_callG F__law_draw (hr.mono (by omega)) (by rfl) g__law_draw k__law_draw b__law_draw (exs_cons (ex_name 0) (exs_cons ex_int exs_nil))) exs_nil)))
    (sxs_cons (sx_set 4 nd rfl (Or.inr rfl) ex_str)
    (sxs_one (sx_ret (ex_callB (callA_sort hu) (by rfl) m_sorted bn_sorted (exs_cons (ex_lc rfl nd (ix_range1 (by rfl) m_range (exs_cons (ex_name 1) exs_nil)) (blkOk_by (own := [("_law_at", 5)]) (by rfl)) (fun _ _ _ _ _ => (gx_name 5 nd rfl (by first | exact Or.inl rfl | exact Or.inr rfl))) (fun _ _ _ _ _ => bxs_nil) (fun _ _ _ _ _ => (ex_bin opA_add (ex_name 2) (ex_ix ixA_seq (ex_name 4) (ex_bin opA_mod (ex_bin opA_add (ex_name 3) (ex_bin opA_mul2 ex_int (ex_name 5))) ex_int) (fun _ _ => rfl))))) exs_nil)))))) (by rfl)
theorem sc__law_network : FnScope ["_law_deck_here", "_law_many", "_law_is_sided", "_law_services", "_law_talks", "_law_share", "_law_side", "_law_at", "_law_one", "_law_to", "_law_is_wanted", "_law_service"] ["_law_deck_here", "_law_many", "_law_is_sided"] (defScope (top 10)) := ⟨rfl, rfl, rfl, by decide +kernel, rfl, by decide +kernel, by decide +kernel⟩
theorem ok__law_network {P : Program} {w : World} {K : PySem.W.Frag} {mg : Str → Option Value} {base : Heap} {f : Addr} {fd : FuncData} (F : FnP K "_law_network" (top 10) f fd)
    {f__law_names : Addr} {d__law_names : FuncData} (F__law_names : FnG P w K mg base CX0 3 f__law_names d__law_names ["_law_deck_here", "_law_many"] (ASp K [true, false] sp__law_names)) (g__law_names : mg "_law_names" = some (.ref f__law_names)) (k__law_names : PySem.W.keepIn K (.ref f__law_names) = true) (b__law_names : Binds K d__law_names ["_law_deck_here", "_law_many"] [])
    {f__law_any : Addr} {d__law_any : FuncData} (F__law_any : FnG P w K mg base CX0 2 f__law_any d__law_any ["_law_deck_here", "_law_items"] (ASp K [true, false] sp__law_any)) (g__law_any : mg "_law_any" = some (.ref f__law_any)) (k__law_any : PySem.W.keepIn K (.ref f__law_any) = true) (b__law_any : Binds K d__law_any ["_law_deck_here", "_law_items"] [])
    {f__law_draw : Addr} {d__law_draw : FuncData} (F__law_draw : FnG P w K mg base CX0 1 f__law_draw d__law_draw ["_law_deck_here", "_law_many"] (ASp K [true, false] sp__law_draw)) (g__law_draw : mg "_law_draw" = some (.ref f__law_draw)) (k__law_draw : PySem.W.keepIn K (.ref f__law_draw) = true) (b__law_draw : Binds K d__law_draw ["_law_deck_here", "_law_many"] [])
    (m_enumerate : mg "enumerate" = none)
    (m_range : mg "range" = none)
    (m_len : mg "len" = none)
    (m_tuple : mg "tuple" = none)
    {spec : FSpec} (rd : ∀ os Qa, os.length = 3 → spec os Qa → t__law_network (endsOf [true, false, false] Qa) (startA 12 os)) : FnG P w K mg base CX0 (3 + 1) f fd ["_law_deck_here", "_law_many", "_law_is_sided"] (ASp K [true, false, false] spec) := by
  refine fng_ok (N := ["_law_deck_here", "_law_many", "_law_is_sided", "_law_services", "_law_talks", "_law_share", "_law_side", "_law_at", "_law_one", "_law_to", "_law_is_wanted", "_law_service"]) [true, false, false] t__law_network F sc__law_network rfl (fun cdv A outer s H E hr => ?_) rd
  have hr0 := hr.mono (Nat.zero_le _)
  have hu := hr0.room.un
  have nd := sc__law_network.nd
  exact by_t (sxs_cons (sx_par3 3 4 5 rfl nd rfl rfl rfl rfl rfl rfl (exs_cons (ex_callG F__law_names (hr.mono (by omega)) (by rfl) g__law_names k__law_names b__law_names (exs_cons (ex_name 0) (exs_cons (ex_name 1) exs_nil))) (exs_cons (ex_lst exs_nil) (exs_cons (ex_callG F__law_any (hr.mono (by omega)) (by rfl) g__law_any k__law_any b__law_any (exs_cons (ex_name 0) (exs_cons (ex_lst (exs_cons ex_int (exs_cons ex_int (exs_cons ex_int (exs_cons ex_int exs_nil))))) exs_nil))) exs_nil))) rfl)
    (sxs_cons (sx_setLc 6  rfl nd rfl rfl rfl (ix_any (ex_name 3)) (blkOk_by (own := [("_law_service", 11)]) (by rfl)) (fun _ _ _ _ _ => (gx_name 11 nd rfl (by first | exact Or.inl rfl | exact Or.inr rfl))) (fun _ _ _ _ _ => bxs_nil) (fun _ _ _ _ _ => (ex_callG F__law_draw (hr.mono (by omega)) (by rfl) g__law_draw k__law_draw b__law_draw (exs_cons (ex_name 0) (exs_cons ex_int exs_nil)))))
    (sxs_cons (sx_for PassesOwn.never rfl (ix_enum (by rfl) m_enumerate (exs_cons (ex_name 3) exs_nil)) (gx_tup (n := 2) rfl (gxs_cons (gx_name 7 nd rfl (Or.inl rfl)) (gxs_cons (gx_name 8 nd rfl (Or.inl rfl)) gxs_nil))) (sxs_one (sx_for PassesOwn.never rfl (ix_range2 (by rfl) m_range (exs_cons (ex_bin opA_add (ex_name 7) ex_int) (exs_cons (ex_name 1) exs_nil))) (gx_name 9 nd rfl (Or.inl rfl)) (sxs_cons (sx_set 10 nd rfl (Or.inl rfl) (ex_or (ex_not (ex_name 2)) (ex_one (ex_cmp (opA_ne hu) (ex_ix ixA_seq (ex_name 6) (ex_name 7) (fun _ _ => rfl)) (ex_ix ixA_seq (ex_name 6) (ex_name 9) (fun _ _ => rfl)) (nomark _)))))
    (sxs_one (sx_if (wx_and (tx_val (ex_name 10)) (wx_and (tx_cmp (opA_lt hu) (ex_callB callA_len (by rfl) m_len bn_len (exs_cons (ex_name 4) exs_nil)) ex_int (nomark _)) (wx_and1 (tx_cmp (opA_eq hu) (ex_callG F__law_draw (hr.mono (by omega)) (by rfl) g__law_draw k__law_draw b__law_draw (exs_cons (ex_name 0) (exs_cons (ex_name 5) exs_nil))) ex_int (nomark _))))).tx (sxs_one (sx_expr (ex_append 4 rfl (ex_tup (exs_cons (ex_name 8) (exs_cons (ex_ix ixA_seq (ex_name 3) (ex_name 9) (fun _ _ => rfl)) exs_nil)))))) sxs_nil))))))
    (sxs_one (sx_ret (ex_tup (exs_cons (ex_callTy (callA_tuple rfl) (by rfl) m_tuple bn_tuple (exs_cons (ex_name 3) exs_nil)) (exs_cons (ex_callTy (callA_tuple rfl) (by rfl) m_tuple bn_tuple (exs_cons (ex_name 4) exs_nil)) exs_nil)))))))) (by rfl)
theorem sc__law_beside : FnScope ["_law_network_here", "_law_found", "_law_one", "_law_other", "_law_service", "_law_some"] ["_law_network_here"] (defScope (top 11)) := ⟨rfl, rfl, rfl, by decide +kernel, rfl, by decide +kernel, by decide +kernel⟩
theorem ok__law_beside {P : Program} {w : World} {K : PySem.W.Frag} {mg : Str → Option Value} {base : Heap} {f : Addr} {fd : FuncData} (F : FnP K "_law_beside" (top 11) f fd)
    (m_dict : mg "dict" = none)
    (m_sorted : mg "sorted" = none)
    {spec : FSpec} (rd : ∀ os Qa, os.length = 1 → spec os Qa → t__law_beside (endsOf [false] Qa) (startA 6 os)) : FnG P w K mg base CX0 (0 + 1) f fd ["_law_network_here"] (ASp K [false] spec) := by
  refine fng_ok (N := ["_law_network_here", "_law_found", "_law_one", "_law_other", "_law_service", "_law_some"]) [false] t__law_beside F sc__law_beside rfl (fun cdv A outer s H E hr => ?_) rd
  have hr0 := hr.mono (Nat.zero_le _)
  have hu := hr0.room.un
  have nd := sc__law_beside.nd
  exact by_t (sxs_cons (sx_set 1 nd rfl (Or.inl rfl) (ex_dictN rfl nd (by rfl) m_dict (by rfl) (ix_any (ex_ix ixA_seq (ex_name 0) ex_int (fun _ _ => rfl))) (blkOk_by (own := [("_law_service", 4)]) (by rfl)) (fun _ _ _ _ _ => (gx_name 4 nd rfl (by first | exact Or.inl rfl | exact Or.inr rfl))) (fun _ _ _ _ _ => (ex_name 4))))
    (sxs_cons (sx_for PassesOwn.never rfl (ix_any (ex_ix ixA_seq (ex_name 0) ex_int (fun _ _ => rfl))) (gx_tup (n := 2) rfl (gxs_cons (gx_name 2 nd rfl (Or.inl rfl)) (gxs_cons (gx_name 3 nd rfl (Or.inl rfl)) gxs_nil))) (sxs_cons (sx_expr (ex_appIx 1 2 3 (hu1 hu) rfl rfl rfl))
    (sxs_one (sx_expr (ex_appIx 1 3 2 (hu1 hu) rfl rfl rfl)))))
    (sxs_one (sx_ret (ex_callTy (callA_dictL rfl) (by rfl) m_dict bn_dict (exs_cons (ex_lcItems 1 rfl nd rfl (blkOk_by (own := [("_law_service", 4), ("_law_some", 5)]) (by rfl)) (fun _ _ _ _ _ => (gx_tup (n := 2) rfl (gxs_cons (gx_name 4 nd rfl (by first | exact Or.inl rfl | exact Or.inr rfl)) (gxs_cons (gx_name 5 nd rfl (by first | exact Or.inl rfl | exact Or.inr rfl)) gxs_nil)))) (fun _ _ _ _ _ => bxs_nil) (fun _ _ _ _ _ => (ex_tup (exs_cons (ex_name 4) (exs_cons (ex_callB (callA_sort hu) (by rfl) m_sorted bn_sorted (exs_cons (ex_name 5) exs_nil)) exs_nil))))) exs_nil)))))) (by rfl)
theorem sc__law_pair_right : FnScope ["_law_beside_here", "_law_net", "_law_one", "_law_other", "_law_is_due"] ["_law_beside_here", "_law_net", "_law_one", "_law_other"] (defScope (top 12)) := ⟨rfl, rfl, rfl, by decide +kernel, rfl, by decide +kernel, by decide +kernel⟩
theorem ok__law_pair_right {P : Program} {w : World} {K : PySem.W.Frag} {mg : Str → Option Value} {base : Heap} {f : Addr} {fd : FuncData} (F : FnP K "_law_pair_right" (top 12) f fd)
    {f_are_adjacent : Addr} {d_are_adjacent : FuncData} (F_are_adjacent : FnG P w K mg base CX0 1 f_are_adjacent d_are_adjacent ["network", "one", "other"] (ASp K [false, false, false] sp_are_adjacent)) (g_are_adjacent : mg "are_adjacent" = some (.ref f_are_adjacent)) (k_are_adjacent : PySem.W.keepIn K (.ref f_are_adjacent) = true) (b_are_adjacent : Binds K d_are_adjacent ["network", "one", "other"] [])
    (m_repr : mg "repr" = none)
    {spec : FSpec} (rd : ∀ os Qa, os.length = 4 → spec os Qa → t__law_pair_right (endsOf [false, false, false, false] Qa) (startA 5 os)) : FnG P w K mg base CX0 (1 + 1) f fd ["_law_beside_here", "_law_net", "_law_one", "_law_other"] (ASp K [false, false, false, false] spec) := by
  refine fng_ok (N := ["_law_beside_here", "_law_net", "_law_one", "_law_other", "_law_is_due"]) [false, false, false, false] t__law_pair_right F sc__law_pair_right rfl (fun cdv A outer s H E hr => ?_) rd
  have hr0 := hr.mono (Nat.zero_le _)
  have hu := hr0.room.un
  have nd := sc__law_pair_right.nd
  exact by_t (sxs_cons (sx_set 4 nd rfl (Or.inl rfl) (ex_or (ex_and (ex_cmp (opA_eq hu) (ex_ix ixA_seq (ex_name 2) ex_int (fun _ _ => rfl)) (ex_ix ixA_seq (ex_name 3) ex_int (fun _ _ => rfl)) (nomark _)) (ex_one (ex_cmp (opA_in hu) (ex_bin opA_sub (ex_ix ixA_seq (ex_name 2) ex_int (fun _ _ => rfl)) (ex_ix ixA_seq (ex_name 3) ex_int (fun _ _ => rfl))) (ex_tup (exs_cons ex_int (exs_cons (ex_un unA_neg ex_int) exs_nil))) (by rfl)))) (ex_one (ex_and (ex_cmp (opA_in hu) (ex_ix ixA_seq (ex_name 3) ex_int (fun _ _ => rfl)) (ex_ix (ixA_dict (hu1 hu)) (ex_name 0) (ex_ix ixA_seq (ex_name 2) ex_int (fun _ _ => rfl)) (fun _ _ => rfl)) (by rfl)) (ex_one (ex_cmp (opA_eq hu) (ex_ix ixA_seq (ex_name 2) ex_int (fun _ _ => rfl)) (ex_ix ixA_seq (ex_name 3) ex_int (fun _ _ => rfl)) (nomark _)))))))
    (sxs_cons (sx_if (tx_cmp (opA_ne hu) (ex_callB (callA_repr hr0) (by rfl) m_repr bn_repr (exs_cons (ex_lst (exs_cons (ex_callG F_are_adjacent (hr.mono (by omega)) (by rfl) g_are_adjacent k_are_adjacent b_are_adjacent (exs_cons (ex_name 1) (exs_cons (ex_name 2) (exs_cons (ex_name 3) exs_nil)))) (exs_cons (ex_callG F_are_adjacent (hr.mono (by omega)) (by rfl) g_are_adjacent k_are_adjacent b_are_adjacent (exs_cons (ex_name 1) (exs_cons (ex_name 3) (exs_cons (ex_name 2) exs_nil)))) exs_nil))) exs_nil)) (ex_callB (callA_repr hr0) (by rfl) m_repr bn_repr (exs_cons (ex_lst (exs_cons (ex_name 4) (exs_cons (ex_name 4) exs_nil))) exs_nil)) (nomark _)) (sxs_one (sx_ret ex_bl)) sxs_nil)
    (sxs_one (sx_ret (ex_cmp opA_isB (ex_callG F_are_adjacent (hr.mono (by omega)) (by rfl) g_are_adjacent k_are_adjacent b_are_adjacent (exs_cons (ex_name 1) (exs_cons (ex_name 2) (exs_cons (ex_name 2) exs_nil)))) ex_bl (nomark _)))))) (by rfl)
theorem sc__law_right : FnScope ["_law_deck_here", "_law_turn", "_law_net", "_law_beside_here", "_law_kept", "_law_far", "_law_due", "_law_service", "_law_pairs", "_law_one", "_law_level", "_law_number", "_law_other"] ["_law_deck_here"] (defScope (top 13)) := ⟨rfl, rfl, rfl, by decide +kernel, rfl, by decide +kernel, by decide +kernel⟩
theorem ok__law_right {P : Program} {w : World} {K : PySem.W.Frag} {mg : Str → Option Value} {base : Heap} {f : Addr} {fd : FuncData} (F : FnP K "_law_right" (top 13) f fd)
    (m_range : mg "range" = none)
    {f__law_draw : Addr} {d__law_draw : FuncData} (F__law_draw : FnG P w K mg base CX0 1 f__law_draw d__law_draw ["_law_deck_here", "_law_many"] (ASp K [true, false] sp__law_draw)) (g__law_draw : mg "_law_draw" = some (.ref f__law_draw)) (k__law_draw : PySem.W.keepIn K (.ref f__law_draw) = true) (b__law_draw : Binds K d__law_draw ["_law_deck_here", "_law_many"] [])
    {f__law_network : Addr} {d__law_network : FuncData} (F__law_network : FnG P w K mg base CX0 4 f__law_network d__law_network ["_law_deck_here", "_law_many", "_law_is_sided"] (ASp K [true, false, false] sp__law_network)) (g__law_network : mg "_law_network" = some (.ref f__law_network)) (k__law_network : PySem.W.keepIn K (.ref f__law_network) = true) (b__law_network : Binds K d__law_network ["_law_deck_here", "_law_many", "_law_is_sided"] [])
    {f__law_beside : Addr} {d__law_beside : FuncData} (F__law_beside : FnG P w K mg base CX0 1 f__law_beside d__law_beside ["_law_network_here"] (ASp K [false] sp__law_beside)) (g__law_beside : mg "_law_beside" = some (.ref f__law_beside)) (k__law_beside : PySem.W.keepIn K (.ref f__law_beside) = true) (b__law_beside : Binds K d__law_beside ["_law_network_here"] [])
    (m_repr : mg "repr" = none)
    {f_nodes : Addr} {d_nodes : FuncData} (F_nodes : FnG P w K mg base CX0 2 f_nodes d_nodes ["network", "distance"] (ASp K [false, false] sp_nodes)) (g_nodes : mg "nodes" = some (.ref f_nodes)) (k_nodes : PySem.W.keepIn K (.ref f_nodes) = true) (b_nodes : Binds K d_nodes ["network", "distance"] [])
    (m_tuple : mg "tuple" = none)
    {f__law_any : Addr} {d__law_any : FuncData} (F__law_any : FnG P w K mg base CX0 2 f__law_any d__law_any ["_law_deck_here", "_law_items"] (ASp K [true, false] sp__law_any)) (g__law_any : mg "_law_any" = some (.ref f__law_any)) (k__law_any : PySem.W.keepIn K (.ref f__law_any) = true) (b__law_any : Binds K d__law_any ["_law_deck_here", "_law_items"] [])
    {f__law_pair_right : Addr} {d__law_pair_right : FuncData} (F__law_pair_right : FnG P w K mg base CX0 2 f__law_pair_right d__law_pair_right ["_law_beside_here", "_law_net", "_law_one", "_law_other"] (ASp K [false, false, false, false] sp__law_pair_right)) (g__law_pair_right : mg "_law_pair_right" = some (.ref f__law_pair_right)) (k__law_pair_right : PySem.W.keepIn K (.ref f__law_pair_right) = true) (b__law_pair_right : Binds K d__law_pair_right ["_law_beside_here", "_law_net", "_law_one", "_law_other"] [])
    (m_all : mg "all" = none)
    {spec : FSpec} (rd : ∀ os Qa, os.length = 1 → spec os Qa → t__law_right (endsOf [true] Qa) (startA 13 os)) : FnG P w K mg base CX0 (4 + 1) f fd ["_law_deck_here"] (ASp K [true] spec) := by
  refine fng_ok (N := ["_law_deck_here", "_law_turn", "_law_net", "_law_beside_here", "_law_kept", "_law_far", "_law_due", "_law_service", "_law_pairs", "_law_one", "_law_level", "_law_number", "_law_other"]) [true] t__law_right F sc__law_right rfl (fun cdv A outer s H E hr => ?_) rd
  have hr0 := hr.mono (Nat.zero_le _)
  have hu := hr0.room.un
  have nd := sc__law_right.nd
  exact by_t (sxs_cons (sx_for PassesOwn.never rfl (ix_range1 (by rfl) m_range (exs_cons ex_int exs_nil)) (gx_name 1 nd rfl (Or.inl rfl)) (sxs_cons (sx_set 2 nd rfl (Or.inr rfl) (ex_callG F__law_network (hr.mono (by omega)) (by rfl) g__law_network k__law_network b__law_network (exs_cons (ex_name 0) (exs_cons (ex_bin opA_add ex_int (ex_callG F__law_draw (hr.mono (by omega)) (by rfl) g__law_draw k__law_draw b__law_draw (exs_cons (ex_name 0) (exs_cons ex_int exs_nil)))) (exs_cons (ex_cmp (opA_eq hu) (ex_callG F__law_draw (hr.mono (by omega)) (by rfl) g__law_draw k__law_draw b__law_draw (exs_cons (ex_name 0) (exs_cons ex_int exs_nil))) ex_int (nomark _)) exs_nil)))))
    (sxs_cons (sx_parC2 3 4 rfl nd rfl rfl (Or.inr rfl) (Or.inl rfl) (exs_cons (ex_callG F__law_beside (hr.mono (by omega)) (by rfl) g__law_beside k__law_beside b__law_beside (exs_cons (ex_name 2) exs_nil)) (exs_cons (ex_callB (callA_repr hr0) (by rfl) m_repr bn_repr (exs_cons (ex_name 2) exs_nil)) exs_nil)))
    (sxs_cons (sx_for PassesOwn.never rfl (ix_range1 (by rfl) m_range (exs_cons ex_int exs_nil)) (gx_name 5 nd rfl (Or.inl rfl)) (sxs_cons (sx_set 6 nd rfl (Or.inr rfl) (ex_lst exs_nil))
    (sxs_cons (sx_for PassesOwn.never rfl (ix_any (ex_ix ixA_seq (ex_name 2) ex_int (fun _ _ => rfl))) (gx_name 7 nd rfl (Or.inr rfl)) (sxs_one (sx_expr (ex_extend 6 rfl (ex_lc rfl nd (ix_range2 (by rfl) m_range (exs_cons ex_int (exs_cons (ex_name 5) exs_nil))) (blkOk_by (own := [("_law_level", 10)]) (by rfl)) (fun _ _ _ _ _ => (gx_name 10 nd rfl (by first | exact Or.inl rfl | exact Or.inr rfl))) (fun _ _ _ _ _ => (bxs_one (tx_cmp (opA_ne hu) (ex_ix (ixA_dict (hu1 hu)) (ex_name 3) (ex_name 7) (fun _ _ => rfl)) (ex_lst exs_nil) (nomark _)))) (fun _ _ _ _ _ => (ex_tup (exs_cons (ex_name 7) (exs_cons (ex_name 10) exs_nil)))))))))
    (sxs_cons (sx_if (tx_cmp (opA_ne hu) (ex_callB (callA_repr hr0) (by rfl) m_repr bn_repr (exs_cons (ex_callG F_nodes (hr.mono (by omega)) (by rfl) g_nodes k_nodes b_nodes (exs_cons (ex_name 2) (exs_cons (ex_name 5) exs_nil))) exs_nil)) (ex_callB (callA_repr hr0) (by rfl) m_repr bn_repr (exs_cons (ex_callTy (callA_tuple rfl) (by rfl) m_tuple bn_tuple (exs_cons (ex_name 6) exs_nil)) exs_nil)) (nomark _)) (sxs_one (sx_ret ex_bl)) sxs_nil)
    (sxs_cons (sx_setLc 8  rfl nd rfl rfl rfl (ix_range1 (by rfl) m_range (exs_cons (ex_ifExp (tx_cmp (opA_ne hu) (ex_name 6) (ex_lst exs_nil) (nomark _)) ex_int ex_int) exs_nil)) (blkOk_by (own := [("_law_number", 11)]) (by rfl)) (fun _ _ _ _ _ => (gx_name 11 nd rfl (by first | exact Or.inl rfl | exact Or.inr rfl))) (fun _ _ _ _ _ => bxs_nil) (fun _ _ _ _ _ => (ex_tup (exs_cons (ex_callG F__law_any (hr.mono (by omega)) (by rfl) g__law_any k__law_any b__law_any (exs_cons (ex_name 0) (exs_cons (ex_name 6) exs_nil))) (exs_cons (ex_callG F__law_any (hr.mono (by omega)) (by rfl) g__law_any k__law_any b__law_any (exs_cons (ex_name 0) (exs_cons (ex_name 6) exs_nil))) exs_nil)))))
    (sxs_cons (sx_if (wx_or (tx_cmp (opA_eq hu) (ex_name 5) ex_int (nomark _)) (wx_or1 (tx_cmp (opA_eq hu) (ex_name 5) ex_int (nomark _)))).tx (sxs_one (sx_for PassesOwn.never rfl (ix_any (ex_slice (ex_name 6) ox_none (ox_some ex_int))) (gx_name 9 nd rfl (Or.inr rfl)) (sxs_one (sx_expr (ex_extend 8 rfl (ex_lc rfl nd (ix_any (ex_name 6)) (blkOk_by (own := [("_law_other", 12)]) (by rfl)) (fun _ _ _ _ _ => (gx_name 12 nd rfl (by first | exact Or.inl rfl | exact Or.inr rfl))) (fun _ _ _ _ _ => bxs_nil) (fun _ _ _ _ _ => (ex_tup (exs_cons (ex_name 9) (exs_cons (ex_name 12) exs_nil)))))))))) sxs_nil)
    (sxs_one (sx_if (tx_not (tx_val (ex_callB (callA_all rfl) (by rfl) m_all bn_all (exs_cons (ex_lc rfl nd (ix_any (ex_name 8)) (blkOk_by (own := [("_law_one", 9), ("_law_other", 12)]) (by rfl)) (fun _ _ _ _ _ => (gx_tup (n := 2) rfl (gxs_cons (gx_name 9 nd rfl (by first | exact Or.inl rfl | exact Or.inr rfl)) (gxs_cons (gx_name 12 nd rfl (by first | exact Or.inl rfl | exact Or.inr rfl)) gxs_nil)))) (fun _ _ _ _ _ => bxs_nil) (fun _ _ _ _ _ => (ex_callG F__law_pair_right (hr.mono (by omega)) (by rfl) g__law_pair_right k__law_pair_right b__law_pair_right (exs_cons (ex_name 3) (exs_cons (ex_name 2) (exs_cons (ex_name 9) (exs_cons (ex_name 12) exs_nil))))))) exs_nil)))) (sxs_one (sx_ret ex_bl)) sxs_nil))))))))
    (sxs_one (sx_if (tx_cmp (opA_ne hu) (ex_callB (callA_repr hr0) (by rfl) m_repr bn_repr (exs_cons (ex_name 2) exs_nil)) (ex_name 4) (nomark _)) (sxs_one (sx_ret ex_bl)) sxs_nil))))))
    (sxs_one (sx_ret ex_bl))) (by rfl)
theorem sc_law : FnScope ["_law_script", "_law_k"] ["_law_script"] (defScope (top 14)) := ⟨rfl, rfl, rfl, by decide +kernel, rfl, by decide +kernel, by decide +kernel⟩
theorem ok_law {P : Program} {w : World} {K : PySem.W.Frag} {mg : Str → Option Value} {base : Heap} {f : Addr} {fd : FuncData} (F : FnP K "law" (top 14) f fd)
    (m_len : mg "len" = none)
    (m_min : mg "min" = none)
    (m_max : mg "max" = none)
    (m_range : mg "range" = none)
    {f__law_deck : Addr} {d__law_deck : FuncData} (F__law_deck : FnG P w K mg base CX0 1 f__law_deck d__law_deck ["_law_script", "_law_k"] (ASp K [false, false] sp__law_deck)) (g__law_deck : mg "_law_deck" = some (.ref f__law_deck)) (k__law_deck : PySem.W.keepIn K (.ref f__law_deck) = true) (b__law_deck : Binds K d__law_deck ["_law_script", "_law_k"] [])
    {f__law_right : Addr} {d__law_right : FuncData} (F__law_right : FnG P w K mg base CX0 5 f__law_right d__law_right ["_law_deck_here"] (ASp K [true] sp__law_right)) (g__law_right : mg "_law_right" = some (.ref f__law_right)) (k__law_right : PySem.W.keepIn K (.ref f__law_right) = true) (b__law_right : Binds K d__law_right ["_law_deck_here"] [])
    (m_all : mg "all" = none)
    {spec : FSpec} (rd : ∀ os Qa, os.length = 1 → spec os Qa → t_law (endsOf [false] Qa) (startA 2 os)) : FnG P w K mg base CX0 (5 + 1) f fd ["_law_script"] (ASp K [false] spec) := by
  refine fng_ok (N := ["_law_script", "_law_k"]) [false] t_law F sc_law rfl (fun cdv A outer s H E hr => ?_) rd
  have hr0 := hr.mono (Nat.zero_le _)
  have hu := hr0.room.un
  have nd := sc_law.nd
  exact by_t (sxs_one (sx_ret (ex_callB (callA_all rfl) (by rfl) m_all bn_all (exs_cons (ex_lc rfl nd (ix_range1 (by rfl) m_range (exs_cons (ex_callB (callA_max2 rfl) (by rfl) m_max bn_max (exs_cons ex_int (exs_cons (ex_callB (callA_min2 rfl) (by rfl) m_min bn_min (exs_cons ex_int (exs_cons (ex_callB callA_len (by rfl) m_len bn_len (exs_cons (ex_name 0) exs_nil)) exs_nil))) exs_nil))) exs_nil)) (blkOk_by (own := [("_law_k", 1)]) (by rfl)) (fun _ _ _ _ _ => (gx_name 1 nd rfl (by first | exact Or.inl rfl | exact Or.inr rfl))) (fun _ _ _ _ _ => bxs_nil) (fun _ _ _ _ _ => (ex_callG F__law_right (hr.mono (by omega)) (by rfl) g__law_right k__law_right b__law_right (exs_cons (ex_callG F__law_deck (hr.mono (by omega)) (by rfl) g__law_deck k__law_deck b__law_deck (exs_cons (ex_name 0) (exs_cons (ex_name 1) exs_nil))) exs_nil)))) exs_nil)))) (by rfl)
end WC
namespace Hd
open PySem PySem.Spec PyProof.Rows L2
def top (i : Nat) : Stmt := PySem.Challenge.pw_gridupgrade_k13_nodes_of_grids.main.body.getD i (.Pass ⟨0, 0, 0, 0⟩)
abbrev FnP (K : PySem.W.Frag) (x : Str) (st : Stmt) (f : Addr) (fd : FuncData) : Prop := FunD K x x (defArgs st) (defBody st) (defScope st) [] [] f fd
def mkD (x : Str) (st : Stmt) : He.DefD := ⟨(x, none), x, x, defArgs st, defBody st, defScope st, [], []⟩
def fn : List He.DefD := [mkD "neighbour_table" (top 1), mkD "nodes" (top 3), mkD "are_adjacent" (top 4), mkD "_law_deck" (top 6), mkD "_law_draw" (top 7), mkD "_law_any" (top 8), mkD "_law_names" (top 9), mkD "_law_network" (top 10), mkD "_law_beside" (top 11), mkD "_law_pair_right" (top 12), mkD "_law_right" (top 13), mkD "law" (top 14)]
def fa : List He.Fa := [.glo "neighbour_table", .glo "nodes", .glo "are_adjacent", .glo "_law_deck", .glo "_law_draw", .glo "_law_any", .glo "_law_names", .glo "_law_network", .glo "_law_beside", .glo "_law_pair_right", .glo "_law_right", .glo "law", .free "tuple", .free "sorted", .free "enumerate", .free "dict", .free "range", .free "all", .free "len", .free "int", .free "repr", .free "abs", .free "min", .free "max"]
abbrev R : PySem.W.OpenRow := PySem.W.OpenLaw.row PySem.Challenge.rw_gridupgrade_k13_nodes_of_grids
abbrev hk : PySem.W.Hook := He.hookD 4 fa fn
def ob (s : PySem.W.SharedT) : He.AlD := He.obsDG 4 fa fn (HandSHeadRun.getT s)
theorem ob_eq (s : PySem.W.SharedT) : ob s = hk.obs s.abs := He.obsDG_eq (HandSHeadRun.getT_eq s)
def lo0 : List PySem.Str := ["neighbour_table", "nodes", "are_adjacent", "_law_deck", "_law_draw", "_law_any", "_law_names", "_law_network", "_law_beside", "_law_pair_right", "_law_right"]
def lo : List PySem.Str := lo0
theorem run (w : World) : HandSHeadRun.RunEq R (PySem.W.view R.prog [14]) hk ob 1300 lo w := by
  intro os
  kernel_rfl
end Hd
namespace Lw
open PySem PySem.Spec L2 DL WC WS
open PyProof.Rows hiding St
theorem law_end {P : Program} (w : World) {K : PySem.W.Frag} {h : Heap} {mg : Str → Option Value} {fa : Addr} (X : K.In h) (Gh : h.Ns mainGlobals mg) (hfa : mg ("law" : Str) = some (.ref fa)) (c : He.SaysD Hd.fa Hd.fn K) :
    ∃ (K : PySem.W.Frag) (fd : FuncData) (sp : Sp), K.In h ∧ (∀ (s : Shared) (u : Value), BindsTo s fd ⟨[u], []⟩ [("_law_script", u)]) ∧
      (∀ (H : Hp) (a : Addr) (ns : List Int), ns.length ≤ 63 → Only H → SqL K H a (ns.map V.int) → sp [.ref a] H (fun v _ => v = .bl true) fun _ _ _ => False) ∧
      ∀ base : Heap, K.In base → base.Ns mainGlobals mg → FnG P w K mg base CX0 6 fa fd ["_law_script"] sp := by
  obtain ⟨d_neighbour_table, D_neighbour_table⟩ := c.def_ 0 (d := Hd.mkD "neighbour_table" (Hd.top 1)) rfl
  have g_neighbour_table := He.glo_ok X Gh (c.fact 0 (f := .glo "neighbour_table") rfl)
  have b_neighbour_table : Binds K d_neighbour_table ["network"] [] := FunD.bindsN D_neighbour_table fun _ _ _ _ _ _ us hl => match us, hl with | [_], _ => rfl
  obtain ⟨d_nodes, D_nodes⟩ := c.def_ 1 (d := Hd.mkD "nodes" (Hd.top 3)) rfl
  have g_nodes := He.glo_ok X Gh (c.fact 1 (f := .glo "nodes") rfl)
  have b_nodes : Binds K d_nodes ["network", "distance"] [] := FunD.bindsN D_nodes fun _ _ _ _ _ _ us hl => match us, hl with | [_, _], _ => rfl
  obtain ⟨d_are_adjacent, D_are_adjacent⟩ := c.def_ 2 (d := Hd.mkD "are_adjacent" (Hd.top 4)) rfl
  have g_are_adjacent := He.glo_ok X Gh (c.fact 2 (f := .glo "are_adjacent") rfl)
  have b_are_adjacent : Binds K d_are_adjacent ["network", "one", "other"] [] := FunD.bindsN D_are_adjacent fun _ _ _ _ _ _ us hl => match us, hl with | [_, _, _], _ => rfl
  obtain ⟨d__law_deck, D__law_deck⟩ := c.def_ 3 (d := Hd.mkD "_law_deck" (Hd.top 6)) rfl
  have g__law_deck := He.glo_ok X Gh (c.fact 3 (f := .glo "_law_deck") rfl)
  have b__law_deck : Binds K d__law_deck ["_law_script", "_law_k"] [] := FunD.bindsN D__law_deck fun _ _ _ _ _ _ us hl => match us, hl with | [_, _], _ => rfl
  obtain ⟨d__law_draw, D__law_draw⟩ := c.def_ 4 (d := Hd.mkD "_law_draw" (Hd.top 7)) rfl
  have g__law_draw := He.glo_ok X Gh (c.fact 4 (f := .glo "_law_draw") rfl)
  have b__law_draw : Binds K d__law_draw ["_law_deck_here", "_law_many"] [] := FunD.bindsN D__law_draw fun _ _ _ _ _ _ us hl => match us, hl with | [_, _], _ => rfl
  obtain ⟨d__law_any, D__law_any⟩ := c.def_ 5 (d := Hd.mkD "_law_any" (Hd.top 8)) rfl
  have g__law_any := He.glo_ok X Gh (c.fact 5 (f := .glo "_law_any") rfl)
  have b__law_any : Binds K d__law_any ["_law_deck_here", "_law_items"] [] := FunD.bindsN D__law_any fun _ _ _ _ _ _ us hl => match us, hl with | [_, _], _ => rfl
  obtain ⟨d__law_names, D__law_names⟩ := c.def_ 6 (d := Hd.mkD "_law_names" (Hd.top 9)) rfl
  have g__law_names := He.glo_ok X Gh (c.fact 6 (f := .glo "_law_names") rfl)
  have b__law_names : Binds K d__law_names ["_law_deck_here", "_law_many"] [] := FunD.bindsN D__law_names fun _ _ _ _ _ _ us hl => match us, hl with | [_, _], _ => rfl
  obtain ⟨d__law_network, D__law_network⟩ := c.def_ 7 (d := Hd.mkD "_law_network" (Hd.top 10)) rfl
  have g__law_network := He.glo_ok X Gh (c.fact 7 (f := .glo "_law_network") rfl)
  have b__law_network : Binds K d__law_network ["_law_deck_here", "_law_many", "_law_is_sided"] [] := FunD.bindsN D__law_network fun _ _ _ _ _ _ us hl => match us, hl with | [_, _, _], _ => rfl
  obtain ⟨d__law_beside, D__law_beside⟩ := c.def_ 8 (d := Hd.mkD "_law_beside" (Hd.top 11)) rfl
  have g__law_beside := He.glo_ok X Gh (c.fact 8 (f := .glo "_law_beside") rfl)
  have b__law_beside : Binds K d__law_beside ["_law_network_here"] [] := FunD.bindsN D__law_beside fun _ _ _ _ _ _ us hl => match us, hl with | [_], _ => rfl
  obtain ⟨d__law_pair_right, D__law_pair_right⟩ := c.def_ 9 (d := Hd.mkD "_law_pair_right" (Hd.top 12)) rfl
  have g__law_pair_right := He.glo_ok X Gh (c.fact 9 (f := .glo "_law_pair_right") rfl)
  have b__law_pair_right : Binds K d__law_pair_right ["_law_beside_here", "_law_net", "_law_one", "_law_other"] [] := FunD.bindsN D__law_pair_right fun _ _ _ _ _ _ us hl => match us, hl with | [_, _, _, _], _ => rfl
  obtain ⟨d__law_right, D__law_right⟩ := c.def_ 10 (d := Hd.mkD "_law_right" (Hd.top 13)) rfl
  have g__law_right := He.glo_ok X Gh (c.fact 10 (f := .glo "_law_right") rfl)
  have b__law_right : Binds K d__law_right ["_law_deck_here"] [] := FunD.bindsN D__law_right fun _ _ _ _ _ _ us hl => match us, hl with | [_], _ => rfl
  obtain ⟨d_law, D_law⟩ := c.def_ 11 (d := Hd.mkD "law" (Hd.top 14)) rfl
  have e := hfa.symm.trans (He.glo_ok X Gh (c.fact 11 (f := .glo "law") rfl))
  cases e
  have g_law := He.glo_ok X Gh (c.fact 11 (f := .glo "law") rfl)
  have b_law : Binds K d_law ["_law_script"] [] := FunD.bindsN D_law fun _ _ _ _ _ _ us hl => match us, hl with | [_], _ => rfl
  have m_len := He.free_ok X Gh (c.fact 18 (f := .free "len") rfl)
  have m_min := He.free_ok X Gh (c.fact 22 (f := .free "min") rfl)
  have m_max := He.free_ok X Gh (c.fact 23 (f := .free "max") rfl)
  have m_range := He.free_ok X Gh (c.fact 16 (f := .free "range") rfl)
  have m_all := He.free_ok X Gh (c.fact 17 (f := .free "all") rfl)
  have m_abs := He.free_ok X Gh (c.fact 21 (f := .free "abs") rfl)
  have m_int := He.free_ok X Gh (c.fact 19 (f := .free "int") rfl)
  have m_repr := He.free_ok X Gh (c.fact 20 (f := .free "repr") rfl)
  have m_tuple := He.free_ok X Gh (c.fact 12 (f := .free "tuple") rfl)
  have m_enumerate := He.free_ok X Gh (c.fact 14 (f := .free "enumerate") rfl)
  have m_sorted := He.free_ok X Gh (c.fact 13 (f := .free "sorted") rfl)
  have m_dict := He.free_ok X Gh (c.fact 15 (f := .free "dict") rfl)
  have bl := FunD.bindsA (ps := ["_law_script"]) D_law fun _ _ _ _ _ _ us hl => match us, hl with | [_], _ => rfl
  refine ⟨K, d_law, ASp K [false] sp_law, X, fun s v => bl s [v] rfl, fun H a ns hl _ hS => asp_ints hS ⟨_, rfl, fun t m => by obtain ⟨i, _, rfl⟩ := List.mem_map.mp m; exact ⟨i, rfl⟩, rfl⟩ fun _ => rfl, fun base KB GB => ?_⟩
  have F__law_deck : FnG P w K mg base CX0 1 _ d__law_deck ["_law_script", "_law_k"] (ASp K [false, false] sp__law_deck) := WC.ok__law_deck D__law_deck m_len m_abs m_int (rd := pl__law_deck)
  have F__law_draw : FnG P w K mg base CX0 1 _ d__law_draw ["_law_deck_here", "_law_many"] (ASp K [true, false] sp__law_draw) := WC.ok__law_draw D__law_draw  (rd := pl__law_draw)
  have F__law_any : FnG P w K mg base CX0 2 _ d__law_any ["_law_deck_here", "_law_items"] (ASp K [true, false] sp__law_any) := WC.ok__law_any D__law_any m_len F__law_draw g__law_draw D__law_draw.kp b__law_draw (rd := pl__law_any)
  have F__law_names : FnG P w K mg base CX0 3 _ d__law_names ["_law_deck_here", "_law_many"] (ASp K [true, false] sp__law_names) := WC.ok__law_names D__law_names F__law_any g__law_any D__law_any.kp b__law_any F__law_draw g__law_draw D__law_draw.kp b__law_draw m_range m_sorted (rd := pl__law_names)
  have F__law_network : FnG P w K mg base CX0 4 _ d__law_network ["_law_deck_here", "_law_many", "_law_is_sided"] (ASp K [true, false, false] sp__law_network) := WC.ok__law_network D__law_network F__law_names g__law_names D__law_names.kp b__law_names F__law_any g__law_any D__law_any.kp b__law_any F__law_draw g__law_draw D__law_draw.kp b__law_draw m_enumerate m_range m_len m_tuple (rd := pl__law_network)
  have F__law_beside : FnG P w K mg base CX0 1 _ d__law_beside ["_law_network_here"] (ASp K [false] sp__law_beside) := WC.ok__law_beside D__law_beside m_dict m_sorted (rd := pl__law_beside)
  have F_neighbour_table : FnG P w K mg base CX0 1 _ d_neighbour_table ["network"] (ASp K [false] sp_neighbour_table) := WC.ok_neighbour_table D_neighbour_table m_sorted (rd := pl_neighbour_table)
  have F_nodes : FnG P w K mg base CX0 2 _ d_nodes ["network", "distance"] (ASp K [false, false] sp_nodes) := WC.ok_nodes D_nodes F_neighbour_table g_neighbour_table D_neighbour_table.kp b_neighbour_table m_range m_tuple (rd := pl_nodes)
  have F_are_adjacent : FnG P w K mg base CX0 1 _ d_are_adjacent ["network", "one", "other"] (ASp K [false, false, false] sp_are_adjacent) := WC.ok_are_adjacent D_are_adjacent m_abs m_min m_max (rd := pl_are_adjacent)
  have F__law_pair_right : FnG P w K mg base CX0 2 _ d__law_pair_right ["_law_beside_here", "_law_net", "_law_one", "_law_other"] (ASp K [false, false, false, false] sp__law_pair_right) := WC.ok__law_pair_right D__law_pair_right F_are_adjacent g_are_adjacent D_are_adjacent.kp b_are_adjacent m_repr (rd := pl__law_pair_right)
  have F__law_right : FnG P w K mg base CX0 5 _ d__law_right ["_law_deck_here"] (ASp K [true] sp__law_right) := WC.ok__law_right D__law_right m_range F__law_draw g__law_draw D__law_draw.kp b__law_draw F__law_network g__law_network D__law_network.kp b__law_network F__law_beside g__law_beside D__law_beside.kp b__law_beside m_repr F_nodes g_nodes D_nodes.kp b_nodes m_tuple F__law_any g__law_any D__law_any.kp b__law_any F__law_pair_right g__law_pair_right D__law_pair_right.kp b__law_pair_right m_all (rd := pl__law_right)
  have F_law : FnG P w K mg base CX0 6 _ d_law ["_law_script"] (ASp K [false] sp_law) := WC.ok_law D_law m_len m_min m_max m_range F__law_deck g__law_deck D__law_deck.kp b__law_deck F__law_right g__law_right D__law_right.kp b__law_right m_all (rd := pl_law)
  exact F_law
end Lw
open PySem PySem.W PySem.Calls PyProof.Rows
theorem PySem.Challenge.cw_gridupgrade_k13_nodes_of_grids_holds : PySem.Challenge.rw_gridupgrade_k13_nodes_of_grids.Holds := by
  w_on; o_law
  refine HandSHeadRun.head_any (r := OpenLaw.row PySem.Challenge.rw_gridupgrade_k13_nodes_of_grids) (q := view (OpenLaw.row PySem.Challenge.rw_gridupgrade_k13_nodes_of_grids).prog [14]) (H := Hd.hk) (ob := Hd.ob) (M := 1300) (loose := Hd.lo) (d := HandSHeadRun.topDef (OpenLaw.row PySem.Challenge.rw_gridupgrade_k13_nodes_of_grids).prog 14) (kwd := []) Hd.ob_eq
    (by kernel_rfl) (fun s => by kernel_rfl) Hd.run (by kernel_rfl) (by kernel_rfl) (by kernel_rfl) (by rfl) (by first | assumption | decide +kernel) (by decide +kernel) ⟨rfl, rfl, rfl, rfl, rfl, by decide +kernel⟩ ?hw ?hc
  case hw => w_witness2
  case hc =>
    refine DL.walk_ofG (l := PySem.Challenge.rw_gridupgrade_k13_nodes_of_grids) (n := 63) (k := 6) (x := "_law_script") rfl (by decide) (by kernel_rfl) ⟨rfl, by decide, by decide⟩ ?F
    intro w mg fa h Y G hmg0
    obtain ⟨K, KX, c⟩ := Y
    have hmg : mg ("law" : PySem.Str) = some (.ref fa) := by
      have e : (HandSHeadRun.topDef (OpenLaw.row PySem.Challenge.rw_gridupgrade_k13_nodes_of_grids).prog 14).name = ("law" : PySem.Str) := by kernel_rfl
      rw [← e]
      exact hmg0
    exact Lw.law_end w KX G hmg c

