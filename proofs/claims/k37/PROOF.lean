import PyProof.Rows.All
import Wide.All
import OpenK.AllK
import Wide.FinOn
import PyProof.EqAt
import PyProof.EqKinds
import PyProof.TupleCall
import PyProof.ReprReads
import HandS.ForMost
import HandS.Style
import HandS.Flow
import HandS.Zip
import HandS.TupAny
import HandS.IsInst
import HandS.Deep
import HandS.Defaults
import HandS.WordsExc
import KE.GoesEnum
import PyProof.ReprRoads
import HandS.Ends
import HandS.Wide
import HandS.Text
import HandS.TupMul
import HandS.RaiseMore
import KE.LtData
import PyProof.NeData
import KE.KRevSl
import HandS.Conv
import PyProof.ListStr
import HandS.SetKeys
import HandS.SetFor
import HandS.Strs
import HandS.StrMore
import KE.SortData
import KE.KStrOpen
import PyProof.Ascii
import PyProof.ReprLen
import KE.KStateDown
import Lean
import HandS.Words
import HandS.Head0
import HandS.Head1
import HandS.Head2
import HandS.HeadEnd
import HandS.HeadHook1
import HandS.HeadHook2
import PySem.Challenge.RW_gridupgrade_k37_prices_of_any_value
set_option Elab.async false
set_option linter.all false
set_option maxRecDepth 100000
set_option maxHeartbeats 4000000
/-! THE DATA LAYER, part 0: values as trees, owned objects, the state's relation. -/
namespace DL
open PySem PySem.Spec L2
open PyProof.Rows hiding St

abbrev T := PyData

/-! ### a value is a tree -/
mutual
/-- v is the tree t in the tracked heap; the last place: the addresses of its lists and dicts -/
inductive RV (K : PySem.W.Frag) (H : Hp) : V → T → List Addr → Prop
  | non : RV K H .non .none []
  | bl (b : Bool) : RV K H (.bl b) (.bool b) []
  | int (i : Int) : RV K H (.int i) (.int i) []
  | str (x : Str) : RV K H (.str x) (.str x) []
  | tup {a : Addr} {vs : List V} {ts : List T} {as : List Addr} : SqT K H a vs → RVs K H vs ts as → RV K H (.ref a) (.tuple ts) as
  | lst {a : Addr} {vs : List V} {ts : List T} {as : List Addr} : Rd H a (.lst vs) → RVs K H vs ts as → RV K H (.ref a) (.list ts) (a :: as)
  | lstK {a : Addr} {vs : List V} {ts : List T} {as : List Addr} {o : Obj} {its : Array Value} {n : Nat} :
      K.lookup a = some o → o.cls = .type "list" → o.dict = none → o.data = .seq its n → its.size ≤ sizeLine → Vals vs its.toList → RVs K H vs ts as → RV K H (.ref a) (.list ts) as
  | dct {a : Addr} {kvs : List (Key × V)} {ts : List T} {as : List Addr} : Rd H a (.dK kvs) → RVs K H (kvs.map (·.2)) ts as →
      RV K H (.ref a) (.dict (List.zipWith (fun (p : Key × V) (t : T) => ((match p.1 with | .inl i => .int i | .inr x => .str x), t)) kvs ts)) (a :: as)
inductive RVs (K : PySem.W.Frag) (H : Hp) : List V → List T → List Addr → Prop
  | nil : RVs K H [] [] []
  | cons {v : V} {vs : List V} {t : T} {ts : List T} {as bs : List Addr} : RV K H v t as → RVs K H vs ts bs → RVs K H (v :: vs) (t :: ts) (as ++ bs)
end

abbrev keyT : Key → T
  | .inl i => .int i
  | .inr x => .str x

theorem RVs.length {K : PySem.W.Frag} {H : Hp} : ∀ {vs : List V} {ts : List T} {as : List Addr}, RVs K H vs ts as → vs.length = ts.length
  | _, _, _, .nil => rfl
  | _, _, _, .cons _ h => congrArg (· + 1) h.length

/-- what a change of the tracked heap keeps: all but F -/
structure Ext (H : Hp) (F : Addr → Prop) (H' : Hp) (F' : Addr → Prop) : Prop where
  keep : ∀ a o, H a = some o → ¬ F a → H' a = some o
  tups : ∀ a xs, H a = some (.tup xs) → H' a = some (.tup xs)
  frzs : ∀ a o u, H a = some (.frz o u) → H' a = some (.frz o u)
  new : ∀ a, F' a → F a ∨ H a = none
  dom : ∀ a, H' a = none → H a = none
theorem Ext.refl {H : Hp} {F : Addr → Prop} : Ext H F H F := ⟨fun _ _ h _ => h, fun _ _ h => h, fun _ _ _ h => h, fun _ h => .inl h, fun _ h => h⟩
theorem Ext.trans {H H1 H2 : Hp} {F F1 F2 : Addr → Prop} (h : Ext H F H1 F1) (k : Ext H1 F1 H2 F2) : Ext H F H2 F2 where
  keep a o e n := k.keep a o (h.keep a o e n) fun z => (h.new a z).elim n fun q => by rw [q] at e; cases e
  tups a xs e := k.tups a xs (h.tups a xs e)
  frzs a o u e := k.frzs a o u (h.frzs a o u e)
  new a z := (k.new a z).elim (h.new a) fun q => .inr (h.dom a q)
  dom a z := h.dom a (k.dom a z)
theorem Ext.weak {H H1 : Hp} {F F1 F' F1' : Addr → Prop} (h : Ext H F H1 F1) (w : ∀ a, F a → F' a) (w1 : ∀ a, F1' a → F1 a) : Ext H F' H1 F1' where
  keep a o e n := h.keep a o e fun z => n (w a z)
  tups := h.tups
  frzs := h.frzs
  new a z := (h.new a (w1 a z)).elim (fun q => .inl (w a q)) .inr
  dom := h.dom
/-- everything is kept -/
def Pres (H H' : Hp) : Prop := ∀ a o, H a = some o → H' a = some o
theorem Pres.refl {H : Hp} : Pres H H := fun _ _ h => h
theorem Pres.trans {H H1 H2 : Hp} (h : Pres H H1) (k : Pres H1 H2) : Pres H H2 := fun a o e => k a o (h a o e)
theorem Pres.upd {H : Hp} {p : Addr} {o : HO} (n : H p = none) : Pres H (upd H p o) := fun a u e => by
  rw [upd_ne (ne_of_none e n)]; exact e
theorem Pres.ext {H H' : Hp} {F : Addr → Prop} (h : Pres H H') : Ext H F H' F :=
  ⟨fun a o e _ => h a o e, fun a xs e => h a _ e, fun a o u e => h a _ e, fun _ z => .inl z, fun a z => by
    cases q : H a with
    | none => rfl
    | some o => rw [h a o q] at z; cases z⟩
theorem Pres.extA {H H' : Hp} {F : Addr → Prop} {A : List Addr} (h : Pres H H') (n : ∀ a ∈ A, H a = none) : Ext H F H' (fun a => F a ∨ a ∈ A) :=
  ⟨fun a o e _ => h a o e, fun a xs e => h a _ e, fun a o u e => h a _ e, fun a z => z.imp (fun q => q) (n a), (h.ext (F := F)).dom⟩

theorem Rd.tupE {H H' : Hp} {F F' : Addr → Prop} (x : Ext H F H' F') {a : Addr} {vs : List V} (h : Rd H a (.tup vs)) : Rd H' a (.tup vs) := by
  rcases h with h | ⟨o, h⟩
  · exact .inl (x.tups a vs h)
  · exact .inr ⟨o, x.frzs a o _ h⟩
theorem Rd.keepE {H H' : Hp} {F F' : Addr → Prop} (x : Ext H F H' F') {a : Addr} {u : HO} (h : Rd H a u) (n : ¬ F a) : Rd H' a u := by
  rcases h with h | ⟨o, h⟩
  · exact .inl (x.keep a u h n)
  · exact .inr ⟨o, x.keep a _ h n⟩
theorem Rd.some {H : Hp} {a : Addr} {u : HO} (h : Rd H a u) : ∃ o, H a = some o := by
  rcases h with h | ⟨o, h⟩ <;> exact ⟨_, h⟩
theorem SqT.keepE {K : PySem.W.Frag} {H H' : Hp} {F F' : Addr → Prop} (x : Ext H F H' F') {a : Addr} {vs : List V} (h : SqT K H a vs) : SqT K H' a vs := h.imp (Rd.tupE x) fun h => h

mutual
theorem RV.ext {K : PySem.W.Frag} {H H' : Hp} {F F' : Addr → Prop} (x : Ext H F H' F') : ∀ {v : V} {t : T} {as : List Addr}, RV K H v t as → (∀ a ∈ as, ¬ F a) → RV K H' v t as
  | _, _, _, .non, _ => .non
  | _, _, _, .bl b, _ => .bl b
  | _, _, _, .int i, _ => .int i
  | _, _, _, .str z, _ => .str z
  | _, _, _, .tup h r, n => .tup (SqT.keepE x h) (RVs.ext x r n)
  | _, _, _, .lst h r, n => .lst (Rd.keepE x h (n _ List.mem_cons_self)) (RVs.ext x r fun a m => n a (List.mem_cons_of_mem _ m))
  | _, _, _, .lstK h1 h2 h3 h4 h5 h6 r, n => .lstK h1 h2 h3 h4 h5 h6 (RVs.ext x r n)
  | _, _, _, .dct h r, n => .dct (Rd.keepE x h (n _ List.mem_cons_self)) (RVs.ext x r fun a m => n a (List.mem_cons_of_mem _ m))
theorem RVs.ext {K : PySem.W.Frag} {H H' : Hp} {F F' : Addr → Prop} (x : Ext H F H' F') : ∀ {vs : List V} {ts : List T} {as : List Addr}, RVs K H vs ts as → (∀ a ∈ as, ¬ F a) → RVs K H' vs ts as
  | _, _, _, .nil, _ => .nil
  | _, _, _, .cons h r, n => .cons (RV.ext x h fun a m => n a (List.mem_append_left _ m)) (RVs.ext x r fun a m => n a (List.mem_append_right _ m))
end
mutual
/-- the lists and dicts of a tree stand -/
theorem RV.there {K : PySem.W.Frag} {H : Hp} : ∀ {v : V} {t : T} {as : List Addr}, RV K H v t as → ∀ a ∈ as, ∃ o, H a = some o
  | _, _, _, .non, _, m => nomatch m
  | _, _, _, .bl b, _, m => nomatch m
  | _, _, _, .int i, _, m => nomatch m
  | _, _, _, .str z, _, m => nomatch m
  | _, _, _, .tup h r, a, m => RVs.there r a m
  | _, _, _, .lst h r, a, m => (List.mem_cons.mp m).elim (fun e => e ▸ Rd.some h) (RVs.there r a)
  | _, _, _, .lstK h1 h2 h3 h4 h5 h6 r, a, m => RVs.there r a m
  | _, _, _, .dct h r, a, m => (List.mem_cons.mp m).elim (fun e => e ▸ Rd.some h) (RVs.there r a)
theorem RVs.there {K : PySem.W.Frag} {H : Hp} : ∀ {vs : List V} {ts : List T} {as : List Addr}, RVs K H vs ts as → ∀ a ∈ as, ∃ o, H a = some o
  | _, _, _, .nil, _, m => nomatch m
  | _, _, _, .cons h r, a, m => (List.mem_append.mp m).elim (RV.there h a) (RVs.there r a)
end

/-- a tree whose lists and dicts are none of F -/
def RP (K : PySem.W.Frag) (H : Hp) (F : Addr → Prop) (v : V) (t : T) : Prop := ∃ as, RV K H v t as ∧ ∀ a ∈ as, ¬ F a
section
variable {K : PySem.W.Frag} {H H' : Hp} {F F' : Addr → Prop} {v : V} {t : T} {vs : List V} {ts : List T}
theorem RP.ext (h : RP K H F v t) (x : Ext H F H' F') : RP K H' F' v t := by
  obtain ⟨as, r, n⟩ := h
  refine ⟨as, r.ext x n, fun a m z => (x.new a z).elim (n a m) fun q => ?_⟩
  obtain ⟨o, e⟩ := r.there a m
  rw [q] at e; cases e
theorem RP.weak (h : RP K H F v t) (w : ∀ a, F' a → F a) : RP K H F' v t := let ⟨as, r, n⟩ := h; ⟨as, r, fun a m z => n a m (w a z)⟩
theorem RP.pres (h : RP K H F v t) (p : Pres H H') : RP K H' F v t := h.ext p.ext
/-- F may grow by what is new -/
theorem RP.grow (h : RP K H F v t) (w : ∀ a, F' a → F a ∨ H a = none) : RP K H F' v t := by
  obtain ⟨as, r, n⟩ := h
  refine ⟨as, r, fun a m z => (w a z).elim (n a m) fun q => ?_⟩
  obtain ⟨o, e⟩ := r.there a m
  rw [q] at e; cases e
abbrev RPs (K : PySem.W.Frag) (H : Hp) (F : Addr → Prop) : List V → List T → Prop := Paired (RP K H F)
theorem RPs.of : ∀ {vs : List V} {ts : List T} {as : List Addr}, RVs K H vs ts as → (∀ a ∈ as, ¬ F a) → RPs K H F vs ts
  | _, _, _, .nil, _ => .nil
  | _, _, _, .cons h r, n => .cons ⟨_, h, fun a m => n a (List.mem_append_left _ m)⟩ (RPs.of r fun a m => n a (List.mem_append_right _ m))
theorem RPs.rvs : ∀ {vs : List V} {ts : List T}, RPs K H F vs ts → ∃ as, RVs K H vs ts as ∧ ∀ a ∈ as, ¬ F a
  | _, _, .nil => ⟨[], .nil, fun _ m => nomatch m⟩
  | _, _, .cons ⟨as, h, n⟩ r => let ⟨bs, q, m⟩ := RPs.rvs r; ⟨as ++ bs, .cons h q, fun a z => (List.mem_append.mp z).elim (n a) (m a)⟩
theorem RPs.ext (x : Ext H F H' F') : ∀ {vs : List V} {ts : List T}, RPs K H F vs ts → RPs K H' F' vs ts
  | _, _, .nil => .nil
  | _, _, .cons h r => .cons (h.ext x) (RPs.ext x r)
theorem RPs.mapP {G : V → T → Prop} (w : ∀ v t, RP K H F v t → G v t) : ∀ {vs : List V} {ts : List T}, RPs K H F vs ts → Paired G vs ts
  | _, _, .nil => .nil
  | _, _, .cons h r => .cons (w _ _ h) (RPs.mapP w r)
theorem RPs.weak (h : RPs K H F vs ts) (w : ∀ a, F' a → F a) : RPs K H F' vs ts := h.mapP fun _ _ q => q.weak w
theorem RPs.grow (h : RPs K H F vs ts) (w : ∀ a, F' a → F a ∨ H a = none) : RPs K H F' vs ts := h.mapP fun _ _ q => q.grow w
theorem Paired.len {α β : Type} {G : α → β → Prop} : ∀ {l : List α} {r : List β}, Paired G l r → l.length = r.length
  | _, _, .nil => rfl
  | _, _, .cons _ h => congrArg (· + 1) (Paired.len h)
theorem Paired.app {α β : Type} {G : α → β → Prop} : ∀ {l l' : List α} {r r' : List β}, Paired G l r → Paired G l' r' → Paired G (l ++ l') (r ++ r')
  | _, _, _, _, .nil, k => k
  | _, _, _, _, .cons h t, k => .cons h (Paired.app t k)
theorem Paired.at {α β : Type} {G : α → β → Prop} : ∀ {l : List α} {r : List β} {i : Nat} {b : β}, Paired G l r → r[i]? = some b → ∃ a, l[i]? = some a ∧ G a b
  | _, _, _, _, .nil, e => by simp at e
  | _, _, 0, _, .cons h _, e => by simp at e; subst e; exact ⟨_, rfl, h⟩
  | _, _, i + 1, _, .cons _ t, e => by
    obtain ⟨a, h1, h2⟩ := Paired.at (i := i) t (by simpa using e)
    exact ⟨a, by simpa using h1, h2⟩
theorem Paired.atL {α β : Type} {G : α → β → Prop} : ∀ {l : List α} {r : List β} {i : Nat} {a : α}, Paired G l r → l[i]? = some a → ∃ b, r[i]? = some b ∧ G a b
  | _, _, _, _, .nil, e => by simp at e
  | _, _, 0, _, .cons h _, e => by simp at e; subst e; exact ⟨_, rfl, h⟩
  | _, _, i + 1, _, .cons _ t, e => by
    obtain ⟨a, h1, h2⟩ := Paired.atL (i := i) t (by simpa using e)
    exact ⟨a, by simpa using h1, h2⟩
theorem Paired.takeP {α β : Type} {G : α → β → Prop} : ∀ {l : List α} {r : List β} (n : Nat), Paired G l r → Paired G (l.take n) (r.take n)
  | _, _, 0, _ => by simp only [List.take_zero]; exact .nil
  | _, _, _ + 1, .nil => .nil
  | _, _, n + 1, .cons h t => .cons h (Paired.takeP n t)
theorem Paired.dropP {α β : Type} {G : α → β → Prop} : ∀ {l : List α} {r : List β} (n : Nat), Paired G l r → Paired G (l.drop n) (r.drop n)
  | _, _, 0, h => h
  | _, _, _ + 1, .nil => .nil
  | _, _, n + 1, .cons _ t => Paired.dropP n t
theorem Paired.setP {α β : Type} {G : α → β → Prop} {a : α} {b : β} (g : G a b) : ∀ {l : List α} {r : List β} (n : Nat), Paired G l r → Paired G (l.set n a) (r.set n b)
  | _, _, _, .nil => .nil
  | _, _, 0, .cons _ t => .cons g t
  | _, _, n + 1, .cons h t => .cons h (Paired.setP g n t)
theorem Paired.eraseP {α β : Type} {G : α → β → Prop} : ∀ {l : List α} {r : List β} (n : Nat), Paired G l r → Paired G (l.eraseIdx n) (r.eraseIdx n)
  | _, _, _, .nil => .nil
  | _, _, 0, .cons _ t => t
  | _, _, n + 1, .cons h t => .cons h (Paired.eraseP n t)
theorem Paired.revP {α β : Type} {G : α → β → Prop} : ∀ {l : List α} {r : List β}, Paired G l r → Paired G l.reverse r.reverse
  | _, _, .nil => .nil
  | _, _, .cons h t => by rw [List.reverse_cons, List.reverse_cons]; exact Paired.app (Paired.revP t) (.cons h .nil)
/-- a tuple, a list made of stable items is stable -/
theorem RP.tup {a : Addr} (h : SqT K H a vs) (r : RPs K H F vs ts) : RP K H F (.ref a) (.tuple ts) := let ⟨as, q, n⟩ := r.rvs; ⟨as, .tup h q, n⟩
theorem RP.lst {a : Addr} (h : Rd H a (.lst vs)) (r : RPs K H F vs ts) (n : ¬ F a) : RP K H F (.ref a) (.list ts) :=
  let ⟨as, q, m⟩ := r.rvs; ⟨a :: as, .lst h q, fun b z => (List.mem_cons.mp z).elim (fun e => e ▸ n) (m b)⟩
theorem RP.non : RP K H F .non .none := ⟨[], .non, fun _ m => nomatch m⟩
theorem RP.bl (b : Bool) : RP K H F (.bl b) (.bool b) := ⟨[], .bl b, fun _ m => nomatch m⟩
theorem RP.int (i : Int) : RP K H F (.int i) (.int i) := ⟨[], .int i, fun _ m => nomatch m⟩
theorem RP.str (x : Str) : RP K H F (.str x) (.str x) := ⟨[], .str x, fun _ m => nomatch m⟩
/-- read a tree off -/
theorem RP.tupE (h : RP K H F v (.tuple ts)) : ∃ a vs, v = .ref a ∧ SqT K H a vs ∧ RPs K H F vs ts := by
  obtain ⟨as, r, n⟩ := h
  cases r with
  | tup h r => exact ⟨_, _, rfl, h, RPs.of r n⟩
theorem RP.lstE (h : RP K H F v (.list ts)) : ∃ a vs, v = .ref a ∧ SqL K H a vs ∧ RPs K H F vs ts ∧ (F a → ∃ o, K.lookup a = some o) := by
  obtain ⟨as, r, n⟩ := h
  cases r with
  | lst h r => exact ⟨_, _, rfl, .inl h, RPs.of r fun a m => n a (List.mem_cons_of_mem _ m), fun z => absurd z (n _ List.mem_cons_self)⟩
  | lstK h1 h2 h3 h4 h5 h6 r => exact ⟨_, _, rfl, .inr ⟨_, _, _, h1, h2, h3, h4, h5, h6⟩, RPs.of r n, fun _ => ⟨_, h1⟩⟩
theorem RP.noneE (h : RP K H F v .none) : v = .non := by obtain ⟨_, r, _⟩ := h; cases r; rfl
theorem RP.boolE {b : Bool} (h : RP K H F v (.bool b)) : v = .bl b := by obtain ⟨_, r, _⟩ := h; cases r; rfl
theorem RP.intE {i : Int} (h : RP K H F v (.int i)) : v = .int i := by obtain ⟨_, r, _⟩ := h; cases r; rfl
theorem RP.strE {x : Str} (h : RP K H F v (.str x)) : v = .str x := by obtain ⟨_, r, _⟩ := h; cases r; rfl
theorem RP.dctE {kts : List (T × T)} (h : RP K H F v (.dict kts)) : ∃ a kvs ts, v = .ref a ∧ Rd H a (.dK kvs) ∧ RPs K H F (kvs.map (·.2)) ts ∧ ¬ F a ∧ kts = List.zipWith (fun (p : Key × V) (t : T) => (keyT p.1, t)) kvs ts := by
  obtain ⟨as, r, n⟩ := h
  cases r with
  | dct h r => exact ⟨_, _, _, rfl, h, RPs.of r fun a m => n a (List.mem_cons_of_mem _ m), n _ List.mem_cons_self, rfl⟩
end

/-! ### what a name holds -/
inductive O where
  | pure (t : T)
  | lst (ts : List T)
  | dct (kts : List (Key × T))
  | dcl (kts : List (Key × List T))
abbrev AEnv := List (Option O)
/-- what it is as a tree -/
def O.frz : O → T
  | .pure t => t
  | .lst ts => .list ts
  | .dct kts => .dict (kts.map fun p => (keyT p.1, p.2))
  | .dcl kts => .dict (kts.map fun p => (keyT p.1, .list p.2))

/-- a dict of lists: entries, contents, the lists' addresses -/
inductive RDL (K : PySem.W.Frag) (H : Hp) (F : Addr → Prop) : List (Key × V) → List (Key × List T) → List Addr → Prop
  | nil : RDL K H F [] [] []
  | cons {k : Key} {b : Addr} {vs : List V} {ts : List T} {kvs : List (Key × V)} {kts : List (Key × List T)} {bs : List Addr} :
      H b = some (.lst vs) → RPs K H F vs ts → RDL K H F kvs kts bs → RDL K H F ((k, .ref b) :: kvs) ((k, ts) :: kts) (b :: bs)

/-- v holds o; A: the addresses that are o's own -/
def RO (K : PySem.W.Frag) (H : Hp) (F : Addr → Prop) (v : V) : O → List Addr → Prop
  | .pure t, A => A = [] ∧ RP K H F v t
  | .lst ts, A => ∃ a vs, v = .ref a ∧ A = [a] ∧ H a = some (.lst vs) ∧ RPs K H F vs ts
  | .dct kts, A => ∃ a kvs, v = .ref a ∧ A = [a] ∧ H a = some (.dK kvs) ∧ Paired (fun (p : Key × V) (q : Key × T) => p.1 = q.1 ∧ RP K H F p.2 q.2) kvs kts
  | .dcl kts, A => ∃ a kvs bs, v = .ref a ∧ A = a :: bs ∧ H a = some (.dK kvs) ∧ RDL K H F kvs kts bs
/-- .. without the addresses -/
def RW (K : PySem.W.Frag) (H : Hp) (F : Addr → Prop) (v : V) : O → Prop
  | .pure t => RP K H F v t
  | .lst ts => ∃ a vs, v = .ref a ∧ H a = some (.lst vs) ∧ RPs K H F vs ts
  | .dct kts => ∃ a kvs, v = .ref a ∧ H a = some (.dK kvs) ∧ Paired (fun (p : Key × V) (q : Key × T) => p.1 = q.1 ∧ RP K H F p.2 q.2) kvs kts
  | .dcl kts => ∃ a kvs bs, v = .ref a ∧ H a = some (.dK kvs) ∧ RDL K H F kvs kts bs
section
variable {K : PySem.W.Frag} {H H' : Hp} {F F' : Addr → Prop} {v : V} {o : O} {A : List Addr}
theorem RDL.there : ∀ {kvs : List (Key × V)} {kts : List (Key × List T)} {bs : List Addr}, RDL K H F kvs kts bs → ∀ b ∈ bs, ∃ vs, H b = some (.lst vs)
  | _, _, _, .nil, _, m => nomatch m
  | _, _, _, .cons h _ r, b, m => (List.mem_cons.mp m).elim (fun e => ⟨_, e ▸ h⟩) (RDL.there r b)
theorem RDL.imp (w : ∀ vs ts, RPs K H F vs ts → RPs K H' F' vs ts) : ∀ {kvs : List (Key × V)} {kts : List (Key × List T)} {bs : List Addr}, RDL K H F kvs kts bs → (∀ b ∈ bs, ∀ vs, H b = some (.lst vs) → H' b = some (.lst vs)) → RDL K H' F' kvs kts bs
  | _, _, _, .nil, _ => .nil
  | _, _, _, .cons h q r, k => .cons (k _ List.mem_cons_self _ h) (w _ _ q) (RDL.imp w r fun b m => k b (List.mem_cons_of_mem _ m))
theorem RO.rw (h : RO K H F v o A) : RW K H F v o := by
  cases o with
  | pure t => exact h.2
  | lst ts => obtain ⟨a, vs, e, _, q⟩ := h; exact ⟨a, vs, e, q⟩
  | dct kts => obtain ⟨a, vs, e, _, q⟩ := h; exact ⟨a, vs, e, q⟩
  | dcl kts => obtain ⟨a, vs, bs, e, _, q⟩ := h; exact ⟨a, vs, bs, e, q⟩
/-- its own addresses stand -/
theorem RO.there (h : RO K H F v o A) : ∀ a ∈ A, ∃ u, H a = some u ∧ Mut (some u) := by
  cases o with
  | pure t => intro a m; rw [h.1] at m; cases m
  | lst ts => obtain ⟨a, vs, _, e, q, _⟩ := h; intro b m; rw [e] at m; obtain rfl := List.mem_singleton.mp m; exact ⟨_, q, trivial⟩
  | dct kts => obtain ⟨a, vs, _, e, q, _⟩ := h; intro b m; rw [e] at m; obtain rfl := List.mem_singleton.mp m; exact ⟨_, q, trivial⟩
  | dcl kts =>
    obtain ⟨a, vs, bs, _, e, q, r⟩ := h
    intro b m; rw [e] at m
    rcases List.mem_cons.mp m with rfl | m
    · exact ⟨_, q, trivial⟩
    · obtain ⟨us, z⟩ := r.there b m
      exact ⟨_, z, trivial⟩
/-- a change of the heap that keeps F's trees and o's own addresses -/
theorem RO.imp (h : RO K H F v o A) (w : ∀ v t, RP K H F v t → RP K H' F' v t) (k : ∀ a ∈ A, ∀ u, H a = some u → H' a = some u) : RO K H' F' v o A := by
  have ws : ∀ vs ts, RPs K H F vs ts → RPs K H' F' vs ts := fun vs ts q => q.mapP w
  cases o with
  | pure t => exact ⟨h.1, w _ _ h.2⟩
  | lst ts => obtain ⟨a, vs, e, e2, q, r⟩ := h; exact ⟨a, vs, e, e2, k a (e2 ▸ List.mem_singleton.mpr rfl) _ q, ws _ _ r⟩
  | dct kts =>
    obtain ⟨a, vs, e, e2, q, r⟩ := h
    exact ⟨a, vs, e, e2, k a (e2 ▸ List.mem_singleton.mpr rfl) _ q, Paired.mapP r fun p q z => ⟨z.1, w _ _ z.2⟩⟩
  | dcl kts =>
    obtain ⟨a, vs, bs, e, e2, q, r⟩ := h
    exact ⟨a, vs, bs, e, e2, k a (e2 ▸ List.mem_cons_self) _ q, r.imp ws fun b m us z => k b (e2 ▸ List.mem_cons_of_mem _ m) _ z⟩
theorem RO.ext (h : RO K H F v o A) (x : Ext H F H' F') (n : ∀ a ∈ A, ¬ F a) : RO K H' F' v o A := h.imp (fun _ _ q => q.ext x) fun a m u e => x.keep a u e (n a m)
theorem RO.weak (h : RO K H F v o A) (w : ∀ a, F' a → F a) : RO K H F' v o A := h.imp (fun _ _ q => q.weak w) fun _ _ _ e => e
theorem RO.grow (h : RO K H F v o A) (w : ∀ a, F' a → F a ∨ H a = none) : RO K H F' v o A := h.imp (fun _ _ q => q.grow w) fun _ _ _ e => e
theorem RO.pres (h : RO K H F v o A) (p : Pres H H') : RO K H' F v o A := h.imp (fun _ _ q => q.pres p) fun a _ u e => p a u e
theorem zip_kt : ∀ {kvs : List (Key × V)} {kts : List (Key × T)}, Paired (fun (p : Key × V) (q : Key × T) => p.1 = q.1 ∧ RP K H F p.2 q.2) kvs kts →
    (kts.map fun p => (keyT p.1, p.2)) = List.zipWith (fun (p : Key × V) (t : T) => (keyT p.1, t)) kvs (kts.map (·.2)) ∧ RPs K H F (kvs.map (·.2)) (kts.map (·.2))
  | _, _, .nil => ⟨rfl, .nil⟩
  | _, _, .cons h r => by
    obtain ⟨e, q⟩ := zip_kt r
    exact ⟨by simp only [List.map_cons, List.zipWith_cons_cons, e, h.1], .cons h.2 q⟩
theorem zip_kl (F' : Addr → Prop) (hF : ∀ a, F' a → F a) : ∀ {kvs : List (Key × V)} {kts : List (Key × List T)} {bs : List Addr}, RDL K H F kvs kts bs → (∀ b ∈ bs, ¬ F' b) →
    (kts.map fun p => (keyT p.1, PyData.list p.2)) = List.zipWith (fun (p : Key × V) (t : T) => (keyT p.1, t)) kvs (kts.map fun p => PyData.list p.2) ∧ RPs K H F' (kvs.map (·.2)) (kts.map fun p => PyData.list p.2)
  | _, _, _, .nil, _ => ⟨rfl, .nil⟩
  | _, _, _, .cons h q r, n => by
    obtain ⟨e, z⟩ := zip_kl F' hF r fun b m => n b (List.mem_cons_of_mem _ m)
    exact ⟨by simp only [List.map_cons, List.zipWith_cons_cons, e], .cons (RP.lst (.inl h) (q.weak hF) (n _ List.mem_cons_self)) z⟩
/-- given up: what was owned is a tree -/
theorem RO.frz (h : RO K H F v o A) (w : ∀ a, F' a → F a) (n : ∀ a ∈ A, ¬ F' a) : RP K H F' v o.frz := by
  cases o with
  | pure t => exact h.2.weak w
  | lst ts =>
    obtain ⟨a, vs, rfl, rfl, q, r⟩ := h
    exact RP.lst (.inl q) (r.weak w) (n a (List.mem_singleton.mpr rfl))
  | dct kts =>
    obtain ⟨a, kvs, rfl, rfl, q, r⟩ := h
    obtain ⟨e, z⟩ := zip_kt r
    obtain ⟨as, z, m⟩ := (z.weak w).rvs
    refine ⟨a :: as, ?_, fun b y => (List.mem_cons.mp y).elim (fun e => e ▸ n a (List.mem_singleton.mpr rfl)) (m b)⟩
    show RV K H (.ref a) (.dict (kts.map fun p => (keyT p.1, p.2))) (a :: as)
    rw [e]
    exact .dct (.inl q) z
  | dcl kts =>
    obtain ⟨a, kvs, bs, rfl, rfl, q, r⟩ := h
    obtain ⟨e, z⟩ := zip_kl F' w r fun b m => n b (List.mem_cons_of_mem _ m)
    obtain ⟨as, z, m⟩ := z.rvs
    refine ⟨a :: as, ?_, fun b y => (List.mem_cons.mp y).elim (fun e => e ▸ n a List.mem_cons_self) (m b)⟩
    show RV K H (.ref a) (.dict (kts.map fun p => (keyT p.1, PyData.list p.2))) (a :: as)
    rw [e]
    exact .dct (.inl q) z
/-- seen as a tree now -/
theorem RW.view (h : RW K H F v o) : ∃ as, RV K H v o.frz as := by
  cases o with
  | pure t => exact ⟨_, h.choose_spec.1⟩
  | lst ts =>
    obtain ⟨a, vs, rfl, q, r⟩ := h
    obtain ⟨as, z, _⟩ := r.rvs
    exact ⟨_, .lst (.inl q) z⟩
  | dct kts =>
    obtain ⟨a, kvs, rfl, q, r⟩ := h
    obtain ⟨e, z⟩ := zip_kt r
    obtain ⟨as, z, m⟩ := z.rvs
    refine ⟨a :: as, ?_⟩
    show RV K H (.ref a) (.dict (kts.map fun p => (keyT p.1, p.2))) (a :: as)
    rw [e]
    exact .dct (.inl q) z
  | dcl kts =>
    obtain ⟨a, kvs, bs, rfl, q, r⟩ := h
    obtain ⟨e, z⟩ := zip_kl (fun _ => False) (fun _ z => z.elim) r fun b m z => z
    obtain ⟨as, z, m⟩ := z.rvs
    refine ⟨a :: as, ?_⟩
    show RV K H (.ref a) (.dict (kts.map fun p => (keyT p.1, PyData.list p.2))) (a :: as)
    rw [e]
    exact .dct (.inl q) z
end

/-! ### the state -/
/-- what is owned by some slot -/
def Fo (fp : Nat → List Addr) : Addr → Prop := fun a => ∃ i, a ∈ fp i
def Or1 (F : Addr → Prop) (A : List Addr) : Addr → Prop := fun a => F a ∨ a ∈ A
/-- the slots hold what the environment says; G: addresses that others own -/
structure RS (K : PySem.W.Frag) (σ : St) (H : Hp) (ρ : AEnv) (fp : Nat → List Addr) (G : List Addr) : Prop where
  ex : ∀ i o, ρ[i]? = some (some o) → ∃ v, σ[i]? = some (some v) ∧ RO K H (Or1 (Fo fp) G) v o (fp i)
  non : ∀ i, (∀ o, ρ[i]? ≠ some (some o)) → fp i = []
  dj : ∀ i j a, a ∈ fp i → a ∈ fp j → i = j
  nd : ∀ i, (fp i).Nodup
  gf : ∀ a ∈ G, ¬ Fo fp a
  gi : ∀ a ∈ G, ∃ u, H a = some u
  len : ρ.length = σ.length
section
variable {K : PySem.W.Frag} {σ : St} {H H' : Hp} {ρ : AEnv} {fp : Nat → List Addr} {G G' : List Addr}
theorem RS.there (R : RS K σ H ρ fp G) : ∀ a, Fo fp a → ∃ u, H a = some u ∧ Mut (some u) := by
  rintro a ⟨i, m⟩
  by_cases h : ∃ o, ρ[i]? = some (some o)
  · obtain ⟨o, h⟩ := h
    obtain ⟨v, _, r⟩ := R.ex i o h
    exact r.there a m
  · rw [R.non i fun o e => h ⟨o, e⟩] at m
    cases m
theorem RS.pres (R : RS K σ H ρ fp G) (p : Pres H H') : RS K σ H' ρ fp G :=
  ⟨fun i o e => let ⟨v, h, r⟩ := R.ex i o e; ⟨v, h, r.pres p⟩, R.non, R.dj, R.nd, R.gf, fun a m => let ⟨u, e⟩ := R.gi a m; ⟨u, p a u e⟩, R.len⟩
theorem RS.fresh (R : RS K σ H ρ fp G) {a : Addr} (n : H a = none) : ¬ Or1 (Fo fp) G a := fun z => by
  rcases z with z | z
  · obtain ⟨u, e, _⟩ := R.there a z
    rw [n] at e; cases e
  · obtain ⟨u, e⟩ := R.gi a z
    rw [n] at e; cases e
/-- G by its members -/
theorem RS.sub (R : RS K σ H ρ fp G) (h : ∀ a ∈ G', a ∈ G) : RS K σ H ρ fp G' :=
  ⟨fun i o e => let ⟨v, q, r⟩ := R.ex i o e; ⟨v, q, r.weak fun a z => z.imp (fun q => q) (h a)⟩, R.non, R.dj, R.nd, fun a m => R.gf a (h a m), fun a m => R.gi a (h a m), R.len⟩
/-- G grows by what is new -/
theorem RS.new (R : RS K σ H ρ fp G) (p : Pres H H') {A : List Addr} (n : ∀ a ∈ A, H a = none) (i : ∀ a ∈ A, ∃ u, H' a = some u) : RS K σ H' ρ fp (A ++ G) :=
  ⟨fun i o e => let ⟨v, q, r⟩ := R.ex i o e; ⟨v, q, (r.grow fun a z => z.elim (fun q => .inl (.inl q)) fun m => (List.mem_append.mp m).elim (fun m => .inr (n a m)) fun m => .inl (.inr m)).pres p⟩, R.non, R.dj, R.nd,
    fun a m z => (List.mem_append.mp m).elim (fun m => R.fresh (n a m) (.inl z)) fun m => R.gf a m z, fun a m => (List.mem_append.mp m).elim (i a) fun m => let ⟨u, e⟩ := R.gi a m; ⟨u, p a u e⟩, R.len⟩
/-- the slots' values elsewhere -/
theorem RS.vals (R : RS K σ H ρ fp G) {σ' : St} (h : ∀ (i : Nat) (o : O) (v : V), ρ[i]? = some (some o) → σ[i]? = some (some v) → σ'[i]? = some (some v)) (hl : σ'.length = σ.length) : RS K σ' H ρ fp G :=
  ⟨fun i o e => let ⟨v, q, r⟩ := R.ex i o e; ⟨v, h i o v e q, r⟩, R.non, R.dj, R.nd, R.gf, R.gi, R.len.trans hl.symm⟩
end
theorem Ext.addG {H H' : Hp} {F F' : Addr → Prop} (x : Ext H F H' F') (G : List Addr) : Ext H (Or1 F G) H' (Or1 F' G) where
  keep a o e n := x.keep a o e fun z => n (.inl z)
  tups := x.tups
  frzs := x.frzs
  new a z := z.elim (fun z => (x.new a z).imp .inl (fun q => q)) fun m => .inl (.inr m)
  dom := x.dom
theorem Or1.app {F : Addr → Prop} {A G : List Addr} {a : Addr} : Or1 F (A ++ G) a ↔ Or1 (Or1 F A) G a :=
  ⟨fun z => z.elim (fun q => .inl (.inl q)) fun m => (List.mem_append.mp m).elim (fun m => .inl (.inr m)) .inr,
   fun z => z.elim (fun q => q.elim .inl fun m => .inr (List.mem_append_left _ m)) fun m => .inr (List.mem_append_right _ m)⟩
theorem Or1.perm {F : Addr → Prop} {A G : List Addr} {a : Addr} : Or1 F (A ++ G) a ↔ Or1 F (G ++ A) a :=
  ⟨fun z => z.imp (fun q => q) fun m => (List.mem_append.mp m).elim (List.mem_append_right _) (List.mem_append_left _),
   fun z => z.imp (fun q => q) fun m => (List.mem_append.mp m).elim (List.mem_append_right _) (List.mem_append_left _)⟩
end DL

set_option Elab.async false
set_option linter.all false
set_option maxRecDepth 100000
set_option maxHeartbeats 4000000
/-! THE DATA LAYER, part 1: expressions, tests, calls of built-ins. -/
namespace DL
open PySem PySem.Spec L2
open PyProof.Rows hiding St

/-- an operand: a value of its own, or what slot j holds -/
inductive Opd where
  | val (o : O)
  | slot (j : Nat)
def AEnv.at (ρ : AEnv) (j : Nat) : Option O := match ρ[j]? with
  | some (some o) => some o
  | _ => none
def Opd.get (ρ : AEnv) : Opd → Option O
  | .val o => some o
  | .slot j => ρ.at j
theorem AEnv.at_iff {ρ : AEnv} {j : Nat} {o : O} (h : ρ.at j = some o) : ρ[j]? = some (some o) := by
  unfold AEnv.at at h
  split at h
  · rename_i o' e; cases h; exact e
  · cases h
abbrev XT := AEnv → (Opd → AEnv → Prop) → Prop
abbrev XTs := AEnv → (List Opd → AEnv → Prop) → Prop
abbrev BT := AEnv → (Bool → AEnv → Prop) → Prop
def ROp (K : PySem.W.Frag) (σ : St) (H : Hp) (fp : Nat → List Addr) (ρ : AEnv) (G : List Addr) (v : V) : Opd → List Addr → Prop
  | .val o, A => RO K H (Or1 (Fo fp) (A ++ G)) v o A ∧ A.Nodup ∧ ∀ a ∈ A, a ∉ G
  | .slot j, A => A = [] ∧ σ[j]? = some (some v) ∧ ∃ o, ρ[j]? = some (some o)
def LX (K : PySem.W.Frag) (t : XT) : TE := fun σ H Q => ∃ ρ fp G Qa, RS K σ H ρ fp G ∧ t ρ Qa ∧
  ∀ v p A H' ρ' fp', RS K σ H' ρ' fp' (A ++ G) → ROp K σ H' fp' ρ' G v p A → Ext H (Fo fp) H' (Or1 (Fo fp') A) → Qa p ρ' → Q v H'
structure EX (X : Cx) (e : Expr) (t : XT) : Prop where
  pe : PE X e (LX X.K t)
theorem noMem {P : Addr → Prop} : ∀ a, a ∈ ([] : List Addr) → P a := fun _ m => nomatch m
theorem rop_pure {K : PySem.W.Frag} {σ : St} {H : Hp} {fp : Nat → List Addr} {ρ : AEnv} {G : List Addr} {v : V} {t : T} (r : RP K H (Or1 (Fo fp) G) v t) : ROp K σ H fp ρ G v (.val (.pure t)) [] :=
  ⟨⟨rfl, r⟩, .nil, noMem⟩
/-- arguments that have been evaluated; A: what is new and their own -/
inductive RArgs (K : PySem.W.Frag) (σ : St) (H : Hp) (F : Addr → Prop) (ρ : AEnv) : List V → List Opd → List Addr → Prop
  | nil : RArgs K σ H F ρ [] [] []
  | val {v : V} {o : O} {B A : List Addr} {vs : List V} {ps : List Opd} : RO K H F v o B → RArgs K σ H F ρ vs ps A → RArgs K σ H F ρ (v :: vs) (.val o :: ps) (B ++ A)
  | slot {v : V} {j : Nat} {A : List Addr} {vs : List V} {ps : List Opd} : σ[j]? = some (some v) → (∃ o, ρ[j]? = some (some o)) → RArgs K σ H F ρ vs ps A → RArgs K σ H F ρ (v :: vs) (.slot j :: ps) A
def LA (K : PySem.W.Frag) (n : Nat) (t : XTs) : TA := fun σ H Q => ∃ ρ fp G Qa, RS K σ H ρ fp G ∧ t ρ Qa ∧
  ∀ vs ps A H' ρ' fp', vs.length = n → RS K σ H' ρ' fp' (A ++ G) → RArgs K σ H' (Or1 (Fo fp') (A ++ G)) ρ' vs ps A → A.Nodup → (∀ a ∈ A, a ∉ G) → Ext H (Fo fp) H' (Or1 (Fo fp') A) → Qa ps ρ' → Q vs H'
structure EXs (X : Cx) (es : List Expr) (t : XTs) : Prop where
  pa : PA X es (LA X.K es.length t)
def LT (K : PySem.W.Frag) (t : BT) : TT := fun σ H Q => ∃ ρ fp G Qa, RS K σ H ρ fp G ∧ t ρ Qa ∧
  ∀ b H' ρ' fp', RS K σ H' ρ' fp' G → Ext H (Fo fp) H' (Fo fp') → Qa b ρ' → Q b H'
structure TX (X : Cx) (e : Expr) (t : BT) : Prop where
  pt : PT X e (LT X.K t)
structure WX (X : Cx) (e : Expr) (t : BT) : Prop where
  pw : PW X e (LT X.K t)

section
variable {X : Cx}
theorem PE.imp {e : Expr} {t t' : TE} (h : PE X e t) (w : ∀ σ H Q, t' σ H Q → t σ H Q) : PE X e t' := ⟨fun pins s σ H Q I q => h.run pins s σ H Q I (w σ H Q q)⟩
theorem PT.imp {e : Expr} {t t' : TT} (h : PT X e t) (w : ∀ σ H Q, t' σ H Q → t σ H Q) : PT X e t' := ⟨fun pins s σ H Q I q => h.run pins s σ H Q I (w σ H Q q)⟩
theorem PW.imp {e : Expr} {t t' : TT} (h : PW X e t) (w : ∀ σ H Q, t' σ H Q → t σ H Q) : PW X e t' := ⟨fun wh pins s σ H Q I q => h.run wh pins s σ H Q I (w σ H Q q)⟩
theorem PA.imp {es : List Expr} {t t' : TA} (h : PA X es t) (w : ∀ σ H Q, t' σ H Q → t σ H Q) : PA X es t' := ⟨fun pos pins s σ H Q I q => h.run pos pins s σ H Q I (w σ H Q q)⟩
theorem PS.imp {st : Stmt} {t t' : TS} (h : PS X st t) (w : ∀ D σ H, t' D σ H → t D σ H) : PS X st t' := ⟨fun pins s σ H D I q => h.run pins s σ H D I (w D σ H q)⟩
theorem PSs.imp {st : List Stmt} {t t' : TS} (h : PSs X st t) (w : ∀ D σ H, t' D σ H → t D σ H) : PSs X st t' := ⟨fun pins s σ H D I q => h.run pins s σ H D I (w D σ H q)⟩
theorem PI.imp {tg e : Expr} {t t' : TI} (h : PI X tg e t) (w : ∀ σ H R, t' σ H R → t σ H R) : PI X tg e t' := ⟨fun pins s σ H R I q => h.run pins s σ H R I (w σ H R q)⟩
theorem PG.imp {tg : Expr} {t t' : TG} (h : PG X tg t) (w : ∀ v σ H Q, t' v σ H Q → t v σ H Q) : PG X tg t' := ⟨fun pins s σ H v u Q I r q => h.run pins s σ H v u Q I r (w v σ H Q q)⟩
end

section
variable {K : PySem.W.Frag} {σ : St} {H H1 H2 : Hp} {fp fp1 fp2 : Nat → List Addr} {ρ ρ1 ρ2 : AEnv} {v : V} {p : Opd} {A B G : List Addr} {o : O} {F F' : Addr → Prop}
theorem Ext.or (x : Ext H F H1 (Or1 F' A)) : Ext H F H1 F' := x.weak (fun _ z => z) fun _ z => .inl z
theorem RS.at (R : RS K σ H ρ fp G) {j : Nat} (hv : σ[j]? = some (some v)) (ho : ρ.at j = some o) : RO K H (Or1 (Fo fp) G) v o (fp j) := by
  obtain ⟨v', e, r⟩ := R.ex j o (AEnv.at_iff ho)
  rw [hv] at e; cases e; exact r
/-- .. through a further step: its trees avoid what is new -/
theorem RO.step (h : RO K H1 (Or1 (Fo fp1) G) v o A) (x : Ext H1 (Fo fp1) H2 (Or1 (Fo fp2) B)) (n : ∀ a ∈ A, ¬ Fo fp1 a) : RO K H2 (Or1 (Fo fp2) (B ++ G)) v o A := by
  refine RO.imp h (fun v t q => ?_) fun a m u e => x.keep a u e (n a m)
  exact (q.ext (x.addG G)).weak fun a z => Or1.app.mp z
/-- what an operand is, later -/
theorem ROp.rw (h : ROp K σ H1 fp1 ρ1 G v p A) (R1 : RS K σ H1 ρ1 fp1 (A ++ G)) (x : Ext H1 (Fo fp1) H2 (Or1 (Fo fp2) B)) (R : RS K σ H2 ρ2 fp2 (B ++ (A ++ G))) (e : p.get ρ2 = some o) : RW K H2 (Or1 (Fo fp2) (B ++ (A ++ G))) v o := by
  cases p with
  | val o' =>
    obtain rfl : o' = o := Option.some.inj e
    exact (RO.step h.1 x fun a m => R1.gf a (List.mem_append_left _ m)).rw
  | slot j => exact (R.at h.2.1 e).rw
theorem ROp.rw0 (h : ROp K σ H1 fp1 ρ1 G v p A) (R1 : RS K σ H1 ρ1 fp1 (A ++ G)) (e : p.get ρ1 = some o) : RW K H1 (Or1 (Fo fp1) (A ++ G)) v o := by
  cases p with
  | val o' =>
    obtain rfl : o' = o := Option.some.inj e
    exact h.1.rw
  | slot j => exact (R1.at h.2.1 e).rw
theorem RArgs.len {vs : List V} {ps : List Opd} (h : RArgs K σ H F ρ vs ps A) : vs.length = ps.length := by
  induction h with
  | nil => rfl
  | val _ _ ih => exact congrArg (· + 1) ih
  | slot _ _ _ ih => exact congrArg (· + 1) ih
theorem RArgs.there {vs : List V} {ps : List Opd} (h : RArgs K σ H F ρ vs ps A) : ∀ a ∈ A, ∃ u, H a = some u := by
  induction h with
  | nil => exact noMem
  | val r _ ih => exact fun a m => (List.mem_append.mp m).elim (fun m => let ⟨u, e, _⟩ := r.there a m; ⟨u, e⟩) (ih a)
  | slot _ _ _ ih => exact ih
end

/-! ### the end of an operation: a new value, all else kept -/
def FinV (K : PySem.W.Frag) (H : Hp) (F : Addr → Prop) (Qa : O → Prop) (Q : VK) : Prop :=
  ∀ v o A H', Pres H H' → RO K H' (Or1 F A) v o A → (∀ a ∈ A, H a = none) → A.Nodup → Qa o → Q v H'
section
variable {K : PySem.W.Frag} {σ : St} {H H' : Hp} {F : Addr → Prop} {Qa : O → Prop} {Q : VK} {v : V} {t : T}
theorem Or1.nil : ∀ a, Or1 F [] a → F a := fun a z => z.elim (fun q => q) fun m => nomatch m
theorem FinV.pure (f : FinV K H F Qa Q) (r : RP K H F v t) (q : Qa (.pure t)) : Q v H := f v (.pure t) [] H Pres.refl ⟨rfl, r.weak Or1.nil⟩ (fun _ m => nomatch m) .nil q
theorem FinV.bl (f : FinV K H F Qa Q) {b : Bool} (q : Qa (.pure (.bool b))) : Q (.bl b) H := f.pure (RP.bl b) q
theorem FinV.int (f : FinV K H F Qa Q) {i : Int} (q : Qa (.pure (.int i))) : Q (.int i) H := f.pure (RP.int i) q
theorem FinV.str (f : FinV K H F Qa Q) {x : Str} (q : Qa (.pure (.str x))) : Q (.str x) H := f.pure (RP.str x) q
theorem FinV.lst (f : FinV K H F Qa Q) {p : Addr} {vs : List V} {ts : List T} (n : H p = none) (r : RPs K H F vs ts) (q : Qa (.lst ts)) : Q (.ref p) (upd H p (.lst vs)) := by
  refine f _ (.lst ts) [p] _ (Pres.upd n) ⟨p, vs, rfl, rfl, upd_same, ?_⟩ (fun a m => by rw [List.mem_singleton.mp m]; exact n) (by simp) q
  exact RPs.ext (Pres.upd n).ext (r.grow fun a z => z.imp (fun q => q) fun m => by rw [List.mem_singleton.mp m]; exact n)
theorem FinV.tup (f : FinV K H F Qa Q) {p : Addr} {vs : List V} {ts : List T} (n : H p = none) (r : RPs K H F vs ts) (q : Qa (.pure (.tuple ts))) : Q (.ref p) (upd H p (.tup vs)) :=
  f _ (.pure (.tuple ts)) [] _ (Pres.upd n) ⟨rfl, RP.tup (SqT.of upd_same) ((RPs.ext (F := F) (Pres.upd n).ext r).weak Or1.nil)⟩ (fun _ m => nomatch m) .nil q
end

/-! ### operations by values -/
abbrev G1 := O → (O → Prop) → Prop
abbrev G2 := O → O → (O → Prop) → Prop
abbrev GN := List O → (O → Prop) → Prop
def OpA (X : Cx) (f : Value → Value → Sem Value) (g : G2) : Prop := ∃ r, OpR X f r ∧ ∀ H F v u x y Q Qa, RW X.K H F v x → RW X.K H F u y → g x y Qa → FinV X.K H F Qa Q → r v u H Q
def UnA (X : Cx) (f : Value → Sem Value) (g : G1) : Prop := ∃ r, UnR X f r ∧ ∀ H F v x Q Qa, RW X.K H F v x → g x Qa → FinV X.K H F Qa Q → r v H Q
def CallA (X : Cx) (f : Value) (g : GN) : Prop := ∃ r, CallR X f r ∧ ∀ H F vs xs Q Qa, Paired (RW X.K H F) vs xs → g xs Qa → FinV X.K H F Qa Q → r vs H Q
def IxA (X : Cx) (g : G2) : Prop := ∃ r, IxR X r ∧ ∀ H F v u x y Q Qa, RW X.K H F v x → RW X.K H F u y → g x y Qa → FinV X.K H F Qa Q → r v u H Q
/-- one of several rules, by what the operands are -/
theorem OpA.alt {X : Cx} {f : Value → Value → Sem Value} {g g' g'' : G2} (h : OpA X f g) (h' : OpA X f g') (w : ∀ x y Qa, g'' x y Qa → g x y Qa ∨ g' x y Qa) : OpA X f g'' := by
  obtain ⟨r, hr, k⟩ := h
  obtain ⟨r', hr', k'⟩ := h'
  exact ⟨_, hr.or hr', fun H F v u x y Q Qa a b q f => (w x y Qa q).imp (fun q => k H F v u x y Q Qa a b q f) fun q => k' H F v u x y Q Qa a b q f⟩

def tName (j : Nat) : XT := fun ρ Q => match ρ[j]? with
  | some (some (.pure t)) => Q (.val (.pure t)) ρ
  | some (some _) => Q (.slot j) ρ
  | _ => False
def tCst (t : T) : XT := fun ρ Q => Q (.val (.pure t)) ρ
def g2 (g : G2) (ρ : AEnv) (p q : Opd) (Q : O → Prop) : Prop := match p.get ρ, q.get ρ with
  | some x, some y => g x y Q
  | _, _ => False
def tBin (g : G2) (ta tb : XT) : XT := fun ρ Q => ta ρ fun p ρ1 => tb ρ1 fun q ρ2 => g2 g ρ2 p q fun o => Q (.val o) ρ2
def g1 (g : G1) (ρ : AEnv) (p : Opd) (Q : O → Prop) : Prop := match p.get ρ with
  | some x => g x Q
  | _ => False
def tUny (g : G1) (ta : XT) : XT := fun ρ Q => ta ρ fun p ρ1 => g1 g ρ1 p fun o => Q (.val o) ρ1
def tNilA : XTs := fun ρ Q => Q [] ρ
def tConsA (t : XT) (u : XTs) : XTs := fun ρ Q => t ρ fun p ρ1 => u ρ1 fun ps ρ2 => (∀ j, p = .slot j → ∃ o, ρ2[j]? = some (some o)) ∧ Q (p :: ps) ρ2
def getAll (ρ : AEnv) : List Opd → Option (List O)
  | [] => some []
  | p :: ps => match p.get ρ, getAll ρ ps with
    | some o, some os => some (o :: os)
    | _, _ => none
def gN (g : GN) (ρ : AEnv) (ps : List Opd) (Q : O → Prop) : Prop := match getAll ρ ps with
  | some os => g os Q
  | _ => False
def tCallB (g : GN) (t : XTs) : XT := fun ρ Q => t ρ fun ps ρ1 => gN g ρ1 ps fun o => Q (.val o) ρ1

theorem fin_of {K : PySem.W.Frag} {σ : St} {H H2 : Hp} {fp fp2 : Nat → List Addr} {ρ2 : AEnv} {G G2 : List Addr} {Qa : Opd → AEnv → Prop} {Q : VK} (R2 : RS K σ H2 ρ2 fp2 G2) (hG : ∀ a ∈ G, a ∈ G2) (x : Ext H (Fo fp) H2 (Fo fp2))
    (fin : ∀ v p A H' ρ' fp', RS K σ H' ρ' fp' (A ++ G) → ROp K σ H' fp' ρ' G v p A → Ext H (Fo fp) H' (Or1 (Fo fp') A) → Qa p ρ' → Q v H') : FinV K H2 (Or1 (Fo fp2) G2) (fun o => Qa (.val o) ρ2) Q :=
  fun v o A H' p r n d q => by
    have i : ∀ a ∈ A, ∃ u, H' a = some u := fun a m => let ⟨u, e, _⟩ := r.there a m; ⟨u, e⟩
    refine fin v (.val o) A H' ρ2 fp2 ((R2.sub hG).new p n i) ⟨r.weak fun a z => ?_, d, fun a m z => ?_⟩ (x.trans (p.extA n)) q
    · rcases z with z | z
      · exact .inl (.inl z)
      · exact (List.mem_append.mp z).elim .inr fun m => .inl (.inr (hG a m))
    · exact R2.fresh (n a m) (.inr (hG a z))

section
variable {X : Cx} {a b e : Expr} {es : List Expr} {ta tb t : XT} {ts : XTs} {pos : Pos}
theorem ex_name (j : Nat) {x : Str} (hN : X.N[j]? = some x := by rfl) (hv : Vis X.env.scope x := by first | exact Or.inl rfl | exact Or.inr (Or.inl rfl) | exact Or.inr (Or.inr rfl)) (hd : (x == ("__debug__" : Str)) = false := by decide)
    (hcd : (x == ("__classdict__" : Str)) = false := by decide) : EX X (.Name x pos) (tName j) := by
  refine ⟨PE.imp (pe_var hN hv hd hcd) ?_⟩
  rintro σ H Q ⟨ρ, fp, G, Qa, R, h, fin⟩
  unfold tName at h
  have go : ∀ o, ρ[j]? = some (some o) → ∃ v, σ[j]? = some (some v) ∧ RO X.K H (Or1 (Fo fp) G) v o (fp j) := fun o e => R.ex j o e
  split at h
  · rename_i t e
    obtain ⟨v, hv, r⟩ := go _ e
    exact ⟨v, hv, fin v (.val (.pure t)) [] H ρ fp R (rop_pure r.2) (Pres.refl.extA noMem) h⟩
  · rename_i o _ e
    obtain ⟨v, hv, r⟩ := go _ e
    exact ⟨v, hv, fin v (.slot j) [] H ρ fp R ⟨rfl, hv, o, e⟩ (Pres.refl.extA noMem) h⟩
  · exact h.elim
theorem ex_cst {v : V} {t : T} (h : PE X e (tC v)) (r : ∀ K H F, RP K H F v t) : EX X e (tCst t) := by
  refine ⟨PE.imp h ?_⟩
  rintro σ H Q ⟨ρ, fp, G, Qa, R, h, fin⟩
  exact fin v (.val (.pure t)) [] H ρ fp R (rop_pure (r _ _ _)) (Pres.refl.extA noMem) h
theorem ex_int {i : Int} {j} : EX X (.Constant (.int i) j pos) (tCst (.int i)) := ex_cst pe_int fun _ _ _ => RP.int i
theorem ex_bl {i : Bool} {j} : EX X (.Constant (.bool i) j pos) (tCst (.bool i)) := ex_cst pe_bl fun _ _ _ => RP.bl i
theorem ex_non {j} : EX X (.Constant .none j pos) (tCst .none) := ex_cst pe_non fun _ _ _ => RP.non
theorem ex_str {x : Str} {j} : EX X (.Constant (.str x) j pos) (tCst (.str x)) := ex_cst pe_str fun _ _ _ => RP.str x
theorem ex_bin {op : Operator} {g : G2} (ho : OpA X (binaryOp op) g) (ha : EX X a ta) (hb : EX X b tb) : EX X (.BinOp a op b pos) (tBin g ta tb) := by
  obtain ⟨r, hr, hg⟩ := ho
  refine ⟨PE.imp (pe_op hr ha.pe hb.pe) ?_⟩
  rintro σ H Q ⟨ρ, fp, G, Qa, R, h, fin⟩
  refine ⟨ρ, fp, G, _, R, h, fun v p A H1 ρ1 fp1 R1 r1 x1 h1 => ?_⟩
  refine ⟨ρ1, fp1, A ++ G, _, R1, h1, fun u q B H2 ρ2 fp2 R2 r2 x2 h2 => ?_⟩
  unfold g2 at h2
  split at h2
  · rename_i x y e1 e2
    exact hg H2 (Or1 (Fo fp2) (B ++ (A ++ G))) v u x y Q _ (r1.rw R1 x2 R2 e1) (r2.rw0 R2 e2) h2 (fin_of R2 (fun a m => List.mem_append_right _ (List.mem_append_right _ m)) (x1.or.trans x2.or) fin)
  · exact h2.elim
theorem ex_cmp {op : CmpOp} {g : G2} (ho : OpA X (compareOp op) g) (ha : EX X a ta) (hb : EX X b tb) (hm : behindInMarks op b = false) : EX X (.Compare a [op] [b] pos) (tBin g ta tb) := by
  obtain ⟨r, hr, hg⟩ := ho
  refine ⟨PE.imp (pe_cmpR hr ha.pe hb.pe hm) ?_⟩
  rintro σ H Q ⟨ρ, fp, G, Qa, R, h, fin⟩
  refine ⟨ρ, fp, G, _, R, h, fun v p A H1 ρ1 fp1 R1 r1 x1 h1 => ?_⟩
  refine ⟨ρ1, fp1, A ++ G, _, R1, h1, fun u q B H2 ρ2 fp2 R2 r2 x2 h2 => ?_⟩
  unfold g2 at h2
  split at h2
  · rename_i x y e1 e2
    exact hg H2 (Or1 (Fo fp2) (B ++ (A ++ G))) v u x y Q _ (r1.rw R1 x2 R2 e1) (r2.rw0 R2 e2) h2 (fin_of R2 (fun a m => List.mem_append_right _ (List.mem_append_right _ m)) (x1.or.trans x2.or) fin)
  · exact h2.elim
theorem ex_un {op : UnaryOp} {g : G1} (ho : UnA X (unaryOp op) g) (ha : EX X a ta) : EX X (.UnaryOp op a pos) (tUny g ta) := by
  obtain ⟨r, hr, hg⟩ := ho
  refine ⟨PE.imp (pe_un hr ha.pe) ?_⟩
  rintro σ H Q ⟨ρ, fp, G, Qa, R, h, fin⟩
  refine ⟨ρ, fp, G, _, R, h, fun v p A H1 ρ1 fp1 R1 r1 x1 h1 => ?_⟩
  unfold g1 at h1
  split at h1
  · rename_i x e1
    exact hg H1 (Or1 (Fo fp1) (A ++ G)) v x Q _ (r1.rw0 R1 e1) h1 (fin_of R1 (fun a m => List.mem_append_right _ m) x1.or fin)
  · exact h1.elim
theorem ex_ix {g : G2} (ho : IxA X g) (ha : EX X a ta) (hb : EX X b tb) (hs : PlainIx b) : EX X (.Subscript a b pos) (tBin g ta tb) := by
  obtain ⟨r, hr, hg⟩ := ho
  refine ⟨PE.imp (pe_ix hr ha.pe hb.pe hs) ?_⟩
  rintro σ H Q ⟨ρ, fp, G, Qa, R, h, fin⟩
  refine ⟨ρ, fp, G, _, R, h, fun v p A H1 ρ1 fp1 R1 r1 x1 h1 => ?_⟩
  refine ⟨ρ1, fp1, A ++ G, _, R1, h1, fun u q B H2 ρ2 fp2 R2 r2 x2 h2 => ?_⟩
  unfold g2 at h2
  split at h2
  · rename_i x y e1 e2
    exact hg H2 (Or1 (Fo fp2) (B ++ (A ++ G))) v u x y Q _ (r1.rw R1 x2 R2 e1) (r2.rw0 R2 e2) h2 (fin_of R2 (fun a m => List.mem_append_right _ (List.mem_append_right _ m)) (x1.or.trans x2.or) fin)
  · exact h2.elim
theorem exs_nil : EXs X [] tNilA := by
  refine ⟨PA.imp pa_nil ?_⟩
  rintro σ H Q ⟨ρ, fp, G, Qa, R, h, fin⟩
  exact fin [] [] [] H ρ fp rfl R .nil .nil noMem (Pres.refl.extA noMem) h
theorem exs_cons (h1 : EX X e t) (h2 : EXs X es ts) (hs : starEach (e :: es) X.env = (false, eval e X.env) :: starEach es X.env := by rfl) : EXs X (e :: es) (tConsA t ts) := by
  refine ⟨PA.imp (pa_cons h1.pe h2.pa hs) ?_⟩
  rintro σ H Q ⟨ρ, fp, G, Qa, R, h, fin⟩
  refine ⟨ρ, fp, G, _, R, h, fun v p A H1 ρ1 fp1 R1 r1 x1 h1 => ?_⟩
  refine ⟨ρ1, fp1, A ++ G, _, R1, h1, fun vs ps B H2 ρ2 fp2 hl R2 r2 nd2 ng2 x2 h2 => ?_⟩
  have m1 : ∀ a, a ∈ B ++ (A ++ G) ↔ a ∈ A ++ (B ++ G) := fun a => by simp only [List.mem_append]; exact ⟨fun z => by rcases z with z | z | z <;> simp [z], fun z => by rcases z with z | z | z <;> simp [z]⟩
  have w1 : ∀ a, Or1 (Fo fp2) ((A ++ B) ++ G) a → Or1 (Fo fp2) (B ++ (A ++ G)) a := fun a z => z.imp (fun q => q) fun m => (m1 a).mpr (by rw [List.append_assoc] at m; exact m)
  have x' : Ext H (Fo fp) H2 (Or1 (Fo fp2) (A ++ B)) := by
    have := x1.trans (x2.addG A)
    exact this.weak (fun _ z => z) fun a z => Or1.app.mp (Or1.perm.mp z)
  have R2' : RS X.K σ H2 ρ2 fp2 ((A ++ B) ++ G) := R2.sub fun a m => (m1 a).mpr (by rw [List.append_assoc] at m; exact m)
  have low : ∀ {vs : List V} {ps : List Opd} {C : List Addr}, RArgs X.K σ H2 (Or1 (Fo fp2) (B ++ (A ++ G))) ρ2 vs ps C → RArgs X.K σ H2 (Or1 (Fo fp2) ((A ++ B) ++ G)) ρ2 vs ps C := fun r => by
    induction r with
    | nil => exact .nil
    | val r _ ih => exact .val (r.weak w1) ih
    | slot a b _ ih => exact .slot a b ih
  cases p with
  | val o =>
    have ndA : (A ++ B).Nodup := List.nodup_append.mpr ⟨r1.2.1, nd2, fun a m b n e => ng2 b n (e ▸ List.mem_append_left _ m)⟩
    refine fin (v :: vs) (.val o :: ps) (A ++ B) H2 ρ2 fp2 (congrArg (· + 1) hl) R2' (.val ?_ (low r2)) ndA (fun a m z => ?_) x' h2.2
    · exact (RO.step r1.1 x2 fun a m => R1.gf a (List.mem_append_left _ m)).weak w1
    · exact (List.mem_append.mp m).elim (fun m => r1.2.2 a m z) fun m => ng2 a m (List.mem_append_right _ z)
  | slot j =>
    obtain ⟨rfl, hv, _⟩ := r1
    exact fin (v :: vs) (.slot j :: ps) B H2 ρ2 fp2 (congrArg (· + 1) hl) R2' (.slot hv (h2.1 j rfl) (low r2)) nd2 (fun a m z => ng2 a m (by simpa using z)) x' h2.2
theorem getAll_rw {K : PySem.W.Frag} {σ : St} {H : Hp} {fp : Nat → List Addr} {ρ : AEnv} {G : List Addr} (R : RS K σ H ρ fp G) {vs : List V} {ps : List Opd} {A : List Addr} (h : RArgs K σ H (Or1 (Fo fp) G) ρ vs ps A) : ∀ {os : List O}, getAll ρ ps = some os → Paired (RW K H (Or1 (Fo fp) G)) vs os := by
  induction h with
  | nil => intro os e; cases e; exact .nil
  | val r _ ih =>
    intro os e
    unfold getAll at e
    split at e
    · rename_i o os e1 e2
      cases e
      cases e1
      exact .cons r.rw (ih e2)
    · cases e
  | slot hv _ _ ih =>
    intro os e
    unfold getAll at e
    split at e
    · rename_i o os e1 e2
      cases e
      exact .cons (R.at hv e1).rw (ih e2)
    · cases e
theorem ex_callB {x : Str} {p : Pos} {id : String} {g : GN} (hc : CallA X (.builtin id) g) (hg : Gl X x) (hm : X.mg x = none) (hv : bootBuiltins x = some (.builtin id)) (ha : EXs X (e :: es) ts) (hn : x ≠ "__name__" := by decide) (hdb : (x == ("__debug__" : Str)) = false := by decide)
    (he : starEach (e :: es) X.env = (false, eval e X.env) :: starEach es X.env := by rfl) (hpl : (backTo pos (starEach es X.env)).any (·.1) = false := by rfl) : EX X (.Call (.Name x p) (e :: es) [] pos) (tCallB g ts) := by
  obtain ⟨r, hr, hgg⟩ := hc
  refine ⟨PE.imp (pe_callB hr hg hm hv ha.pa hn hdb he hpl) ?_⟩
  rintro σ H Q ⟨ρ, fp, G, Qa, R, h, fin⟩
  refine ⟨ρ, fp, G, _, R, h, fun vs ps A H1 ρ1 fp1 hl R1 r1 nd1 ng1 x1 h1 => ?_⟩
  unfold gN at h1
  split at h1
  · rename_i os e1
    exact hgg H1 (Or1 (Fo fp1) (A ++ G)) vs os Q _ (getAll_rw R1 r1 e1) h1 (fin_of R1 (fun a m => List.mem_append_right _ m) x1.or fin)
  · exact h1.elim
theorem ex_callTy {x : Str} {p : Pos} {id : String} {g : GN} (hc : CallA X (.type id) g) (hg : Gl X x) (hm : X.mg x = none) (hv : bootBuiltins x = some (.type id)) (ha : EXs X (e :: es) ts) (hn : x ≠ "__name__" := by decide) (hdb : (x == ("__debug__" : Str)) = false := by decide)
    (he : starEach (e :: es) X.env = (false, eval e X.env) :: starEach es X.env := by rfl) (hpl : (backTo pos (starEach es X.env)).any (·.1) = false := by rfl) : EX X (.Call (.Name x p) (e :: es) [] pos) (tCallB g ts) := by
  obtain ⟨r, hr, hgg⟩ := hc
  refine ⟨PE.imp (pe_callTy hr hg hm hv ha.pa hn hdb he hpl) ?_⟩
  rintro σ H Q ⟨ρ, fp, G, Qa, R, h, fin⟩
  refine ⟨ρ, fp, G, _, R, h, fun vs ps A H1 ρ1 fp1 hl R1 r1 nd1 ng1 x1 h1 => ?_⟩
  unfold gN at h1
  split at h1
  · rename_i os e1
    exact hgg H1 (Or1 (Fo fp1) (A ++ G)) vs os Q _ (getAll_rw R1 r1 e1) h1 (fin_of R1 (fun a m => List.mem_append_right _ m) x1.or fin)
  · exact h1.elim
end

end DL

set_option Elab.async false
set_option linter.all false
set_option maxRecDepth 100000
set_option maxHeartbeats 4000000
/-! THE DATA LAYER, part 2: displays, truth, statements. -/
namespace DL
open PySem PySem.Spec L2
open PyProof.Rows hiding St

/-! ### what a slot owns: given up, replaced -/
def fpSet (fp : Nat → List Addr) (j : Nat) (A : List Addr) : Nat → List Addr := fun i => if i = j then A else fp i
theorem fpSet_at {fp : Nat → List Addr} {j : Nat} {A : List Addr} : fpSet fp j A j = A := by unfold fpSet; rw [if_pos rfl]
theorem fpSet_ne {fp : Nat → List Addr} {j i : Nat} {A : List Addr} (h : i ≠ j) : fpSet fp j A i = fp i := by unfold fpSet; rw [if_neg h]
section
variable {K : PySem.W.Frag} {σ : St} {H H1 : Hp} {fp : Nat → List Addr} {ρ : AEnv} {v : V} {p : Opd} {o : O} {j : Nat} {A G : List Addr} {t : T}
theorem Fo.set {a : Addr} (h : Fo (fpSet fp j A) a) : Fo fp a ∨ a ∈ A := by
  obtain ⟨i, m⟩ := h
  unfold fpSet at m
  split at m
  · exact .inr m
  · exact .inl ⟨i, m⟩
theorem AEnv.get_set (ρ : AEnv) (j i : Nat) (x : Option O) : (ρ.set j x)[i]? = if j = i then (if j < ρ.length then some x else none) else ρ[i]? := by
  by_cases h : j = i
  · subst h
    rw [if_pos rfl]
    by_cases k : j < ρ.length
    · rw [if_pos k, List.getElem?_set_self k]
    · rw [if_neg k, List.getElem?_eq_none (by simpa using k)]
  · rw [if_neg h, List.getElem?_set_ne h]
/-- the footprint of slot j becomes A, its content o (of the same object or of another one) -/
theorem RS.upd {σ' : St} (R : RS K σ H ρ fp (A ++ G)) (hA : ∀ a ∈ A, a ∉ G) (d : A.Nodup) (hj : j < ρ.length)
    (hσ : ∀ i v, i ≠ j → σ[i]? = some (some v) → σ'[i]? = some (some v)) (hv : σ'[j]? = some (some v)) (hl : σ'.length = σ.length) (r : RO K H (Or1 (Fo (fpSet fp j A)) G) v o A) : RS K σ' H (ρ.set j (some o)) (fpSet fp j A) G := by
  have w : ∀ a, Or1 (Fo (fpSet fp j A)) G a → Or1 (Fo fp) (A ++ G) a := fun a z => z.elim (fun z => z.set.elim .inl fun m => .inr (List.mem_append_left _ m)) fun m => .inr (List.mem_append_right _ m)
  refine ⟨fun i u h => ?_, fun i h => ?_, fun i k a m z => ?_, fun i => ?_, fun a m z => ?_, fun a m => R.gi a (List.mem_append_right _ m), by rw [List.length_set, R.len, hl]⟩
  · rw [AEnv.get_set] at h
    by_cases q : j = i
    · subst q
      rw [if_pos rfl, if_pos hj] at h
      cases h
      exact ⟨v, hv, by rw [fpSet_at]; exact r⟩
    · rw [if_neg q] at h
      obtain ⟨x, hx, r'⟩ := R.ex i u h
      exact ⟨x, hσ i x (fun z => q z.symm) hx, by rw [fpSet_ne fun z => q z.symm]; exact r'.weak w⟩
  · by_cases q : i = j
    · subst q
      exact absurd (by rw [AEnv.get_set, if_pos rfl, if_pos hj]) (h o)
    · rw [fpSet_ne q]
      refine R.non i fun o' z => h o' ?_
      rw [AEnv.get_set, if_neg fun y => q y.symm]
      exact z
  · by_cases q : i = j
    · by_cases q' : k = j
      · rw [q, q']
      · rw [q, fpSet_at] at m
        rw [fpSet_ne q'] at z
        exact absurd ⟨k, z⟩ (R.gf a (List.mem_append_left _ m))
    · by_cases q' : k = j
      · rw [q', fpSet_at] at z
        rw [fpSet_ne q] at m
        exact absurd ⟨i, m⟩ (R.gf a (List.mem_append_left _ z))
      · rw [fpSet_ne q] at m
        rw [fpSet_ne q'] at z
        exact R.dj i k a m z
  · by_cases q : i = j
    · rw [q, fpSet_at]; exact d
    · rw [fpSet_ne q]; exact R.nd i
  · rcases z.set with z | z
    · exact R.gf a (List.mem_append_right _ m) z
    · exact hA a z m
/-- given up -/
theorem RS.freeze (R : RS K σ H ρ fp G) (e : ρ[j]? = some (some o)) : RS K σ H (ρ.set j (some (.pure o.frz))) (fpSet fp j []) G ∧ ∀ v, σ[j]? = some (some v) → RP K H (Or1 (Fo (fpSet fp j [])) G) v o.frz := by
  obtain ⟨v, hv, r⟩ := R.ex j o e
  have w : ∀ a, Or1 (Fo (fpSet fp j [])) G a → Or1 (Fo fp) G a := fun a z => z.imp (fun z => z.set.elim (fun q => q) fun m => nomatch m) fun m => m
  have q : RP K H (Or1 (Fo (fpSet fp j [])) G) v o.frz := by
    refine r.frz w fun a m z => ?_
    rcases z with ⟨i, z⟩ | z
    · by_cases q : i = j
      · subst q; rw [fpSet_at] at z; cases z
      · rw [fpSet_ne q] at z
        exact q (R.dj i j a z m)
    · exact R.gf a z ⟨j, m⟩
  refine ⟨RS.upd (A := []) R noMem .nil (List.getElem?_eq_some_iff.mp e).1 (fun i v _ h => h) hv rfl ⟨rfl, q⟩, fun v' h => ?_⟩
  rw [hv] at h; cases h; exact q
/-- a name is stored -/
theorem RS.put (R : RS K σ H ρ fp (A ++ G)) (hj : j < ρ.length) (r : RO K H (Or1 (Fo fp) (A ++ G)) v o A) (d : A.Nodup) (hA : ∀ a ∈ A, a ∉ G) : RS K (σ.set j (some v)) H (ρ.set j (some o)) (fpSet fp j A) G :=
  R.upd hA d hj (fun i v h e => by rw [List.getElem?_set_ne (Ne.symm h)]; exact e) (List.getElem?_set_self (by rw [← R.len]; exact hj)) (by rw [List.length_set]) (r.weak fun a z => z.elim (fun z => z.set.elim .inl fun m => .inr (List.mem_append_left _ m)) fun m => .inr (List.mem_append_right _ m))
/-- a slot is forgotten -/
theorem RS.drop {σ' : St} (R : RS K σ H ρ fp G) (hσ : ∀ (i : Nat) (v : V), i ≠ j → σ[i]? = some (some v) → σ'[i]? = some (some v)) (hl : σ'.length = σ.length) : RS K σ' H (ρ.set j none) (fpSet fp j []) G := by
  have w : ∀ a, Or1 (Fo (fpSet fp j [])) G a → Or1 (Fo fp) G a := fun a z => z.imp (fun z => z.set.elim (fun q => q) fun m => nomatch m) fun m => m
  refine ⟨fun i u h => ?_, fun i h => ?_, fun i k a m z => ?_, fun i => ?_, fun a m z => R.gf a m (z.set.elim (fun q => q) fun m => nomatch m), R.gi, by rw [List.length_set, R.len, hl]⟩
  · rw [AEnv.get_set] at h
    by_cases q : j = i
    · rw [if_pos q] at h
      split at h <;> cases h
    · rw [if_neg q] at h
      obtain ⟨x, hx, r'⟩ := R.ex i u h
      exact ⟨x, hσ i x (fun z => q z.symm) hx, by rw [fpSet_ne fun z => q z.symm]; exact r'.weak w⟩
  · by_cases q : i = j
    · rw [q, fpSet_at]
    · rw [fpSet_ne q]
      refine R.non i fun o' z => h o' ?_
      rw [AEnv.get_set, if_neg fun y => q y.symm]
      exact z
  · by_cases q : i = j
    · rw [q, fpSet_at] at m; cases m
    · by_cases q' : k = j
      · rw [q', fpSet_at] at z; cases z
      · rw [fpSet_ne q] at m
        rw [fpSet_ne q'] at z
        exact R.dj i k a m z
  · by_cases q : i = j
    · rw [q, fpSet_at]; exact .nil
    · rw [fpSet_ne q]; exact R.nd i
theorem Ext.del {j : Nat} : Ext H (Fo fp) H (Fo (fpSet fp j [])) := Ext.refl.weak (fun _ z => z) fun a z => z.set.elim (fun q => q) fun m => nomatch m
theorem Ext.putE {j : Nat} {F : Addr → Prop} (x : Ext H F H1 (Or1 (Fo fp) A)) : Ext H F H1 (Fo (fpSet fp j A)) := x.weak (fun _ z => z) fun a z => z.set.elim .inl .inr
end

/-! ### operands as trees -/
/-- an owned slot is given up -/
def take1 : Opd → AEnv → (T → AEnv → Prop) → Prop
  | .val o, ρ, Q => Q o.frz ρ
  | .slot j, ρ, Q => match ρ[j]? with
    | some (some o) => Q o.frz (ρ.set j (some (.pure o.frz)))
    | _ => False
def takeAll : List Opd → AEnv → (List T → AEnv → Prop) → Prop
  | [], ρ, Q => Q [] ρ
  | p :: ps, ρ, Q => take1 p ρ fun t ρ1 => takeAll ps ρ1 fun ts ρ2 => Q (t :: ts) ρ2
section
variable {K : PySem.W.Frag} {σ : St} {H H1 : Hp} {fp : Nat → List Addr} {ρ : AEnv} {v : V} {p : Opd} {o : O} {j : Nat} {A B G : List Addr} {F F' : Addr → Prop}
theorem RArgs.weak {ρ' : AEnv} (w : ∀ a, F' a → F a) (hh : ∀ (j : Nat) (o : O), ρ[j]? = some (some o) → ∃ o', ρ'[j]? = some (some o')) {vs : List V} {ps : List Opd} (h : RArgs K σ H F ρ vs ps A) : RArgs K σ H F' ρ' vs ps A := by
  induction h with
  | nil => exact .nil
  | val r _ ih => exact .val (r.weak w) ih
  | slot a b _ ih => exact .slot a (let ⟨o, e⟩ := b; hh _ o e) ih
theorem held_set {ρ : AEnv} {j : Nat} {o : O} (e : ρ[j]? = some (some o)) {o' : O} : ∀ (i : Nat) (u : O), ρ[i]? = some (some u) → ∃ u', (ρ.set j (some o'))[i]? = some (some u') := fun i u h => by
  rw [AEnv.get_set]
  by_cases q : j = i
  · rw [if_pos q, if_pos (List.getElem?_eq_some_iff.mp e).1]; exact ⟨_, rfl⟩
  · rw [if_neg q]; exact ⟨u, h⟩
theorem take1_ok (R : RS K σ H ρ fp (B ++ G)) (r : ROp K σ H fp ρ G v p B) {Q : T → AEnv → Prop} (h : take1 p ρ Q) : ∃ t ρ' fp', RS K σ H ρ' fp' G ∧ RP K H (Or1 (Fo fp') G) v t ∧ (∀ a, Fo fp' a → Fo fp a) ∧ Q t ρ' := by
  cases p with
  | val o =>
    refine ⟨o.frz, ρ, fp, R.sub fun a m => List.mem_append_right _ m, ?_, fun _ z => z, h⟩
    exact r.1.frz (fun a z => z.imp (fun q => q) (List.mem_append_right _)) fun a m z => z.elim (R.gf a (List.mem_append_left _ m)) (r.2.2 a m)
  | slot j =>
    simp only [take1] at h
    split at h
    · rename_i o e
      obtain ⟨hB, hv, _⟩ := r
      subst hB
      obtain ⟨R', q⟩ := (R.sub (G' := G) fun a m => m).freeze e
      exact ⟨_, _, _, R', q v hv, fun a z => z.set.elim (fun q => q) fun m => (List.not_mem_nil m).elim, h⟩
    · exact h.elim
theorem takeAll_ok {ρ0 : AEnv} {F : Addr → Prop} {vs : List V} {ps : List Opd} {A : List Addr} (rr : RArgs K σ H F ρ0 vs ps A) : ∀ {ρ : AEnv} {fp : Nat → List Addr} {Q : List T → AEnv → Prop}, RS K σ H ρ fp (A ++ G) → (∀ a, Or1 (Fo fp) (A ++ G) a → F a) →
    (∀ (j : Nat) (o : O), ρ0[j]? = some (some o) → ∃ o', ρ[j]? = some (some o')) → (∀ a ∈ A, a ∉ G) → A.Nodup → takeAll ps ρ Q →
    ∃ ts ρ' fp', RS K σ H ρ' fp' G ∧ RPs K H (Or1 (Fo fp') G) vs ts ∧ (∀ a, Fo fp' a → Fo fp a) ∧ Q ts ρ' := by
  induction rr with
  | nil => intro ρ fp Q R w hh hA d h; exact ⟨[], ρ, fp, R, .nil, fun _ z => z, h⟩
  | @val v o B A vs ps r rr ih =>
    intro ρ fp Q R w hh hA d h
    have w1 : ∀ a, Or1 (Fo fp) (A ++ G) a → Or1 (Fo fp) (B ++ A ++ G) a := fun a z => z.imp (fun q => q) fun m => by simp only [List.mem_append] at m ⊢; rcases m with m | m <;> simp [m]
    obtain ⟨ts, ρ', fp', R', q, i, h'⟩ := ih (R.sub fun a m => by simp only [List.mem_append] at m ⊢; rcases m with m | m <;> simp [m]) (fun a z => w a (w1 a z)) hh (fun a m => hA a (List.mem_append_right _ m)) (List.nodup_append.mp d).2.1 (show takeAll _ ρ _ from h)
    refine ⟨_, ρ', fp', R', .cons ?_ q, i, h'⟩
    exact r.frz (fun a z => w a (z.elim (fun z => .inl (i a z)) fun m => .inr (List.mem_append_right _ m))) fun a m z => z.elim (fun z => R.gf a (List.mem_append_left _ (List.mem_append_left _ m)) (i a z)) (hA a (List.mem_append_left _ m))
  | @slot v j A vs ps hv hs rr ih =>
    intro ρ fp Q R w hh hA d h
    simp only [takeAll, take1] at h
    split at h
    · rename_i o e
      obtain ⟨R1, q1⟩ := R.freeze e
      have dl : ∀ a, Fo (fpSet fp j []) a → Fo fp a := fun a z => z.set.elim (fun q => q) fun m => (List.not_mem_nil m).elim
      obtain ⟨ts, ρ', fp', R', q, i, h'⟩ := ih R1 (fun a z => w a (z.imp (dl a) fun m => m)) (fun i u k => by obtain ⟨o', k⟩ := hh i u k; exact held_set e i o' k) hA d h
      exact ⟨_, ρ', fp', R', .cons ((q1 _ hv).weak fun a z => z.imp (i a) (List.mem_append_right _)) q, fun a z => dl a (i a z), h'⟩
    · exact h.elim
end

/-! ### displays -/
def tTupD (t : XTs) : XT := fun ρ Q => t ρ fun ps ρ1 => takeAll ps ρ1 fun ts ρ2 => Q (.val (.pure (.tuple ts))) ρ2
def tLstD (t : XTs) : XT := fun ρ Q => t ρ fun ps ρ1 => takeAll ps ρ1 fun ts ρ2 => Q (.val (.lst ts)) ρ2
section
variable {X : Cx} {a b e : Expr} {es : List Expr} {ta tb t : XT} {ts : XTs} {pos : Pos}
theorem ex_tup {x1} (h : EXs X es ts) (hl : es.length ≤ 1000 := by decide) : EX X (.Tuple es x1 pos) (tTupD ts) := by
  refine ⟨PE.imp (pe_tup h.pa) ?_⟩
  rintro σ H Q ⟨ρ, fp, G, Qa, R, h, fin⟩
  refine ⟨ρ, fp, G, _, R, h, fun vs ps A H1 ρ1 fp1 hl1 R1 r1 nd1 ng1 x1 h1 => ?_⟩
  obtain ⟨ts, ρ2, fp2, R2, q2, i2, h2⟩ := takeAll_ok r1 R1 (fun a z => z) (fun j o e => ⟨o, e⟩) ng1 nd1 h1
  refine ⟨by rw [sizeLine_eq]; omega, fun p np => ?_⟩
  exact FinV.tup (fin_of (G := G) R2 (fun a m => m) (x1.or.weak (fun _ z => z) i2) fin) np q2 h2
theorem ex_lst (h : EXs X es ts) (hl : es.length ≤ 1000 := by decide) : EX X (.List es pos) (tLstD ts) := by
  refine ⟨PE.imp (pe_lst h.pa) ?_⟩
  rintro σ H Q ⟨ρ, fp, G, Qa, R, h, fin⟩
  refine ⟨ρ, fp, G, _, R, h, fun vs ps A H1 ρ1 fp1 hl1 R1 r1 nd1 ng1 x1 h1 => ?_⟩
  obtain ⟨ts, ρ2, fp2, R2, q2, i2, h2⟩ := takeAll_ok r1 R1 (fun a z => z) (fun j o e => ⟨o, e⟩) ng1 nd1 h1
  refine ⟨by rw [sizeLine_eq]; omega, fun p np => ?_⟩
  exact FinV.lst (fin_of (G := G) R2 (fun a m => m) (x1.or.weak (fun _ z => z) i2) fin) np q2 h2

/-! ### tests -/
def bOf (ρ : AEnv) (p : Opd) (Q : Bool → Prop) : Prop := match p.get ρ with
  | some (.pure (.bool b)) => Q b
  | _ => False
def tTst (t : XT) : BT := fun ρ Q => t ρ fun p ρ1 => bOf ρ1 p fun b => Q b ρ1
theorem tst_go {K : PySem.W.Frag} {σ : St} {H : Hp} {Q : Bool → Hp → Prop} {t : XT} (h : LT K (tTst t) σ H Q) : LX K t σ H fun x H1 => ∃ c, x = .bl c ∧ Q c H1 := by
  obtain ⟨ρ, fp, G, Qa, R, h, fin⟩ := h
  refine ⟨ρ, fp, G, _, R, h, fun v p A H1 ρ1 fp1 R1 r1 x1 h1 => ?_⟩
  unfold bOf at h1
  split at h1
  · rename_i b e
    have q := r1.rw0 R1 e
    exact ⟨b, RP.boolE q, fin b H1 ρ1 fp1 (R1.sub fun a m => List.mem_append_right _ m) x1.or h1⟩
  · exact h1.elim
theorem tx_val (h : EX X e t) (he : ∀ whole, isTrue e X.env whole = (do let v ← whole; standAt e.pos; holding [v] (truthy v)) := by intro _; rfl) : TX X e (tTst t) := ⟨PT.imp (pt_val h.pe he) fun σ H Q q => tst_go q⟩
theorem tx_cmp {op : CmpOp} {g : G2} (ho : OpA X (compareOp op) g) (ha : EX X a ta) (hb : EX X b tb) (hm : behindInMarks op b = false) : TX X (.Compare a [op] [b] pos) (tTst (tBin g ta tb)) := by
  obtain ⟨r, hr, hg⟩ := ho
  refine ⟨PT.imp (pt_cmpR hr ha.pe hb.pe hm) ?_⟩
  rintro σ H Q h
  obtain ⟨ρ, fp, G, Qa, R, h, fin⟩ := tst_go h
  show tOp r _ _ σ H _
  refine ⟨ρ, fp, G, _, R, h, fun v p A H1 ρ1 fp1 R1 r1 x1 h1 => ?_⟩
  refine ⟨ρ1, fp1, A ++ G, _, R1, h1, fun u q B H2 ρ2 fp2 R2 r2 x2 h2 => ?_⟩
  unfold g2 at h2
  split at h2
  · rename_i x y e1 e2
    exact hg H2 (Or1 (Fo fp2) (B ++ (A ++ G))) v u x y _ _ (r1.rw R1 x2 R2 e1) (r2.rw0 R2 e2) h2 (fin_of R2 (fun a m => List.mem_append_right _ (List.mem_append_right _ m)) (x1.or.trans x2.or) fin)
  · exact h2.elim
def bAnd (t u : BT) : BT := fun ρ Q => t ρ fun c ρ1 => if c = true then u ρ1 Q else Q false ρ1
def bOr (t u : BT) : BT := fun ρ Q => t ρ fun c ρ1 => if c = true then Q true ρ1 else u ρ1 Q
def bNot (t : BT) : BT := fun ρ Q => t ρ fun c ρ1 => Q (!c) ρ1
variable {tA tB : BT} {rest : List Expr}
theorem WX.tx (h : WX X e tA) : TX X e tA := ⟨h.pw.pt⟩
theorem wx_and1 (ha : TX X a tA) : WX X (.BoolOp .And [a] pos) tA := ⟨pw_and1 ha.pt⟩
theorem wx_or1 (ha : TX X a tA) : WX X (.BoolOp .Or [a] pos) tA := ⟨pw_or1 ha.pt⟩
theorem lt_and {K : PySem.W.Frag} {σ : St} {H : Hp} {Q : Bool → Hp → Prop} (h : LT K (bAnd tA tB) σ H Q) : tAnd (LT K tA) (LT K tB) σ H Q := by
  obtain ⟨ρ, fp, G, Qa, R, h, fin⟩ := h
  refine ⟨ρ, fp, G, _, R, h, fun c H1 ρ1 fp1 R1 x1 h1 => ?_⟩
  cases c with
  | true => exact iteT ⟨ρ1, fp1, G, _, R1, (by simpa using h1), fun b H2 ρ2 fp2 R2 x2 h2 => fin b H2 ρ2 fp2 R2 (x1.trans x2) h2⟩
  | false => exact iteF (fin false H1 ρ1 fp1 R1 x1 (by simpa using h1))
theorem lt_or {K : PySem.W.Frag} {σ : St} {H : Hp} {Q : Bool → Hp → Prop} (h : LT K (bOr tA tB) σ H Q) : tOr (LT K tA) (LT K tB) σ H Q := by
  obtain ⟨ρ, fp, G, Qa, R, h, fin⟩ := h
  refine ⟨ρ, fp, G, _, R, h, fun c H1 ρ1 fp1 R1 x1 h1 => ?_⟩
  cases c with
  | false => exact iteF ⟨ρ1, fp1, G, _, R1, (by simpa using h1), fun b H2 ρ2 fp2 R2 x2 h2 => fin b H2 ρ2 fp2 R2 (x1.trans x2) h2⟩
  | true => exact iteT (fin true H1 ρ1 fp1 R1 x1 (by simpa using h1))
theorem wx_and (ha : TX X a tA) (hb : WX X (.BoolOp .And (b :: rest) pos) tB) : WX X (.BoolOp .And (a :: b :: rest) pos) (bAnd tA tB) := ⟨PW.imp (pw_and ha.pt hb.pw) fun _ _ _ h => lt_and h⟩
theorem wx_or (ha : TX X a tA) (hb : WX X (.BoolOp .Or (b :: rest) pos) tB) : WX X (.BoolOp .Or (a :: b :: rest) pos) (bOr tA tB) := ⟨PW.imp (pw_or ha.pt hb.pw) fun _ _ _ h => lt_or h⟩
theorem tx_not (ha : TX X a tA) : TX X (.UnaryOp .Not a pos) (bNot tA) := by
  refine ⟨PT.imp (pt_not ha.pt) ?_⟩
  rintro σ H Q ⟨ρ, fp, G, Qa, R, h, fin⟩
  exact ⟨ρ, fp, G, _, R, h, fun c H1 ρ1 fp1 R1 x1 h1 => fin (!c) H1 ρ1 fp1 R1 x1 h1⟩
/-- a chain of two comparisons -/
def bO (o : O) (Q : Bool → Prop) : Prop := match o with
  | .pure (.bool b) => Q b
  | _ => False
def tChainA (g g' : G2) (ta tb tc : XT) : BT := fun ρ Q => ta ρ fun p ρ1 => tb ρ1 fun q ρ2 => g2 g ρ2 p q fun o => bO o fun c => if c = true then (tc ρ2 fun r ρ3 => (∀ j, q = .slot j → ∃ o, ρ3[j]? = some (some o)) ∧ g2 g' ρ3 q r fun o => bO o fun b => Q b ρ3) else Q false ρ2
/-! ### bools as values -/
def tAndE (ta tb : XT) : XT := fun ρ Q => ta ρ fun p ρ1 => bOf ρ1 p fun c => if c = true then tb ρ1 Q else Q (.val (.pure (.bool false))) ρ1
def tOrE (ta tb : XT) : XT := fun ρ Q => ta ρ fun p ρ1 => bOf ρ1 p fun c => if c = true then Q (.val (.pure (.bool true))) ρ1 else tb ρ1 Q
def tNotE (ta : XT) : XT := fun ρ Q => ta ρ fun p ρ1 => bOf ρ1 p fun c => Q (.val (.pure (.bool (!c)))) ρ1
theorem ex_one {op} (h : EX X a t) : EX X (.BoolOp op [a] pos) t := ⟨pe_one h.pe⟩
/-- from the middle: the rest is run at a later state -/
theorem lx_later {K : PySem.W.Frag} {σ : St} {H H1 : Hp} {Q : VK} {t : XT} {ρ1 : AEnv} {fp fp1 : Nat → List Addr} {G A : List Addr} {Qa : Opd → AEnv → Prop} (R1 : RS K σ H1 ρ1 fp1 (A ++ G)) (x1 : Ext H (Fo fp) H1 (Or1 (Fo fp1) A)) (h : t ρ1 Qa)
    (fin : ∀ v p A H' ρ' fp', RS K σ H' ρ' fp' (A ++ G) → ROp K σ H' fp' ρ' G v p A → Ext H (Fo fp) H' (Or1 (Fo fp') A) → Qa p ρ' → Q v H') : LX K t σ H1 Q :=
  ⟨ρ1, fp1, G, Qa, R1.sub fun a m => List.mem_append_right _ m, h, fun v p B H2 ρ2 fp2 R2 r2 x2 h2 => fin v p B H2 ρ2 fp2 R2 r2 (x1.or.trans x2) h2⟩
theorem fin_pure {K : PySem.W.Frag} {σ : St} {H H1 : Hp} {Q : VK} {ρ1 : AEnv} {fp fp1 : Nat → List Addr} {G A : List Addr} {Qa : Opd → AEnv → Prop} {v : V} {t : T} (R1 : RS K σ H1 ρ1 fp1 (A ++ G)) (x1 : Ext H (Fo fp) H1 (Or1 (Fo fp1) A)) (r : RP K H1 (Or1 (Fo fp1) G) v t)
    (fin : ∀ v p A H' ρ' fp', RS K σ H' ρ' fp' (A ++ G) → ROp K σ H' fp' ρ' G v p A → Ext H (Fo fp) H' (Or1 (Fo fp') A) → Qa p ρ' → Q v H') (q : Qa (.val (.pure t)) ρ1) : Q v H1 :=
  fin v (.val (.pure t)) [] H1 ρ1 fp1 (R1.sub fun a m => List.mem_append_right _ m) (rop_pure r) (x1.or.weak (fun _ z => z) fun a z => z.elim (fun q => q) fun m => nomatch m) q
theorem ex_and (ha : EX X a ta) (hb : EX X (.BoolOp .And (b :: rest) pos) tb) : EX X (.BoolOp .And (a :: b :: rest) pos) (tAndE ta tb) := by
  refine ⟨PE.imp (pe_and ha.pe hb.pe) ?_⟩
  rintro σ H Q ⟨ρ, fp, G, Qa, R, h, fin⟩
  refine ⟨ρ, fp, G, _, R, h, fun v p A H1 ρ1 fp1 R1 r1 x1 h1 => ?_⟩
  unfold bOf at h1
  split at h1
  · rename_i c e
    refine ⟨c, RP.boolE (r1.rw0 R1 e), ?_⟩
    cases c with
    | true => exact iteT (lx_later R1 x1 (by simpa using h1) fin)
    | false => exact iteF (fin_pure R1 x1 (RP.bl false) fin (by simpa using h1))
  · exact h1.elim
theorem ex_or (ha : EX X a ta) (hb : EX X (.BoolOp .Or (b :: rest) pos) tb) : EX X (.BoolOp .Or (a :: b :: rest) pos) (tOrE ta tb) := by
  refine ⟨PE.imp (pe_or ha.pe hb.pe) ?_⟩
  rintro σ H Q ⟨ρ, fp, G, Qa, R, h, fin⟩
  refine ⟨ρ, fp, G, _, R, h, fun v p A H1 ρ1 fp1 R1 r1 x1 h1 => ?_⟩
  unfold bOf at h1
  split at h1
  · rename_i c e
    refine ⟨c, RP.boolE (r1.rw0 R1 e), ?_⟩
    cases c with
    | false => exact iteF (lx_later R1 x1 (by simpa using h1) fin)
    | true => exact iteT (fin_pure R1 x1 (RP.bl true) fin (by simpa using h1))
  · exact h1.elim
theorem ex_not (ha : EX X a ta) : EX X (.UnaryOp .Not a pos) (tNotE ta) := by
  refine ⟨PE.imp (pe_not ha.pe) ?_⟩
  rintro σ H Q ⟨ρ, fp, G, Qa, R, h, fin⟩
  refine ⟨ρ, fp, G, _, R, h, fun v p A H1 ρ1 fp1 R1 r1 x1 h1 => ?_⟩
  unfold bOf at h1
  split at h1
  · rename_i c e
    exact ⟨c, RP.boolE (r1.rw0 R1 e), fin_pure R1 x1 (RP.bl _) fin h1⟩
  · exact h1.elim
def tIfE (tc : BT) (ta tb : XT) : XT := fun ρ Q => tc ρ fun c ρ1 => if c = true then ta ρ1 Q else tb ρ1 Q
theorem ex_ifExp {c : Expr} (hc : TX X c tA) (ha : EX X a ta) (hb : EX X b tb) : EX X (.IfExp c a b pos) (tIfE tA ta tb) := by
  refine ⟨PE.imp (pe_ifExp hc.pt ha.pe hb.pe) ?_⟩
  rintro σ H Q ⟨ρ, fp, G, Qa, R, h, fin⟩
  refine ⟨ρ, fp, G, _, R, h, fun c H1 ρ1 fp1 R1 x1 h1 => ?_⟩
  cases c with
  | true => exact iteT ⟨ρ1, fp1, G, Qa, R1, (by simpa using h1), fun v p B H2 ρ2 fp2 R2 r2 x2 h2 => fin v p B H2 ρ2 fp2 R2 r2 (x1.trans x2) h2⟩
  | false => exact iteF ⟨ρ1, fp1, G, Qa, R1, (by simpa using h1), fun v p B H2 ρ2 fp2 R2 r2 x2 h2 => fin v p B H2 ρ2 fp2 R2 r2 (x1.trans x2) h2⟩
end
end DL

set_option Elab.async false
set_option linter.all false
set_option maxRecDepth 100000
set_option maxHeartbeats 4000000
/-! THE DATA LAYER, part 3: statements, targets, loops. -/
namespace DL
open PySem PySem.Spec L2
open PyProof.Rows hiding St

theorem ro_pure {K : PySem.W.Frag} {H : Hp} {F : Addr → Prop} {v : V} {t : T} (r : RP K H F v t) : RO K H F v (.pure t) [] := ⟨rfl, r⟩
/-! ### what an operand is taken for -/
def takeO : Opd → AEnv → (O → AEnv → Prop) → Prop
  | .val o, ρ, Q => Q o ρ
  | .slot j, ρ, Q => match ρ[j]? with
    | some (some o) => Q (.pure o.frz) (ρ.set j (some (.pure o.frz)))
    | _ => False
/-- .. by return: a slot of one's own is moved out -/
def takeR (P : Nat → Bool) : Opd → AEnv → (O → AEnv → Prop) → Prop
  | .val o, ρ, Q => Q o ρ
  | .slot j, ρ, Q => match ρ[j]? with
    | some (some o) => if P j = true then Q (.pure o.frz) (ρ.set j (some (.pure o.frz))) else Q o (ρ.set j none)
    | _ => False
section
variable {K : PySem.W.Frag} {σ : St} {H H1 : Hp} {fp : Nat → List Addr} {ρ : AEnv} {v : V} {p : Opd} {o : O} {j : Nat} {A B G : List Addr} {F F' : Addr → Prop}
theorem takeO_ok (R : RS K σ H ρ fp (B ++ G)) (r : ROp K σ H fp ρ G v p B) {Q : O → AEnv → Prop} (h : takeO p ρ Q) :
    ∃ o A ρ' fp', RS K σ H ρ' fp' (A ++ G) ∧ RO K H (Or1 (Fo fp') (A ++ G)) v o A ∧ A.Nodup ∧ (∀ a ∈ A, a ∉ G) ∧ (∀ a, Or1 (Fo fp') A a → Or1 (Fo fp) B a) ∧ Q o ρ' := by
  cases p with
  | val o => exact ⟨o, B, ρ, fp, R, r.1, r.2.1, r.2.2, fun _ z => z, h⟩
  | slot j =>
    simp only [takeO] at h
    split at h
    · rename_i o e
      obtain ⟨hB, hv, _⟩ := r
      subst hB
      obtain ⟨R', q⟩ := (R.sub (G' := G) fun a m => m).freeze e
      exact ⟨_, [], _, _, R', ro_pure (q v hv), .nil, noMem, fun a z => z.elim (fun z => .inl (z.set.elim (fun q => q) fun m => (List.not_mem_nil m).elim)) fun m => (List.not_mem_nil m).elim, h⟩
    · exact h.elim
/-- a slot's content leaves it -/
theorem RS.move (R : RS K σ H ρ fp G) (e : ρ[j]? = some (some o)) (hv : σ[j]? = some (some v)) : RS K σ H (ρ.set j none) (fpSet fp j []) (fp j ++ G) ∧ RO K H (Or1 (Fo (fpSet fp j [])) (fp j ++ G)) v o (fp j) := by
  have dl : ∀ a, Fo (fpSet fp j []) a → Fo fp a := fun a z => z.set.elim (fun q => q) fun m => (List.not_mem_nil m).elim
  have w : ∀ a, Or1 (Fo (fpSet fp j [])) (fp j ++ G) a → Or1 (Fo fp) G a := fun a z => z.elim (fun z => .inl (dl a z)) fun m => (List.mem_append.mp m).elim (fun m => .inl ⟨j, m⟩) .inr
  obtain ⟨v', hv', r⟩ := R.ex j o e
  rw [hv] at hv'; cases hv'
  have D := R.drop (j := j) (σ' := σ) (fun _ _ _ h => h) rfl
  have nf : ∀ a ∈ fp j, ¬ Fo (fpSet fp j []) a := fun a m ⟨i, z⟩ => by
    by_cases q : i = j
    · subst q; rw [fpSet_at] at z; cases z
    · rw [fpSet_ne q] at z
      exact q (R.dj i j a z m)
  refine ⟨⟨fun i u h => ?_, D.non, D.dj, D.nd, fun a m => (List.mem_append.mp m).elim (nf a) (D.gf a), fun a m => (List.mem_append.mp m).elim (fun m => let ⟨u, e, _⟩ := r.there a m; ⟨u, e⟩) (R.gi a), D.len⟩, r.weak w⟩
  rw [AEnv.get_set] at h
  by_cases q : j = i
  · rw [if_pos q] at h
    split at h <;> cases h
  · rw [if_neg q] at h
    obtain ⟨x, hx, r'⟩ := R.ex i u h
    exact ⟨x, hx, by rw [fpSet_ne fun z => q z.symm]; exact r'.weak w⟩
theorem takeR_ok {P : Nat → Bool} (R : RS K σ H ρ fp (B ++ G)) (r : ROp K σ H fp ρ G v p B) {Q : O → AEnv → Prop} (h : takeR P p ρ Q) :
    ∃ o A ρ' fp', RS K σ H ρ' fp' (A ++ G) ∧ RO K H (Or1 (Fo fp') (A ++ G)) v o A ∧ A.Nodup ∧ (∀ a ∈ A, a ∉ G) ∧ (∀ a, Or1 (Fo fp') A a → Or1 (Fo fp) B a) ∧ Q o ρ' := by
  cases p with
  | val o => exact ⟨o, B, ρ, fp, R, r.1, r.2.1, r.2.2, fun _ z => z, h⟩
  | slot j =>
    simp only [takeR] at h
    split at h
    · rename_i o e
      obtain ⟨hB, hv, _⟩ := r
      subst hB
      split at h
      · obtain ⟨R', q⟩ := (R.sub (G' := G) fun a m => m).freeze e
        exact ⟨_, [], _, _, R', ro_pure (q v hv), .nil, noMem, fun a z => z.elim (fun z => .inl (z.set.elim (fun q => q) fun m => (List.not_mem_nil m).elim)) fun m => (List.not_mem_nil m).elim, h⟩
      · obtain ⟨R', q⟩ := (R.sub (G' := G) fun a m => m).move e hv
        exact ⟨_, _, _, _, R', q, R.nd j, fun a m z => R.gf a z ⟨j, m⟩, fun a z => z.elim (fun z => .inl (z.set.elim (fun q => q) fun m => (List.not_mem_nil m).elim)) fun m => .inl ⟨j, m⟩, h⟩
    · exact h.elim
end

/-! ### statements -/
structure AEnds where
  nx : AEnv → Prop
  rt : O → AEnv → Prop
  bk : AEnv → Prop := fun _ => False
  ct : AEnv → Prop := fun _ => False
abbrev ST := AEnds → AEnv → Prop
def PinEq (P : Nat → Bool) (σ σ' : St) : Prop := ∀ (j : Nat), P j = true → σ'[j]? = σ[j]?
theorem PinEq.refl {P : Nat → Bool} {σ : St} : PinEq P σ σ := fun _ _ => rfl
theorem PinEq.trans {P : Nat → Bool} {σ σ1 σ2 : St} (h : PinEq P σ σ1) (k : PinEq P σ1 σ2) : PinEq P σ σ2 := fun j m => (k j m).trans (h j m)
structure FinS (K : PySem.W.Frag) (P : Nat → Bool) (σ : St) (H : Hp) (fp : Nat → List Addr) (G : List Addr) (Da : AEnds) (D : Ends) : Prop where
  nx : ∀ σ' H' ρ' fp', RS K σ' H' ρ' fp' G → Ext H (Fo fp) H' (Fo fp') → PinEq P σ σ' → Da.nx ρ' → D.nx σ' H'
  bk : ∀ σ' H' ρ' fp', RS K σ' H' ρ' fp' G → Ext H (Fo fp) H' (Fo fp') → PinEq P σ σ' → Da.bk ρ' → D.bk σ' H'
  ct : ∀ σ' H' ρ' fp', RS K σ' H' ρ' fp' G → Ext H (Fo fp) H' (Fo fp') → PinEq P σ σ' → Da.ct ρ' → D.ct σ' H'
  rt : ∀ v o A σ' H' ρ' fp', RS K σ' H' ρ' fp' (A ++ G) → RO K H' (Or1 (Fo fp') (A ++ G)) v o A → A.Nodup → (∀ a ∈ A, a ∉ G) → Ext H (Fo fp) H' (Or1 (Fo fp') A) → PinEq P σ σ' → Da.rt o ρ' → D.rt v H'
def LS (K : PySem.W.Frag) (P : Nat → Bool) (t : ST) : TS := fun D σ H => ∃ ρ fp G Da, RS K σ H ρ fp G ∧ t Da ρ ∧ FinS K P σ H fp G Da D
theorem FinS.later {K : PySem.W.Frag} {P : Nat → Bool} {σ σ1 : St} {H H1 : Hp} {fp fp1 : Nat → List Addr} {G : List Addr} {Da : AEnds} {D : Ends} (f : FinS K P σ H fp G Da D) (x : Ext H (Fo fp) H1 (Fo fp1)) (p : PinEq P σ σ1) : FinS K P σ1 H1 fp1 G Da D :=
  ⟨fun σ' H' ρ' fp' R y q h => f.nx σ' H' ρ' fp' R (x.trans y) (p.trans q) h, fun σ' H' ρ' fp' R y q h => f.bk σ' H' ρ' fp' R (x.trans y) (p.trans q) h, fun σ' H' ρ' fp' R y q h => f.ct σ' H' ρ' fp' R (x.trans y) (p.trans q) h,
    fun v o A σ' H' ρ' fp' R r d n y q h => f.rt v o A σ' H' ρ' fp' R r d n (x.trans y) (p.trans q) h⟩
structure SX (X : Cx) (P : Nat → Bool) (st : Stmt) (t : ST) : Prop where
  ps : PS X st (LS X.K P t)
structure SXs (X : Cx) (P : Nat → Bool) (st : List Stmt) (t : ST) : Prop where
  pss : PSs X st (LS X.K P t)
def sSeq (t u : ST) : ST := fun D ρ => t { D with nx := u D } ρ
def sNext : ST := fun D ρ => D.nx ρ
def sRet (P : Nat → Bool) (t : XT) : ST := fun D ρ => t ρ fun p ρ1 => takeR P p ρ1 D.rt
def sRetN : ST := fun D ρ => D.rt (.pure .none) ρ
def sDrop (t : XT) : ST := fun D ρ => t ρ fun _ ρ1 => D.nx ρ1
def sIf (c : BT) (t u : ST) : ST := fun D ρ => c ρ fun b ρ1 => if b = true then t D ρ1 else u D ρ1
def sSet (j : Nat) (t : XT) : ST := fun D ρ => t ρ fun p ρ1 => takeO p ρ1 fun o ρ2 => (Nat.blt j ρ2.length = true) ∧ D.nx (ρ2.set j (some o))
section
variable {X : Cx} {P : Nat → Bool} {st : Stmt} {rest : List Stmt} {t u : ST} {e : Expr} {te : XT} {tc : BT} {pos : Pos}
theorem sxs_nil : SXs X P [] sNext := by
  refine ⟨PSs.imp pss_nil ?_⟩
  rintro D σ H ⟨ρ, fp, G, Da, R, h, f⟩
  exact f.nx σ H ρ fp R Ext.refl .refl h
theorem ls_seq {K : PySem.W.Frag} {D : Ends} {σ : St} {H : Hp} (h : LS K P (sSeq t u) D σ H) : tSeq (LS K P t) (LS K P u) D σ H := by
  obtain ⟨ρ, fp, G, Da, R, h, f⟩ := h
  exact ⟨ρ, fp, G, _, R, h, fun σ' H' ρ' fp' R' x p q => ⟨ρ', fp', G, Da, R', q, f.later x p⟩, f.bk, f.ct, f.rt⟩
theorem sxs_cons (h1 : SX X P st t) (h2 : SXs X P rest u) : SXs X P (st :: rest) (sSeq t u) := ⟨PSs.imp (pss_cons h1.ps h2.pss) fun _ _ _ h => ls_seq h⟩
theorem sxs_one (h1 : SX X P st t) : SXs X P [st] t := ⟨pss_one h1.ps⟩
theorem sx_pass : SX X P (.Pass pos) sNext := by
  refine ⟨PS.imp ps_pass ?_⟩
  rintro D σ H ⟨ρ, fp, G, Da, R, h, f⟩
  exact f.nx σ H ρ fp R Ext.refl .refl h
theorem sx_break : SX X P (.Break pos) (fun D ρ => D.bk ρ) := by
  refine ⟨PS.imp ps_break ?_⟩
  rintro D σ H ⟨ρ, fp, G, Da, R, h, f⟩
  exact f.bk σ H ρ fp R Ext.refl .refl h
theorem sx_continue : SX X P (.Continue pos) (fun D ρ => D.ct ρ) := by
  refine ⟨PS.imp ps_continue ?_⟩
  rintro D σ H ⟨ρ, fp, G, Da, R, h, f⟩
  exact f.ct σ H ρ fp R Ext.refl .refl h
theorem sx_ret (h : EX X e te) : SX X P (.Return (some e) pos) (sRet P te) := by
  refine ⟨PS.imp (ps_ret h.pe) ?_⟩
  rintro D σ H ⟨ρ, fp, G, Da, R, h, f⟩
  refine ⟨ρ, fp, G, _, R, h, fun v p A H1 ρ1 fp1 R1 r1 x1 h1 => ?_⟩
  obtain ⟨o, B, ρ2, fp2, R2, r2, d2, n2, i2, h2⟩ := takeR_ok R1 r1 h1
  exact f.rt v o B σ H1 ρ2 fp2 R2 r2 d2 n2 (x1.weak (fun _ z => z) i2) .refl h2
theorem sx_retN : SX X P (.Return none pos) sRetN := by
  refine ⟨PS.imp ps_retN ?_⟩
  rintro D σ H ⟨ρ, fp, G, Da, R, h, f⟩
  exact f.rt .non (.pure .none) [] σ H ρ fp R ⟨rfl, RP.non⟩ .nil noMem (Pres.refl.extA noMem) .refl h
theorem sx_expr (h : EX X e te) (hs : swapsWith e none pos.line X.env = pure false := by rfl) : SX X P (.Expr e pos) (sDrop te) := by
  refine ⟨PS.imp (ps_expr h.pe hs) ?_⟩
  rintro D σ H ⟨ρ, fp, G, Da, R, h, f⟩
  exact ⟨ρ, fp, G, _, R, h, fun v p A H1 ρ1 fp1 R1 r1 x1 h1 => f.nx σ H1 ρ1 fp1 (R1.sub fun a m => List.mem_append_right _ m) x1.or .refl h1⟩
theorem sx_if {c : Expr} {a b : List Stmt} (hc : TX X c tc) (ha : SXs X P a t) (hb : SXs X P b u) : SX X P (.If c a b pos) (sIf tc t u) := by
  refine ⟨PS.imp (ps_if hc.pt ha.pss hb.pss) ?_⟩
  rintro D σ H ⟨ρ, fp, G, Da, R, h, f⟩
  refine ⟨ρ, fp, G, _, R, h, fun c H1 ρ1 fp1 R1 x1 h1 => ?_⟩
  cases c with
  | true => exact iteT ⟨ρ1, fp1, G, Da, R1, (by simpa using h1), f.later x1 .refl⟩
  | false => exact iteF ⟨ρ1, fp1, G, Da, R1, (by simpa using h1), f.later x1 .refl⟩
theorem pinSet {j : Nat} {σ : St} {x : Option V} (hj : P j = false) : PinEq P σ (σ.set j x) := fun i m => by
  rw [List.getElem?_set_ne]
  rintro rfl
  rw [m] at hj
  cases hj
theorem set_go {K : PySem.W.Frag} {D : Ends} {σ : St} {H : Hp} {j : Nat} (hp : P j = false) (h : LS K P (sSet j te) D σ H) : tAsg (LX K te) (gName j) D σ H := by
  obtain ⟨ρ, fp, G, Da, R, h, f⟩ := h
  refine ⟨ρ, fp, G, _, R, h, fun v p A H1 ρ1 fp1 R1 r1 x1 h1 => ?_⟩
  obtain ⟨o, B, ρ2, fp2, R2, r2, d2, n2, i2, hl, h2⟩ := takeO_ok R1 r1 h1
  have hj : j < ρ2.length := Nat.le_of_ble_eq_true hl
  exact f.nx _ H1 _ _ (R2.put hj r2 d2 n2) ((x1.weak (fun _ z => z) i2).putE) (pinSet hp) h2
theorem sx_set {x : Str} {pos' : Pos} (j : Nat) (hN : X.N.Nodup) (hi : X.N[j]? = some x) (hx : Loc X.env.scope x) (he : EX X e te) (hp : P j = false := by rfl) (hs : swapsWith e (some (.Name x pos')) pos.line X.env = pure false := by rfl) (hf : X.fn x = true ∨ X.env.scope.names.lookup x = some .local := by first | exact .inl rfl | exact .inr rfl | assumption) :
    SX X P (.Assign [.Name x pos'] e pos) (sSet j te) := ⟨PS.imp (ps_set hN hi hx he.pe hs hf) fun _ _ _ h => set_go hp h⟩
end

/-! ### targets -/
abbrev GT := T → AEnv → (AEnv → Prop) → Prop
abbrev GTs := List T → AEnv → (AEnv → Prop) → Prop
def LG (K : PySem.W.Frag) (P : Nat → Bool) (g : GT) : TG := fun v σ H Q => ∃ ρ fp G Qa t, RS K σ H ρ fp G ∧ RP K H (Or1 (Fo fp) G) v t ∧ g t ρ Qa ∧
  ∀ σ' ρ' fp', RS K σ' H ρ' fp' G → (∀ a, Fo fp' a → Fo fp a) → PinEq P σ σ' → σ'.length = σ.length → Qa ρ' → Q σ' H
structure GX (X : Cx) (P : Nat → Bool) (tg : Expr) (g : GT) : Prop where
  pg : PG X tg (LG X.K P g)
def LGs (K : PySem.W.Frag) (P : Nat → Bool) (g : GTs) : TGs := fun vs σ H Q => ∃ ρ fp G Qa ts, RS K σ H ρ fp G ∧ RPs K H (Or1 (Fo fp) G) vs ts ∧ g ts ρ Qa ∧
  ∀ σ' ρ' fp', RS K σ' H ρ' fp' G → (∀ a, Fo fp' a → Fo fp a) → PinEq P σ σ' → σ'.length = σ.length → Qa ρ' → Q σ' H
structure GXs (X : Cx) (P : Nat → Bool) (tg : List Expr) (g : GTs) : Prop where
  pg : PGs X tg (LGs X.K P g)
theorem PGs.imp {X : Cx} {ts : List Expr} {t t' : TGs} (h : PGs X ts t) (w : ∀ v σ H Q, t' v σ H Q → t v σ H Q) : PGs X ts t' := ⟨fun pins s σ H v u Q I r q => h.run pins s σ H v u Q I r (w v σ H Q q)⟩
def tgName (j : Nat) : GT := fun t ρ Q => (Nat.blt j ρ.length = true) ∧ Q (ρ.set j (some (.pure t)))
def tgNil : GTs := fun ts ρ Q => match ts with
  | [] => Q ρ
  | _ => False
def tgCons (g : GT) (h : GTs) : GTs := fun ts ρ Q => match ts with
  | t :: r => g t ρ fun ρ1 => h r ρ1 Q
  | _ => False
def tgTup (n : Nat) (h : GTs) : GT := fun t ρ Q => match t with
  | .tuple ts => ts.length = n ∧ h ts ρ Q
  | _ => False
section
variable {X : Cx} {P : Nat → Bool} {pos : Pos} {e : Expr} {es : List Expr} {g : GT} {h : GTs}
theorem gx_name {x : Str} (j : Nat) (hN : X.N.Nodup) (hi : X.N[j]? = some x) (hx : Loc X.env.scope x) (hp : P j = false := by rfl) (hf : X.fn x = true ∨ X.env.scope.names.lookup x = some .local := by first | exact .inl rfl | exact .inr rfl | assumption) : GX X P (.Name x pos) (tgName j) := by
  refine ⟨PG.imp (pg_name hN hi hx hf) ?_⟩
  rintro v σ H Q ⟨ρ, fp, G, Qa, t, R, r, ⟨hl, h⟩, fin⟩
  exact fin _ _ _ (RS.put (A := []) R (Nat.le_of_ble_eq_true hl) (ro_pure r) .nil noMem) (fun a z => z.set.elim (fun q => q) fun m => (List.not_mem_nil m).elim) (pinSet hp) (by rw [List.length_set]) h
theorem gxs_nil : GXs X P [] tgNil := by
  refine ⟨PGs.imp pgs_nil ?_⟩
  rintro vs σ H Q ⟨ρ, fp, G, Qa, ts, R, r, h, fin⟩
  unfold tgNil at h
  split at h
  · cases r
    exact ⟨rfl, fin σ ρ fp R (fun _ z => z) .refl rfl h⟩
  · exact h.elim
theorem gxs_cons (h1 : GX X P e g) (h2 : GXs X P es h) (hs : (assignEach (e :: es) X.env).map (·.2) = assign e X.env :: (assignEach es X.env).map (·.2) := by rfl) : GXs X P (e :: es) (tgCons g h) := by
  refine ⟨PGs.imp (pgs_cons h1.pg h2.pg hs) ?_⟩
  rintro vs σ H Q ⟨ρ, fp, G, Qa, ts, R, r, h, fin⟩
  unfold tgCons at h
  split at h
  · cases r with
    | cons r0 rr =>
      refine ⟨_, _, rfl, ρ, fp, G, _, _, R, r0, h, fun σ1 ρ1 fp1 R1 i1 p1 l1 h1 => ?_⟩
      exact ⟨ρ1, fp1, G, Qa, _, R1, RPs.weak rr fun a z => z.imp (i1 a) fun m => m, h1, fun σ2 ρ2 fp2 R2 i2 p2 l2 h2 => fin σ2 ρ2 fp2 R2 (fun a z => i1 a (i2 a z)) (p1.trans p2) (l2.trans l1) h2⟩
  · exact h.elim
theorem gx_tup {k : Nat} {n : Nat} (hc : X.calm = true) (h1 : GXs X P es h) (hn : (assignEach es X.env).length = n := by rfl) (hst : (assignEach es X.env).findIdx? (·.1) = none := by rfl) : GX X P (.Tuple es k pos) (tgTup n h) := by
  refine ⟨PG.imp (pg_tup hc h1.pg hn hst) ?_⟩
  rintro v σ H Q ⟨ρ, fp, G, Qa, t, R, r, h, fin⟩
  unfold tgTup at h
  split at h
  · obtain ⟨a, vs, rfl, hq, rr⟩ := r.tupE
    exact ⟨a, vs, rfl, hq, by rw [Paired.len rr, h.1], ρ, fp, G, Qa, _, R, rr, h.2, fin⟩
  · exact h.elim
/-- target = value, the value as a tree -/
def sAsg (g : GT) (t : XT) : ST := fun D ρ => t ρ fun p ρ1 => take1 p ρ1 fun y ρ2 => g y ρ2 D.nx
theorem sx_asg {tg : Expr} {te : XT} (he : EX X e te) (hg : GX X P tg g) (hs : swapsWithSole [tg] e pos.line X.env = pure false := by rfl) (hw : swappedStores [tg] e X.env = pure none := by rfl)
    (h1 : (assignEach [tg] X.env).map (·.2) = [assign tg X.env] := by rfl) : SX X P (.Assign [tg] e pos) (sAsg g te) := by
  refine ⟨PS.imp (ps_asg he.pe hg.pg hs hw h1) ?_⟩
  rintro D σ H ⟨ρ, fp, G, Da, R, h, f⟩
  refine ⟨ρ, fp, G, _, R, h, fun v p A H1 ρ1 fp1 R1 r1 x1 h1 => ?_⟩
  obtain ⟨y, ρ2, fp2, R2, r2, i2, h2⟩ := take1_ok R1 r1 h1
  exact ⟨ρ2, fp2, G, _, y, R2, r2, h2, fun σ3 ρ3 fp3 R3 i3 p3 _ h3 => f.nx σ3 H1 ρ3 fp3 R3 (x1.or.weak (fun _ z => z) fun a z => i2 a (i3 a z)) p3 h3⟩
end

/-! ### what is walked -/
/-- the iterator J gives the trees ts, one after another, whatever happens to what is owned -/
def JOk (K : PySem.W.Frag) (J : It) (ts : List T) (H : Hp) (F : Addr → Prop) (G : List Addr) : Prop :=
  ∀ H' F', Ext H F H' F' → (∀ i t, ts[i]? = some t → J.go i H' ∧ ∀ x H'', J.yld i H' x H'' → Pres H' H'' ∧ RP K H'' (Or1 F' G) x t) ∧ J.stop ts.length H'
abbrev IT := AEnv → (List T → AEnv → Prop) → Prop
def LI (K : PySem.W.Frag) (ti : IT) : TI := fun σ H R => ∃ ρ fp G Qa, RS K σ H ρ fp G ∧ ti ρ Qa ∧
  ∀ ts J H' ρ' fp', RS K σ H' ρ' fp' G → JOk K J ts H' (Fo fp') G → ts.length ≤ sizeLine → Ext H (Fo fp) H' (Fo fp') → Qa ts ρ' → R J H'
structure IX (X : Cx) (tg iter : Expr) (ti : IT) : Prop where
  pi : PI X tg iter (LI X.K ti)
def forW (g : GT) (tb : ST) (D : AEnds) : List T → AEnv → Prop
  | [], ρ => D.nx ρ
  | t :: ts, ρ => g t ρ fun ρ1 => tb { nx := forW g tb D ts, ct := forW g tb D ts, bk := D.nx, rt := D.rt } ρ1
def sFor (ti : IT) (g : GT) (tb : ST) : ST := fun D ρ => ti ρ fun ts ρ1 => forW g tb D ts ρ1
section
variable {X : Cx} {P : Nat → Bool} {pos : Pos} {tg iter : Expr} {body : List Stmt} {ti : IT} {g : GT} {tb : ST}
theorem drop_at {α : Type} {l : List α} {i : Nat} {t : α} {r : List α} (h : l.drop i = t :: r) : l[i]? = some t ∧ l.drop (i + 1) = r ∧ i < l.length := by
  have h1 : i < l.length := by
    rcases Nat.lt_or_ge i l.length with q | q
    · exact q
    · rw [List.drop_eq_nil_of_le q] at h; cases h
  rw [List.drop_eq_getElem_cons h1] at h
  cases h
  exact ⟨List.getElem?_eq_getElem h1, rfl, h1⟩
theorem sx_for (hp : PassesOwn (model X.prog X.w) X.A X.env X.xe) (hc : X.calm = true) (hi : IX X tg iter ti) (hg : GX X P tg g) (hb : SXs X P body tb) (hs : ∀ x, foldedSetIterable iter X.env x = pure x := by intro _; rfl) :
    SX X P (.For tg iter body [] pos) (sFor ti g tb) := by
  refine ⟨PS.imp (ps_for hp hc hi.pi hg.pg hb.pss hs) ?_⟩
  rintro D σ H ⟨ρ, fp, G, Da, R, h, f⟩
  refine ⟨ρ, fp, G, _, R, h, fun ts J H1 ρ1 fp1 R1 j1 _ x1 h1 => ?_⟩
  refine ⟨fun i m σ' H' => ∃ ρ' fp', m = ts.length - i ∧ i ≤ ts.length ∧ RS X.K σ' H' ρ' fp' G ∧ Ext H1 (Fo fp1) H' (Fo fp') ∧ PinEq P σ σ' ∧ forW g tb Da (ts.drop i) ρ', ⟨_, ρ1, fp1, rfl, Nat.zero_le _, R1, Ext.refl, .refl, h1⟩, ?_⟩
  rintro i m σ2 H2 ⟨ρ2, fp2, rfl, hi2, R2, x2, p2, h2⟩
  obtain ⟨j2, stop⟩ := j1 H2 (Fo fp2) x2
  cases hd : ts.drop i with
  | nil =>
    have e : i = ts.length := by
      have := congrArg List.length hd
      simp at this; omega
    subst e
    rw [hd] at h2
    exact .inl ⟨stop, f.nx σ2 H2 ρ2 fp2 R2 (x1.trans x2) p2 h2⟩
  | cons t r =>
    obtain ⟨e1, e2, e3⟩ := drop_at hd
    rw [hd] at h2
    obtain ⟨go, yl⟩ := j2 i t e1
    refine .inr ⟨go, fun σ3 H3 => ∃ ρ3 fp3, RS X.K σ3 H3 ρ3 fp3 G ∧ Ext H1 (Fo fp1) H3 (Fo fp3) ∧ PinEq P σ σ3 ∧ forW g tb Da r ρ3, fun σ3 H3 ⟨ρ3, fp3, R3, x3, p3, h3⟩ => ⟨_, by omega, ρ3, fp3, rfl, e3, R3, x3, p3, by rw [e2]; exact h3⟩, fun x H3 y => ?_⟩
    obtain ⟨pr, rp⟩ := yl x H3 y
    refine ⟨ρ2, fp2, G, _, t, R2.pres pr, rp, h2, fun σ4 ρ4 fp4 R4 i4 p4 _ h4 => ?_⟩
    have x4 : Ext H1 (Fo fp1) H3 (Fo fp4) := x2.trans ((pr.ext (F := Fo fp2)).weak (fun _ z => z) i4)
    have p24 := p2.trans p4
    refine ⟨ρ4, fp4, G, _, R4, h4, fun σ5 H5 ρ5 fp5 R5 x5 p5 h5 => ⟨ρ5, fp5, R5, x4.trans x5, p24.trans p5, h5⟩, fun σ5 H5 ρ5 fp5 R5 x5 p5 h5 => ?_, fun σ5 H5 ρ5 fp5 R5 x5 p5 h5 => ⟨ρ5, fp5, R5, x4.trans x5, p24.trans p5, h5⟩, fun v o A σ5 H5 ρ5 fp5 R5 r5 d5 n5 x5 p5 h5 => ?_⟩
    · exact f.nx σ5 H5 ρ5 fp5 R5 (x1.trans (x4.trans x5)) (p24.trans p5) h5
    · exact f.rt v o A σ5 H5 ρ5 fp5 R5 r5 d5 n5 (x1.trans (x4.trans x5)) (p24.trans p5) h5

/-! ### while -/
def whileN (c : BT) (tb : ST) (D : AEnds) : Nat → AEnv → Prop
  | 0, _ => False
  | n + 1, ρ => c ρ fun b ρ1 => if b = true then tb { nx := whileN c tb D n, ct := whileN c tb D n, bk := D.nx, rt := D.rt } ρ1 else D.nx ρ1
def sWhile (c : BT) (tb : ST) : ST := fun D ρ => ∃ n, whileN c tb D n ρ
theorem sx_while {c : Expr} {tc : BT} (hp : PassesOwn (model X.prog X.w) X.A X.env X.xe) (hc : TX X c tc) (hb : SXs X P body tb) : SX X P (.While c body [] pos) (sWhile tc tb) := by
  refine ⟨PS.imp (ps_while hp hc.pt hb.pss) ?_⟩
  rintro D σ H ⟨ρ, fp, G, Da, R, ⟨n, h⟩, f⟩
  refine ⟨fun m σ' H' => ∃ ρ' fp', RS X.K σ' H' ρ' fp' G ∧ Ext H (Fo fp) H' (Fo fp') ∧ PinEq P σ σ' ∧ whileN tc tb Da m ρ', ⟨n, ρ, fp, R, Ext.refl, .refl, h⟩, ?_⟩
  rintro m σ2 H2 ⟨ρ2, fp2, R2, x2, p2, h2⟩
  cases m with
  | zero => exact h2.elim
  | succ m =>
    refine ⟨ρ2, fp2, G, _, R2, h2, fun b H3 ρ3 fp3 R3 x3 h3 => ?_⟩
    have x23 := x2.trans x3
    cases b with
    | false => exact iteF (f.nx σ2 H3 ρ3 fp3 R3 x23 p2 (by simpa using h3))
    | true =>
      refine iteT ⟨fun σ4 H4 => ∃ ρ4 fp4, RS X.K σ4 H4 ρ4 fp4 G ∧ Ext H (Fo fp) H4 (Fo fp4) ∧ PinEq P σ σ4 ∧ whileN tc tb Da m ρ4, fun σ4 H4 h4 => ⟨m, Nat.lt_succ_self m, h4⟩, ρ3, fp3, G, _, R3, (by simpa using h3), ?_⟩
      exact ⟨fun σ5 H5 ρ5 fp5 R5 x5 p5 h5 => ⟨ρ5, fp5, R5, x23.trans x5, p2.trans p5, h5⟩, fun σ5 H5 ρ5 fp5 R5 x5 p5 h5 => f.nx σ5 H5 ρ5 fp5 R5 (x23.trans x5) (p2.trans p5) h5, fun σ5 H5 ρ5 fp5 R5 x5 p5 h5 => ⟨ρ5, fp5, R5, x23.trans x5, p2.trans p5, h5⟩,
        fun v o A σ5 H5 ρ5 fp5 R5 r5 d5 n5 x5 p5 h5 => f.rt v o A σ5 H5 ρ5 fp5 R5 r5 d5 n5 (x23.trans x5) (p2.trans p5) h5⟩
end
end DL

set_option Elab.async false
set_option linter.all false
set_option maxRecDepth 100000
set_option maxHeartbeats 4000000
/-! THE DATA LAYER, part 4: list comprehensions; defs and their calls. -/
namespace DL
open PySem PySem.Spec L2
open PyProof.Rows hiding St

theorem Ext.addP {H H' : Hp} {F F' : Addr → Prop} (x : Ext H F H' F') (S : Addr → Prop) : Ext H (fun a => S a ∨ F a) H' (fun a => S a ∨ F' a) where
  keep a o e n := x.keep a o e fun z => n (.inr z)
  tups := x.tups
  frzs := x.frzs
  new a z := z.elim (fun z => .inl (.inl z)) fun z => (x.new a z).imp .inr (fun q => q)
  dom := x.dom
section
variable {K : PySem.W.Frag} {σ : St} {H H1 H' : Hp} {fp fp1 : Nat → List Addr} {ρ : AEnv} {v : V} {o : O} {j : Nat} {A B B' G : List Addr}
/-- what is held through a step that is let change B alone, and leaves B' -/
theorem RS.thru (R : RS K σ H ρ fp (B ++ G)) (x : Ext H (· ∈ B) H' (· ∈ B')) (hG : ∀ a ∈ G, a ∉ B) (hi : ∀ a ∈ B', ∃ u, H' a = some u) : RS K σ H' ρ fp (B' ++ G) := by
  have nf : ∀ a, Fo fp a → a ∉ B := fun a z m => R.gf a (List.mem_append_left _ m) z
  have up : ∀ a u, H a = some u → ∃ u', H' a = some u' := fun a u e => by
    cases q : H' a with
    | some u' => exact ⟨u', rfl⟩
    | none => rw [x.dom a q] at e; cases e
  refine ⟨fun i u h => ?_, R.non, R.dj, R.nd, fun a m z => ?_, fun a m => (List.mem_append.mp m).elim (hi a) fun m => let ⟨u, e⟩ := R.gi a (List.mem_append_right _ m); up a u e, R.len⟩
  · obtain ⟨w, hw, r⟩ := R.ex i u h
    refine ⟨w, hw, r.imp (fun v t q => ?_) fun a m u e => x.keep a u e (nf a ⟨i, m⟩)⟩
    have q1 : RP K H (fun a => Or1 (Fo fp) G a ∨ a ∈ B) v t := q.weak fun a z => z.elim (fun z => z.imp (fun q => q) (List.mem_append_right _)) fun m => .inr (List.mem_append_left _ m)
    exact (q1.ext (x.addP (Or1 (Fo fp) G))).weak fun a z => z.elim (fun z => .inl (.inl z)) fun m => (List.mem_append.mp m).elim .inr fun m => .inl (.inr m)
  · rcases List.mem_append.mp m with m | m
    · rcases x.new a m with k | k
      · exact R.gf a (List.mem_append_left _ k) z
      · obtain ⟨u, e, _⟩ := R.there a z
        rw [k] at e; cases e
    · exact R.gf a (List.mem_append_right _ m) z
/-- one of the others' objects is written -/
theorem RS.write {D : Addr} {u : HO} (R : RS K σ H ρ fp (B ++ G)) (hB : B = [D]) (hD : ∃ o, H D = some o ∧ Mut (some o)) (hG : D ∉ G) : RS K σ (L2.upd H D u) ρ fp (B ++ G) := by
  subst hB
  obtain ⟨o, e, mu⟩ := hD
  refine R.thru ⟨fun a u h n => by rw [upd_ne fun z => n (by rw [z]; exact List.mem_singleton.mpr rfl)]; exact h, fun a xs h => ?_, fun a u w h => ?_, fun a m => .inl m, fun a h => ?_⟩ (fun a m z => hG (by rw [← List.mem_singleton.mp z]; exact m)) fun a m => ⟨u, by rw [List.mem_singleton.mp m]; exact upd_same⟩
  · by_cases q : a = D
    · subst q; rw [e] at h; cases h; exact mu.elim
    · rw [upd_ne q]; exact h
  · by_cases q : a = D
    · subst q; rw [e] at h; cases h; exact mu.elim
    · rw [upd_ne q]; exact h
  · by_cases q : a = D
    · subst q; rw [upd_same] at h; cases h
    · rw [upd_ne q] at h; exact h
theorem upd_ext {H : Hp} {D : Addr} {u o : HO} (e : H D = some o) (mu : Mut (some o)) {F F' : Addr → Prop} (hF : F D) (w : ∀ a, F' a → F a) : Ext H F (upd H D u) F' where
  keep a u h n := by rw [upd_ne fun z => n (by rw [z]; exact hF)]; exact h
  tups a xs h := by
    by_cases q : a = D
    · subst q; rw [e] at h; cases h; exact mu.elim
    · rw [upd_ne q]; exact h
  frzs a u w h := by
    by_cases q : a = D
    · subst q; rw [e] at h; cases h; exact mu.elim
    · rw [upd_ne q]; exact h
  new a z := .inl (w a z)
  dom a h := by
    by_cases q : a = D
    · subst q; rw [upd_same] at h; cases h
    · rw [upd_ne q] at h; exact h
end

/-! ### a comprehension's own names -/
def wipeA (ρ : AEnv) : List Nat → AEnv
  | [] => ρ
  | v :: vs => (wipeA ρ vs).set v none
section
variable {K : PySem.W.Frag} {σ σ' : St} {H : Hp} {fp : Nat → List Addr} {ρ : AEnv} {G : List Addr}
theorem RS.wipe : ∀ (vs : List Nat) {fp : Nat → List Addr}, RS K σ H ρ fp G → ∃ fp', RS K (L2.wipe σ vs) H (wipeA ρ vs) fp' G ∧ ∀ a, Fo fp' a → Fo fp a
  | [], fp, R => ⟨fp, R, fun _ z => z⟩
  | v :: vs, fp, R => by
    obtain ⟨fp1, R1, i1⟩ := RS.wipe vs R
    exact ⟨_, R1.drop (j := v) (fun i w h e => by unfold L2.wipe; rw [List.getElem?_set_ne (Ne.symm h)]; exact e) (by rw [wipe_length, wipe_length]), fun a z => i1 a (z.set.elim (fun q => q) fun m => (List.not_mem_nil m).elim)⟩
theorem wipe_eq : ∀ (vs : List Nat), (∀ (j : Nat), j ∉ vs → σ'[j]? = σ[j]?) → σ'.length = σ.length → wipe σ' vs = wipe σ vs := by
  intro vs h hl
  refine List.ext_getElem? fun i => ?_
  by_cases m : i ∈ vs
  · have at_ : ∀ (τ : St) (ws : List Nat), i ∈ ws → (wipe τ ws)[i]? = if i < τ.length then some none else none := by
      intro τ ws
      induction ws with
      | nil => intro m; cases m
      | cons w ws ih =>
        intro m
        unfold wipe
        by_cases q : w = i
        · subst q
          split
          · rename_i k; exact List.getElem?_set_self (by rw [wipe_length]; exact k)
          · rename_i k; exact List.getElem?_eq_none (by simp [wipe_length]; omega)
        · rw [List.getElem?_set_ne q]
          exact ih ((List.mem_cons.mp m).resolve_left fun z => q z.symm)
    rw [at_ _ _ m, at_ _ _ m, hl]
  · rw [wipe_out m, wipe_out m]
    exact h i m
theorem wipe_wipe (vs : List Nat) : wipe (wipe σ vs) vs = wipe σ vs := wipe_eq vs (fun j m => wipe_out m) (wipe_length σ vs)
theorem RS.unwipe {vs : List Nat} (R : RS K (L2.wipe σ vs) H ρ fp G) : RS K σ H ρ fp G := R.vals (fun i o v _ h => (wipe_some h).1) (wipe_length σ vs).symm
end

/-! ### list comprehensions -/
structure BXs (X : Cx) (ifs : List Expr) (t : BT) : Prop where
  pts : PTs X ifs (LT X.K t)
def bYes : BT := fun ρ Q => Q true ρ
theorem PTs.imp {X : Cx} {ifs : List Expr} {t t' : TT} (h : PTs X ifs t) (w : ∀ σ H Q, t' σ H Q → t σ H Q) : PTs X ifs t' := ⟨fun pins s σ H Q I q => h.run pins s σ H Q I (w σ H Q q)⟩
theorem bxs_nil {X : Cx} : BXs X [] bYes := by
  refine ⟨PTs.imp pts_nil ?_⟩
  rintro σ H Q ⟨ρ, fp, G, Qa, R, h, f⟩
  exact f true H ρ fp R Ext.refl h
theorem bxs_one {X : Cx} {c : Expr} {t : BT} (h : TX X c t) : BXs X [c] t := ⟨pts_one h.pt⟩
def compW (g : GT) (tt : BT) (te : XT) (vs : List Nat) : List T → List T → AEnv → (List T → AEnv → Prop) → Prop
  | [], acc, ρ, Q => Q acc ρ
  | t :: ts, acc, ρ, Q => g t ρ fun ρ1 => tt ρ1 fun b ρ2 => if b = true then te ρ2 fun p ρ3 => take1 p ρ3 fun y ρ4 => compW g tt te vs ts (acc ++ [y]) (wipeA ρ4 vs) Q else compW g tt te vs ts acc (wipeA ρ2 vs) Q
def tComp (ti : IT) (g : GT) (tt : BT) (te : XT) (vs : List Nat) : XT := fun ρ Q => ti ρ fun ts ρ1 => compW g tt te vs ts [] (wipeA ρ1 vs) fun acc ρ2 => Q (.val (.lst acc)) ρ2
theorem lc_go {K : PySem.W.Frag} {ti : IT} {g : GT} {tt : BT} {te : XT} {vs : List Nat} {σ : St} {H : Hp} {Q : VK} (h : LX K (tComp ti g tt te vs) σ H Q) : tLc (LI K ti) (LG K (fun j => !vs.contains j) g) (LT K tt) (LX K te) vs σ H Q := by
  obtain ⟨ρ, fp, G, Qa, R, h, fin⟩ := h
  refine ⟨ρ, fp, G, _, R, h, fun ts J H1 ρ1 fp1 R1 j1 hsz x1 h1 => ?_⟩
  intro D hD
  have nD : D ∉ G := fun m => by obtain ⟨u, e⟩ := R1.gi D m; rw [hD] at e; cases e
  obtain ⟨fp0, R0, i0⟩ := R1.wipe vs
  have R0' : RS K (wipe σ vs) (upd H1 D (.lst [])) (wipeA ρ1 vs) fp0 ([D] ++ G) := R0.new (Pres.upd hD) (fun a m => by rw [List.mem_singleton.mp m]; exact hD) fun a m => ⟨.lst [], by rw [List.mem_singleton.mp m]; exact upd_same⟩
  have x0 : Ext H1 (Fo fp1) (upd H1 D (.lst [])) (Or1 (Fo fp0) [D]) := ((Pres.upd hD).extA (F := Fo fp1) (A := [D]) fun a m => by rw [List.mem_singleton.mp m]; exact hD).weak (fun _ z => z) fun a z => z.imp (i0 a) fun m => m
  refine ⟨fun i m H' => ∃ ρ' fp' va acc, m = ts.length - i ∧ i ≤ ts.length ∧ RS K (wipe σ vs) H' ρ' fp' ([D] ++ G) ∧ H' D = some (.lst va) ∧ RPs K H' (Or1 (Fo fp') ([D] ++ G)) va acc ∧ acc.length ≤ i ∧ Ext H1 (Fo fp1) H' (Or1 (Fo fp') [D]) ∧
    compW g tt te vs (ts.drop i) acc ρ' (fun acc ρ2 => Qa (.val (.lst acc)) ρ2), ⟨_, _, fp0, [], [], rfl, Nat.zero_le _, R0', upd_same, .nil, Nat.le_refl _, x0, h1⟩, ?_⟩
  rintro i m H2 ⟨ρ2, fp2, va, acc, rfl, hi, R2, hD2, ra, la, x2, h2⟩
  obtain ⟨j2, stop⟩ := j1 H2 _ x2
  cases hd : ts.drop i with
  | nil =>
    have e : i = ts.length := by
      have := congrArg List.length hd
      simp at this; omega
    subst e
    rw [hd] at h2
    refine .inl ⟨stop, fin (.ref D) (.val (.lst acc)) [D] H2 ρ2 fp2 R2.unwipe ⟨⟨D, va, rfl, rfl, hD2, ra⟩, by simp, fun a m => by rw [List.mem_singleton.mp m]; exact nD⟩ (x1.trans x2) h2⟩
  | cons t r =>
    obtain ⟨e1, e2, e3⟩ := drop_at hd
    rw [hd] at h2
    obtain ⟨go, yl⟩ := j2 i t e1
    -- what a turn reaches
    refine .inr ⟨go, fun H3 => ∃ ρ3 fp3 va acc, RS K (wipe σ vs) H3 ρ3 fp3 ([D] ++ G) ∧ H3 D = some (.lst va) ∧ RPs K H3 (Or1 (Fo fp3) ([D] ++ G)) va acc ∧ acc.length ≤ i + 1 ∧ Ext H1 (Fo fp1) H3 (Or1 (Fo fp3) [D]) ∧ compW g tt te vs r acc ρ3 (fun acc ρ2 => Qa (.val (.lst acc)) ρ2),
      fun H3 ⟨ρ3, fp3, va, acc, R3, d3, r3, l3, x3, h3⟩ => ⟨_, by omega, ρ3, fp3, va, acc, rfl, e3, R3, d3, r3, l3, x3, by rw [e2]; exact h3⟩, fun x H3 y => ?_⟩
    obtain ⟨pr, rp⟩ := yl x H3 y
    have R3 := R2.pres pr
    have d3 := pr D _ hD2
    have ra3 := RPs.ext (F := Or1 (Fo fp2) ([D] ++ G)) pr.ext ra
    have x3 : Ext H1 (Fo fp1) H3 (Or1 (Fo fp2) [D]) := x2.trans (pr.ext)
    refine ⟨ρ2, fp2, [D] ++ G, _, t, R3, rp.weak fun a z => Or1.app.mp z, h2, fun σ4 ρ4 fp4 R4 i4 p4 l4 h4 => ?_⟩
    have w4 : wipe σ4 vs = wipe σ vs := by
      have := wipe_eq (σ := wipe σ vs) (σ' := σ4) vs (fun j m => p4 j (by simp [m])) l4
      rw [this, wipe_wipe]
    have x4 : Ext H1 (Fo fp1) H3 (Or1 (Fo fp4) [D]) := x3.weak (fun _ z => z) fun a z => z.imp (i4 a) fun m => m
    refine ⟨w4, ρ4, fp4, [D] ++ G, _, R4, h4, fun b H5 ρ5 fp5 R5 x5 h5 => ?_⟩
    have kD : ∀ {H H' : Hp} {f f' : Nat → List Addr} {ρ : AEnv} {σ : St} {A : List Addr}, RS K σ H ρ f ([D] ++ G) → Ext H (Fo f) H' (Or1 (Fo f') A) → ∀ u, H D = some u → H' D = some u := fun R x u e => x.keep D u e (R.gf D (List.mem_append_left _ (List.mem_singleton.mpr rfl)))
    have d5 := kD (A := []) R4 (x5.weak (fun _ z => z) fun a z => z.elim (fun q => q) fun m => (List.not_mem_nil m).elim) _ d3
    have ra5 : RPs K H5 (Or1 (Fo fp5) ([D] ++ G)) va acc := RPs.ext (x5.addG ([D] ++ G)) (RPs.weak ra3 fun a z => z.imp (i4 a) fun m => m)
    have x15 : Ext H1 (Fo fp1) H5 (Or1 (Fo fp5) [D]) := x4.trans (x5.addG [D])
    cases b with
    | false =>
      obtain ⟨fp6, R6, i6⟩ := R5.wipe vs
      rw [w4] at R6
      exact iteF ⟨_, fp6, va, acc, R6, d5, RPs.weak ra5 fun a z => z.imp (i6 a) fun m => m, Nat.le_succ_of_le la, x15.weak (fun _ z => z) fun a z => z.imp (i6 a) fun m => m, by simpa using h5⟩
    | true =>
      refine iteT ⟨ρ5, fp5, [D] ++ G, _, R5, (by simpa using h5), fun v p A H6 ρ6 fp6 R6 r6 x6 h6 => ?_⟩
      obtain ⟨yt, ρ7, fp7, R7, r7, i7, h7⟩ := take1_ok R6 r6 h6
      have d6 := kD R5 x6 _ d5
      have x6' : Ext H5 (Fo fp5) H6 (Fo fp7) := x6.or.weak (fun _ z => z) i7
      have ra6 : RPs K H6 (Or1 (Fo fp7) ([D] ++ G)) va acc := RPs.ext (x6'.addG ([D] ++ G)) ra5
      have x16 : Ext H1 (Fo fp1) H6 (Or1 (Fo fp7) [D]) := x15.trans (x6'.addG [D])
      refine ⟨va, d6, by rw [Paired.len ra6]; omega, ?_⟩
      have R8 : RS K σ4 (upd H6 D (.lst (va ++ [v]))) ρ7 fp7 ([D] ++ G) := RS.write R7 rfl ⟨_, d6, trivial⟩ nD
      have ux : Ext H6 (Or1 (Fo fp7) ([D] ++ G)) (upd H6 D (.lst (va ++ [v]))) (Or1 (Fo fp7) ([D] ++ G)) := upd_ext d6 trivial (.inr (List.mem_append_left _ (List.mem_singleton.mpr rfl))) fun _ z => z
      obtain ⟨fp9, R9, i9⟩ := R8.wipe vs
      rw [w4] at R9
      refine ⟨_, fp9, va ++ [v], acc ++ [yt], R9, upd_same, RPs.weak (RPs.ext ux (Paired.app ra6 (.cons r7 .nil))) fun a z => z.imp (i9 a) fun m => m, by simp; omega, ?_, h7⟩
      exact x16.trans (upd_ext d6 trivial (.inr (List.mem_singleton.mpr rfl)) fun a z => z.imp (i9 a) fun m => m)
section
variable {X : Cx} {elt tg iter : Expr} {ifs : List Expr} {scope : Scope} {own : List (Str × Nat)} {pos : Pos} {ti : IT} {g : GT} {tt : BT} {te : XT}
theorem ex_lc (hc : X.calm = true) (hN : X.N.Nodup) (hi : IX X tg iter ti) (ok : BlkOk X.N X.env.scope scope own)
    (hg : ∀ (s : Shared) (H : Hp) (C : Addr) (cl : List (Str × Addr)) (fp : List Addr), GX (X.blk s H scope (compEnvC scope cl C X.env) fp) (fun j => !(own.map (·.2)).contains j) tg g)
    (ht : ∀ (s : Shared) (H : Hp) (C : Addr) (cl : List (Str × Addr)) (fp : List Addr), BXs (X.blk s H scope (compEnvC scope cl C X.env) fp) ifs tt)
    (he : ∀ (s : Shared) (H : Hp) (C : Addr) (cl : List (Str × Addr)) (fp : List Addr), EX (X.blk s H scope (compEnvC scope cl C X.env) fp) elt te) (hs : ∀ x, foldedSetIterable iter X.env x = pure x := by intro _; rfl) :
    EX X (.ListComp elt [⟨tg, iter, ifs, 0⟩] scope pos) (tComp ti g tt te (own.map (·.2))) :=
  ⟨PE.imp (pe_lc (te := LX X.K te) (tt := LT X.K tt) (g := LG X.K _ g) hc hN hi.pi ok (fun s H C cl fp => (hg s H C cl fp).pg) (fun s H C cl fp => (ht s H C cl fp).pts) (fun s H C cl fp => (he s H C cl fp).pe) hs) fun _ _ _ h => lc_go h⟩
theorem sx_setLc {P : Nat → Bool} {y : Str} {py spos : Pos} (i : Nat) (hc : X.calm = true) (hN : X.N.Nodup) (hy : X.N[i]? = some y) (hyl : X.env.scope.names.lookup y = some .local)
    (hsw : swapsWith (.ListComp elt [⟨tg, iter, ifs, 0⟩] scope pos) (some (.Name y py)) spos.line X.env = pure true) (hi : IX X tg iter ti) (ok : BlkOk X.N X.env.scope scope own)
    (hg : ∀ (s : Shared) (H : Hp) (C : Addr) (cl : List (Str × Addr)) (fp : List Addr), GX (X.blk s H scope (compEnvC scope cl C X.env) fp) (fun j => !(own.map (·.2)).contains j) tg g)
    (ht : ∀ (s : Shared) (H : Hp) (C : Addr) (cl : List (Str × Addr)) (fp : List Addr), BXs (X.blk s H scope (compEnvC scope cl C X.env) fp) ifs tt)
    (he : ∀ (s : Shared) (H : Hp) (C : Addr) (cl : List (Str × Addr)) (fp : List Addr), EX (X.blk s H scope (compEnvC scope cl C X.env) fp) elt te) (hp : P i = false := by rfl) (hs : ∀ x, foldedSetIterable iter X.env x = pure x := by intro _; rfl) :
    SX X P (.Assign [.Name y py] (.ListComp elt [⟨tg, iter, ifs, 0⟩] scope pos) spos) (sSet i (tComp ti g tt te (own.map (·.2)))) := by
  refine ⟨PS.imp (ps_setLc (te := LX X.K te) (tt := LT X.K tt) (g := LG X.K _ g) hc hN hy hyl hsw hi.pi ok (fun s H C cl fp => (hg s H C cl fp).pg) (fun s H C cl fp => (ht s H C cl fp).pts) (fun s H C cl fp => (he s H C cl fp).pe) hs) fun D σ H h => ?_⟩
  have := set_go hp h
  exact lc_go this
end
end DL

set_option Elab.async false
set_option linter.all false
set_option maxRecDepth 100000
set_option maxHeartbeats 4000000
/-! THE DATA LAYER, part 5: defs, their promises, their calls. -/
namespace DL
open PySem PySem.Spec L2
open PyProof.Rows hiding St

/-- what a def does: contents of the parameters in; the answer and the contents of the lent ones out -/
abbrev FSpec := List O → (O → List O → Prop) → Prop
def outsOf : List Bool → Nat → AEnv → Option (List O)
  | [], _, _ => some []
  | false :: fl, i, ρ => outsOf fl (i + 1) ρ
  | true :: fl, i, ρ => match ρ.at i, outsOf fl (i + 1) ρ with
    | some o, some os => some (o :: os)
    | _, _ => none
def putO : List Bool → List O → List O → List O
  | true :: fl, _ :: os, u :: us => u :: putO fl os us
  | false :: fl, o :: os, us => o :: putO fl os us
  | _, os, _ => os
/-- the promise of a def in the data layer; fl: which parameters are lent (changed in place) -/
def ASp (K : PySem.W.Frag) (fl : List Bool) (spec : FSpec) : Sp := fun vs H Q _ => ∃ os fp G Qa, vs.length = fl.length ∧ RS K (vs.map some) H (os.map some) fp G ∧ (∀ i, fl.getD i false = false → fp i = []) ∧ spec os Qa ∧
  ∀ v o A outs H' fp', RS K (vs.map some) H' ((putO fl os outs).map some) fp' (A ++ G) → (∀ i, fl.getD i false = false → fp' i = []) → RO K H' (Or1 (Fo fp') (A ++ G)) v o A → A.Nodup → (∀ a ∈ A, a ∉ G) → Ext H (Fo fp) H' (Or1 (Fo fp') A) →
    outs.length = (fl.filter id).length → Qa o outs → Q v H'

/-! ### lending -/
inductive RCs (K : PySem.W.Frag) (H : Hp) (F : Addr → Prop) : List V → List O → List (List Addr) → Prop
  | nil : RCs K H F [] [] []
  | cons {v : V} {o : O} {B : List Addr} {vs : List V} {os : List O} {Bs : List (List Addr)} : RO K H F v o B → RCs K H F vs os Bs → RCs K H F (v :: vs) (o :: os) (B :: Bs)
/-- where the lent ones come from -/
inductive Lent (σ : St) : List Bool → List V → List (Option Nat) → Prop
  | nil : Lent σ [] [] []
  | no {v : V} {fl : List Bool} {vs : List V} {js : List (Option Nat)} : Lent σ fl vs js → Lent σ (false :: fl) (v :: vs) js
  | own {v : V} {fl : List Bool} {vs : List V} {js : List (Option Nat)} : Lent σ fl vs js → Lent σ (true :: fl) (v :: vs) (none :: js)
  | slot {v : V} {j : Nat} {fl : List Bool} {vs : List V} {js : List (Option Nat)} : σ[j]? = some (some v) → j < σ.length → Lent σ fl vs js → Lent σ (true :: fl) (v :: vs) (some j :: js)
def prep : List Bool → List Opd → AEnv → (List O → List (Option Nat) → AEnv → Prop) → Prop
  | [], [], ρ, Q => Q [] [] ρ
  | true :: fl, .val o :: ps, ρ, Q => prep fl ps ρ fun os js ρ' => Q (o :: os) (none :: js) ρ'
  | true :: fl, .slot j :: ps, ρ, Q => match ρ[j]? with
    | some (some o) => prep fl ps (ρ.set j none) fun os js ρ' => Q (o :: os) (some j :: js) ρ'
    | _ => False
  | false :: fl, p :: ps, ρ, Q => take1 p ρ fun t ρ1 => prep fl ps ρ1 fun os js ρ' => Q (.pure t :: os) js ρ'
  | _, _, _, _ => False
def back : List (Option Nat) → List O → AEnv → AEnv
  | some j :: js, o :: os, ρ => back js os (ρ.set j (some o))
  | none :: js, _ :: os, ρ => back js os ρ
  | _, _, ρ => ρ
def tCallF (fl : List Bool) (spec : FSpec) (ts : XTs) : XT := fun ρ Q => ts ρ fun ps ρ1 => prep fl ps ρ1 fun os js ρ2 => spec os fun o outs => Q (.val o) (back js outs ρ2)

section
variable {K : PySem.W.Frag} {σ : St} {H H1 H' : Hp} {fp : Nat → List Addr} {ρ : AEnv} {v : V} {p : Opd} {o : O} {j : Nat} {A B G : List Addr} {F F' : Addr → Prop}
theorem RCs.weak (w : ∀ a, F' a → F a) {vs : List V} {os : List O} {Bs : List (List Addr)} (h : RCs K H F vs os Bs) : RCs K H F' vs os Bs := by
  induction h with
  | nil => exact .nil
  | cons r _ ih => exact .cons (r.weak w) ih
theorem RCs.len {vs : List V} {os : List O} {Bs : List (List Addr)} (h : RCs K H F vs os Bs) : vs.length = os.length ∧ Bs.length = os.length := by
  induction h with
  | nil => exact ⟨rfl, rfl⟩
  | cons _ _ ih => exact ⟨congrArg (· + 1) ih.1, congrArg (· + 1) ih.2⟩
theorem RCs.at {vs : List V} {os : List O} {Bs : List (List Addr)} (h : RCs K H F vs os Bs) : ∀ (i : Nat) (o : O), os[i]? = some o → ∃ v, vs[i]? = some v ∧ RO K H F v o (Bs.getD i []) := by
  induction h with
  | nil => intro i o e; simp at e
  | cons r _ ih =>
    intro i o e
    cases i with
    | zero => simp at e; subst e; exact ⟨_, rfl, r⟩
    | succ i =>
      obtain ⟨v, h1, h2⟩ := ih i o (by simpa using e)
      exact ⟨v, by simpa using h1, by simpa using h2⟩
theorem prep_ok {ρ0 : AEnv} {vs : List V} {ps : List Opd} (rr : RArgs K σ H F ρ0 vs ps A) : ∀ {fl : List Bool} {ρ : AEnv} {fp : Nat → List Addr} {G : List Addr} {Q : List O → List (Option Nat) → AEnv → Prop}, RS K σ H ρ fp (A ++ G) → (∀ a, Or1 (Fo fp) (A ++ G) a → F a) →
    (∀ a ∈ A, a ∉ G) → A.Nodup → prep fl ps ρ Q →
    ∃ os js ρ' fp' Bs, RS K σ H ρ' fp' (Bs.flatten ++ G) ∧ RCs K H (Or1 (Fo fp') (Bs.flatten ++ G)) vs os Bs ∧ Bs.flatten.Nodup ∧ (∀ a ∈ Bs.flatten, a ∉ G) ∧ (∀ a, Fo fp' a ∨ a ∈ Bs.flatten → Fo fp a ∨ a ∈ A) ∧ Lent σ fl vs js ∧ (∀ i, fl.getD i false = false → Bs.getD i [] = []) ∧ vs.length = fl.length ∧ Q os js ρ' := by
  induction rr with
  | nil =>
    intro fl ρ fp G Q R w hA d h
    cases fl with
    | nil => exact ⟨[], [], ρ, fp, [], R, .nil, .nil, noMem, fun a z => z.imp (fun q => q) fun m => m, .nil, fun i _ => by simp, rfl, h⟩
    | cons f fl => cases f <;> exact h.elim
  | @val v o B A vs ps r rr ih =>
    intro fl ρ fp G Q R w hA d h
    obtain ⟨dB, dA, dBA⟩ := List.nodup_append.mp d
    cases fl with
    | nil => exact h.elim
    | cons f fl =>
      cases f with
      | true =>
        -- own: its addresses join the others'
        have R1 : RS K σ H ρ fp (A ++ (B ++ G)) := R.sub fun a m => by simp only [List.mem_append] at m ⊢; rcases m with m | m | m <;> simp [m]
        obtain ⟨os, js, ρ', fp', Bs, R2, r2, d2, g2, i2, l2, z2, n2, h2⟩ := ih (G := B ++ G) R1 (fun a z => w a (z.imp (fun q => q) fun m => by simp only [List.mem_append] at m ⊢; rcases m with m | m | m <;> simp [m])) (fun a m z => (List.mem_append.mp z).elim (fun z => dBA a z a m rfl) (hA a (List.mem_append_right _ m))) dA h
        have sub : ∀ a, a ∈ (B :: Bs).flatten ++ G → a ∈ Bs.flatten ++ (B ++ G) := fun a m => by simp only [List.flatten_cons, List.mem_append] at m ⊢; rcases m with (m | m) | m <;> simp [m]
        refine ⟨_, _, ρ', fp', B :: Bs, R2.sub sub, .cons ?_ (r2.weak fun a z => z.imp (fun q => q) (sub a)), ?_, fun a m => ?_, fun a z => ?_, .own l2, fun i hi => ?_, congrArg (· + 1) n2, h2⟩
        · refine r.weak fun a z => w a ?_
          rcases z with z | z
          · exact (i2 a (.inl z)).imp (fun q => q) fun m => List.mem_append_left _ (List.mem_append_right _ m)
          · simp only [List.flatten_cons, List.mem_append] at z
            rcases z with (z | z) | z
            · exact .inr (by simp [z])
            · exact (i2 a (.inr z)).imp (fun q => q) fun m => by simp [m]
            · exact .inr (by simp [z])
        · simp only [List.flatten_cons]
          exact List.nodup_append.mpr ⟨dB, d2, fun a m b n e => g2 b n (e ▸ List.mem_append_left _ m)⟩
        · simp only [List.flatten_cons, List.mem_append] at m
          rcases m with m | m
          · exact hA a (List.mem_append_left _ m)
          · exact fun z => g2 a m (List.mem_append_right _ z)
        · simp only [List.flatten_cons, List.mem_append] at z ⊢
          rcases z with z | z | z
          · exact (i2 a (.inl z)).imp (fun q => q) .inr
          · exact .inr (.inl z)
          · exact (i2 a (.inr z)).imp (fun q => q) .inr
        · cases i with
          | zero => simp at hi
          | succ i => simpa using z2 i (by simpa using hi)
      | false =>
        have R1 : RS K σ H ρ fp (A ++ G) := R.sub fun a m => by simp only [List.mem_append] at m ⊢; rcases m with m | m <;> simp [m]
        obtain ⟨os, js, ρ', fp', Bs, R2, r2, d2, g2, i2, l2, z2, n2, h2⟩ := ih R1 (fun a z => w a (z.imp (fun q => q) fun m => by simp only [List.mem_append] at m ⊢; rcases m with m | m <;> simp [m])) (fun a m => hA a (List.mem_append_right _ m)) dA (show prep fl ps ρ _ from h)
        refine ⟨_, _, ρ', fp', [] :: Bs, R2, .cons (ro_pure ?_) r2, d2, g2, fun a z => (i2 a z).imp (fun q => q) (List.mem_append_right _), .no l2, fun i hi => ?_, congrArg (· + 1) n2, h2⟩
        · refine r.frz (fun a z => w a ?_) fun a m z => ?_
          · rcases z with z | z
            · exact (i2 a (.inl z)).imp (fun q => q) fun m => by simp [m]
            · simp only [List.flatten_cons, List.nil_append, List.mem_append] at z
              rcases z with z | z
              · exact (i2 a (.inr z)).imp (fun q => q) fun m => by simp [m]
              · exact .inr (by simp [z])
          · have nB : ¬ (Fo fp a ∨ a ∈ A) := fun z => z.elim (R.gf a (by simp [m])) fun z => dBA a m a z rfl
            rcases z with z | z
            · exact nB (i2 a (.inl z))
            · simp only [List.flatten_cons, List.nil_append, List.mem_append] at z
              rcases z with z | z
              · exact nB (i2 a (.inr z))
              · exact hA a (List.mem_append_left _ m) z
        · cases i with
          | zero => rfl
          | succ i => simpa using z2 i (by simpa using hi)
  | @slot v j A vs ps hv hs rr ih =>
    intro fl ρ fp G Q R w hA d h
    have hjl : j < σ.length := (List.getElem?_eq_some_iff.mp hv).1
    cases fl with
    | nil => exact h.elim
    | cons f fl =>
      cases f with
      | true =>
        simp only [prep] at h
        split at h
        · rename_i o e
          obtain ⟨R1, r1⟩ := R.move e hv
          have dl : ∀ a, Fo (fpSet fp j []) a → Fo fp a := fun a z => z.set.elim (fun q => q) fun m => (List.not_mem_nil m).elim
          have R1' : RS K σ H (ρ.set j none) (fpSet fp j []) (A ++ (fp j ++ G)) := R1.sub fun a m => by simp only [List.mem_append] at m ⊢; rcases m with m | m | m <;> simp [m]
          obtain ⟨os, js, ρ', fp', Bs, R2, r2, d2, g2, i2, l2, z2, n2, h2⟩ := ih (G := fp j ++ G) R1' (fun a z => w a (by
            rcases z with z | z
            · exact .inl (dl a z)
            · simp only [List.mem_append] at z
              rcases z with z | z | z
              · exact .inr (by simp [z])
              · exact .inl ⟨j, z⟩
              · exact .inr (by simp [z]))) (fun a m z => (List.mem_append.mp z).elim (fun z => R.gf a (List.mem_append_left _ m) ⟨j, z⟩) (hA a m)) d h
          have sub : ∀ a, a ∈ (fp j :: Bs).flatten ++ G → a ∈ Bs.flatten ++ (fp j ++ G) := fun a m => by simp only [List.flatten_cons, List.mem_append] at m ⊢; rcases m with (m | m) | m <;> simp [m]
          refine ⟨_, _, ρ', fp', fp j :: Bs, R2.sub sub, .cons ?_ (r2.weak fun a z => z.imp (fun q => q) (sub a)), ?_, fun a m => ?_, fun a z => ?_, .slot hv hjl l2, fun i hi => ?_, congrArg (· + 1) n2, h2⟩
          · refine r1.weak fun a z => ?_
            rcases z with z | z
            · rcases i2 a (.inl z) with y | y
              · exact .inl y
              · exact .inr (by simp [y])
            · simp only [List.flatten_cons, List.mem_append] at z
              rcases z with (z | z) | z
              · exact .inr (by simp [z])
              · rcases i2 a (.inr z) with y | y
                · exact .inl y
                · exact .inr (by simp [y])
              · exact .inr (by simp [z])
          · simp only [List.flatten_cons]
            exact List.nodup_append.mpr ⟨R.nd j, d2, fun a m b n e => g2 b n (e ▸ List.mem_append_left _ m)⟩
          · simp only [List.flatten_cons, List.mem_append] at m
            rcases m with m | m
            · exact fun z => R.gf a (List.mem_append_right _ z) ⟨j, m⟩
            · exact fun z => g2 a m (List.mem_append_right _ z)
          · simp only [List.flatten_cons, List.mem_append] at z ⊢
            rcases z with z | z | z
            · exact (i2 a (.inl z)).imp (dl a) fun m => m
            · exact .inl ⟨j, z⟩
            · exact (i2 a (.inr z)).imp (dl a) fun m => m
          · cases i with
            | zero => simp at hi
            | succ i => simpa using z2 i (by simpa using hi)
        · exact h.elim
      | false =>
        simp only [prep, take1] at h
        split at h
        · rename_i o e
          obtain ⟨R1, q1⟩ := R.freeze e
          have dl : ∀ a, Fo (fpSet fp j []) a → Fo fp a := fun a z => z.set.elim (fun q => q) fun m => (List.not_mem_nil m).elim
          obtain ⟨os, js, ρ', fp', Bs, R2, r2, d2, g2, i2, l2, z2, n2, h2⟩ := ih R1 (fun a z => w a (z.imp (dl a) fun m => m)) hA d h
          refine ⟨_, _, ρ', fp', [] :: Bs, R2, .cons (ro_pure ?_) r2, d2, g2, fun a z => (i2 a z).imp (dl a) fun m => m, .no l2, fun i hi => ?_, congrArg (· + 1) n2, h2⟩
          · refine (q1 _ hv).weak fun a z => ?_
            rcases z with z | z
            · exact (i2 a (.inl z)).imp (fun q => q) fun m => by simp [m]
            · simp only [List.flatten_cons, List.nil_append, List.mem_append] at z
              rcases z with z | z
              · exact (i2 a (.inr z)).imp (fun q => q) fun m => by simp [m]
              · exact .inr (by simp [z])
          · cases i with
            | zero => rfl
            | succ i => simpa using z2 i (by simpa using hi)
        · exact h.elim
theorem mem_flat {Bs : List (List Addr)} {a : Addr} : a ∈ Bs.flatten ↔ ∃ i, a ∈ Bs.getD i [] := by
  constructor
  · intro h
    obtain ⟨B, hB, m⟩ := List.mem_flatten.mp h
    obtain ⟨i, hi, e⟩ := List.getElem_of_mem hB
    exact ⟨i, by rw [List.getD_eq_getElem?_getD, List.getElem?_eq_getElem hi]; simpa [e] using m⟩
  · rintro ⟨i, m⟩
    rw [List.getD_eq_getElem?_getD] at m
    cases e : Bs[i]? with
    | none => rw [e] at m; cases m
    | some B => rw [e] at m; exact List.mem_flatten.mpr ⟨B, List.mem_of_getElem? e, m⟩
theorem flat_dj : ∀ {Bs : List (List Addr)}, Bs.flatten.Nodup → (∀ (i j : Nat) a, a ∈ Bs.getD i [] → a ∈ Bs.getD j [] → i = j) ∧ ∀ i : Nat, (Bs.getD i []).Nodup
  | [], _ => ⟨fun i j a m => by simp at m, fun i => by simp⟩
  | B :: Bs, d => by
    simp only [List.flatten_cons] at d
    obtain ⟨d1, d2, d3⟩ := List.nodup_append.mp d
    obtain ⟨h1, h2⟩ := flat_dj d2
    refine ⟨fun i j a m n => ?_, fun i => ?_⟩
    · cases i with
      | zero =>
        cases j with
        | zero => rfl
        | succ j => exact absurd rfl (d3 a (by simpa using m) a (mem_flat.mpr ⟨j, by simpa using n⟩))
      | succ i =>
        cases j with
        | zero => exact absurd rfl (d3 a (by simpa using n) a (mem_flat.mpr ⟨i, by simpa using m⟩))
        | succ j => exact congrArg (· + 1) (h1 i j a (by simpa using m) (by simpa using n))
    · cases i with
      | zero => simpa using d1
      | succ i => simpa using h2 i
/-- all that the slots own -/
def allFp (ρ : AEnv) (fp : Nat → List Addr) : List Addr := (List.range ρ.length).flatMap fp
theorem RS.all (R : RS K σ H ρ fp G) {a : Addr} : a ∈ allFp ρ fp ↔ Fo fp a := by
  constructor
  · intro h
    obtain ⟨i, _, m⟩ := List.mem_flatMap.mp h
    exact ⟨i, m⟩
  · rintro ⟨i, m⟩
    refine List.mem_flatMap.mpr ⟨i, List.mem_range.mpr ?_, m⟩
    rcases Nat.lt_or_ge i ρ.length with q | q
    · exact q
    · rw [R.non i fun o e => by rw [List.getElem?_eq_none q] at e; cases e] at m
      cases m
/-- the callee's view of its parameters -/
theorem RCs.rs {vs : List V} {os : List O} {Bs : List (List Addr)} {G' : List Addr} (R : RS K σ H ρ fp (Bs.flatten ++ G)) (h : RCs K H (Or1 (Fo fp) (Bs.flatten ++ G)) vs os Bs) (d : Bs.flatten.Nodup) (g : ∀ a ∈ Bs.flatten, a ∉ G) (hG : ∀ a, a ∈ G' ↔ Fo fp a ∨ a ∈ G) :
    RS K (vs.map some) H (os.map some) (fun i => Bs.getD i []) G' := by
  obtain ⟨dj, nd⟩ := flat_dj d
  refine ⟨fun i o e => ?_, fun i e => ?_, dj, nd, fun a m z => ?_, fun a m => ?_, by simp [h.len.1]⟩
  · rw [List.getElem?_map] at e
    cases q : os[i]? with
    | none => rw [q] at e; cases e
    | some o' =>
      rw [q] at e
      cases e
      obtain ⟨v, hv, r⟩ := h.at i _ q
      refine ⟨v, by rw [List.getElem?_map, hv]; rfl, r.weak fun a z => ?_⟩
      rcases z with ⟨k, z⟩ | z
      · exact .inr (List.mem_append_left _ (mem_flat.mpr ⟨k, z⟩))
      · exact ((hG a).mp z).imp (fun q => q) (List.mem_append_right _)
  · rcases Nat.lt_or_ge i os.length with q | q
    · exact absurd (by rw [List.getElem?_map, List.getElem?_eq_getElem q]; rfl) (e os[i])
    · rw [List.getD_eq_getElem?_getD, List.getElem?_eq_none (by rw [h.len.2]; exact q)]; rfl
  · have z' := mem_flat.mpr z
    exact ((hG a).mp m).elim (R.gf a (List.mem_append_left _ z')) (g a z')
  · exact ((hG a).mp m).elim (fun z => let ⟨u, e, _⟩ := R.there a z; ⟨u, e⟩) fun z => R.gi a (List.mem_append_right _ z)
/-- the lent contents come back -/
theorem back_ok {fl : List Bool} {vs : List V} {js : List (Option Nat)} (l : Lent σ fl vs js) : ∀ {os outs : List O} {fc : Nat → List Addr} {G2 : List Addr} {ρ : AEnv} {fp : Nat → List Addr} {W : List Addr},
    RS K (vs.map some) H ((putO fl os outs).map some) fc G2 → os.length = vs.length → outs.length = (fl.filter id).length → RS K σ H ρ fp (W ++ G) → (∀ i a, a ∈ fc i → a ∈ W) → (∀ a ∈ W, a ∉ G) → (∀ a, Fo fp a ∨ a ∈ W ∨ a ∈ G → Fo fc a ∨ a ∈ G2) →
    ∃ fp', RS K σ H (back js outs ρ) fp' G ∧ ∀ a, Fo fp' a → Fo fp a ∨ Fo fc a := by
  induction l with
  | nil => intro os outs fc G2 ρ fp W Rc lo ln R m g w; exact ⟨fp, by cases outs <;> exact R.sub fun a m => List.mem_append_right _ m, fun a z => .inl z⟩
  | @no v fl vs js l ih =>
    intro os outs fc G2 ρ fp W Rc lo ln R m g w
    cases os with
    | nil => simp at lo
    | cons o os =>
      have Rc' : RS K (vs.map some) H ((putO fl os outs).map some) (fun i => fc (i + 1)) (fc 0 ++ G2) := by
        refine ⟨fun i u e => ?_, fun i e => Rc.non (i + 1) fun o z => e o (by simpa [putO] using z), fun i k a m n => by have := Rc.dj _ _ a m n; omega, fun i => Rc.nd _, fun a m ⟨i, z⟩ => ?_, fun a m => ?_, by have := Rc.len; simp [putO] at this ⊢; omega⟩
        · obtain ⟨x, hx, r⟩ := Rc.ex (i + 1) u (by simpa [putO] using e)
          exact ⟨x, by simpa using hx, r.weak fun a z => z.elim (fun ⟨k, z⟩ => .inl ⟨k + 1, z⟩) fun z => (List.mem_append.mp z).elim (fun z => .inl ⟨0, z⟩) .inr⟩
        · rcases List.mem_append.mp m with m | m
          · have := Rc.dj _ _ a m z; omega
          · exact Rc.gf a m ⟨i + 1, z⟩
        · exact (List.mem_append.mp m).elim (fun m => let ⟨u, e, _⟩ := Rc.there a ⟨0, m⟩; ⟨u, e⟩) (Rc.gi a)
      obtain ⟨fp', R', i'⟩ := ih Rc' (by simpa using lo) (by simpa using ln) R (fun i a n => m (i + 1) a n) g fun a z => (w a z).elim (fun ⟨k, z⟩ => by
        cases k with
        | zero => exact .inr (List.mem_append_left _ z)
        | succ k => exact .inl ⟨k, z⟩) fun z => .inr (List.mem_append_right _ z)
      exact ⟨fp', R', fun a z => (i' a z).imp (fun q => q) fun ⟨k, z⟩ => ⟨k + 1, z⟩⟩
  | @own v fl vs js l ih =>
    intro os outs fc G2 ρ fp W Rc lo ln R m g w
    cases os with
    | nil => simp at lo
    | cons o os =>
      cases outs with
      | nil => simp at ln
      | cons u outs =>
        have Rc' : RS K (vs.map some) H ((putO fl os outs).map some) (fun i => fc (i + 1)) (fc 0 ++ G2) := by
          refine ⟨fun i u e => ?_, fun i e => Rc.non (i + 1) fun o z => e o (by simpa [putO] using z), fun i k a m n => by have := Rc.dj _ _ a m n; omega, fun i => Rc.nd _, fun a m ⟨i, z⟩ => ?_, fun a m => ?_, by have := Rc.len; simp [putO] at this ⊢; omega⟩
          · obtain ⟨x, hx, r⟩ := Rc.ex (i + 1) u (by simpa [putO] using e)
            exact ⟨x, by simpa using hx, r.weak fun a z => z.elim (fun ⟨k, z⟩ => .inl ⟨k + 1, z⟩) fun z => (List.mem_append.mp z).elim (fun z => .inl ⟨0, z⟩) .inr⟩
          · rcases List.mem_append.mp m with m | m
            · have := Rc.dj _ _ a m z; omega
            · exact Rc.gf a m ⟨i + 1, z⟩
          · exact (List.mem_append.mp m).elim (fun m => let ⟨u, e, _⟩ := Rc.there a ⟨0, m⟩; ⟨u, e⟩) (Rc.gi a)
        obtain ⟨fp', R', i'⟩ := ih Rc' (by simpa using lo) (by simpa using ln) R (fun i a n => m (i + 1) a n) g fun a z => (w a z).elim (fun ⟨k, z⟩ => by
          cases k with
          | zero => exact .inr (List.mem_append_left _ z)
          | succ k => exact .inl ⟨k, z⟩) fun z => .inr (List.mem_append_right _ z)
        exact ⟨fp', R', fun a z => (i' a z).imp (fun q => q) fun ⟨k, z⟩ => ⟨k + 1, z⟩⟩
  | @slot v j fl vs js hv hj l ih =>
    intro os outs fc G2 ρ fp W Rc lo ln R m g w
    cases os with
    | nil => simp at lo
    | cons o os =>
      cases outs with
      | nil => simp at ln
      | cons u outs =>
        have Rc' : RS K (vs.map some) H ((putO fl os outs).map some) (fun i => fc (i + 1)) (fc 0 ++ G2) := by
          refine ⟨fun i u e => ?_, fun i e => Rc.non (i + 1) fun o z => e o (by simpa [putO] using z), fun i k a m n => by have := Rc.dj _ _ a m n; omega, fun i => Rc.nd _, fun a m ⟨i, z⟩ => ?_, fun a m => ?_, by have := Rc.len; simp [putO] at this ⊢; omega⟩
          · obtain ⟨x, hx, r⟩ := Rc.ex (i + 1) u (by simpa [putO] using e)
            exact ⟨x, by simpa using hx, r.weak fun a z => z.elim (fun ⟨k, z⟩ => .inl ⟨k + 1, z⟩) fun z => (List.mem_append.mp z).elim (fun z => .inl ⟨0, z⟩) .inr⟩
          · rcases List.mem_append.mp m with m | m
            · have := Rc.dj _ _ a m z; omega
            · exact Rc.gf a m ⟨i + 1, z⟩
          · exact (List.mem_append.mp m).elim (fun m => let ⟨u, e, _⟩ := Rc.there a ⟨0, m⟩; ⟨u, e⟩) (Rc.gi a)
        obtain ⟨v', hv', r⟩ := Rc.ex 0 u (by simp [putO])
        have ev : v' = v := by simpa using hv'.symm
        subst ev
        -- slot j is filled
        let W' := W.filter fun a => decide (a ∉ fc 0)
        have mW' : ∀ a, a ∈ W' ↔ a ∈ W ∧ a ∉ fc 0 := fun a => by simp [W']
        have R1 : RS K σ H ρ fp (fc 0 ++ (W' ++ G)) := R.sub fun a z => by
          simp only [List.mem_append] at z ⊢
          rcases z with z | z | z
          · exact .inl (m 0 a z)
          · exact .inl ((mW' a).mp z).1
          · exact .inr z
        have hjr : j < ρ.length := by rw [R.len]; exact hj
        have R2 := R1.upd (j := j) (σ' := σ) (o := u) (v := v') (fun a z y => by
          simp only [List.mem_append] at y
          rcases y with y | y
          · exact ((mW' a).mp y).2 z
          · exact g a (m 0 a z) y) (Rc.nd 0) hjr (fun i v _ h => h) hv rfl (r.weak fun a z => by
          have : Fo fp a ∨ a ∈ W ∨ a ∈ G := by
            rcases z with z | z
            · exact z.set.elim .inl fun z => .inr (.inl (m 0 a z))
            · simp only [List.mem_append] at z
              rcases z with z | z
              · exact .inr (.inl ((mW' a).mp z).1)
              · exact .inr (.inr z)
          exact w a this)
        obtain ⟨fp', R', i'⟩ := ih Rc' (by simpa using lo) (by simpa using ln) R2 (fun i a n => (mW' a).mpr ⟨m (i + 1) a n, fun z => by have := Rc.dj _ _ a n z; omega⟩) (fun a z => g a ((mW' a).mp z).1) fun a z => by
          have : Fo fc a ∨ a ∈ G2 := by
            rcases z with z | z | z
            · rcases z.set with z | z
              · exact w a (.inl z)
              · exact .inl ⟨0, z⟩
            · exact w a (.inr (.inl ((mW' a).mp z).1))
            · exact w a (.inr (.inr z))
          rcases this with ⟨k, z⟩ | z
          · cases k with
            | zero => exact .inr (List.mem_append_left _ z)
            | succ k => exact .inl ⟨k, z⟩
          · exact .inr (List.mem_append_right _ z)
        exact ⟨fp', R', fun a z => (i' a z).elim (fun z => z.set.elim .inl fun z => .inr ⟨0, z⟩) fun ⟨k, z⟩ => .inr ⟨k + 1, z⟩⟩
end
end DL

set_option Elab.async false
set_option linter.all false
set_option maxRecDepth 100000
set_option maxHeartbeats 4000000
/-! THE DATA LAYER, part 6: a call of a def; a def keeps its promise. -/
namespace DL
open PySem PySem.Spec L2
open PyProof.Rows hiding St

section
variable {X : Cx} {k : Nat} {f : Addr} {fd : FuncData} {ps : List Str} {x : Str} {p pos : Pos} {e : Expr} {es : List Expr} {ts : XTs} {fl : List Bool} {spec : FSpec}
theorem callF_go {K : PySem.W.Frag} {n : Nat} {σ : St} {H : Hp} {Q : VK} {E : XK} (h : LX K (tCallF fl spec ts) σ H Q) : tCall (ASp K fl spec) [] E (LA K n ts) σ H Q := by
  obtain ⟨ρ, fp, G, Qa, R, h, fin⟩ := h
  refine ⟨ρ, fp, G, _, R, h, fun vs ps A H1 ρ1 fp1 hl R1 r1 nd1 ng1 x1 h1 => ?_⟩
  obtain ⟨os, js, ρ2, fp2, Bs, R2, r2, d2, g2, i2, l2, z2, n2, h2⟩ := prep_ok r1 R1 (fun a z => z) ng1 nd1 h1
  rw [List.append_nil]
  have hG : ∀ a, a ∈ allFp ρ2 fp2 ++ G ↔ Fo fp2 a ∨ a ∈ G := fun a => by rw [List.mem_append, R2.all]
  refine ⟨os, fun i => Bs.getD i [], allFp ρ2 fp2 ++ G, _, n2, RCs.rs R2 r2 d2 g2 hG, z2, h2, fun v o A' outs H' fp' R' z' ro nd' ng' x' lo q => ?_⟩
  have fa : ∀ a, a ∈ allFp ((putO fl os outs).map some) fp' ↔ Fo fp' a := fun a => R'.all
  generalize hW : allFp ((putO fl os outs).map some) fp' = W at fa
  have xs : Ext H1 (· ∈ Bs.flatten) H' (· ∈ W ++ A') := x'.weak (fun a z => mem_flat.mpr z) fun a m => (List.mem_append.mp m).elim (fun m => .inl ((fa a).mp m)) .inr
  have R3 : RS K σ H' ρ2 fp2 ((W ++ A') ++ G) := R2.thru xs (fun a m z => g2 a z m) fun a m => (List.mem_append.mp m).elim (fun m => let ⟨u, e, _⟩ := R'.there a ((fa a).mp m); ⟨u, e⟩) fun m => let ⟨u, e, _⟩ := ro.there a m; ⟨u, e⟩
  obtain ⟨fp3, R4, i3⟩ := back_ok l2 (G := A' ++ G) R' (by rw [← r2.len.1]) lo (by rw [List.append_assoc] at R3; exact R3) (fun i a m => (fa a).mpr ⟨i, m⟩) (fun a m z => R'.gf a (by
      simp only [List.mem_append] at z ⊢
      rcases z with z | z
      · exact .inl z
      · exact .inr (.inr z)) ((fa a).mp m)) (fun a z => by
      rcases z with z | z | z
      · exact .inr (List.mem_append_right _ ((hG a).mpr (.inl z)))
      · exact .inl ((fa a).mp z)
      · simp only [List.mem_append] at z ⊢
        rcases z with z | z
        · exact .inr (.inl z)
        · exact .inr (.inr (.inr z)))
  refine fin v (.val o) A' H' _ fp3 R4 ⟨ro.weak fun a z => ?_, nd', fun a m z => ng' a m (List.mem_append_right _ z)⟩ (x1.trans ((x'.addP (Fo fp2)).weak (fun a z => ?_) fun a z => ?_)) q
  · rcases z with z | z
    · rcases i3 a z with z | z
      · exact .inr (List.mem_append_right _ ((hG a).mpr (.inl z)))
      · exact .inl z
    · simp only [List.mem_append] at z ⊢
      rcases z with z | z
      · exact .inr (by simp [z])
      · exact .inr (by simp [z])
  · exact (i2 a (z.imp (fun q => q) fun z => mem_flat.mpr z))
  · rcases z with z | z
    · exact (i3 a z).imp (fun q => q) .inl
    · exact .inr (.inr z)
theorem ex_callF (F : FnOk X.prog X.w X.K X.mg X.base CX0 k f fd ps (ASp X.K fl spec)) (hr : Room k X.A) (hg : Gl X x) (hm : X.mg x = some (.ref f)) (hk : PySem.W.keepIn X.K (.ref f) = true) (hb : Binds X.K fd ps [])
    (ha : EXs X (e :: es) ts) (hdb : (x == ("__debug__" : Str)) = false := by decide) (he : starEach (e :: es) X.env = (false, eval e X.env) :: starEach es X.env := by rfl) (hpl : (backTo pos (starEach es X.env)).any (·.1) = false := by rfl) :
    EX X (.Call (.Name x p) (e :: es) [] pos) (tCallF fl spec ts) := ⟨PE.imp (pe_call F hr hg hm hk hb .nil pass0 ha.pa hdb he hpl) fun _ _ _ h => callF_go h⟩
end

/-! ### a def keeps its promise -/
def startA (n : Nat) (os : List O) : AEnv := os.map some ++ List.replicate (n - os.length) none
def endO (fl : List Bool) (ρ : AEnv) (Q : List O → Prop) : Prop := match outsOf fl 0 ρ with
  | some outs => Q outs
  | none => False
def endsOf (fl : List Bool) (Qa : O → List O → Prop) : AEnds := { nx := fun ρ => endO fl ρ (Qa (.pure .none)), rt := fun o ρ => endO fl ρ (Qa o) }
theorem outs_len : ∀ {fl : List Bool} {i : Nat} {ρ : AEnv} {outs : List O}, outsOf fl i ρ = some outs → outs.length = (fl.filter id).length
  | [], _, _, _, h => by cases h; rfl
  | false :: fl, i, ρ, outs, h => by simpa using outs_len (fl := fl) (i := i + 1) h
  | true :: fl, i, ρ, outs, h => by
    unfold outsOf at h
    split at h
    · rename_i o os e1 e2
      cases h
      simpa using outs_len e2
    · cases h
theorem putO_at : ∀ {fl : List Bool} {i : Nat} {ρ : AEnv} {os outs : List O}, outsOf fl i ρ = some outs → os.length = fl.length → (putO fl os outs).length = os.length ∧ ∀ (j : Nat), (fl.getD j false = true → (putO fl os outs)[j]? = ρ.at (i + j)) ∧ (fl.getD j false = false → (putO fl os outs)[j]? = os[j]?)
  | [], i, ρ, os, outs, h, hl => by
    have : os = [] := List.eq_nil_of_length_eq_zero hl
    subst this
    exact ⟨rfl, fun j => ⟨fun z => by simp at z, fun _ => rfl⟩⟩
  | false :: fl, i, ρ, [], outs, h, hl => by simp at hl
  | true :: fl, i, ρ, [], outs, h, hl => by simp at hl
  | false :: fl, i, ρ, o :: os, outs, h, hl => by
    obtain ⟨h1, h2⟩ := putO_at (fl := fl) (i := i + 1) (os := os) h (by simpa using hl)
    refine ⟨by simp [putO, h1], fun j => ?_⟩
    cases j with
    | zero => exact ⟨fun z => by simp at z, fun _ => rfl⟩
    | succ j => simpa [putO, Nat.add_assoc, Nat.add_comm 1 j] using h2 j
  | true :: fl, i, ρ, o :: os, outs, h, hl => by
    unfold outsOf at h
    split at h
    · rename_i u us e1 e2
      cases h
      obtain ⟨h1, h2⟩ := putO_at (os := os) e2 (by simpa using hl)
      refine ⟨by simp [putO, h1], fun j => ?_⟩
      cases j with
      | zero => exact ⟨fun _ => by simp [putO, e1], fun z => by simp at z⟩
      | succ j => simpa [putO, Nat.add_assoc, Nat.add_comm 1 j] using h2 j
    · cases h
theorem get_pad {α : Type} {l : List (Option α)} {m i : Nat} {o : α} : (l ++ List.replicate m none)[i]? = some (some o) ↔ l[i]? = some (some o) := by
  rcases Nat.lt_or_ge i l.length with h | h
  · rw [List.getElem?_append_left h]
  · rw [List.getElem?_append_right h, List.getElem?_replicate, List.getElem?_eq_none h]
    constructor
    · intro z; split at z <;> cases z
    · intro z; cases z
section
variable {P : Program} {w : World} {K : PySem.W.Frag} {mg : Str → Option Value} {base : Heap} {x qual : Str} {params : Arguments} {body : List Stmt} {scope : Scope} {f : Addr} {fd : FuncData}
def fpc (fl : List Bool) (fp : Nat → List Addr) : Nat → List Addr := fun i => if fl.getD i false = true then fp i else []
theorem fpc_t {fl : List Bool} {fp : Nat → List Addr} {i : Nat} (h : fl.getD i false = true) : fpc fl fp i = fp i := by unfold fpc; rw [if_pos h]
theorem fpc_f {fl : List Bool} {fp : Nat → List Addr} {i : Nat} (h : fl.getD i false = false) : fpc fl fp i = [] := by unfold fpc; rw [if_neg (by rw [h]; decide)]
theorem fpc_mem {fl : List Bool} {fp : Nat → List Addr} {i : Nat} {a : Addr} (m : a ∈ fpc fl fp i) : a ∈ fp i := by
  unfold fpc at m
  split at m
  · exact m
  · cases m
theorem def_body {N ps : List Str} {spec : FSpec} (fl : List Bool) (tb : ST) (S : FnScope N ps scope) (rd : ∀ os Qa, os.length = fl.length → spec os Qa → tb (endsOf fl Qa) (startA N.length os)) {vs : List V} {H : Hp} {Q : VK} {E : XK} (h : ASp K fl spec vs H Q E) :
    LS K (fun j => fl.getD j false) tb { nx := fun _ H' => Q .non H', rt := Q } (L2.start N vs) H := by
  obtain ⟨os, fp, G, Qa, hl, R, z, hs, fin⟩ := h
  have hlo : os.length = vs.length := by simpa using R.len
  have R0 : RS K (L2.start N vs) H (startA N.length os) fp G := by
    unfold L2.start startA
    refine ⟨fun i o e => ?_, fun i e => R.non i fun o y => e o (get_pad.mpr y), R.dj, R.nd, R.gf, R.gi, by simp [hlo]⟩
    obtain ⟨v, hv, r⟩ := R.ex i o (get_pad.mp e)
    exact ⟨v, get_pad.mpr hv, r⟩
  have done : ∀ v o A σ' H' ρ' fp', RS K σ' H' ρ' fp' (A ++ G) → RO K H' (Or1 (Fo fp') (A ++ G)) v o A → A.Nodup → (∀ a ∈ A, a ∉ G) → Ext H (Fo fp) H' (Or1 (Fo fp') A) → PinEq (fun j => fl.getD j false) (L2.start N vs) σ' → endO fl ρ' (Qa o) → Q v H' := by
    intro v o A' σ' H' ρ' fp' R' ro nd ng x' pe hq
    unfold endO at hq
    split at hq
    · rename_i outs eo
      obtain ⟨q1, q2⟩ := putO_at (os := os) eo (by rw [hlo, hl])
      have sub : ∀ a, Fo (fpc fl fp') a → Fo fp' a := fun a ⟨i, m⟩ => ⟨i, fpc_mem m⟩
      refine fin v o A' outs H' (fpc fl fp') ?_ (fun i e => fpc_f e) (ro.weak fun a y => y.imp (sub a) fun m => m) nd ng ?_ (outs_len eo) hq
      · refine ⟨fun i u e => ?_, fun i e => ?_, fun i j a m n => R'.dj i j a (fpc_mem m) (fpc_mem n), fun i => ?_, fun a m y => R'.gf a m (sub a y), R'.gi, by simp [q1, hlo]⟩
        · rw [List.getElem?_map] at e
          cases g : (putO fl os outs)[i]? with
          | none => rw [g] at e; cases e
          | some u' =>
            rw [g] at e
            cases e
            cases b : fl.getD i false with
            | true =>
              have g2 := ((q2 i).1 b).symm.trans g
              rw [Nat.zero_add] at g2
              obtain ⟨y, hy, r⟩ := R'.ex i _ (AEnv.at_iff g2)
              have hp := pe i b
              rw [hp] at hy
              unfold L2.start at hy
              exact ⟨y, get_pad.mp hy, by rw [fpc_t b]; exact r.weak fun a y => y.imp (sub a) fun m => m⟩
            | false =>
              have g2 := ((q2 i).2 b).symm.trans g
              obtain ⟨y, hy, r⟩ := R.ex i _ (by rw [List.getElem?_map, g2]; rfl)
              rw [z i b] at r
              refine ⟨y, hy, ?_⟩
              rw [fpc_f b]
              exact (r.ext (x'.addG G) noMem).weak fun a y => y.elim (fun y => .inl (.inl (sub a y))) fun m => (List.mem_append.mp m).elim (fun m => .inl (.inr m)) .inr
        · cases b : fl.getD i false with
          | false => exact fpc_f b
          | true =>
            rw [fpc_t b]
            refine R'.non i fun o y => ?_
            have hi : i < (putO fl os outs).length := by
              rw [q1, hlo, hl]
              rcases Nat.lt_or_ge i fl.length with h | h
              · exact h
              · rw [List.getD_eq_getElem?_getD, List.getElem?_eq_none h] at b; cases b
            exact e _ (by rw [List.getElem?_map, List.getElem?_eq_getElem hi]; rfl)
        · cases b : fl.getD i false with
          | false => rw [fpc_f b]; exact .nil
          | true => rw [fpc_t b]; exact R'.nd i
      · exact x'.weak (fun _ y => y) fun a y => y.imp (sub a) fun m => m
    · exact hq.elim
  refine ⟨startA N.length os, fp, G, endsOf fl Qa, R0, rd os Qa (by rw [hlo, hl]) hs, fun σ' H' ρ' fp' R' x' pe hq => ?_, fun _ _ _ _ _ _ _ hq => hq.elim, fun _ _ _ _ _ _ _ hq => hq.elim, done⟩
  exact done .non (.pure .none) [] σ' H' ρ' fp' R' (ro_pure RP.non) .nil noMem (x'.weak (fun _ y => y) fun a y => y.elim (fun q => q) fun m => (List.not_mem_nil m).elim) pe hq
theorem fna_ok {N ps : List Str} {k : Nat} {spec : FSpec} (fl : List Bool) (tb : ST) (F : FunD K x qual params body scope [] [] f fd) (S : FnScope N ps scope) (hfl : fl.length = ps.length)
    (hbody : ∀ (cdv : Value) (A : Around) (outer : List Env) (s : Shared) (H : Hp) (E : XK), Room k (A.deeper (envOfC qual scope s.heap.objs.size f cdv)) →
      SXs (cxOf CX0 P w K mg base N qual scope f cdv A outer s H E).nox (fun j => fl.getD j false) body tb)
    (rd : ∀ os Qa, os.length = fl.length → spec os Qa → tb (endsOf fl Qa) (startA N.length os)) : FnOk P w K mg base CX0 (k + 1) f fd ps (ASp K fl spec) := by
  refine F.ok S (fun vs H Q E h => ?_) fun cdv A outer s H vs Q E hr h => ⟨LS K (fun j => fl.getD j false) tb, PSs.nox (hbody cdv A outer s H E hr).pss, def_body fl tb S rd h⟩
  obtain ⟨os, fp, G, Qa, h, _⟩ := h
  rw [h, hfl]
end
end DL

set_option Elab.async false
set_option linter.all false
set_option maxRecDepth 100000
set_option maxHeartbeats 4000000
/-! THE DATA LAYER, part 7: what is walked. -/
namespace DL
open PySem PySem.Spec L2
open PyProof.Rows hiding St

section
variable {K : PySem.W.Frag} {H H' : Hp} {F F' : Addr → Prop} {G : List Addr} {a b : Addr} {vs us : List V} {ts rs : List T}
/-- a list that stands: it is not F's, or it is of the written part -/
def StL (K : PySem.W.Frag) (H : Hp) (F : Addr → Prop) (a : Addr) (vs : List V) : Prop :=
  (Rd H a (.lst vs) ∧ ¬ F a) ∨ ∃ (o : Obj) (its : Array Value) (n : Nat), K.lookup a = some o ∧ o.cls = .type "list" ∧ o.dict = none ∧ o.data = .seq its n ∧ its.size ≤ sizeLine ∧ Vals vs its.toList
theorem StL.sq (h : StL K H F a vs) : SqL K H a vs := h.imp (fun h => h.1) fun h => h
theorem StL.ext (h : StL K H F a vs) (x : Ext H F H' F') : StL K H' F' a vs := by
  rcases h with ⟨h, n⟩ | h
  · refine .inl ⟨Rd.keepE x h n, fun z => (x.new a z).elim n fun q => ?_⟩
    obtain ⟨o, e⟩ := DL.Rd.some h
    rw [q] at e; cases e
  · exact .inr h
theorem RP.stL {v : V} (h : RP K H (Or1 F G) v (.list ts)) : ∃ a vs, v = .ref a ∧ StL K H F a vs ∧ RPs K H (Or1 F G) vs ts := by
  obtain ⟨as, r, n⟩ := h
  cases r with
  | lst h r => exact ⟨_, _, rfl, .inl ⟨h, fun z => n _ List.mem_cons_self (.inl z)⟩, RPs.of r fun a m => n a (List.mem_cons_of_mem _ m)⟩
  | lstK h1 h2 h3 h4 h5 h6 r => exact ⟨_, _, rfl, .inr ⟨_, _, _, h1, h2, h3, h4, h5, h6⟩, RPs.of r n⟩
theorem RPs.extG (x : Ext H F H' F') (r : RPs K H (Or1 F G) vs ts) : RPs K H' (Or1 F' G) vs ts := RPs.ext (x.addG G) r
theorem jok_list (h : StL K H F a vs) (r : RPs K H (Or1 F G) vs ts) : JOk K (Itl K a) ts H F G := by
  intro H' F' x
  have h' := (h.ext x).sq
  have r' := RPs.extG x r
  refine ⟨fun i t e => ?_, ⟨vs, h', Nat.le_of_eq (Paired.len r')⟩⟩
  obtain ⟨v, hv, rv⟩ := Paired.at r' e
  refine ⟨⟨vs, v, h', hv⟩, fun x H'' y => ?_⟩
  obtain ⟨rfl, y⟩ := y
  have e2 := y vs h'
  rw [hv] at e2; cases e2
  exact ⟨Pres.refl, rv⟩
theorem jok_tup (h : SqT K H a vs) (r : RPs K H (Or1 F G) vs ts) : JOk K (Itt K a) ts H F G := by
  intro H' F' x
  have h' := SqT.keepE x h
  have r' := RPs.extG x r
  refine ⟨fun i t e => ?_, ⟨vs, h', Nat.le_of_eq (Paired.len r')⟩⟩
  obtain ⟨v, hv, rv⟩ := Paired.at r' e
  refine ⟨⟨vs, v, h', hv⟩, fun x H'' y => ?_⟩
  obtain ⟨rfl, y⟩ := y
  have e2 := y vs h'
  rw [hv] at e2; cases e2
  exact ⟨Pres.refl, rv⟩
def strItems (x : Str) : List T := x.cps.toList.map fun c => .str ⟨#[c]⟩
theorem jok_str (x : Str) : JOk K (Its x) (strItems x) H F G := by
  intro H' F' _
  refine ⟨fun i t e => ?_, by unfold strItems; simp [Its]⟩
  unfold strItems at e
  rw [List.getElem?_map] at e
  have hi : i < x.cps.size := by
    rcases Nat.lt_or_ge i x.cps.size with h | h
    · exact h
    · rw [List.getElem?_eq_none (by simpa using h)] at e; cases e
  refine ⟨hi, fun v H'' y => ?_⟩
  obtain ⟨rfl, c, hc, rfl⟩ := y
  have e2 : x.cps.toList[i]? = some c := by simpa using hc
  rw [e2] at e
  cases e
  exact ⟨Pres.refl, RP.str _⟩
def rngItems (lo : Int) (n : Nat) : List T := (List.range n).map fun (i : Nat) => .int (lo + i)
theorem jok_range (lo : Int) (n : Nat) : JOk K (Itr lo n) (rngItems lo n) H F G := by
  intro H' F' _
  refine ⟨fun i t e => ?_, by unfold rngItems; simp [Itr]⟩
  unfold rngItems at e
  rw [List.getElem?_map] at e
  have hi : i < n := by
    rcases Nat.lt_or_ge i n with h | h
    · exact h
    · rw [List.getElem?_eq_none (by simpa using h)] at e; cases e
  refine ⟨hi, fun v H'' y => ?_⟩
  obtain ⟨rfl, rfl⟩ := y
  rw [List.getElem?_range hi] at e
  cases e
  exact ⟨Pres.refl, RP.int _⟩
def enumItems (ts : List T) : List T := (List.range ts.length).zipWith (fun (i : Nat) t => .tuple [.int i, t]) ts
def zipItems (ts rs : List T) : List T := List.zipWith (fun t r => .tuple [t, r]) ts rs
theorem RP.newTup {H : Hp} {F : Addr → Prop} {p : Addr} {vs : List V} {ts : List T} (n : H p = none) (r : RPs K H F vs ts) : RP K (upd H p (.tup vs)) F (.ref p) (.tuple ts) :=
  RP.tup (SqT.of upd_same) (RPs.ext (Pres.upd n).ext r)
theorem jok_enum (h : StL K H F a vs) (r : RPs K H (Or1 F G) vs ts) : JOk K (Ite K a) (enumItems ts) H F G := by
  intro H' F' x
  have h' := (h.ext x).sq
  have r' := RPs.extG x r
  have hl : (enumItems ts).length = ts.length := by unfold enumItems; simp
  refine ⟨fun i t e => ?_, ⟨vs, h', by rw [hl]; exact Nat.le_of_eq (Paired.len r')⟩⟩
  unfold enumItems at e
  rw [List.getElem?_zipWith] at e
  have hi : i < ts.length := by
    rcases Nat.lt_or_ge i ts.length with h | h
    · exact h
    · rw [List.getElem?_eq_none (l := ts) h] at e
      split at e
      · rename_i q; cases q
      · cases e
  rw [List.getElem?_range hi] at e
  obtain ⟨v, hv, rv⟩ := Paired.at r' (List.getElem?_eq_getElem hi)
  rw [List.getElem?_eq_getElem hi] at e
  simp only [Option.some.injEq] at e
  subst e
  refine ⟨⟨vs, v, h', hv⟩, fun x H'' y => ?_⟩
  obtain ⟨T, u, rfl, hn, rfl, y⟩ := y
  have e2 := y vs h'
  rw [hv] at e2; cases e2
  exact ⟨Pres.upd hn, RP.newTup hn (.cons (RP.int _) (.cons rv .nil))⟩
theorem zip_at {α β γ : Type} {f : α → β → γ} {xs : List α} {ys : List β} {i : Nat} {z : γ} (e : (List.zipWith f xs ys)[i]? = some z) : ∃ x y, xs[i]? = some x ∧ ys[i]? = some y ∧ f x y = z := by
  rw [List.getElem?_zipWith] at e
  split at e
  · rename_i x y e1 e2; exact ⟨x, y, e1, e2, Option.some.inj e⟩
  · cases e
theorem jok_zip (h : StL K H F a vs) (r : RPs K H (Or1 F G) vs ts) (h2 : StL K H F b us) (r2 : RPs K H (Or1 F G) us rs) : JOk K (Itz K a b) (zipItems ts rs) H F G := by
  intro H' F' x
  have h' := (h.ext x).sq
  have r' := RPs.extG x r
  have h2' := (h2.ext x).sq
  have r2' := RPs.extG x r2
  refine ⟨fun i t e => ?_, ⟨vs, us, h', h2', by unfold zipItems; rw [List.length_zipWith, Paired.len r', Paired.len r2']; omega⟩⟩
  obtain ⟨p, q, e1, e2, rfl⟩ := zip_at e
  obtain ⟨v, hv, rv⟩ := Paired.at r' e1
  obtain ⟨u, hu, ru⟩ := Paired.at r2' e2
  refine ⟨⟨vs, us, v, u, h', h2', hv, hu⟩, fun x H'' y => ?_⟩
  obtain ⟨T, x1, x2, rfl, hn, rfl, y1, y2⟩ := y
  have z1 := y1 vs h'
  rw [hv] at z1; cases z1
  have z2 := y2 us h2'
  rw [hu] at z2; cases z2
  exact ⟨Pres.upd hn, RP.newTup hn (.cons rv (.cons ru .nil))⟩
theorem jok_zipT (h : SqT K H a vs) (r : RPs K H (Or1 F G) vs ts) (h2 : SqT K H b us) (r2 : RPs K H (Or1 F G) us rs) : JOk K (RZ.ItzT K a b) (zipItems ts rs) H F G := by
  intro H' F' x
  have h' := SqT.keepE x h
  have r' := RPs.extG x r
  have h2' := SqT.keepE x h2
  have r2' := RPs.extG x r2
  refine ⟨fun i t e => ?_, ⟨vs, us, h', h2', by unfold zipItems; rw [List.length_zipWith, Paired.len r', Paired.len r2']; omega⟩⟩
  obtain ⟨p, q, e1, e2, rfl⟩ := zip_at e
  obtain ⟨v, hv, rv⟩ := Paired.at r' e1
  obtain ⟨u, hu, ru⟩ := Paired.at r2' e2
  refine ⟨⟨vs, us, v, u, h', h2', hv, hu⟩, fun x H'' y => ?_⟩
  obtain ⟨T, x1, x2, rfl, hn, rfl, y1, y2⟩ := y
  have z1 := y1 vs h'
  rw [hv] at z1; cases z1
  have z2 := y2 us h2'
  rw [hu] at z2; cases z2
  exact ⟨Pres.upd hn, RP.newTup hn (.cons rv (.cons ru .nil))⟩
end

/-! ### the rules -/
/-- a list, a tuple, a text -/
def iAny (K : PySem.W.Frag) (tl : TE) : TI := fun σ H R => tl σ H fun x H1 => (∃ a, x = .ref a ∧ (∃ xs, SqL K H1 a xs) ∧ ((∀ xs, SqL K H1 a xs → xs.length ≤ sizeLine) → R (Itl K a) H1)) ∨ (∃ a, x = .ref a ∧ (∃ xs, SqT K H1 a xs) ∧ ((∀ xs, SqT K H1 a xs → xs.length ≤ sizeLine) → R (Itt K a) H1)) ∨ ∃ z, x = .str z ∧ R (Its z) H1
section
variable {X : Cx} {tg : Expr}
theorem pi_any {l : Expr} {tl : TE} (hl : PE X l tl) : PI X tg l (iAny X.K tl) := by
  refine ⟨fun pins s σ H R I h => ?_⟩
  refine thn (hl.run pins s σ H _ I h) fun v s1 ⟨x, H1, I1, r1, q1⟩ => ?_
  rcases q1 with ⟨a, e, ⟨xs, hq⟩, q⟩ | ⟨a, e, ⟨xs, hq⟩, q⟩ | ⟨z, e, q⟩
  · subst e
    cases r1
    obtain ⟨its, rv, p, hz⟩ := I1.list hq
    have q := q fun ys hy => (I1.list hy).choose_spec.2.2
    refine wpAny_pyIter_list p.isList ?_
    refine ⟨s1.heap.objs.size, [s1.heap.objs.size], _, _, H1, rfl, I1.kept (t' := s1.toks) fun b o e => Heap.get?_push_of_some _ e, turn_list a _, ⟨_, Heap.get?_push_size _ rfl, rfl, rfl⟩, fun b hb => ?_, q⟩
    have e : b = s1.heap.objs.size := by simpa using hb
    subst e
    exact I1.fpOk (Nat.le_refl _) (I1.hok.fresh (Nat.le_refl _))
  · subst e
    cases r1
    obtain ⟨its, rv, p, hz⟩ := I1.tuple hq
    have q := q fun ys hy => (I1.tuple hy).choose_spec.2.2
    refine wpAny_pyIter_tuple (show s1.heap.IsTuple a its.toArray from p) ?_
    refine ⟨s1.heap.objs.size, [s1.heap.objs.size], _, _, H1, rfl, I1.kept (t' := s1.toks) fun b o e => Heap.get?_push_of_some _ e, turn_tuple a _, ⟨_, Heap.get?_push_size _ rfl, rfl, rfl⟩, fun b hb => ?_, q⟩
    have e : b = s1.heap.objs.size := by simpa using hb
    subst e
    exact I1.fpOk (Nat.le_refl _) (I1.hok.fresh (Nat.le_refl _))
  · subst e
    obtain ⟨t, rfl⟩ := r1
    cases ha : z.cps.all (· < 128)
    · exact wpAny_pyIter_wide ha (pi_one (tk := s1.toks) I1 _ (turn_str _ z t "str_iterator" (.inr rfl)) ⟨_, Heap.get?_push_size _ rfl, rfl, rfl⟩ q)
    · exact wpAny_pyIter_ascii ha (pi_one (tk := s1.toks) I1 _ (turn_str _ z t "str_ascii_iterator" (.inl rfl)) ⟨_, Heap.get?_push_size _ rfl, rfl, rfl⟩ q)
/-- what is walked as a list of trees -/
def itemsOf : T → Option (List T)
  | .list ts => some ts
  | .tuple ts => some ts
  | .str x => if x.cps.size ≤ 1000000 then some (strItems x) else none
  | _ => none
def tIter (te : XT) : IT := fun ρ Q => te ρ fun p ρ1 => take1 p ρ1 fun t ρ2 => match itemsOf t with
  | some ts => Q ts ρ2
  | none => False
theorem it_go {K : PySem.W.Frag} {te : XT} {σ : St} {H : Hp} {R : It → Hp → Prop} (h : LI K (tIter te) σ H R) : iAny K (LX K te) σ H R := by
  obtain ⟨ρ, fp, G, Qa, R0, h, fin⟩ := h
  refine ⟨ρ, fp, G, _, R0, h, fun v p A H1 ρ1 fp1 R1 r1 x1 h1 => ?_⟩
  obtain ⟨y, ρ2, fp2, R2, r2, i2, h2⟩ := take1_ok R1 r1 h1
  have x2 : Ext H (Fo fp) H1 (Fo fp2) := x1.or.weak (fun _ z => z) i2
  cases y with
  | list ts =>
    obtain ⟨a, vs, rfl, sl, rp⟩ := r2.stL
    refine .inl ⟨a, rfl, ⟨vs, sl.sq⟩, fun hz => fin ts _ H1 ρ2 fp2 R2 (jok_list sl rp) (by rw [← Paired.len rp]; exact hz _ sl.sq) x2 h2⟩
  | tuple ts =>
    obtain ⟨a, vs, rfl, sl, rp⟩ := r2.tupE
    refine .inr (.inl ⟨a, rfl, ⟨vs, sl⟩, fun hz => fin ts _ H1 ρ2 fp2 R2 (jok_tup sl rp) (by rw [← Paired.len rp]; exact hz _ sl) x2 h2⟩)
  | str x =>
    have e := r2.strE
    subst e
    simp only [itemsOf] at h2
    split at h2
    · rename_i ts e
      split at e
      · rename_i hx
        cases e
        exact .inr (.inr ⟨x, rfl, fin _ _ H1 ρ2 fp2 R2 (jok_str x) (by unfold strItems; simp; rw [sizeLine_eq]; omega) x2 h2⟩)
      · cases e
    · exact h2.elim
  | none => exact h2.elim
  | bool _ => exact h2.elim
  | int _ => exact h2.elim
  | dict _ => exact h2.elim
theorem ix_any {l : Expr} {te : XT} (h : EX X l te) : IX X tg l (tIter te) := ⟨PI.imp (pi_any h.pe) fun _ _ _ h => it_go h⟩

/-! range -/
def intsOf (ρ : AEnv) (ps : List Opd) (Q : List Int → Prop) : Prop := match getAll ρ ps with
  | some [.pure (.int i)] => Q [i]
  | some [.pure (.int i), .pure (.int j)] => Q [i, j]
  | _ => False
def tRange (ts : XTs) : IT := fun ρ Q => ts ρ fun ps ρ1 => intsOf ρ1 ps fun ns => match ns with
  | [j] => j ≤ 1000000 ∧ -1000000 ≤ j ∧ Q (rngItems 0 j.toNat) ρ1
  | [i, j] => (j ≤ 1000000 ∧ -1000000 ≤ j ∧ i ≤ 1000000 ∧ -1000000 ≤ i) ∧ Q (rngItems i (j - i).toNat) ρ1
  | _ => False
theorem ix_range1 {a : Expr} {ts : XTs} {p pos : Pos} (hg : Gl X "range") (hm : X.mg "range" = none) (ha : EXs X [a] ts) (hs : starEach [a] X.env = [(false, eval a X.env)] := by rfl) : IX X tg (.Call (.Name "range" p) [a] [] pos) (tRange ts) := by
  refine ⟨PI.imp (pi_range1 hg hm ha.pa hs) ?_⟩
  rintro σ H R ⟨ρ, fp, G, Qa, R0, h, fin⟩
  refine ⟨ρ, fp, G, _, R0, h, fun vs ps A H1 ρ1 fp1 hl R1 r1 nd1 ng1 x1 h1 => ?_⟩
  unfold intsOf at h1
  split at h1
  · rename_i i e
    obtain ⟨h1, h2, h3⟩ := h1
    have q := getAll_rw R1 r1 e
    cases q with
    | cons q q2 =>
      cases q2
      exact ⟨i, by rw [RP.intE q], by omega, by omega, fin _ _ H1 ρ1 fp1 (R1.sub fun a m => List.mem_append_right _ m) (jok_range 0 i.toNat) (by unfold rngItems; simp; rw [sizeLine_eq]; omega) x1.or h3⟩
  · rename_i i j e
    have q := getAll_rw R1 r1 e
    have := Paired.len q
    simp at hl this; omega
  · exact h1.elim
theorem ix_range2 {a b : Expr} {ts : XTs} {p pos : Pos} (hg : Gl X "range") (hm : X.mg "range" = none) (ha : EXs X [a, b] ts) (hs : starEach [a, b] X.env = [(false, eval a X.env), (false, eval b X.env)] := by rfl) (hs2 : starEach [b] X.env = [(false, eval b X.env)] := by rfl) :
    IX X tg (.Call (.Name "range" p) [a, b] [] pos) (tRange ts) := by
  refine ⟨PI.imp (pi_range2 hg hm ha.pa hs hs2) ?_⟩
  rintro σ H R ⟨ρ, fp, G, Qa, R0, h, fin⟩
  refine ⟨ρ, fp, G, _, R0, h, fun vs ps A H1 ρ1 fp1 hl R1 r1 nd1 ng1 x1 h1 => ?_⟩
  unfold intsOf at h1
  split at h1
  · rename_i i e
    have q := getAll_rw R1 r1 e
    have := Paired.len q
    simp at hl this; omega
  · rename_i i j e
    obtain ⟨⟨h1, h2, h3, h4⟩, h5⟩ := h1
    have q := getAll_rw R1 r1 e
    cases q with
    | cons q q2 =>
      cases q2 with
      | cons q2 q3 =>
        cases q3
        exact ⟨i, j, by rw [RP.intE q, RP.intE q2], ⟨by omega, by omega, by omega, by omega⟩, fin _ _ H1 ρ1 fp1 (R1.sub fun a m => List.mem_append_right _ m) (jok_range i _) (by unfold rngItems; simp; rw [sizeLine_eq]; omega) x1.or h5⟩
  · exact h1.elim

/-! enumerate of a list or a text, zip -/
def IteS (x : Str) : It := ⟨fun i _ => i < x.cps.size, fun i H v H' => ∃ T c, v = .ref T ∧ H T = none ∧ H' = upd H T (.tup [.int (i : Nat), .str ⟨#[c]⟩]) ∧ x.cps[i]? = some c, fun i _ => i = x.cps.size⟩
theorem turn_enumS {P : Program} {w : World} {K : PySem.W.Frag} {elts : List Expr} {kk : Nat} {tpos : Pos} (x : Str) (t : Tok) (e it : Addr) :
    Turn P w K (.Tuple elts kk tpos) (IteS x) [e, it] e (fun i h => (∃ old, IsEnum h e it ((i : Nat) : Int) old) ∧ h.IsStrIter it (strIterType x) x t i ∧ e ≠ it) where
  mem := by simp
  obj := fun i h st b hb => by
    obtain ⟨⟨old, he⟩, ⟨o, ho, hc, hd⟩, _⟩ := st
    have e' : b = e ∨ b = it := by simpa using hb
    rcases e' with z | z
    · rw [z]; exact ⟨_, he, fun v q => nomatch q⟩
    · rw [z]; exact ⟨o, ho, fun v q => by rw [hd] at q; cases q⟩
  keep := fun i h h' st k => let ⟨⟨old, he⟩, ⟨o, ho, r⟩, hne⟩ := st; ⟨⟨old, k e (by simp) _ he⟩, ⟨o, k it (by simp) _ ho, r⟩, hne⟩
  item := by
    intro X hP hw hK hc i pins s σ H E I hf st hg
    subst hP hw hK
    obtain ⟨⟨old, he⟩, hit, hne⟩ := st
    have hlt : i < x.cps.size := hg
    have hel : e < s.heap.objs.size := Heap.lt_size he
    have hil : it < s.heap.objs.size := by obtain ⟨_, q, _⟩ := hit; exact Heap.lt_size q
    have D := Draws.text (prog := X.prog) (w := X.w) (A := X.A.in1) (I.ok.hd hc) it x t
    refine wpAny_pyNext_enum_itemD D he hit hlt hne (by simpa using hne) fun u h' tk hP ho hit' hT hsz hk => ?_
    obtain ⟨c, tu, hcx, rfl⟩ := hP
    refine ⟨_, rfl, wpAny_letOwnedTupleGo_enum (s := { s with heap := h', toks := tk + 1 }) ho fun h'' he' sb => ?_⟩
    have hT2 : h''.get? s.heap.objs.size = some { cls := .type "tuple", data := .seq #[.int i tk, .str ⟨#[c]⟩ tu] } := (sb.2 _ (Nat.ne_of_gt hel)).trans hT
    have new : ObjOk X.prog X.w (upd H s.heap.objs.size (.tup [.int (i : Nat), .str ⟨#[c]⟩])) h'' s.heap.objs.size (.tup [.int (i : Nat), .str ⟨#[c]⟩]) :=
      ⟨by show 2 ≤ sizeLine; decide, [.int i tk, .str ⟨#[c]⟩ tu], .cons ⟨_, rfl⟩ (.cons ⟨_, rfl⟩ .nil), ⟨_, hT2, rfl, _, rfl⟩⟩
    have I1 : Inv X pins σ (upd H s.heap.objs.size (.tup [.int (i : Nat), .str ⟨#[c]⟩])) { s with heap := h'', toks := tk + 1 } :=
      I.turnedNew (ch := [e, it]) (fun b ob hb q => (sb.2 b (fun z => hb (by simp [z]))).trans (hk b ob (fun z => hb (by simp [z])) (fun z => hb (by simp [z])) q)) hf (Nat.le_refl _) new
    refine ⟨.ref s.heap.objs.size, _, I1, rfl, ⟨_, c, rfl, I.hok.fresh (Nat.le_refl _), rfl, hcx⟩, ⟨⟨Value.str ⟨#[c]⟩ tu, ?_⟩, let ⟨o, q, r⟩ := hit'; ⟨o, (sb.2 it (Ne.symm hne)).trans q, r⟩, hne⟩, fun b hb => ?_⟩
    · have e1 : ((i + 1 : Nat) : Int) = (i : Int) + 1 := by omega
      rw [e1]; exact he'
    · have hb' : b < s.heap.objs.size := by
        have e' : b = e ∨ b = it := by simpa using hb
        rcases e' with z | z
        · rw [z]; exact hel
        · rw [z]; exact hil
      rw [upd_ne (Nat.ne_of_lt hb')]
      exact (hf b hb).1
  done := by
    intro X hP hw hK hc i pins s σ H E I hf st hg
    subst hP hw hK
    obtain ⟨⟨old, he⟩, hit, hne⟩ := st
    obtain ⟨f0, f1, f2, f3, f4, f5⟩ := hf it (by simp)
    have D := Draws.text (prog := X.prog) (w := X.w) (A := X.A.in1) (I.ok.hd hc) it x t
    have hi : i = x.cps.size := hg
    subst hi
    exact wpAny_pyNext_enum_endD D he hit fun h' eb => ⟨rfl, I.turned (t' := s.toks) (fun b o hb q => eb b o hb q) f0 f1 f3 f4 f5⟩
  self := fun A i s Q E st h => let ⟨⟨_, he⟩, _⟩ := st; wpAny_pyIter_enum he h
def IteT (K : PySem.W.Frag) (a : Addr) : It :=
  ⟨fun i H => ∃ (xs : List V) (x : V), SqT K H a xs ∧ xs[i]? = some x, fun i H v H' => ∃ T x, v = .ref T ∧ H T = none ∧ H' = upd H T (.tup [.int (i : Nat), x]) ∧ ∀ xs, SqT K H a xs → xs[i]? = some x, fun i H => ∃ xs : List V, SqT K H a xs ∧ xs.length = i⟩
theorem turn_enumT {P : Program} {w : World} {K : PySem.W.Frag} {elts : List Expr} {kk : Nat} {tpos : Pos} (a e it : Addr) :
    Turn P w K (.Tuple elts kk tpos) (IteT K a) [e, it] e (fun i h => (∃ old, IsEnum h e it ((i : Nat) : Int) old) ∧ h.IsTupleIter it a i ∧ e ≠ it) where
  mem := by simp
  obj := fun i h st b hb => by
    obtain ⟨⟨old, he⟩, ⟨o, ho, hc, hd⟩, _⟩ := st
    have e' : b = e ∨ b = it := by simpa using hb
    rcases e' with z | z
    · rw [z]; exact ⟨_, he, fun v q => nomatch q⟩
    · rw [z]; exact ⟨o, ho, fun v q => by rw [hd] at q; cases q⟩
  keep := fun i h h' st k => let ⟨⟨old, he⟩, hi, hne⟩ := st; ⟨⟨old, k e (by simp) _ he⟩, hi.at fun o q => k it (by simp) o q, hne⟩
  item := by
    intro X hP hw hK hc i pins s σ H E I hf st hg
    subst hP hw hK
    obtain ⟨⟨old, he⟩, hit, hne⟩ := st
    obtain ⟨xs, x, hq, hx⟩ := hg
    obtain ⟨its, rv, p, hz⟩ := I.tuple hq
    obtain ⟨u, hu, ru⟩ := rv.get hx
    have hlt : i < its.toArray.size := by
      rcases Nat.lt_or_ge i its.length with q | q
      · simpa using q
      · rw [List.getElem?_eq_none q] at hu; cases hu
    have hel : e < s.heap.objs.size := Heap.lt_size he
    have hil : it < s.heap.objs.size := by obtain ⟨_, q, _⟩ := hit; exact Heap.lt_size q
    have hai : a ≠ it := fun z => by
      obtain ⟨o, ho, hc, _⟩ := hit
      obtain ⟨o', ho', hc', _⟩ := (show s.heap.IsTuple a its.toArray from p)
      rw [z, ho] at ho'; cases ho'
      rw [hc] at hc'; injection hc' with q; exact absurd q (by decide)
    have hae : a ≠ e := fun z => by
      obtain ⟨o', ho', hc', _⟩ := (show s.heap.IsTuple a its.toArray from p)
      have he' : s.heap.get? e = _ := he
      rw [z, he'] at ho'; cases ho'
      have hc2 : Value.type "enumerate" = Value.type "tuple" := hc'
      injection hc2 with q; exact absurd q (by decide)
    have D := Draws.tuple (prog := X.prog) (w := X.w) (A := X.A.in1) (I.ok.hd hc) it a hai its.toArray
    refine wpAny_pyNext_enum_itemD D he ⟨hit, show s.heap.IsTuple a its.toArray from p⟩ hlt hne (by simp; exact ⟨hne, fun z => hae z.symm⟩) fun u' h' tk hP ho hit' hT hsz hk => ?_
    have eu : u' = u := by
      have hP : its.toArray[i]? = some u' := hP
      have : its[i]? = some u' := by simpa using hP
      rw [hu] at this; exact (Option.some.inj this).symm
    subst eu
    refine ⟨_, rfl, wpAny_letOwnedTupleGo_enum (s := { s with heap := h', toks := tk + 1 }) ho fun h'' he' sb => ?_⟩
    have hT2 : h''.get? s.heap.objs.size = some { cls := .type "tuple", data := .seq #[.int i tk, u'] } := (sb.2 _ (Nat.ne_of_gt hel)).trans hT
    have new : ObjOk X.prog X.w (upd H s.heap.objs.size (.tup [.int (i : Nat), x])) h'' s.heap.objs.size (.tup [.int (i : Nat), x]) :=
      ⟨by show 2 ≤ sizeLine; decide, [.int i tk, u'], .cons ⟨_, rfl⟩ (.cons ru .nil), ⟨_, hT2, rfl, _, rfl⟩⟩
    have I1 : Inv X pins σ (upd H s.heap.objs.size (.tup [.int (i : Nat), x])) { s with heap := h'', toks := tk + 1 } :=
      I.turnedNew (ch := [e, it]) (fun b ob hb q => (sb.2 b (fun z => hb (by simp [z]))).trans (hk b ob (fun z => hb (by simp [z])) (fun z => hb (by simp [z])) q)) hf (Nat.le_refl _) new
    refine ⟨.ref s.heap.objs.size, _, I1, rfl, ⟨_, x, rfl, I.hok.fresh (Nat.le_refl _), rfl, fun ys hy => by rw [I.tuple_inj hy hq]; exact hx⟩, ⟨⟨u', ?_⟩, hit'.1.at fun o q => (sb.2 it (Ne.symm hne)).trans q, hne⟩, fun b hb => ?_⟩
    · have e1 : ((i + 1 : Nat) : Int) = (i : Int) + 1 := by omega
      rw [e1]; exact he'
    · have hb' : b < s.heap.objs.size := by
        have e' : b = e ∨ b = it := by simpa using hb
        rcases e' with z | z
        · rw [z]; exact hel
        · rw [z]; exact hil
      rw [upd_ne (Nat.ne_of_lt hb')]
      exact (hf b hb).1
  done := by
    intro X hP hw hK hc i pins s σ H E I hf st hg
    subst hP hw hK
    obtain ⟨⟨old, he⟩, hit, hne⟩ := st
    obtain ⟨xs, hq, hx⟩ := hg
    obtain ⟨its, rv, p, hz⟩ := I.tuple hq
    obtain ⟨f0, f1, f2, f3, f4, f5⟩ := hf it (by simp)
    have hai : a ≠ it := fun z => by
      obtain ⟨o, ho, hc, _⟩ := hit
      obtain ⟨o', ho', hc', _⟩ := (show s.heap.IsTuple a its.toArray from p)
      rw [z, ho] at ho'; cases ho'
      rw [hc] at hc'; injection hc' with q; exact absurd q (by decide)
    have D := Draws.tuple (prog := X.prog) (w := X.w) (A := X.A.in1) (I.ok.hd hc) it a hai its.toArray
    have hi : i = its.toArray.size := by rw [← hx, rv.length]; simp
    subst hi
    exact wpAny_pyNext_enum_endD D he ⟨hit, show s.heap.IsTuple a its.toArray from p⟩ fun h' eb => ⟨rfl, I.turned (t' := s.toks) (fun b o hb q => eb b o hb q) f0 f1 f3 f4 f5⟩
  self := fun A i s Q E st h => let ⟨⟨_, he⟩, _⟩ := st; wpAny_pyIter_enum he h

set_option maxHeartbeats 1000000 in
theorem meets_enumerate_new1 {v : Value} {o : Obj} {H : Heap → Prop} (B : Begins v o H) :
    Meets (Builtin.«enumerate.__new__» ⟨[.type "enumerate", v], []⟩) (fun _ R s => H s.heap ∧
      R (.ok (.ret (.ref (s.heap.push o).objs.size))) { s with heap := (s.heap.push o).push { cls := .type "enumerate", data := .fields #[.none, .bool false, .ref s.heap.objs.size, rawInt 0, .none, .none] } }) :=
  .of_wp fun prog w A R s h => by
    obtain ⟨hp, g, d, tk, os⟩ := s; obtain ⟨h1, h⟩ := h
    have hsub := sub_enumerate
    have q1 : ∀ {A' : Around} {E : Value → Shared → Prop} {Q : Value → Shared → Prop}, Q (.ref hp.objs.size) ⟨hp.push o, g, d, tk, os⟩ → wpAny (model prog w) A' (pyIter v) Q E ⟨hp, g, d, tk, os⟩ :=
      fun q => B.iter prog w _ _ ⟨hp, g, d, tk, os⟩ _ h1 q
    wp_walk using q1
    refine wpAny_stack_any fun st => wpAny_pure ?_
    split
    · rename_i c _ _ _ _ _
      cases (c == Value.type "enumerate")
      · wp_walk using q1
        exact ⟨_, rfl, h⟩
      · wp_walk using q1
        exact ⟨_, rfl, h⟩
    · wp_walk using q1
      exact ⟨_, rfl, h⟩
theorem enum_begins1 {prog : Program} {w : World} {A : Around} {E : Value → Shared → Prop} {s : Shared} {v : Value} {o : Obj} {H : Heap → Prop} {Q : Value → Shared → Prop} (B : Begins v o H) (h1 : H s.heap)
    (h : ∀ h', IsEnum h' (s.heap.objs.size + 1) s.heap.objs.size 0 .none → h'.get? s.heap.objs.size = some o → h'.objs.size = s.heap.objs.size + 2 →
      (∀ b o, s.heap.get? b = some o → h'.get? b = some o) → Q (.ref (s.heap.objs.size + 1)) { s with heap := h' }) :
    wpAny (model prog w) A (call (.type "enumerate") [v]) Q E s := by
  refine callType_new F.called_enumerate (by decide) (F.typeCall_enumerate_1 _) (F.newCall_enumerate_1 _) (fun obj => F.args_object_init_2 obj _) F.entry_enumerate_new
    (meets_enumerate_new1 B) ⟨h1, ?_⟩
  have hz : (s.heap.push o).objs.size = s.heap.objs.size + 1 := Heap.size_push ..
  show _ ∧ _
  rw [hz]
  have he : IsEnum ((s.heap.push o).push { cls := .type "enumerate", data := .fields #[.none, .bool false, .ref s.heap.objs.size, rawInt 0, .none, .none] }) (s.heap.objs.size + 1) s.heap.objs.size 0 .none := by
    have := Heap.get?_push_size (s.heap.push o) (o := { cls := .type "enumerate", data := .fields #[.none, .bool false, .ref s.heap.objs.size, rawInt 0, .none, .none] }) rfl
    rw [hz] at this; exact this
  refine ⟨⟨_, he, rfl⟩, h _ he (Heap.get?_push_of_some _ (Heap.get?_push_size _ B.free)) (by rw [Heap.size_push, hz]) fun b o x => Heap.get?_push_of_some _ (Heap.get?_push_of_some _ x)⟩
def iEnumA (K : PySem.W.Frag) (ta : TA) : TI := fun σ H R => ta σ H fun vs H1 => (∃ a xs, vs = [.ref a] ∧ SqL K H1 a xs ∧ R (Ite K a) H1) ∨ (∃ a xs, vs = [.ref a] ∧ SqT K H1 a xs ∧ R (IteT K a) H1) ∨ ∃ x, vs = [.str x] ∧ R (IteS x) H1
theorem pi_enumA {X : Cx} {e : Expr} {ta : TA} {p pos tpos : Pos} {elts : List Expr} {kk : Nat} (hg : Gl X "enumerate") (hm : X.mg "enumerate" = none) (ha : PA X [e] ta) (hs : starEach [e] X.env = [(false, eval e X.env)] := by rfl) :
    PI X (.Tuple elts kk tpos) (.Call (.Name "enumerate" p) [e] [] pos) (iEnumA X.K ta) := by
  refine ⟨fun pins s σ H R I h => ?_⟩
  refine Call_ (ld_blt I hg hm boot_enumerate (PyProof.Rows.callWith_type1 (thn (ha.run pos pins s σ H _ I h) fun us s1 ⟨vs, H1, I1, r1, q1⟩ => ?_) hs rfl))
  have fps : ∀ {h' : Heap}, h'.objs.size = s1.heap.objs.size + 2 → ∀ b ∈ [s1.heap.objs.size + 1, s1.heap.objs.size], FpOk X pins H1 b := fun _ b hb => by
    have e' : b = s1.heap.objs.size + 1 ∨ b = s1.heap.objs.size := by simpa using hb
    have hle : s1.heap.objs.size ≤ b := by
      rcases e' with z | z
      · rw [z]; exact Nat.le_add_right _ _
      · rw [z]; exact Nat.le_refl _
    exact I1.fpOk hle (I1.hok.fresh hle)
  rcases q1 with ⟨a, xs, ex, hq, q⟩ | ⟨a, xs, ex, hq, q⟩ | ⟨x, ex, q⟩
  · subst ex
    cases r1 with
    | cons r rr =>
      cases rr
      cases r
      obtain ⟨its, rv, p', hz⟩ := I1.list hq
      refine enum_begins1 (begins_list a its.toArray) p'.isList fun h' he hit hsz hk => wpAny_pyIter_enum he ?_
      exact ⟨s1.heap.objs.size + 1, [s1.heap.objs.size + 1, s1.heap.objs.size], _, _, H1, rfl, I1.kept (t' := s1.toks) hk, turn_enum a (s1.heap.objs.size + 1) s1.heap.objs.size, ⟨⟨.none, he⟩, ⟨_, hit, rfl, rfl⟩, Nat.succ_ne_self _⟩, fps hsz, q⟩
  · subst ex
    cases r1 with
    | cons r rr =>
      cases rr
      cases r
      obtain ⟨its, rv, p', hz⟩ := I1.tuple hq
      refine enum_begins1 (begins_tuple a its.toArray) (show s1.heap.IsTuple a its.toArray from p') fun h' he hit hsz hk => wpAny_pyIter_enum he ?_
      exact ⟨s1.heap.objs.size + 1, [s1.heap.objs.size + 1, s1.heap.objs.size], _, _, H1, rfl, I1.kept (t' := s1.toks) hk, turn_enumT a (s1.heap.objs.size + 1) s1.heap.objs.size, ⟨⟨.none, he⟩, ⟨_, hit, rfl, rfl⟩, Nat.succ_ne_self _⟩, fps hsz, q⟩
  · subst ex
    cases r1 with
    | cons r rr =>
      cases rr
      obtain ⟨t, rfl⟩ := r
      refine enum_begins1 (begins_text x t) trivial fun h' he hit hsz hk => wpAny_pyIter_enum he ?_
      exact ⟨s1.heap.objs.size + 1, [s1.heap.objs.size + 1, s1.heap.objs.size], _, _, H1, rfl, I1.kept (t' := s1.toks) hk, turn_enumS x t (s1.heap.objs.size + 1) s1.heap.objs.size, ⟨⟨.none, he⟩, ⟨_, hit, rfl, rfl⟩, Nat.succ_ne_self _⟩, fps hsz, q⟩
theorem jok_enumT {K : PySem.W.Frag} {H : Hp} {F : Addr → Prop} {G : List Addr} {a : Addr} {vs : List V} {ts : List T} (h : SqT K H a vs) (r : RPs K H (Or1 F G) vs ts) : JOk K (IteT K a) (enumItems ts) H F G := by
  intro H' F' x
  have h' := SqT.keepE x h
  have r' := RPs.extG x r
  have hl : (enumItems ts).length = ts.length := by unfold enumItems; simp
  refine ⟨fun i t e => ?_, ⟨vs, h', by rw [hl]; exact Paired.len r'⟩⟩
  unfold enumItems at e
  obtain ⟨k, t', e1, e2, rfl⟩ := zip_at e
  have ek : k = i := by
    have := List.getElem?_range (n := ts.length) (i := i) (by
      rcases Nat.lt_or_ge i ts.length with h | h
      · exact h
      · rw [List.getElem?_eq_none h] at e2; cases e2)
    rw [this] at e1; exact (Option.some.inj e1).symm
  subst ek
  obtain ⟨v, hv, rv⟩ := Paired.at r' e2
  refine ⟨⟨vs, v, h', hv⟩, fun x H'' y => ?_⟩
  obtain ⟨T, u, rfl, hn, rfl, y⟩ := y
  have e2 := y vs h'
  rw [hv] at e2; cases e2
  exact ⟨Pres.upd hn, RP.newTup hn (.cons (RP.int _) (.cons rv .nil))⟩
theorem jok_enumS {K : PySem.W.Frag} {H : Hp} {F : Addr → Prop} {G : List Addr} (x : Str) : JOk K (IteS x) (enumItems (strItems x)) H F G := by
  intro H' F' _
  have hs : (strItems x).length = x.cps.size := by unfold strItems; simp
  have hl : (enumItems (strItems x)).length = x.cps.size := by unfold enumItems; simp [hs]
  refine ⟨fun i t e => ?_, hl⟩
  unfold enumItems at e
  obtain ⟨k, t', e1, e2, rfl⟩ := zip_at e
  have hi : i < x.cps.size := by
    rcases Nat.lt_or_ge i x.cps.size with h | h
    · exact h
    · rw [List.getElem?_eq_none (by rw [hs]; exact h)] at e2; cases e2
  have ek : k = i := by
    rw [List.getElem?_range (by rw [hs]; exact hi)] at e1; exact (Option.some.inj e1).symm
  subst ek
  refine ⟨hi, fun v H'' y => ?_⟩
  obtain ⟨T, c, rfl, hn, rfl, hc⟩ := y
  have e3 : (strItems x)[k]? = some (.str ⟨#[c]⟩) := by unfold strItems; simp [hc]
  rw [e3] at e2; cases e2
  exact ⟨Pres.upd hn, RP.newTup hn (.cons (RP.int _) (.cons (RP.str _) .nil))⟩
/-- enumerate(e) -/
def tEnum (ts : XTs) : IT := fun ρ Q => ts ρ fun ps ρ1 => takeAll ps ρ1 fun ts ρ2 => match ts with
  | [t] => match itemsOf t with
    | some ts => Q (enumItems ts) ρ2
    | none => False
  | _ => False
theorem items_inv {t : T} {ts : List T} (e : itemsOf t = some ts) : t = .list ts ∨ t = .tuple ts ∨ ∃ x, t = .str x ∧ ts = strItems x ∧ x.cps.size ≤ 1000000 := by
  cases t with
  | list ts' => cases e; exact .inl rfl
  | tuple ts' => cases e; exact .inr (.inl rfl)
  | str x =>
    simp only [itemsOf] at e
    split at e
    · rename_i h; cases e; exact .inr (.inr ⟨x, rfl, rfl, h⟩)
    · cases e
  | _ => cases e
def SzOk (K : PySem.W.Frag) (H : Hp) : Prop := (∀ a xs, SqL K H a xs → xs.length ≤ sizeLine) ∧ ∀ a xs, SqT K H a xs → xs.length ≤ sizeLine
theorem PA.sz {X : Cx} {es : List Expr} {t : TA} (h : PA X es t) : PA X es (fun σ H Q => t σ H fun vs H1 => SzOk X.K H1 → Q vs H1) :=
  ⟨fun pos pins s σ H Q I q => thn (h.run pos pins s σ H _ I q) fun us s' ⟨vs, H', I', r, q⟩ => ⟨vs, H', I', r, q ⟨fun a xs h => (I'.list h).choose_spec.2.2, fun a xs h => (I'.tuple h).choose_spec.2.2⟩⟩⟩
theorem PE.sz {X : Cx} {e : Expr} {t : TE} (h : PE X e t) : PE X e (fun σ H Q => t σ H fun v H1 => SzOk X.K H1 → Q v H1) :=
  ⟨fun pins s σ H Q I q => thn (h.run pins s σ H _ I q) fun us s' ⟨vs, H', I', r, q⟩ => ⟨vs, H', I', r, q ⟨fun a xs h => (I'.list h).choose_spec.2.2, fun a xs h => (I'.tuple h).choose_spec.2.2⟩⟩⟩
theorem enumLen (ts : List T) : (enumItems ts).length = ts.length := by unfold enumItems; simp
theorem zipLen (ts rs : List T) : (zipItems ts rs).length ≤ ts.length := by unfold zipItems; rw [List.length_zipWith]; omega
theorem ix_enum {X : Cx} {e : Expr} {ts : XTs} {p pos tpos : Pos} {elts : List Expr} {kk : Nat} (hg : Gl X "enumerate") (hm : X.mg "enumerate" = none) (ha : EXs X [e] ts) (hs : starEach [e] X.env = [(false, eval e X.env)] := by rfl) :
    IX X (.Tuple elts kk tpos) (.Call (.Name "enumerate" p) [e] [] pos) (tEnum ts) := by
  refine ⟨PI.imp (pi_enumA hg hm (PA.sz ha.pa) hs) ?_⟩
  rintro σ H R ⟨ρ, fp, G, Qa, R0, h, fin⟩
  refine ⟨ρ, fp, G, _, R0, h, fun vs ps A H1 ρ1 fp1 hl R1 r1 nd1 ng1 x1 h1 sz => ?_⟩
  obtain ⟨ts, ρ2, fp2, R2, q2, i2, h2⟩ := takeAll_ok r1 R1 (fun a z => z) (fun j o e => ⟨o, e⟩) ng1 nd1 h1
  have x2 : Ext H (Fo fp) H1 (Fo fp2) := x1.or.weak (fun _ z => z) i2
  split at h2
  · rename_i t
    split at h2
    · rename_i us e
      cases q2 with
      | cons q q3 =>
        cases q3
        rcases items_inv e with rfl | rfl | ⟨x, rfl, rfl, hx⟩
        · obtain ⟨a, vs, rfl, sl, rp⟩ := q.stL
          exact .inl ⟨a, vs, rfl, sl.sq, fin _ _ H1 ρ2 fp2 R2 (jok_enum sl rp) (by rw [enumLen, ← Paired.len rp]; exact sz.1 _ _ sl.sq) x2 h2⟩
        · obtain ⟨a, vs, rfl, sl, rp⟩ := q.tupE
          exact .inr (.inl ⟨a, vs, rfl, sl, fin _ _ H1 ρ2 fp2 R2 (jok_enumT sl rp) (by rw [enumLen, ← Paired.len rp]; exact sz.2 _ _ sl) x2 h2⟩)
        · exact .inr (.inr ⟨x, by rw [q.strE], fin _ _ H1 ρ2 fp2 R2 (jok_enumS x) (by rw [enumLen]; unfold strItems; simp; rw [sizeLine_eq]; omega) x2 h2⟩)
    · exact h2.elim
  · exact h2.elim
/-- zip(a, b) of two lists, of two tuples -/
def tZip (ts : XTs) : IT := fun ρ Q => ts ρ fun ps ρ1 => takeAll ps ρ1 fun ts ρ2 => match ts with
  | [.list ts, .list us] => Q (zipItems ts us) ρ2
  | [.tuple ts, .tuple us] => Q (zipItems ts us) ρ2
  | _ => False
theorem ix_zip {X : Cx} {e e2 : Expr} {ts : XTs} {p pos tpos : Pos} {elts : List Expr} {kk : Nat} (hg : Gl X "zip") (hm : X.mg "zip" = none) (ha : EXs X [e, e2] ts)
    (hs : starEach [e, e2] X.env = (false, eval e X.env) :: starEach [e2] X.env := by rfl) (hpl : (backTo pos (starEach [e2] X.env)).any (·.1) = false := by rfl) :
    IX X (.Tuple elts kk tpos) (.Call (.Name "zip" p) [e, e2] [] pos) (tZip ts) := by
  refine ⟨PI.imp (RZ.pi_zipA hg hm (PA.sz ha.pa) hs hpl) ?_⟩
  rintro σ H R ⟨ρ, fp, G, Qa, R0, h, fin⟩
  refine ⟨ρ, fp, G, _, R0, h, fun vs ps A H1 ρ1 fp1 hl R1 r1 nd1 ng1 x1 h1 sz => ?_⟩
  obtain ⟨ts, ρ2, fp2, R2, q2, i2, h2⟩ := takeAll_ok r1 R1 (fun a z => z) (fun j o e => ⟨o, e⟩) ng1 nd1 h1
  have x2 : Ext H (Fo fp) H1 (Fo fp2) := x1.or.weak (fun _ z => z) i2
  split at h2
  · rename_i us rs
    cases q2 with
    | cons q q3 =>
      cases q3 with
      | cons q3 q4 =>
        cases q4
        obtain ⟨a, vs, rfl, sl, rp⟩ := q.stL
        obtain ⟨b, us', rfl, sl2, rp2⟩ := q3.stL
        exact ⟨a, b, vs, us', rfl, .inl ⟨sl.sq, sl2.sq, fin _ _ H1 ρ2 fp2 R2 (jok_zip sl rp sl2 rp2) (Nat.le_trans (zipLen _ _) (by rw [← Paired.len rp]; exact sz.1 _ _ sl.sq)) x2 h2⟩⟩
  · rename_i us rs
    cases q2 with
    | cons q q3 =>
      cases q3 with
      | cons q3 q4 =>
        cases q4
        obtain ⟨a, vs, rfl, sl, rp⟩ := q.tupE
        obtain ⟨b, us', rfl, sl2, rp2⟩ := q3.tupE
        exact ⟨a, b, vs, us', rfl, .inr ⟨sl, sl2, fin _ _ H1 ρ2 fp2 R2 (jok_zipT sl rp sl2 rp2) (Nat.le_trans (zipLen _ _) (by rw [← Paired.len rp]; exact sz.2 _ _ sl)) x2 h2⟩⟩
  · exact h2.elim
end
end DL

set_option Elab.async false
set_option linter.all false
set_option maxRecDepth 100000
set_option maxHeartbeats 4000000
/-! THE DATA LAYER, part 8: what is changed in place; two or three names at once. -/
namespace DL
open PySem PySem.Spec L2
open PyProof.Rows hiding St

section
variable {K : PySem.W.Frag} {σ : St} {H H1 : Hp} {fp : Nat → List Addr} {ρ : AEnv} {v : V} {o o' : O} {j : Nat} {a : Addr} {u u' : HO} {A G : List Addr}
/-- the object of slot j is changed -/
theorem RS.mut (R : RS K σ H ρ fp G) (e : ρ[j]? = some (some o)) (hv : σ[j]? = some (some v)) (hf : fp j = [a]) (hu : H a = some u) (mu : Mut (some u)) (r : RO K (L2.upd H a u') (Or1 (Fo fp) G) v o' [a]) :
    RS K σ (L2.upd H a u') (ρ.set j (some o')) fp G ∧ Ext H (Fo fp) (L2.upd H a u') (Fo fp) := by
  have hj : j < ρ.length := (List.getElem?_eq_some_iff.mp e).1
  have ha : Fo fp a := ⟨j, by rw [hf]; exact List.mem_singleton.mpr rfl⟩
  have x : Ext H (Fo fp) (L2.upd H a u') (Fo fp) := upd_ext hu mu ha fun _ z => z
  refine ⟨⟨fun i w h => ?_, fun i h => ?_, R.dj, R.nd, R.gf, fun b m => ?_, by rw [List.length_set]; exact R.len⟩, x⟩
  · rw [AEnv.get_set] at h
    by_cases q : j = i
    · subst q
      rw [if_pos rfl, if_pos hj] at h
      cases h
      exact ⟨v, hv, by rw [hf]; exact r⟩
    · rw [if_neg q] at h
      obtain ⟨y, hy, r'⟩ := R.ex i w h
      refine ⟨y, hy, r'.imp (fun v t z => (z.ext (x.addG G))) fun b m w h => ?_⟩
      rw [upd_ne]
      · exact h
      · rintro rfl
        exact q (R.dj j i b (by rw [hf]; exact List.mem_singleton.mpr rfl) m)
  · by_cases q : i = j
    · subst q
      exact absurd (by rw [AEnv.get_set, if_pos rfl, if_pos hj]) (h o')
    · refine R.non i fun o'' z => h o'' ?_
      rw [AEnv.get_set, if_neg fun y => q y.symm]
      exact z
  · obtain ⟨w, h⟩ := R.gi b m
    by_cases q : b = a
    · exact ⟨u', by rw [q]; exact upd_same⟩
    · exact ⟨w, by rw [upd_ne q]; exact h⟩
theorem RS.lstE {ts : List T} (R : RS K σ H ρ fp G) (e : ρ[j]? = some (some (.lst ts))) : ∃ a vs, σ[j]? = some (some (.ref a)) ∧ fp j = [a] ∧ H a = some (.lst vs) ∧ RPs K H (Or1 (Fo fp) G) vs ts := by
  obtain ⟨v, hv, a, vs, rfl, h1, h2, h3⟩ := R.ex j _ e
  exact ⟨a, vs, hv, h1, h2, h3⟩
end

/-! ### lists changed in place -/
def lstAt (ρ : AEnv) (j : Nat) (Q : List T → Prop) : Prop := match ρ[j]? with
  | some (some (.lst ts)) => Q ts
  | _ => False
theorem lstAt_iff {ρ : AEnv} {j : Nat} {Q : List T → Prop} (h : lstAt ρ j Q) : ∃ ts, ρ[j]? = some (some (.lst ts)) ∧ Q ts := by
  unfold lstAt at h
  split at h
  · exact ⟨_, by assumption, h⟩
  · exact h.elim
def tAppend (j : Nat) (te : XT) : XT := fun ρ Q => lstAt ρ j fun _ => te ρ fun p ρ1 => take1 p ρ1 fun y ρ2 => lstAt ρ2 j fun ts => ts.length < 16777216 ∧ Q (.val (.pure .none)) (ρ2.set j (some (.lst (ts ++ [y]))))
def tExtend (j : Nat) (te : XT) : XT := fun ρ Q => lstAt ρ j fun _ => te ρ fun p ρ1 => match p.get ρ1 with
  | some (.lst us) => lstAt ρ1 j fun ts => ts.length + us.length ≤ 16777216 ∧ Q (.val (.pure .none)) (ρ1.set j (some (.lst (ts ++ us))))
  | _ => False
def tPopAt (j : Nat) (te : XT) : XT := fun ρ Q => lstAt ρ j fun _ => te ρ fun p ρ1 => match p.get ρ1 with
  | some (.pure (.int i)) => lstAt ρ1 j fun ts => match ixN ts.length i with
    | some k => match ts[k]? with
      | some y => Q (.val (.pure y)) (ρ1.set j (some (.lst (ts.eraseIdx k))))
      | none => False
    | none => False
  | _ => False
def tPop (j : Nat) : XT := fun ρ Q => lstAt ρ j fun ts => match ts[ts.length - 1]? with
  | some y => Q (.val (.pure y)) (ρ.set j (some (.lst ts.dropLast)))
  | none => False
def sSetIx (j : Nat) (te ti : XT) : ST := fun D ρ => te ρ fun p ρ1 => take1 p ρ1 fun y ρ2 => lstAt ρ2 j fun _ => ti ρ2 fun q ρ3 => match q.get ρ3 with
  | some (.pure (.int k)) => lstAt ρ3 j fun ts => match ixN ts.length k with
    | some m => D.nx (ρ3.set j (some (.lst (ts.set m y))))
    | none => False
  | _ => False
section
variable {X : Cx} {x : Str} {e : Expr} {te ti : XT} {px apos cpos pos : Pos}
theorem Paired.dropL {α β : Type} {G : α → β → Prop} : ∀ {l : List α} {r : List β}, Paired G l r → Paired G l.dropLast r.dropLast
  | _, _, .nil => .nil
  | _, _, .cons _ .nil => .nil
  | _, _, .cons h (.cons k t) => .cons h (Paired.dropL (.cons k t))
theorem ex_append (j : Nat) (hN : X.N[j]? = some x) (he : EX X e te)
    (hv : Vis X.env.scope x := by first | exact Or.inl rfl | exact Or.inr (Or.inl rfl) | exact Or.inr (Or.inr rfl)) (hd : (x == ("__debug__" : Str)) = false := by decide) (hcd : (x == ("__classdict__" : Str)) = false := by decide)
    (hbase : attributeBase (.Name x px) "append" X.env (eval (.Name x px) X.env) = eval (.Name x px) X.env := by rfl)
    (hfew : ((backTo cpos (starEach [e] X.env)).all (fun x => !x.1) && (backToKw cpos (keywordEach [] X.env)).all (fun x => x.1.isSome)
      && decide (([e] : List Expr).length + ([] : List Keyword).length + (if ([] : List Keyword).isEmpty then 0 else 1) < 30)) = true := by rfl)
    (hline : (apos.endLine == cpos.line) = true := by rfl) (hs : starEach [e] X.env = (false, eval e X.env) :: starEach [] X.env := by rfl) (hplain : (backTo cpos (starEach [] X.env)).any (·.1) = false := by rfl) :
    EX X (.Call (.Attribute (.Name x px) "append" apos) [e] [] cpos) (tAppend j te) := by
  refine ⟨PE.imp (pe_bm PySem.F.plainAttrs_list PySem.F.slot_list_append PySem.F.type_list_append mt_append (pe_var hN hv hd hcd) (pa_cons he.pe pa_nil hs) hbase hfew hline hs hplain) ?_⟩
  rintro σ H Q ⟨ρ, fp, G, Qa, R, h, fin⟩
  obtain ⟨ts0, e0, h⟩ := lstAt_iff h
  obtain ⟨a, vs0, hv0, f0, h0, r0⟩ := R.lstE e0
  refine ⟨.ref a, hv0, .inl ⟨rfl, _, SqL.of h0⟩, ρ, fp, G, _, R, h, fun v p A H1 ρ1 fp1 R1 r1 x1 h1 => ?_⟩
  obtain ⟨y, ρ2, fp2, R2, r2, i2, h2⟩ := take1_ok R1 r1 h1
  obtain ⟨ts, e2, hz, h2⟩ := lstAt_iff h2
  obtain ⟨b, vs, hv2, f2, hb, rb⟩ := R2.lstE e2
  rw [hv0] at hv2; cases hv2
  refine ⟨a, vs, v, rfl, rfl, hb, by rw [Paired.len rb, sizeLine_eq]; exact hz, ?_⟩
  have x2 : Ext H (Fo fp) H1 (Fo fp2) := x1.or.weak (fun _ z => z) i2
  have ux : Ext H1 (Fo fp2) (upd H1 a (.lst (vs ++ [v]))) (Fo fp2) := upd_ext hb trivial ⟨j, by rw [f2]; exact List.mem_singleton.mpr rfl⟩ fun _ z => z
  obtain ⟨R3, x3⟩ := R2.mut (u' := .lst (vs ++ [v])) (o' := .lst (ts ++ [y])) e2 hv0 f2 hb trivial ⟨a, _, rfl, rfl, upd_same, RPs.extG ux (Paired.app rb (.cons r2 .nil))⟩
  exact fin .non (.val (.pure .none)) [] _ _ fp2 R3 (rop_pure RP.non) ((x2.trans x3).weak (fun _ z => z) fun a z => z.elim (fun q => q) fun m => (List.not_mem_nil m).elim) h2
theorem ex_extend (j : Nat) (hN : X.N[j]? = some x) (he : EX X e te)
    (hv : Vis X.env.scope x := by first | exact Or.inl rfl | exact Or.inr (Or.inl rfl) | exact Or.inr (Or.inr rfl)) (hd : (x == ("__debug__" : Str)) = false := by decide) (hcd : (x == ("__classdict__" : Str)) = false := by decide)
    (hbase : attributeBase (.Name x px) "extend" X.env (eval (.Name x px) X.env) = eval (.Name x px) X.env := by rfl)
    (hfew : ((backTo cpos (starEach [e] X.env)).all (fun x => !x.1) && (backToKw cpos (keywordEach [] X.env)).all (fun x => x.1.isSome)
      && decide (([e] : List Expr).length + ([] : List Keyword).length + (if ([] : List Keyword).isEmpty then 0 else 1) < 30)) = true := by rfl)
    (hline : (apos.endLine == cpos.line) = true := by rfl) (hs : starEach [e] X.env = (false, eval e X.env) :: starEach [] X.env := by rfl) (hplain : (backTo cpos (starEach [] X.env)).any (·.1) = false := by rfl) :
    EX X (.Call (.Attribute (.Name x px) "extend" apos) [e] [] cpos) (tExtend j te) := by
  refine ⟨PE.imp (pe_bm PySem.F.plainAttrs_list PySem.F.slot_list_extend PySem.F.type_list_extend mt_extend (pe_var hN hv hd hcd) (pa_cons he.pe pa_nil hs) hbase hfew hline hs hplain) ?_⟩
  rintro σ H Q ⟨ρ, fp, G, Qa, R, h, fin⟩
  obtain ⟨ts0, e0, h⟩ := lstAt_iff h
  obtain ⟨a, vs0, hv0, f0, h0, r0⟩ := R.lstE e0
  refine ⟨.ref a, hv0, .inl ⟨rfl, _, SqL.of h0⟩, ρ, fp, G, _, R, h, fun v p A H1 ρ1 fp1 R1 r1 x1 h1 => ?_⟩
  split at h1
  · rename_i us ep
    obtain ⟨ts, e2, hz, h2⟩ := lstAt_iff h1
    obtain ⟨b, vs, hv2, f2, hb, rb⟩ := R1.lstE e2
    rw [hv0] at hv2; cases hv2
    obtain ⟨c, ws, rfl, hc, rc⟩ := r1.rw0 R1 ep
    refine ⟨a, c, vs, ws, rfl, rfl, hb, hc, by rw [Paired.len rb, Paired.len rc, sizeLine_eq]; exact hz, ?_⟩
    have ux : Ext H1 (Fo fp1) (upd H1 a (.lst (vs ++ ws))) (Fo fp1) := upd_ext hb trivial ⟨j, by rw [f2]; exact List.mem_singleton.mpr rfl⟩ fun _ z => z
    obtain ⟨R3, x3⟩ := (R1.sub (G' := G) fun a m => List.mem_append_right _ m).mut (u' := .lst (vs ++ ws)) (o' := .lst (ts ++ us)) e2 hv0 f2 hb trivial
      ⟨a, _, rfl, rfl, upd_same, RPs.weak (RPs.extG ux (Paired.app rb rc)) fun a z => z.imp (fun q => q) (List.mem_append_right _)⟩
    exact fin .non (.val (.pure .none)) [] _ _ fp1 R3 (rop_pure RP.non) ((x1.or.trans x3).weak (fun _ z => z) fun a z => z.elim (fun q => q) fun m => (List.not_mem_nil m).elim) h2
  · exact h1.elim
theorem ex_popAt (j : Nat) (hN : X.N[j]? = some x) (he : EX X e te)
    (hv : Vis X.env.scope x := by first | exact Or.inl rfl | exact Or.inr (Or.inl rfl) | exact Or.inr (Or.inr rfl)) (hd : (x == ("__debug__" : Str)) = false := by decide) (hcd : (x == ("__classdict__" : Str)) = false := by decide)
    (hbase : attributeBase (.Name x px) "pop" X.env (eval (.Name x px) X.env) = eval (.Name x px) X.env := by rfl)
    (hfew : ((backTo cpos (starEach [e] X.env)).all (fun x => !x.1) && (backToKw cpos (keywordEach [] X.env)).all (fun x => x.1.isSome)
      && decide (([e] : List Expr).length + ([] : List Keyword).length + (if ([] : List Keyword).isEmpty then 0 else 1) < 30)) = true := by rfl)
    (hline : (apos.endLine == cpos.line) = true := by rfl) (hs : starEach [e] X.env = (false, eval e X.env) :: starEach [] X.env := by rfl) (hplain : (backTo cpos (starEach [] X.env)).any (·.1) = false := by rfl) :
    EX X (.Call (.Attribute (.Name x px) "pop" apos) [e] [] cpos) (tPopAt j te) := by
  refine ⟨PE.imp (pe_bm PySem.F.plainAttrs_list PySem.F.slot_list_pop PySem.F.type_list_pop mt_popAt (pe_var hN hv hd hcd) (pa_cons (PE.sz he.pe) pa_nil hs) hbase hfew hline hs hplain) ?_⟩
  rintro σ H Q ⟨ρ, fp, G, Qa, R, h, fin⟩
  obtain ⟨ts0, e0, h⟩ := lstAt_iff h
  obtain ⟨a, vs0, hv0, f0, h0, r0⟩ := R.lstE e0
  refine ⟨.ref a, hv0, .inl ⟨rfl, _, SqL.of h0⟩, ?_⟩
  show LX X.K te σ H fun v H1 => SzOk X.K H1 → rPopAt (.ref a) [v] H1 Q
  refine ⟨ρ, fp, G, _, R, h, fun v p A H1 ρ1 fp1 R1 r1 x1 h1 sz => ?_⟩
  split at h1
  · rename_i i ep
    obtain ⟨ts, e2, h2⟩ := lstAt_iff h1
    obtain ⟨b, vs, hv2, f2, hb, rb⟩ := R1.lstE e2
    rw [hv0] at hv2; cases hv2
    have ev : v = .int i := RP.intE (r1.rw0 R1 ep)
    subst ev
    split at h2
    · rename_i k ek
      split at h2
      · rename_i y ey
        obtain ⟨q1, q2, q3, q4⟩ := ixN_seq ek
        have hl := Paired.len rb
        obtain ⟨w, hw, rw_⟩ := Paired.at rb ey
        have szv := sz.1 _ _ (SqL.of hb)
        rw [sizeLine_eq] at szv
        refine ⟨a, vs, i, k, w, rfl, rfl, hb, by omega, by omega, by rw [hl]; exact q1, hw, ?_⟩
        have ux : Ext H1 (Fo fp1) (upd H1 a (.lst (vs.eraseIdx k))) (Fo fp1) := upd_ext hb trivial ⟨j, by rw [f2]; exact List.mem_singleton.mpr rfl⟩ fun _ z => z
        obtain ⟨R3, x3⟩ := (R1.sub (G' := G) fun a m => List.mem_append_right _ m).mut (u' := .lst (vs.eraseIdx k)) (o' := .lst (ts.eraseIdx k)) e2 hv0 f2 hb trivial
          ⟨a, _, rfl, rfl, upd_same, RPs.weak (RPs.extG ux (Paired.eraseP k rb)) fun a z => z.imp (fun q => q) (List.mem_append_right _)⟩
        exact fin w (.val (.pure y)) [] _ _ fp1 R3 (rop_pure ((rw_.ext (ux.addG (A ++ G))).weak fun a z => z.imp (fun q => q) (List.mem_append_right _))) ((x1.or.trans x3).weak (fun _ z => z) fun a z => z.elim (fun q => q) fun m => (List.not_mem_nil m).elim) h2
      · exact h2.elim
    · exact h2.elim
  · exact h1.elim
theorem sx_setIx {P : Nat → Bool} {ei : Expr} {spos : Pos} (j : Nat) (hN : X.N[j]? = some x) (he : EX X e te) (hi : EX X ei ti)
    (hv : Vis X.env.scope x := by first | exact Or.inl rfl | exact Or.inr (Or.inl rfl) | exact Or.inr (Or.inr rfl)) (hd : (x == ("__debug__" : Str)) = false := by decide) (hcd : (x == ("__classdict__" : Str)) = false := by decide)
    (hs : swapsWithSole [.Subscript (.Name x px) ei spos] e pos.line X.env = pure false := by rfl) (hw : swappedStores [.Subscript (.Name x px) ei spos] e X.env = pure none := by rfl)
    (h1 : (assignEach [.Subscript (.Name x px) ei spos] X.env).map (·.2) = [assign (.Subscript (.Name x px) ei spos) X.env] := by rfl)
    (ha : ∀ v, assign (.Subscript (.Name x px) ei spos) X.env v = (do
      let ov ← holding [v] (eval (.Name x px) X.env)
      let iv ← holding [v, ov] (eval ei X.env)
      standAt spos
      holding [v, ov, iv] (setItem ov iv v)
      release [v, ov, iv] []) := by intro _; rfl) :
    SX X P (.Assign [.Subscript (.Name x px) ei spos] e pos) (sSetIx j te ti) := by
  refine ⟨PS.imp (ps_asg he.pe (pg_sub (pe_var hN hv hd hcd) hi.pe set_list ha) hs hw h1) ?_⟩
  rintro D σ H ⟨ρ, fp, G, Da, R, h, f⟩
  refine ⟨ρ, fp, G, _, R, h, fun v p A H1 ρ1 fp1 R1 r1 x1 h1 => ?_⟩
  obtain ⟨y, ρ2, fp2, R2, r2, i2, h2⟩ := take1_ok R1 r1 h1
  obtain ⟨ts0, e0, h2⟩ := lstAt_iff h2
  obtain ⟨a, vs0, hv0, f0, h0, r0⟩ := R2.lstE e0
  have x2 : Ext H (Fo fp) H1 (Fo fp2) := x1.or.weak (fun _ z => z) i2
  refine ⟨.ref a, hv0, ρ2, fp2, G, _, R2, h2, fun u q B H3 ρ3 fp3 R3 r3 x3 h3 => ?_⟩
  split at h3
  · rename_i k ek
    obtain ⟨ts, e3, h3⟩ := lstAt_iff h3
    obtain ⟨b, vs, hv3, f3, hb, rb⟩ := (R3.sub (G' := G) fun a m => List.mem_append_right _ m).lstE e3
    rw [hv0] at hv3; cases hv3
    have eu : u = .int k := RP.intE (r3.rw0 R3 ek)
    subst eu
    split at h3
    · rename_i m em
      refine ⟨a, vs, k, m, rfl, rfl, hb, by rw [Paired.len rb]; exact em, ?_⟩
      have ux : Ext H3 (Fo fp3) (upd H3 a (.lst (vs.set m v))) (Fo fp3) := upd_ext hb trivial ⟨j, by rw [f3]; exact List.mem_singleton.mpr rfl⟩ fun _ z => z
      have rv : RP X.K (upd H3 a (.lst (vs.set m v))) (Or1 (Fo fp3) G) v y := ((r2.ext (x3.or.addG G)).ext (ux.addG G))
      obtain ⟨R4, x4⟩ := (R3.sub (G' := G) fun a m => List.mem_append_right _ m).mut (u' := .lst (vs.set m v)) (o' := .lst (ts.set m y)) e3 hv0 f3 hb trivial ⟨a, _, rfl, rfl, upd_same, Paired.setP rv m (RPs.extG ux rb)⟩
      exact f.nx σ _ _ fp3 R4 ((x2.trans x3.or).trans x4) .refl h3
    · exact h3.elim
  · exact h3.elim
end

/-! ### two or three names at once -/
def setV : St → List Nat → List V → St
  | σ, j :: js, v :: vs => setV (σ.set j (some v)) js vs
  | σ, _, _ => σ
def setO : AEnv → List Nat → List O → AEnv
  | ρ, j :: js, o :: os => setO (ρ.set j (some o)) js os
  | ρ, _, _ => ρ
theorem puts_ok {K : PySem.W.Frag} {H : Hp} {G : List Addr} {P : Nat → Bool} : ∀ {js : List Nat} {vs : List V} {os : List O} {Bs : List (List Addr)} {σ : St} {ρ : AEnv} {fp : Nat → List Addr}, RS K σ H ρ fp (Bs.flatten ++ G) → RCs K H (Or1 (Fo fp) (Bs.flatten ++ G)) vs os Bs → Bs.flatten.Nodup → (∀ a ∈ Bs.flatten, a ∉ G) →
    js.length = os.length → (∀ j ∈ js, j < ρ.length) → (∀ j ∈ js, P j = false) → ∃ fp', RS K (setV σ js vs) H (setO ρ js os) fp' G ∧ (∀ a, Fo fp' a → Fo fp a ∨ a ∈ Bs.flatten) ∧ PinEq P σ (setV σ js vs)
  | [], _, _, _, σ, ρ, fp, R, r, d, n, hl, _, _ => by
    cases r with
    | nil => exact ⟨fp, R, fun a z => .inl z, .refl⟩
    | cons => cases hl
  | j :: js, _, _, _, σ, ρ, fp, R, r, d, n, hl, hj, hp => by
    cases r with
    | nil => cases hl
    | @cons v o B vs os Bs r rr =>
      simp only [List.flatten_cons] at d n R r rr ⊢
      obtain ⟨dB, dBs, dd⟩ := List.nodup_append.mp d
      have R' : RS K σ H ρ fp (B ++ (Bs.flatten ++ G)) := by rw [List.append_assoc] at R; exact R
      have R1 := R'.put (v := v) (o := o) (hj j List.mem_cons_self) (r.weak fun a z => z.imp (fun q => q) fun m => by rw [List.append_assoc]; exact m) dB (fun a m z => (List.mem_append.mp z).elim (fun z => dd a m a z rfl) (n a (List.mem_append_left _ m)))
      obtain ⟨fp', R2, i2, p2⟩ := puts_ok (js := js) (P := P) R1 (rr.weak fun a z => by
        rcases z with z | z
        · exact z.set.elim .inl fun m => .inr (by simp [m])
        · exact .inr (by rw [List.append_assoc]; exact List.mem_append_right _ z)) dBs (fun a m => n a (List.mem_append_right _ m)) (Nat.succ.inj hl) (fun i m => by rw [List.length_set]; exact hj i (List.mem_cons_of_mem _ m)) fun i m => hp i (List.mem_cons_of_mem _ m)
      refine ⟨fp', R2, fun a z => ?_, (pinSet (hp j List.mem_cons_self)).trans p2⟩
      rcases i2 a z with z | z
      · exact z.set.imp (fun q => q) fun m => List.mem_append_left _ m
      · exact .inr (List.mem_append_right _ z)
def sPar (js : List Nat) (ts : XTs) : ST := fun D ρ => ts ρ fun ps ρ1 => prep (js.map fun _ => true) ps ρ1 fun os _ ρ2 => (js.all fun j => Nat.blt j ρ2.length) = true ∧ D.nx (setO ρ2 js os)
theorem par_go {K : PySem.W.Frag} {P : Nat → Bool} {js : List Nat} {ts : XTs} {n : Nat} (hn : js.length = n) (hp : (js.all fun j => !P j) = true) {D : Ends} {σ : St} {H : Hp} (h : LS K P (sPar js ts) D σ H) : LA K n ts σ H fun vs H1 => vs.length = n ∧ D.nx (setV σ js vs) H1 := by
  obtain ⟨ρ, fp, G, Da, R, h, f⟩ := h
  refine ⟨ρ, fp, G, _, R, h, fun vs ps A H1 ρ1 fp1 hl R1 r1 nd1 ng1 x1 h1 => ⟨hl, ?_⟩⟩
  obtain ⟨os, js', ρ2, fp2, Bs, R2, r2, d2, n2, i2, _, _, _, hall, h2⟩ := prep_ok r1 R1 (fun a z => z) ng1 nd1 h1
  obtain ⟨fp3, R3, i3, p3⟩ := puts_ok (P := P) R2 r2 d2 n2 (by rw [hn, ← hl, r2.len.1]) (fun j m => Nat.le_of_ble_eq_true (List.all_eq_true.mp hall j m)) fun j m => by simpa using List.all_eq_true.mp hp j m
  refine f.nx _ H1 _ fp3 R3 (x1.weak (fun _ z => z) fun a z => ?_) p3 h2
  exact i2 a (i3 a z)
section
variable {X : Cx} {P : Nat → Bool} {x y z : Str} {a b c : Expr} {ts : XTs} {px py pz pt pos : Pos}
theorem sx_par2 {kt k2 pt2} (i j : Nat) (hc : X.calm = true) (hN : X.N.Nodup) (hi : X.N[i]? = some x) (hj : X.N[j]? = some y) (hx : X.env.scope.names.lookup x = some .local) (hy : X.env.scope.names.lookup y = some .local) (ha : EXs X [a, b] ts)
    (hw : swappedStores [.Tuple [.Name x px, .Name y py] kt pt] (.Tuple [a, b] k2 pt2) X.env = pure (some [x, y])) (hij : i ≠ j := by decide) (hp : (([i, j] : List Nat).all fun j => !P j) = true := by rfl)
    (hs : swapsWithSole [.Tuple [.Name x px, .Name y py] kt pt] (.Tuple [a, b] k2 pt2) pos.line X.env = pure false := by rfl) :
    SX X P (.Assign [.Tuple [.Name x px, .Name y py] kt pt] (.Tuple [a, b] k2 pt2) pos) (sPar [i, j] ts) := by
  refine ⟨PS.imp (ps_par hc hN hi hj hij hx hy ha.pa hw hs) fun D σ H h => ?_⟩
  obtain ⟨ρ, fp, G, Qa, R, h, f⟩ := par_go (n := 2) rfl hp h
  refine ⟨ρ, fp, G, Qa, R, h, fun vs ps A H1 ρ1 fp1 hl R1 r1 nd1 ng1 x1 h1 => ?_⟩
  obtain ⟨_, q⟩ := f vs ps A H1 ρ1 fp1 hl R1 r1 nd1 ng1 x1 h1
  match vs, hl with
  | [v, w], _ => exact ⟨v, w, rfl, q⟩
theorem sx_par3 {kt k2 pt2} (i j l : Nat) (hc : X.calm = true) (hN : X.N.Nodup) (hi : X.N[i]? = some x) (hj : X.N[j]? = some y) (hl : X.N[l]? = some z) (hx : X.env.scope.names.lookup x = some .local) (hy : X.env.scope.names.lookup y = some .local) (hz : X.env.scope.names.lookup z = some .local)
    (ha : EXs X [a, b, c] ts)
    (hw : swappedStores [.Tuple [.Name x px, .Name y py, .Name z pz] kt pt] (.Tuple [a, b, c] k2 pt2) X.env = pure (some [x, y, z])) (hij : i ≠ j := by decide) (hil : i ≠ l := by decide) (hjl : j ≠ l := by decide) (hp : (([i, j, l] : List Nat).all fun j => !P j) = true := by rfl)
    (hs : swapsWithSole [.Tuple [.Name x px, .Name y py, .Name z pz] kt pt] (.Tuple [a, b, c] k2 pt2) pos.line X.env = pure false := by rfl) :
    SX X P (.Assign [.Tuple [.Name x px, .Name y py, .Name z pz] kt pt] (.Tuple [a, b, c] k2 pt2) pos) (sPar [i, j, l] ts) := by
  refine ⟨PS.imp (ps_par3 hc hN hi hj hl hij hil hjl hx hy hz ha.pa hw hs) fun D σ H h => ?_⟩
  obtain ⟨ρ, fp, G, Qa, R, h, f⟩ := par_go (n := 3) rfl hp h
  refine ⟨ρ, fp, G, Qa, R, h, fun vs ps A H1 ρ1 fp1 hl R1 r1 nd1 ng1 x1 h1 => ?_⟩
  obtain ⟨_, q⟩ := f vs ps A H1 ρ1 fp1 hl R1 r1 nd1 ng1 x1 h1
  match vs, hl with
  | [u, v, w], _ => exact ⟨u, v, w, rfl, q⟩
end
end DL

set_option Elab.async false
set_option linter.all false
set_option maxRecDepth 100000
set_option maxHeartbeats 4000000
/-! THE DATA LAYER, part 9: trees as the library reads them; ==. -/
namespace DL
open PySem PySem.Spec L2
open PyProof.Rows hiding St

/-! ### a tree is read -/
theorem keys_read {P : Program} {w : World} {h : Heap} : ∀ {es : List DictEntry} {vs : List (Key × Value)}, Pairs (mixKind P w) es vs → ∃ as, ReadsAll h (es.map (·.key)) (vs.map fun p => keyT p.1) as
  | _, _, .nil => ⟨_, .nil⟩
  | _, _, .cons (e := e) (kv := kv) hk hv r => by
    obtain ⟨as, ih⟩ := keys_read (h := h) r
    rcases keyIs_shape hk with ⟨i, t, e1, e2⟩ | ⟨x, t, e1, e2⟩
    · have q : Reads h e.key (keyT kv.1) [] := by rw [e2, e1]; exact .int i t
      exact ⟨_, .cons q ih⟩
    · have q : Reads h e.key (keyT kv.1) [] := by rw [e2, e1]; exact .str x t
      exact ⟨_, .cons q ih⟩
theorem vals_of_pairs {P : Program} {w : World} : ∀ {es : List DictEntry} {vs : List (Key × Value)}, Pairs (mixKind P w) es vs → es.map (·.val) = vs.map (·.2)
  | _, _, .nil => rfl
  | _, _, .cons hk hv r => by simp only [List.map_cons]; rw [hv, vals_of_pairs r]
theorem kv_vals : ∀ {kvs : List (Key × V)} {vs : List (Key × Value)}, KV kvs vs → Vals (kvs.map (·.2)) (vs.map (·.2)) ∧ kvs.map (·.1) = vs.map (·.1)
  | _, _, .nil => ⟨.nil, rfl⟩
  | _, _, .cons h r => by
    obtain ⟨h1, h2⟩ := kv_vals r
    exact ⟨.cons h.2 h1, by simp only [List.map_cons]; rw [h.1, h2]⟩
theorem zipT : ∀ {kvs : List (Key × V)} {ts : List T}, kvs.length = ts.length → (List.zipWith (fun (p : Key × V) (t : T) => (keyT p.1, t)) kvs ts).map (·.1) = kvs.map (fun p => keyT p.1) ∧ (List.zipWith (fun (p : Key × V) (t : T) => (keyT p.1, t)) kvs ts).map (·.2) = ts
  | [], [], _ => ⟨rfl, rfl⟩
  | [], _ :: _, h => by cases h
  | _ :: _, [], h => by cases h
  | k :: kvs, t :: ts, h => by
    obtain ⟨h1, h2⟩ := zipT (kvs := kvs) (ts := ts) (Nat.succ.inj h)
    exact ⟨by simp only [List.zipWith_cons_cons, List.map_cons, h1], by simp only [List.zipWith_cons_cons, List.map_cons, h2]⟩
/-- none of a tree's addresses is the table of modules -/
def NoSys (as : List Addr) : Prop := sysModules ∉ as
section
variable {X : Cx} {pins : List (Addr × Obj)} {σ : St} {H : Hp} {s : Shared}
mutual
theorem RV.reads (I : Inv X pins σ H s) : ∀ {v : V} {t : T} {as : List Addr} {u : Value}, RV X.K H v t as → RelV v u → ∃ bs, Reads s.heap u t bs
  | _, _, _, _, .non, r => by cases r; exact ⟨_, .none⟩
  | _, _, _, _, .bl b, r => by cases r; exact ⟨_, .bool b⟩
  | _, _, _, _, .int i, r => by obtain ⟨t, rfl⟩ := r; exact ⟨_, .int i t⟩
  | _, _, _, _, .str x, r => by obtain ⟨t, rfl⟩ := r; exact ⟨_, .str x t⟩
  | _, _, _, _, .tup h q, r => by
    cases r
    obtain ⟨its, rv, ⟨o, ho, hc, n, hd⟩, _⟩ := I.tuple h
    obtain ⟨bs, z⟩ := RVs.reads I q rv
    exact ⟨_, .tuple ho hc hd (by simpa using z)⟩
  | _, _, _, _, .lst h q, r => by
    cases r
    obtain ⟨its, rv, ⟨o, n, ho, hc, _, hd⟩, _⟩ := I.list (.inl h)
    obtain ⟨bs, z⟩ := RVs.reads I q rv
    exact ⟨_, .list ho hc hd (by simpa using z)⟩
  | _, _, _, _, .lstK h1 h2 h3 h4 h5 h6 q, r => by
    cases r
    obtain ⟨bs, z⟩ := RVs.reads I q h6
    exact ⟨_, .list (I.kIn _ _ h1) h2 h4 z⟩
  | _, _, _, _, .dct (kvs := kvs) (ts := ts) h q, r => by
    cases r
    obtain ⟨_, hs, vs, kv, o, es, ep, h1, h2, h3, h4, h5, _⟩ := dk_rd I.hok h
    obtain ⟨v1, v2⟩ := kv_vals kv
    obtain ⟨bs, z⟩ := RVs.reads I q v1
    obtain ⟨as, zk⟩ := keys_read (h := s.heap) h5
    have hl : kvs.length = ts.length := by have := RVs.length q; simpa using this
    obtain ⟨e1, e2⟩ := zipT hl
    refine ⟨_, .dict (as := as) (bs := bs) h1 h2.1 h3 ?_ ?_⟩
    · have : vs.map (fun p => keyT p.1) = kvs.map (fun p => keyT p.1) := by
        have := congrArg (List.map keyT) v2
        simp only [List.map_map] at this
        exact this.symm
      rw [this] at zk
      exact e1 ▸ zk
    · rw [vals_of_pairs h5]
      exact e2.symm ▸ z
theorem RVs.reads (I : Inv X pins σ H s) : ∀ {vs : List V} {ts : List T} {as : List Addr} {us : List Value}, RVs X.K H vs ts as → Vals vs us → ∃ bs, ReadsAll s.heap us ts bs
  | _, _, _, _, .nil, r => by cases r; exact ⟨_, .nil⟩
  | _, _, _, _, .cons h q, r => by
    cases r with
    | cons r1 r2 =>
      obtain ⟨bs, z⟩ := RV.reads I h r1
      obtain ⟨cs, y⟩ := RVs.reads I q r2
      exact ⟨_, .cons z y⟩
end
theorem RW.reads (I : Inv X pins σ H s) {F : Addr → Prop} {v : V} {o : O} {u : Value} (h : RW X.K H F v o) (r : RelV v u) : ∃ bs, Reads s.heap u o.frz bs := let ⟨_, q⟩ := h.view; q.reads I r
end

/-! ### == of trees -/
section
variable {A : Around} {s : Shared}
open PySem.SeqAt
theorem str_eq_dict (b : Str) (u : Tok) (l : Addr) (c : Value) (es : Array DictEntry) (n : Nat) (dd : Option Addr) (sl : Array (Option Value)) :
    Meets (Builtin.«str.__eq__» ⟨[.str b u, .ref l], []⟩) (fun _ R s => s.heap.get? l = some { cls := c, dict := dd, data := .dict es n, slots := sl } ∧ R (.ok (.ret .notImplemented)) s) :=
  .of_wp fun prog w A R s h => by obtain ⟨hp, g, d, tk, os⟩ := s; obtain ⟨hl, h⟩ := h; wp_walk using AutoSeq1.wpAny_loadPart' hl, wpAny_load hl; exact ⟨_, rfl, h⟩
theorem dict_eq_str (b : Str) (u : Tok) (l : Addr) (es : Array DictEntry) (n : Nat) (dd : Option Addr) (sl : Array (Option Value)) :
    Meets (Builtin.«dict.__eq__» ⟨[.ref l, .str b u], []⟩) (fun _ R s => s.heap.get? l = some { cls := .type "dict", dict := dd, data := .dict es n, slots := sl } ∧ R (.ok (.ret .notImplemented)) s) :=
  .of_wp fun prog w A R s h => by obtain ⟨hp, g, d, tk, os⟩ := s; obtain ⟨hl, h⟩ := h; have f1 := F.sub_str_dict; wp_walk using AutoSeq1.wpAny_loadPart' hl, wpAny_load hl; exact ⟨_, rfl, h⟩
def IsDc (h : Heap) (a : Addr) : Prop := ∃ o es n, h.get? a = some o ∧ o.cls = .type "dict" ∧ o.data = .dict es n
theorem RcAt.str_dict {l : Addr} (b : Str) (u : Tok) (hl : IsDc s.heap l) (hu : A.units < cLine) : RcAt A s (.str b u) (.ref l) false := fun prog w E Q h => by
  obtain ⟨⟨cls, dd, data, sl⟩, es, n, ho, hc, hd⟩ := hl
  simp only at hc hd
  subst hc hd
  exact rc_eq_decline_or (k := false) (typeIs_str s b u) ⟨_, ho, rfl⟩ (by decide) F.sub_dict_str F.slot_str_eq F.slot_dict_eq_refl
    (fun _ hq => call_meets F.slot_str_eq (typeIs_str s b u) F.entry_str_eq (F.args_str_eq_2 _ _) (str_eq_dict b u l (.type "dict") es n dd sl) ⟨ho, hq⟩)
    (fun _ hq => call_meets F.slot_dict_eq_refl ⟨_, ho, rfl⟩ F.entry_dict_eq (F.args_dict_eq_2 _ _) (dict_eq_str b u l es n dd sl) ⟨ho, hq⟩)
    (fun _ hq => wpAny_of_eq (rfl : isSame (.str b u) (.ref l) = pure false) hq) (.inr hu) h
theorem RcAt.dict_str {l : Addr} (b : Str) (u : Tok) (hl : IsDc s.heap l) (hu : A.units < cLine) : RcAt A s (.ref l) (.str b u) false := fun prog w E Q h => by
  obtain ⟨⟨cls, dd, data, sl⟩, es, n, ho, hc, hd⟩ := hl
  simp only at hc hd
  subst hc hd
  exact rc_eq_decline_or (k := false) ⟨_, ho, rfl⟩ (typeIs_str s b u) (by decide) F.sub_str_dict F.slot_dict_eq F.slot_str_eq_refl
    (fun _ hq => call_meets F.slot_dict_eq ⟨_, ho, rfl⟩ F.entry_dict_eq (F.args_dict_eq_2 _ _) (dict_eq_str b u l es n dd sl) ⟨ho, hq⟩)
    (fun _ hq => call_meets F.slot_str_eq_refl (typeIs_str s b u) F.entry_str_eq (F.args_str_eq_2 _ _) (str_eq_dict b u l (.type "dict") es n dd sl) ⟨ho, hq⟩)
    (fun _ hq => wpAny_of_eq (rfl : isSame (.ref l) (.str b u) = pure false) hq) (.inr hu) h
theorem EqAt.str_dict {l : Addr} (b : Str) (u : Tok) (hl : IsDc s.heap l) (hu : A.units < cLine) : EqAt A s (.str b u) (.ref l) false := fun prog w E Q h => by
  unfold eqBool
  refine wpAny_holding ?_
  refine wpAny_ite_split (fun hab => absurd (eq_of_beq hab) nofun) (fun _ => ?_)
  exact wpAny_bind (RcAt.str_dict b u hl hu prog w E _ (wpAny_truthy_bool h))
theorem EqAt.dict_str {l : Addr} (b : Str) (u : Tok) (hl : IsDc s.heap l) (hu : A.units < cLine) : EqAt A s (.ref l) (.str b u) false := fun prog w E Q h => by
  unfold eqBool
  refine wpAny_holding ?_
  refine wpAny_ite_split (fun hab => absurd (eq_of_beq hab) nofun) (fun _ => ?_)
  exact wpAny_bind (RcAt.dict_str b u hl hu prog w E _ (wpAny_truthy_bool h))
end

mutual
/-- no two dicts meet -/
def cmpOk : T → T → Bool
  | .dict _, .str _ => true
  | .str _, .dict _ => true
  | .dict _, _ => false
  | _, .dict _ => false
  | .list xs, .list ys => xs.length != ys.length || cmpOks xs ys
  | .tuple xs, .tuple ys => cmpOks xs ys
  | _, _ => true
def cmpOks : List T → List T → Bool
  | x :: xs, y :: ys => cmpOk x y && cmpOks xs ys
  | _, _ => true
end
theorem eq_flat {A : Around} {s : Shared} {a b : Value} {d e : T} {as bs : List Addr} (ra : Reads s.heap a d as) (rb : Reads s.heap b e bs) (hc : cmpOk d e = true) (hu : A.units < cLine)
    (hl : ∀ xs ys, ¬ (d = .list xs ∧ e = .list ys)) (ht : ∀ xs ys, ¬ (d = .tuple xs ∧ e = .tuple ys)) : SeqAt.EqAt A s a b (PyData.eqv d e) ∧ SeqAt.RcAt A s a b (PyData.eqv d e) := by
  open PySem.SeqAt in
  cases ra with
  | none =>
    cases rb with
    | none => exact ⟨EqAt.same _, RcAt.none_none⟩
    | bool y => exact ⟨EqAt.none_bool y, RcAt.none_bool y⟩
    | int y u => exact ⟨EqAt.none_int y u, RcAt.none_int y u⟩
    | str y u => exact ⟨EqAt.none_str y u, RcAt.none_str y u⟩
    | list k1 k2 k3 k4 => exact ⟨EqAt.none_list ⟨_, k1, k2, _, k3⟩ hu, RcAt.none_list ⟨_, k1, k2, _, k3⟩ hu⟩
    | tuple k1 k2 k3 k4 => exact ⟨EqAt.none_tuple ⟨_, k1, k2, _, k3⟩ hu, RcAt.none_tuple ⟨_, k1, k2, _, k3⟩ hu⟩
    | dict => exact absurd hc (by simp [cmpOk])
  | bool x =>
    cases rb with
    | none => exact ⟨EqAt.bool_none x, RcAt.bool_none x⟩
    | bool y => exact ⟨EqAt.bool_bool x y, RcAt.bool_bool x y⟩
    | int y u => exact ⟨EqAt.bool_int x y u, RcAt.bool_int x y u⟩
    | str y u => exact ⟨EqAt.bool_str x y u, RcAt.bool_str x y u⟩
    | list k1 k2 k3 k4 => exact ⟨EqAt.bool_list x ⟨_, k1, k2, _, k3⟩ hu, RcAt.bool_list x ⟨_, k1, k2, _, k3⟩ hu⟩
    | tuple k1 k2 k3 k4 => exact ⟨EqAt.bool_tuple x ⟨_, k1, k2, _, k3⟩ hu, RcAt.bool_tuple x ⟨_, k1, k2, _, k3⟩ hu⟩
    | dict => exact absurd hc (by simp [cmpOk])
  | int x t =>
    cases rb with
    | none => exact ⟨EqAt.int_none x t, RcAt.int_none x t⟩
    | bool y => exact ⟨EqAt.int_bool x t y, RcAt.int_bool x t y⟩
    | int y u => exact ⟨EqAt.int_int x t y u, RcAt.int_int x t y u⟩
    | str y u => exact ⟨EqAt.int_str x t y u, RcAt.int_str x t y u⟩
    | list k1 k2 k3 k4 => exact ⟨EqAt.int_list x t ⟨_, k1, k2, _, k3⟩ hu, RcAt.int_list x t ⟨_, k1, k2, _, k3⟩ hu⟩
    | tuple k1 k2 k3 k4 => exact ⟨EqAt.int_tuple x t ⟨_, k1, k2, _, k3⟩ hu, RcAt.int_tuple x t ⟨_, k1, k2, _, k3⟩ hu⟩
    | dict => exact absurd hc (by simp [cmpOk])
  | str x t =>
    cases rb with
    | none => exact ⟨EqAt.str_none x t, RcAt.str_none x t⟩
    | bool y => exact ⟨EqAt.str_bool x t y, RcAt.str_bool x t y⟩
    | int y u => exact ⟨EqAt.str_int x t y u, RcAt.str_int x t y u⟩
    | str y u => exact ⟨EqAt.str_str x t y u, RcAt.str_str x t y u⟩
    | list k1 k2 k3 k4 => exact ⟨EqAt.str_list x t ⟨_, k1, k2, _, k3⟩ hu, RcAt.str_list x t ⟨_, k1, k2, _, k3⟩ hu⟩
    | tuple k1 k2 k3 k4 => exact ⟨EqAt.str_tuple x t ⟨_, k1, k2, _, k3⟩ hu, RcAt.str_tuple x t ⟨_, k1, k2, _, k3⟩ hu⟩
    | dict k1 k2 k3 => exact ⟨DL.EqAt.str_dict x t ⟨_, _, _, k1, k2, k3⟩ hu, DL.RcAt.str_dict x t ⟨_, _, _, k1, k2, k3⟩ hu⟩
  | list h1 h2 h3 h4 =>
    cases rb with
    | none => exact ⟨EqAt.list_none ⟨_, h1, h2, _, h3⟩ hu, RcAt.list_none ⟨_, h1, h2, _, h3⟩ hu⟩
    | bool y => exact ⟨EqAt.list_bool y ⟨_, h1, h2, _, h3⟩ hu, RcAt.list_bool y ⟨_, h1, h2, _, h3⟩ hu⟩
    | int y u => exact ⟨EqAt.list_int y u ⟨_, h1, h2, _, h3⟩ hu, RcAt.list_int y u ⟨_, h1, h2, _, h3⟩ hu⟩
    | str y u => exact ⟨EqAt.list_str y u ⟨_, h1, h2, _, h3⟩ hu, RcAt.list_str y u ⟨_, h1, h2, _, h3⟩ hu⟩
    | tuple k1 k2 k3 k4 => exact ⟨EqAt.list_tuple ⟨_, h1, h2, _, h3⟩ ⟨_, k1, k2, _, k3⟩ hu, RcAt.list_tuple ⟨_, h1, h2, _, h3⟩ ⟨_, k1, k2, _, k3⟩ hu⟩
    | list => exact absurd ⟨rfl, rfl⟩ (hl _ _)
    | dict => exact absurd hc (by simp [cmpOk])
  | tuple h1 h2 h3 h4 =>
    cases rb with
    | none => exact ⟨EqAt.tuple_none ⟨_, h1, h2, _, h3⟩ hu, RcAt.tuple_none ⟨_, h1, h2, _, h3⟩ hu⟩
    | bool y => exact ⟨EqAt.tuple_bool y ⟨_, h1, h2, _, h3⟩ hu, RcAt.tuple_bool y ⟨_, h1, h2, _, h3⟩ hu⟩
    | int y u => exact ⟨EqAt.tuple_int y u ⟨_, h1, h2, _, h3⟩ hu, RcAt.tuple_int y u ⟨_, h1, h2, _, h3⟩ hu⟩
    | str y u => exact ⟨EqAt.tuple_str y u ⟨_, h1, h2, _, h3⟩ hu, RcAt.tuple_str y u ⟨_, h1, h2, _, h3⟩ hu⟩
    | list k1 k2 k3 k4 => exact ⟨EqAt.tuple_list ⟨_, h1, h2, _, h3⟩ ⟨_, k1, k2, _, k3⟩ hu, RcAt.tuple_list ⟨_, h1, h2, _, h3⟩ ⟨_, k1, k2, _, k3⟩ hu⟩
    | tuple => exact absurd ⟨rfl, rfl⟩ (ht _ _)
    | dict => exact absurd hc (by simp [cmpOk])
  | dict h1 h2 h3 =>
    cases rb with
    | str y u => exact ⟨DL.EqAt.dict_str y u ⟨_, _, _, h1, h2, h3⟩ hu, DL.RcAt.dict_str y u ⟨_, _, _, h1, h2, h3⟩ hu⟩
    | none => exact absurd hc (by simp [cmpOk])
    | bool y => exact absurd hc (by simp [cmpOk])
    | int y u => exact absurd hc (by simp [cmpOk])
    | list => exact absurd hc (by simp [cmpOk])
    | tuple => exact absurd hc (by simp [cmpOk])
    | dict => exact absurd hc (by simp [cmpOk])
mutual
theorem reads_one {h : Heap} : ∀ {d e : T} {v : Value} {as bs : List Addr}, Reads h v d as → Reads h v e bs → d = e
  | _, _, _, _, _, .none, k => by cases k; rfl
  | _, _, _, _, _, .bool b, k => by cases k; rfl
  | _, _, _, _, _, .int i t, k => by cases k; rfl
  | _, _, _, _, _, .str x t, k => by cases k; rfl
  | _, _, _, _, _, .list h1 h2 h3 h4, k => by
    cases k with
    | list k1 k2 k3 k4 =>
      rw [h1] at k1; cases k1; rw [h3] at k3; cases k3
      rw [readsAll_one h4 k4]
    | tuple k1 k2 k3 k4 => rw [h1] at k1; cases k1; exact absurd (Value.type.inj (h2.symm.trans k2)) (by decide)
    | dict k1 k2 k3 k4 => rw [h1] at k1; cases k1; exact absurd (Value.type.inj (h2.symm.trans k2)) (by decide)
  | _, _, _, _, _, .tuple h1 h2 h3 h4, k => by
    cases k with
    | tuple k1 k2 k3 k4 =>
      rw [h1] at k1; cases k1; rw [h3] at k3; cases k3
      rw [readsAll_one h4 k4]
    | list k1 k2 k3 k4 => rw [h1] at k1; cases k1; exact absurd (Value.type.inj (h2.symm.trans k2)) (by decide)
    | dict k1 k2 k3 k4 => rw [h1] at k1; cases k1; exact absurd (Value.type.inj (h2.symm.trans k2)) (by decide)
  | _, _, _, _, _, .dict h1 h2 h3 h4 h5, k => by
    cases k with
    | dict k1 k2 k3 k4 k5 =>
      rw [h1] at k1; cases k1; rw [h3] at k3; cases k3
      have e1 := readsAll_one h4 k4
      have e2 := readsAll_one h5 k5
      congr 1
      refine List.ext_getElem? fun i => ?_
      have f1 := congrArg (fun l => l[i]?) e1
      have f2 := congrArg (fun l => l[i]?) e2
      simp only [List.getElem?_map] at f1 f2
      revert f1 f2
      generalize (_ : List (T × T))[i]? = x
      generalize (_ : List (T × T))[i]? = y
      intro f1 f2
      cases x <;> cases y <;> simp_all
      rename_i p q
      exact Prod.ext f1 f2
    | list k1 k2 k3 k4 => rw [h1] at k1; cases k1; exact absurd (Value.type.inj (h2.symm.trans k2)) (by decide)
    | tuple k1 k2 k3 k4 => rw [h1] at k1; cases k1; exact absurd (Value.type.inj (h2.symm.trans k2)) (by decide)
theorem readsAll_one {h : Heap} : ∀ {ds es : List T} {vs : List Value} {as bs : List Addr}, ReadsAll h vs ds as → ReadsAll h vs es bs → ds = es
  | _, _, _, _, _, .nil, k => by cases k; rfl
  | _, _, _, _, _, .cons h1 h2, k => by
    cases k with
    | cons k1 k2 => rw [reads_one h1 k1, readsAll_one h2 k2]
end
mutual
theorem cmpOk_refl : ∀ d : T, cmpOk d d = true → PyData.eqv d d = true
  | .none, _ => by simp [PyData.eqv]
  | .bool b, _ => by simp [PyData.eqv]
  | .int i, _ => by simp [PyData.eqv]
  | .str x, _ => by simp [PyData.eqv]
  | .list xs, h => by simp only [PyData.eqv]; exact cmpOks_refl xs (by simpa [cmpOk] using h)
  | .tuple xs, h => by simp only [PyData.eqv]; exact cmpOks_refl xs (by simpa [cmpOk] using h)
  | .dict _, h => by simp [cmpOk] at h
theorem cmpOks_refl : ∀ xs : List T, cmpOks xs xs = true → PyData.eqvAll xs xs = true
  | [], _ => by simp [PyData.eqvAll]
  | x :: xs, h => by
    have h' : cmpOk x x = true ∧ cmpOks xs xs = true := by simpa [cmpOks] using h
    simp [PyData.eqvAll, cmpOk_refl x h'.1, cmpOks_refl xs h'.2]
end
theorem cmpOks_at : ∀ {xs ys : List T} (j : Nat) (h1 : j < xs.length) (h2 : j < ys.length), cmpOks xs ys = true → cmpOk xs[j] ys[j] = true
  | [], _, _, h, _, _ => absurd h (Nat.not_lt_zero _)
  | _ :: _, [], _, _, h, _ => absurd h (Nat.not_lt_zero _)
  | x :: xs, y :: ys, 0, _, _, h => by simp [cmpOks] at h; exact h.1
  | x :: xs, y :: ys, j + 1, h1, h2, h => by
    simp [cmpOks] at h
    exact cmpOks_at (xs := xs) (ys := ys) j (Nat.lt_of_succ_lt_succ h1) (Nat.lt_of_succ_lt_succ h2) h.2
mutual
theorem eq_trees : ∀ (d e : T) (A : Around) (s : Shared) (a b : Value) (as bs : List Addr), Reads s.heap a d as → Reads s.heap b e bs → cmpOk d e = true → A.units + min d.depth e.depth < cLine →
    SeqAt.EqAt A s a b (PyData.eqv d e) ∧ SeqAt.RcAt A s a b (PyData.eqv d e)
  | .list xs, .list ys, A, s, _, _, _, _, .list (a := l) (vs := vs) h1 h2 h3 h4, .list (a := l') (vs := vs') k1 k2 k3 k4, hc, hu => by
    have hl : s.heap.IsList l vs := ⟨_, h1, h2, _, h3⟩
    have hl' : s.heap.IsList l' vs' := ⟨_, k1, k2, _, k3⟩
    have n1 : vs.size = xs.length := by simpa using SeqAt.ReadsAll.length _ _ _ h4
    have n2 : vs'.size = ys.length := by simpa using SeqAt.ReadsAll.length _ _ _ k4
    simp only [PyData.eqv]
    have rc : SeqAt.RcAt A s (.ref l) (.ref l') (PyData.eqvAll xs ys) := by
      by_cases hsz : vs.size = vs'.size
      · rw [← SeqAt.eqvAll_same_length (by omega : xs.length = ys.length), ← n1]
        have hc' : cmpOks xs ys = true := by
          simp only [cmpOk, Bool.or_eq_true, bne_iff_ne] at hc
          exact hc.resolve_left fun z => z (by omega)
        refine SeqAt.RcAt.lists hl hl' hsz (SeqAt.room_here hu) fun j j1 j2 => ?_
        have := eq_treesAll xs ys A.in1 s vs.toList vs'.toList _ _ h4 k4 hc' (SeqAt.room_in hu) j (by simpa using j1) (by simpa using j2)
        simpa using this
      · rw [SeqAt.eqvAll_other_length (by omega : xs.length ≠ ys.length)]
        exact SeqAt.RcAt.lists_lengths hl hl' (by simpa using hsz) (SeqAt.room_here hu)
    refine ⟨?_, rc⟩
    by_cases hll : l = l'
    · subst hll
      have e : PyData.list xs = PyData.list ys := reads_one (.list h1 h2 h3 h4) (.list k1 k2 k3 k4)
      injection e with e
      subst e
      rw [cmpOks_refl xs (by simpa [cmpOk] using hc)]
      exact SeqAt.EqAt.same _
    · exact SeqAt.EqAt.of_refs hll rc
  | .tuple xs, .tuple ys, A, s, _, _, _, _, .tuple (a := l) (vs := vs) h1 h2 h3 h4, .tuple (a := l') (vs := vs') k1 k2 k3 k4, hc, hu => by
    have hl : s.heap.IsTuple l vs := ⟨_, h1, h2, _, h3⟩
    have hl' : s.heap.IsTuple l' vs' := ⟨_, k1, k2, _, k3⟩
    have n1 : vs.size = xs.length := by simpa using SeqAt.ReadsAll.length _ _ _ h4
    have n2 : vs'.size = ys.length := by simpa using SeqAt.ReadsAll.length _ _ _ k4
    have hc' : cmpOks xs ys = true := by simpa only [cmpOk] using hc
    simp only [PyData.eqv]
    have rc : SeqAt.RcAt A s (.ref l) (.ref l') (PyData.eqvAll xs ys) := by
      rw [← SeqAt.eqvAll_eq xs ys, ← n1, ← n2]
      refine SeqAt.RcAt.tuples hl hl' (SeqAt.room_here hu) fun j j1 j2 => ?_
      have := eq_treesAll xs ys A.in1 s vs.toList vs'.toList _ _ h4 k4 hc' (SeqAt.room_in hu) j (by simpa using j1) (by simpa using j2)
      simpa using this
    refine ⟨?_, rc⟩
    by_cases hll : l = l'
    · subst hll
      have e : PyData.tuple xs = PyData.tuple ys := reads_one (.tuple h1 h2 h3 h4) (.tuple k1 k2 k3 k4)
      injection e with e
      subst e
      rw [cmpOks_refl xs hc']
      exact SeqAt.EqAt.same _
    · exact SeqAt.EqAt.of_refs hll rc
  | .none, e, A, s, _, _, _, _, ra, rb, hc, hu => eq_flat ra rb hc (SeqAt.room_here hu) (fun _ _ z => nomatch z.1) fun _ _ z => nomatch z.1
  | .bool _, e, A, s, _, _, _, _, ra, rb, hc, hu => eq_flat ra rb hc (SeqAt.room_here hu) (fun _ _ z => nomatch z.1) fun _ _ z => nomatch z.1
  | .int _, e, A, s, _, _, _, _, ra, rb, hc, hu => eq_flat ra rb hc (SeqAt.room_here hu) (fun _ _ z => nomatch z.1) fun _ _ z => nomatch z.1
  | .str _, e, A, s, _, _, _, _, ra, rb, hc, hu => eq_flat ra rb hc (SeqAt.room_here hu) (fun _ _ z => nomatch z.1) fun _ _ z => nomatch z.1
  | .dict _, e, A, s, _, _, _, _, ra, rb, hc, hu => eq_flat ra rb hc (SeqAt.room_here hu) (fun _ _ z => nomatch z.1) fun _ _ z => nomatch z.1
  | .list _, .none, A, s, _, _, _, _, ra, rb, hc, hu => eq_flat ra rb hc (SeqAt.room_here hu) (fun _ _ z => nomatch z.2) fun _ _ z => nomatch z.2
  | .list _, .bool _, A, s, _, _, _, _, ra, rb, hc, hu => eq_flat ra rb hc (SeqAt.room_here hu) (fun _ _ z => nomatch z.2) fun _ _ z => nomatch z.2
  | .list _, .int _, A, s, _, _, _, _, ra, rb, hc, hu => eq_flat ra rb hc (SeqAt.room_here hu) (fun _ _ z => nomatch z.2) fun _ _ z => nomatch z.2
  | .list _, .str _, A, s, _, _, _, _, ra, rb, hc, hu => eq_flat ra rb hc (SeqAt.room_here hu) (fun _ _ z => nomatch z.2) fun _ _ z => nomatch z.2
  | .list _, .tuple _, A, s, _, _, _, _, ra, rb, hc, hu => eq_flat ra rb hc (SeqAt.room_here hu) (fun _ _ z => nomatch z.2) fun _ _ z => nomatch z.1
  | .list _, .dict _, A, s, _, _, _, _, ra, rb, hc, hu => eq_flat ra rb hc (SeqAt.room_here hu) (fun _ _ z => nomatch z.2) fun _ _ z => nomatch z.2
  | .tuple _, .none, A, s, _, _, _, _, ra, rb, hc, hu => eq_flat ra rb hc (SeqAt.room_here hu) (fun _ _ z => nomatch z.2) fun _ _ z => nomatch z.2
  | .tuple _, .bool _, A, s, _, _, _, _, ra, rb, hc, hu => eq_flat ra rb hc (SeqAt.room_here hu) (fun _ _ z => nomatch z.2) fun _ _ z => nomatch z.2
  | .tuple _, .int _, A, s, _, _, _, _, ra, rb, hc, hu => eq_flat ra rb hc (SeqAt.room_here hu) (fun _ _ z => nomatch z.2) fun _ _ z => nomatch z.2
  | .tuple _, .str _, A, s, _, _, _, _, ra, rb, hc, hu => eq_flat ra rb hc (SeqAt.room_here hu) (fun _ _ z => nomatch z.2) fun _ _ z => nomatch z.2
  | .tuple _, .list _, A, s, _, _, _, _, ra, rb, hc, hu => eq_flat ra rb hc (SeqAt.room_here hu) (fun _ _ z => nomatch z.1) fun _ _ z => nomatch z.2
  | .tuple _, .dict _, A, s, _, _, _, _, ra, rb, hc, hu => eq_flat ra rb hc (SeqAt.room_here hu) (fun _ _ z => nomatch z.2) fun _ _ z => nomatch z.2
theorem eq_treesAll : ∀ (xs ys : List T) (A : Around) (s : Shared) (vs ws : List Value) (as bs : List Addr), ReadsAll s.heap vs xs as → ReadsAll s.heap ws ys bs → cmpOks xs ys = true →
    A.units + min (PyData.depthAll xs) (PyData.depthAll ys) < cLine → ∀ j (h1 : j < vs.length) (h2 : j < ws.length), SeqAt.EqAt A s vs[j] ws[j] (SeqAt.pairEq xs ys j)
  | [], _, _, _, _, _, _, _, ra, _, _, _, j, h1, _ => by cases ra; exact absurd h1 (Nat.not_lt_zero _)
  | _ :: _, [], _, _, _, _, _, _, _, rb, _, _, j, _, h2 => by cases rb; exact absurd h2 (Nat.not_lt_zero _)
  | x :: xs, y :: ys, A, s, _, _, _, _, ra, rb, hc, hu, j, h1, h2 => by
    have hc' : cmpOk x y = true ∧ cmpOks xs ys = true := by simpa [cmpOks] using hc
    cases ra with
    | cons r rs =>
      cases rb with
      | cons r' rs' =>
        cases j with
        | zero => exact (eq_trees x y A s _ _ _ _ r r' hc'.1 (SeqAt.room_head hu)).1
        | succ j => exact eq_treesAll xs ys A s _ _ _ _ rs rs' hc'.2 (SeqAt.room_tail hu) j (Nat.lt_of_succ_lt_succ h1) (Nat.lt_of_succ_lt_succ h2)
end
/-! ### repr of trees -/
section
variable {X : Cx} {pins : List (Addr × Obj)} {σ : St} {H : Hp} {s : Shared}
/-- a dict's entries, its keys, its values as read -/
theorem dct_read (I : Inv X pins σ H s) {a : Addr} {kvs : List (Key × V)} (h : Rd H a (.dK kvs)) : ∃ o es n vs, s.heap.get? a = some o ∧ o.cls = .type "dict" ∧ o.data = .dict es n ∧ (a == sysModules) = false ∧
    Vals (kvs.map (·.2)) vs ∧ es.toList.map (·.val) = vs ∧ ∃ as, ReadsAll s.heap (es.toList.map (·.key)) (kvs.map fun p => keyT p.1) as := by
  obtain ⟨_, hs, vs, kv, o, es, ep, h1, h2, h3, h4, h5, _⟩ := dk_rd I.hok h
  obtain ⟨v1, v2⟩ := kv_vals kv
  obtain ⟨as, zk⟩ := keys_read (h := s.heap) h5
  have : vs.map (fun p => keyT p.1) = kvs.map (fun p => keyT p.1) := by
    have := congrArg (List.map keyT) v2
    simp only [List.map_map] at this
    exact this.symm
  rw [this] at zk
  exact ⟨o, es, ep, _, h1, h2.1, h3, hs, v1, vals_of_pairs h5, as, zk⟩
theorem keys_noDict : ∀ kvs : List (Key × V), PyData.hasDictAll (kvs.map fun p => keyT p.1) = false
  | [] => by simp [PyData.hasDictAll]
  | (.inl i, _) :: r => by simp [PyData.hasDictAll, PyData.hasDict, keys_noDict r]
  | (.inr i, _) :: r => by simp [PyData.hasDictAll, PyData.hasDict, keys_noDict r]
theorem nil_list {xs : List V} {as : List Addr} {ts : List T} (q : RVs X.K H xs ts as) (h : xs = []) : ts = [] := by subst h; cases q; rfl
mutual
theorem RV.shownK (I : Inv X pins σ H s) : ∀ {v : V} {t : T} {as : List Addr} {u : Value}, RV X.K H v t as → RelV v u → t.showable = true → t.shown.length ≤ sizeLine →
    ∃ bs, ReadAtMost s.heap t.depth bs ∧ ReprK X.prog X.w bs s.heap t.depth u t.shown
  | _, _, _, _, .non, r, _, _ => by cases r; exact ⟨[], (fun _ h => nomatch h), by simp only [PyData.shown]; exact .of_is ReprIs.none _ _ _⟩
  | _, _, _, _, .bl b, r, _, _ => by cases r; exact ⟨[], (fun _ h => nomatch h), by simp only [PyData.shown]; exact .of_is (ReprIs.bool b) _ _ _⟩
  | _, _, _, _, .int i, r, hs, _ => by obtain ⟨t, rfl⟩ := r; exact ⟨[], (fun _ h => nomatch h), by simp only [PyData.shown]; exact .of_is (ReprIs.int t (by simpa [PyData.showable] using hs)) _ _ _⟩
  | _, _, _, _, .str x, r, _, hz => by obtain ⟨t, rfl⟩ := r; exact ⟨[], (fun _ h => nomatch h), by simp only [PyData.shown]; exact .of_is (ReprIs.str x t (by simpa only [PyData.shown] using hz)) _ _ _⟩
  | _, _, _, _, .tup (ts := ts) h q, r, hs, hz => by
    have hr := r
    cases r
    obtain ⟨its, rv, ⟨o, ho, hc, n, hd⟩, _⟩ := I.tuple h
    have hz' : (tupleText (PyData.shownAll ts)).length ≤ sizeLine := by simpa only [PyData.shown] using hz
    obtain ⟨bs, hb, hk⟩ := RVs.shownK I q rv (by simpa [PyData.showable] using hs) fun t ht => Nat.le_trans (tupleText_mem_le ht) hz'
    obtain ⟨cs, rd⟩ := RV.reads I (.tup h q) hr
    have hna := not_mem_of_deeper rd (by simp only [PyData.depth]; omega) hb
    refine ⟨_, ReadAtMost.cons rd (by simp only [PyData.depth]; omega) hb, ?_⟩
    simp only [PyData.depth, PyData.shown]
    exact ReprK.tuple ho hc hd hna (by simpa using hk)
  | _, _, _, _, .lst (ts := ts) h q, r, hs, hz => by
    have hr := r
    cases r
    obtain ⟨its, rv, ⟨o, n, ho, hc, _, hd⟩, _⟩ := I.list (.inl h)
    have hz' : (listText (PyData.shownAll ts)).length ≤ sizeLine := by simpa only [PyData.shown] using hz
    obtain ⟨bs, hb, hk⟩ := RVs.shownK I q rv (by simpa [PyData.showable] using hs) fun t ht => Nat.le_trans (listText_mem_le ht) hz'
    obtain ⟨cs, rd⟩ := RV.reads I (.lst h q) hr
    have hna := not_mem_of_deeper rd (by simp only [PyData.depth]; omega) hb
    refine ⟨_, ReadAtMost.cons rd (by simp only [PyData.depth]; omega) hb, ?_⟩
    simp only [PyData.depth, PyData.shown]
    cases its with
    | nil =>
      cases rv
      obtain rfl := nil_list q rfl
      simp only [PyData.shownAll, listText_nil]
      exact ReprK.more (ReprK.level_le (ReprK.listEmpty ho hc hd) (Nat.le_succ _)) fun b hb => hb
    | cons x l => exact ReprK.list ho hc hd hna (by simpa using hk.length_eq) fun i y e => hk.item i y (by simpa using e)
  | _, _, _, _, .lstK (ts := ts) (its := its) h1 h2 h3 h4 h5 h6 q, r, hs, hz => by
    have hr := r
    cases r
    have ho := I.kIn _ _ h1
    have hz' : (listText (PyData.shownAll ts)).length ≤ sizeLine := by simpa only [PyData.shown] using hz
    obtain ⟨bs, hb, hk⟩ := RVs.shownK I q h6 (by simpa [PyData.showable] using hs) fun t ht => Nat.le_trans (listText_mem_le ht) hz'
    obtain ⟨cs, rd⟩ := RV.reads I (.lstK h1 h2 h3 h4 h5 h6 q) hr
    have hna := not_mem_of_deeper rd (by simp only [PyData.depth]; omega) hb
    refine ⟨_, ReadAtMost.cons rd (by simp only [PyData.depth]; omega) hb, ?_⟩
    simp only [PyData.depth, PyData.shown]
    obtain ⟨l⟩ := its
    cases l with
    | nil =>
      have h6' := h6.length
      obtain rfl := nil_list q (List.eq_nil_of_length_eq_zero (by simpa using h6'))
      simp only [PyData.shownAll, listText_nil]
      exact ReprK.more (ReprK.level_le (ReprK.listEmpty ho h2 h4) (Nat.le_succ _)) fun b hb => hb
    | cons x l => exact ReprK.list ho h2 h4 hna (by simpa using hk.length_eq) fun i y e => hk.item i y (by simpa using e)
  | _, _, _, _, .dct (a := aa) (kvs := kvs) (ts := ts) h q, r, hs, hz => by
    have hr := r
    cases r
    obtain ⟨o, es, n, vs, ho, hc, hd, hsys, rv, ev, ka, kr⟩ := dct_read I h
    have hl : kvs.length = ts.length := by have := RVs.length q; simpa using this
    obtain ⟨e1, e2⟩ := zipT hl
    generalize hD : List.zipWith (fun (p : Key × V) (t : T) => (keyT p.1, t)) kvs ts = D at *
    have hD' : List.zipWith (fun (p : Key × V) (t : T) => ((match p.1 with | .inl i => PyData.int i | .inr x => PyData.str x), t)) kvs ts = D := hD
    have hz' : (dictText (PyData.shownKv D)).length ≤ sizeLine := by simpa only [PyData.shown] using hz
    obtain ⟨hs1, hs2⟩ := PyData.showableKv_split D (by simpa [PyData.showable] using hs)
    obtain ⟨b1, hb1, k1⟩ := ReprAllK.of_readsAll (prog := X.prog) (w := X.w) kr (by rw [← e1]; exact hs1) (fun z => by rw [keys_noDict] at z; cases z) fun t ht => by
      rw [← e1] at ht
      obtain ⟨p, hp, hl⟩ := PyData.shownKv_key_le D t ht
      exact Nat.le_trans hl (Nat.le_trans (dictText_mem_le hp) hz')
    obtain ⟨b2, hb2, k2⟩ := RVs.shownK I q rv (by rw [← e2]; exact hs2) fun t ht => by
      rw [← e2] at ht
      obtain ⟨p, hp, hl⟩ := PyData.shownKv_val_le D t ht
      exact Nat.le_trans hl (Nat.le_trans (dictText_mem_le hp) hz')
    rw [← e1] at hb1 k1
    rw [← e2] at hb2 k2
    rw [← ev] at k2
    obtain ⟨cs, rd⟩ := RV.reads I (.dct h q) hr
    replace rd : Reads s.heap (.ref aa) (.dict D) cs := by rw [← hD]; exact rd
    have hb : ReadAtMost s.heap (PyData.depthKv D) (b1 ++ b2) := (hb1.mono (PyData.depthAll_keys_le D)).append (hb2.mono (PyData.depthAll_vals_le D))
    have hna := not_mem_of_deeper rd (by simp only [PyData.depth]; omega) hb
    refine ⟨_, ReadAtMost.cons rd (by simp only [PyData.depth]; omega) hb, ?_⟩
    simp only [PyData.depth, PyData.shown, PyData.shownKv_eq]
    exact ReprK.dict ho hc hd hsys hna (ReprEntriesK.of_two es.toList _ _ (k1.more_le (fun b hb => List.mem_append_left _ hb) (PyData.depthAll_keys_le D)) (k2.more_le (fun b hb => List.mem_append_right _ hb) (PyData.depthAll_vals_le D)))
theorem RVs.shownK (I : Inv X pins σ H s) : ∀ {vs : List V} {ts : List T} {as : List Addr} {us : List Value}, RVs X.K H vs ts as → Vals vs us → PyData.showableAll ts = true → (∀ t ∈ PyData.shownAll ts, t.length ≤ sizeLine) →
    ∃ bs, ReadAtMost s.heap (PyData.depthAll ts) bs ∧ ReprAllK X.prog X.w bs s.heap (PyData.depthAll ts) us (PyData.shownAll ts)
  | _, _, _, _, .nil, r, _, _ => by cases r; exact ⟨[], (fun _ h => nomatch h), by simp only [PyData.shownAll]; exact .nil⟩
  | _, _, _, _, .cons (t := t) (ts := ts) h q, r, hs, hz => by
    cases r with
    | cons r1 r2 =>
      have hs' : t.showable = true ∧ PyData.showableAll ts = true := by simpa [PyData.showableAll] using hs
      obtain ⟨b1, hb1, k1⟩ := RV.shownK I h r1 hs'.1 (hz _ (by simp only [PyData.shownAll]; exact List.mem_cons_self ..))
      obtain ⟨b2, hb2, k2⟩ := RVs.shownK I q r2 hs'.2 fun t ht => hz t (by simp only [PyData.shownAll]; exact List.mem_cons_of_mem _ ht)
      refine ⟨b1 ++ b2, ?_, ?_⟩
      · simp only [PyData.depthAll]
        exact (hb1.mono (Nat.le_max_left _ _)).append (hb2.mono (Nat.le_max_right _ _))
      · simp only [PyData.depthAll, PyData.shownAll]
        exact .cons ((k1.more fun b hb => List.mem_append_left _ hb).level_le (Nat.le_max_left _ _)) (k2.more_le (fun b hb => List.mem_append_right _ hb) (Nat.le_max_right _ _))
end

theorem RV.shows (I : Inv X pins σ H s) {a : Addr} {t : T} {as : List Addr} (q0 : RV X.K H (.ref a) t as) (hs : t.showable = true) (hz : t.shown.length ≤ sizeLine) : ∃ T idr, ShowsBy X.prog X.w s.heap a t T idr := by
  have rr : RelV (.ref a) (.ref a) := rfl
  obtain ⟨cs, rd⟩ := RV.reads I q0 rr
  cases q0 with
  | @tup _ _ ts _ h q =>
    obtain ⟨its, rv, ⟨o, ho, hc, n, hd⟩, _⟩ := I.tuple h
    have hz' : (tupleText (PyData.shownAll ts)).length ≤ sizeLine := by simpa only [PyData.shown] using hz
    obtain ⟨bs, hb, hk⟩ := RVs.shownK I q rv (by simpa [PyData.showable] using hs) fun t ht => Nat.le_trans (tupleText_mem_le ht) hz'
    have hna := not_mem_of_deeper rd (by simp only [PyData.depth]; omega) hb
    refine ⟨"tuple", "tuple.__repr__", F.slot_tuple_repr, F.slot_tuple_str, F.slot_tuple_format, fun s hk0 => ⟨o, hk0 _ _ ho, hc⟩, fun A E s Q hg hu hk0 hQ => ?_⟩
    simp only [PyData.depth] at hu
    simp only [PyData.shown] at hQ
    exact call_tuple_reprK ho hc hd hna (by simpa using hk) hg (fun b _ => Clear.nil b) hu hk0 hQ hz'
  | @lst _ _ ts _ h q =>
    obtain ⟨its, rv, ⟨o, n, ho, hc, _, hd⟩, _⟩ := I.list (.inl h)
    have hz' : (listText (PyData.shownAll ts)).length ≤ sizeLine := by simpa only [PyData.shown] using hz
    obtain ⟨bs, hb, hk⟩ := RVs.shownK I q rv (by simpa [PyData.showable] using hs) fun t ht => Nat.le_trans (listText_mem_le ht) hz'
    have hna := not_mem_of_deeper rd (by simp only [PyData.depth]; omega) hb
    refine ⟨"list", "list.__repr__", F.slot_list_repr.toG, F.slot_list_str, F.slot_list_format, fun s hk0 => ⟨o, hk0 _ _ ho, hc⟩, fun A E s Q hg hu hk0 hQ => ?_⟩
    simp only [PyData.depth] at hu
    simp only [PyData.shown] at hQ
    cases its with
    | nil =>
      cases rv
      obtain rfl := nil_list q rfl
      simp only [PyData.shownAll, listText_nil] at hQ
      exact call_list_repr_empty ⟨o, hk0 _ _ ho, hc⟩ (hk0 _ _ ho) hd (hQ s.heap _ _ fun _ _ e => e)
    | cons x l => exact call_list_reprK ho hc hd hna (by simpa using hk.length_eq) (fun i y e => hk.item i y (by simpa using e)) hg (fun b _ => Clear.nil b) hu hk0 hQ hz'
  | @lstK _ _ ts _ _ its _ h1 h2 h3 h4 h5 h6 q =>
    have ho := I.kIn _ _ h1
    have hz' : (listText (PyData.shownAll ts)).length ≤ sizeLine := by simpa only [PyData.shown] using hz
    obtain ⟨bs, hb, hk⟩ := RVs.shownK I q h6 (by simpa [PyData.showable] using hs) fun t ht => Nat.le_trans (listText_mem_le ht) hz'
    have hna := not_mem_of_deeper rd (by simp only [PyData.depth]; omega) hb
    refine ⟨"list", "list.__repr__", F.slot_list_repr.toG, F.slot_list_str, F.slot_list_format, fun s hk0 => ⟨_, hk0 _ _ ho, h2⟩, fun A E s Q hg hu hk0 hQ => ?_⟩
    simp only [PyData.depth] at hu
    simp only [PyData.shown] at hQ
    obtain ⟨l⟩ := its
    cases l with
    | nil =>
      have h6' := h6.length
      obtain rfl := nil_list q (List.eq_nil_of_length_eq_zero (by simpa using h6'))
      simp only [PyData.shownAll, listText_nil] at hQ
      exact call_list_repr_empty ⟨_, hk0 _ _ ho, h2⟩ (hk0 _ _ ho) h4 (hQ s.heap _ _ fun _ _ e => e)
    | cons x l => exact call_list_reprK ho h2 h4 hna (by simpa using hk.length_eq) (fun i y e => hk.item i y (by simpa using e)) hg (fun b _ => Clear.nil b) hu hk0 hQ hz'
  | @dct _ kvs ts _ h q =>
    obtain ⟨o, es, n, vs, ho, hc, hd, hsys, rv, ev, ka, kr⟩ := dct_read I h
    have hl : kvs.length = ts.length := by have := RVs.length q; simpa using this
    obtain ⟨e1, e2⟩ := zipT hl
    generalize hD : List.zipWith (fun (p : Key × V) (t : T) => (keyT p.1, t)) kvs ts = D at *
    have hz' : (dictText (PyData.shownKv D)).length ≤ sizeLine := by simpa only [PyData.shown] using hz
    obtain ⟨hs1, hs2⟩ := PyData.showableKv_split D (by simpa [PyData.showable] using hs)
    obtain ⟨b1, hb1, k1⟩ := ReprAllK.of_readsAll (prog := X.prog) (w := X.w) kr (by rw [← e1]; exact hs1) (fun z => by rw [keys_noDict] at z; cases z) fun t ht => by
      rw [← e1] at ht
      obtain ⟨p, hp, hl⟩ := PyData.shownKv_key_le D t ht
      exact Nat.le_trans hl (Nat.le_trans (dictText_mem_le hp) hz')
    obtain ⟨b2, hb2, k2⟩ := RVs.shownK I q rv (by rw [← e2]; exact hs2) fun t ht => by
      rw [← e2] at ht
      obtain ⟨p, hp, hl⟩ := PyData.shownKv_val_le D t ht
      exact Nat.le_trans hl (Nat.le_trans (dictText_mem_le hp) hz')
    rw [← e1] at hb1 k1
    rw [← e2] at hb2 k2
    rw [← ev] at k2
    have hb : ReadAtMost s.heap (PyData.depthKv D) (b1 ++ b2) := (hb1.mono (PyData.depthAll_keys_le D)).append (hb2.mono (PyData.depthAll_vals_le D))
    replace rd : Reads s.heap (.ref a) (.dict D) cs := rd
    have hna := not_mem_of_deeper rd (by simp only [PyData.depth]; omega) hb
    refine ⟨"dict", "dict.__repr__", F.slot_dict_repr, F.slot_dict_str, F.slot_dict_format, fun s hk0 => ⟨o, hk0 _ _ ho, hc⟩, fun A E s Q hg hu hk0 hQ => ?_⟩
    have hu' : A.units + (PyData.depthKv D + 1) < cLine := by
      have e : PyData.depth (.dict D) = PyData.depthKv D + 1 := by simp only [PyData.depth]
      rw [← e]; exact hu
    have hQ' : ∀ h' u tk, (∀ b o, s.heap.get? b = some o → h'.get? b = some o) → Q (.str (dictText (List.zipWith (fun k v : Str => k ++ ": " ++ v) (PyData.shownAll (D.map (·.1))) (PyData.shownAll (D.map (·.2))))) u) { s with heap := h', toks := tk } := fun h' u tk hk => by
      have e : PyData.shown (.dict D) = dictText (PyData.shownKv D) := by simp only [PyData.shown]
      have := hQ h' u tk hk
      rw [← PyData.shownKv_eq, ← e]; exact this
    exact call_dict_reprK ho hc hd hsys hna (ReprEntriesK.of_two es.toList _ _ (k1.more_le (fun b hb => List.mem_append_left _ hb) (PyData.depthAll_keys_le D)) (k2.more_le (fun b hb => List.mem_append_right _ hb) (PyData.depthAll_vals_le D)))
      hg (fun b _ => Clear.nil b) hu' hk0 hQ' (by rw [← PyData.shownKv_eq]; exact hz')
end
end DL

set_option Elab.async false
set_option linter.all false
set_option maxRecDepth 100000
set_option maxHeartbeats 4000000
/-! THE DATA LAYER, part 10: defs that are run where no repr is under way (so that repr may be called). -/
namespace DL
open PySem PySem.Spec L2
open PyProof.Rows hiding St

/-- room, and no repr under way -/
structure Rm (k : Nat) (A : Around) : Prop where
  room : Room k A
  gd : A.guards = some []
theorem Rm.deeper {k : Nat} {A : Around} (r : Rm (k + 1) A) (env : Env) : Rm k (A.deeper env) := ⟨r.room.deeper env, r.gd⟩
theorem Rm.mono {j k : Nat} {A : Around} (r : Rm k A) (h : j ≤ k) : Rm j A := ⟨r.room.mono h, r.gd⟩
/-- a def's promise, at such places -/
structure FnG (P : Program) (w : World) (K : PySem.W.Frag) (mg : Str → Option Value) (base : Heap) (CX : CXT) (k : Nat) (f : Addr) (fd : FuncData) (ps : List Str) (sp : Sp) : Prop where
  len : ∀ vs H Q E, sp vs H Q E → vs.length = ps.length
  run : ∀ (A : Around) (outer : List Env) (s : Shared) (H : Hp) (args : Args) (us : List Value) (vs : List V) (Q : VK) (E : XK), Rm k A → Env0 P w K mg base A outer s H → BindsTo s fd args (ps.zip us) → Vals vs us → sp vs H Q E →
    codeAny (model P w) A (.call (.ref f) args) (CR CX outer P w H s Q E) s
section
variable {P : Program} {w : World} {K : PySem.W.Frag} {mg : Str → Option Value} {base : Heap} {x qual : Str} {params : Arguments} {body : List Stmt} {scope : Scope} {dvs : List V} {kws : List (Str × V)} {f : Addr} {fd : FuncData} {CX : CXT} {k : Nat} {sp : Sp} {N ps : List Str}
theorem FnG.mono {j : Nat} (F : FnG P w K mg base CX j f fd ps sp) (h : j ≤ k) : FnG P w K mg base CX k f fd ps sp :=
  ⟨F.len, fun A outer s H args us vs Q E hr => F.run A outer s H args us vs Q E (hr.mono h)⟩
theorem FnG.imp {sp' : Sp} (F : FnG P w K mg base CX k f fd ps sp) (h : ∀ vs H Q E, sp' vs H Q E → sp vs H Q E) : FnG P w K mg base CX k f fd ps sp' :=
  ⟨fun vs H Q E q => F.len vs H Q E (h _ _ _ _ q), fun A outer s H args us vs Q E hr he hb hv hs => F.run A outer s H args us vs Q E hr he hb hv (h _ _ _ _ hs)⟩
/-- a def by its body -/
theorem fnG_of (F : FunD K x qual params body scope dvs kws f fd) (S : FnScope N ps scope) (len : ∀ vs H Q E, sp vs H Q E → vs.length = ps.length)
    (hbody : ∀ (cdv : Value) (A : Around) (outer : List Env) (s : Shared) (H : Hp) (vs : List V) (Q : VK) (E : XK), Rm k (A.deeper (envOfC qual scope s.heap.objs.size f cdv)) → sp vs H Q E →
      ∃ t, PSs (cxOf CX P w K mg base N qual scope f cdv A outer s H E) body t ∧ t { nx := fun _ H' => Q .non H', rt := Q } (L2.start N vs) H) : FnG P w K mg base CX (k + 1) f fd ps sp := by
  obtain ⟨oc, od, dV, kV, doc, pm, an, cdv, ct, osl, rfl, lk, hcd, _, _⟩ := F.ex
  refine ⟨len, fun A outer s H args us vs Q E hr e0 hb r hsp => ?_⟩
  have hl := len _ _ _ _ hsp
  have up : ∀ b o, base.get? b = some o → s.heap.get? b = some o := fun b o e => (e0.bs b o e).1
  have kin : K.In s.heap := e0.mod.kin.keeps up
  have nol : s.heap.NoLimit := e0.mod.nolimit.keeps up
  refine codeAny_call_function hr.room.depth (kin _ _ lk) rfl S.co S.gen rfl (PySem.W.codeRec_of kin hcd) (hb _ _ _ _ ?_)
  refine wpAny_newFunctionEnv_cells S.kind (fun ⟨n, v⟩ hy => (S.par n (List.of_mem_zip hy).1).imp (fun q => q) fun q => ⟨q, PySem.W.cellsFrom_some _ _ _ (.inl q)⟩) fun env he s1 x => ?_
  subst he
  obtain ⟨t, ht, hq⟩ := hbody cdv A outer s H vs Q E (hr.deeper _) hsp
  refine ⟨nol.keeps x.toInCall.keep, codeAny_func (wpAny_mono (ht.run [] s1 (L2.start N vs) H _ (inv_start S hr.room.hd e0 hl r x) hq) (fun fl s' hs => ?_) fun e s' hs => hs)⟩
  cases fl with
  | ret u => obtain ⟨v, σ', H', J, rv, q⟩ := hs; exact ⟨v, H', J.os, J.bare, J.base, J.hok, rv, q⟩
  | next => obtain ⟨σ', H', J, q⟩ := hs; exact ⟨V.non, H', J.os, J.bare, J.base, J.hok, rfl, q⟩
  | brk => obtain ⟨_, _, _, q⟩ := hs; exact q.elim
  | cont => obtain ⟨_, _, _, q⟩ := hs; exact q.elim
end
section
variable {X : Cx} {CX : CXT} {k : Nat} {f : Addr} {fd : FuncData} {ps : List Str} {sp : Sp} {E : XK} {x : Str} {p pos : Pos} {e : Expr} {es : List Expr} {t : TA}
theorem run_g {pins : List (Addr × Obj)} {σ : St} {H : Hp} {s : Shared} {Q : VK} {us : List Value} {vs : List V} (F : FnG X.prog X.w X.K X.mg X.base CX k f fd ps sp) (hr : Rm k X.A) (hb : Binds X.K fd ps []) (hx : Passes CX X E)
    (I : Inv X pins σ H s) (r : Vals vs us) (h : sp vs H Q E) : wpAny (model X.prog X.w) X.A (call (.ref f) us) (EP X pins σ Q) X.xe s := by
  have hl : us.length = ps.length := r.length.symm.trans (F.len _ _ _ _ h)
  have hb' := hb s us I.kIn (by rw [List.append_nil]; exact hl)
  rw [List.append_nil] at hb'
  refine wpAny_call (codeAny_mono (F.run X.A X.stack s H ⟨us, []⟩ us vs Q E hr I.env0 hb' r h) fun r s' hq => ?_)
  match r, hq with
  | .error e, hq => exact hx pins σ H s e s' I hq
  | .ok (.ret u), hq => exact I.after hq
theorem pe_g (F : FnG X.prog X.w X.K X.mg X.base CX k f fd ps sp) (hr : Rm k X.A) (hg : Gl X x) (hm : X.mg x = some (.ref f)) (hk : PySem.W.keepIn X.K (.ref f) = true) (hb : Binds X.K fd ps []) (hx : Passes CX X E)
    (ha : PA X (e :: es) t) (hdb : (x == ("__debug__" : Str)) = false := by decide) (he : starEach (e :: es) X.env = (false, eval e X.env) :: starEach es X.env := by rfl) (hpl : (backTo pos (starEach es X.env)).any (·.1) = false := by rfl) :
    PE X (.Call (.Name x p) (e :: es) [] pos) (fun σ H Q => t σ H fun vs H1 => sp vs H1 Q E) := by
  refine ⟨fun pins s σ H Q I h => wpAny_Call_Name_kw (ld_glob I hg hm ?_ hdb)⟩
  exact PySem.W.callWith_K (h₀ := X.base) I.ok.mod.kin hk (thn (ha.run pos pins s σ H _ I h) fun us s1 ⟨vs, H1, I1, r, q⟩ => ⟨I1.kIn, run_g F hr hb hx I1 r q⟩) he hpl
variable {ts : XTs} {fl : List Bool} {spec : FSpec}
theorem ex_callG (F : FnG X.prog X.w X.K X.mg X.base CX0 k f fd ps (ASp X.K fl spec)) (hr : Rm k X.A) (hg : Gl X x) (hm : X.mg x = some (.ref f)) (hk : PySem.W.keepIn X.K (.ref f) = true) (hb : Binds X.K fd ps [])
    (ha : EXs X (e :: es) ts) (hdb : (x == ("__debug__" : Str)) = false := by decide) (he : starEach (e :: es) X.env = (false, eval e X.env) :: starEach es X.env := by rfl) (hpl : (backTo pos (starEach es X.env)).any (·.1) = false := by rfl) :
    EX X (.Call (.Name x p) (e :: es) [] pos) (tCallF fl spec ts) := ⟨PE.imp (pe_g (E := E0) F hr hg hm hk hb pass0 ha.pa hdb he hpl) fun σ H Q h => by
      have := callF_go (n := (e :: es).length) (E := E0) h
      unfold tCall at this
      simpa using this⟩
end
section
variable {P : Program} {w : World} {K : PySem.W.Frag} {mg : Str → Option Value} {base : Heap} {x qual : Str} {params : Arguments} {body : List Stmt} {scope : Scope} {f : Addr} {fd : FuncData}
theorem fng_ok {N ps : List Str} {k : Nat} {spec : FSpec} (fl : List Bool) (tb : ST) (F : FunD K x qual params body scope [] [] f fd) (S : FnScope N ps scope) (hfl : fl.length = ps.length)
    (hbody : ∀ (cdv : Value) (A : Around) (outer : List Env) (s : Shared) (H : Hp) (E : XK), Rm k (A.deeper (envOfC qual scope s.heap.objs.size f cdv)) →
      SXs (cxOf CX0 P w K mg base N qual scope f cdv A outer s H E).nox (fun j => fl.getD j false) body tb)
    (rd : ∀ os Qa, os.length = fl.length → spec os Qa → tb (endsOf fl Qa) (startA N.length os)) : FnG P w K mg base CX0 (k + 1) f fd ps (ASp K fl spec) := by
  refine fnG_of F S (fun vs H Q E h => ?_) fun cdv A outer s H vs Q E hr h => ⟨LS K (fun j => fl.getD j false) tb, PSs.nox (hbody cdv A outer s H E hr).pss, def_body fl tb S rd h⟩
  obtain ⟨os, fp, G, Qa, h, _⟩ := h
  rw [h, hfl]
end

/-! ### the end of a law -/
theorem end_callG {P : Program} {w : World} {K : PySem.W.Frag} {mg mb : Str → Option Value} {k : Nat} {fa a : Addr} {fd : FuncData} {x : Str} {sp : Sp} {s1 : Shared} {vs : List Value} {ns : List Int}
    (KX : K.In s1.heap) (hns : s1.heap.Ns mainGlobals mg) (hb : s1.heap.Ns builtinsNs mb) (hbb : ∀ x : Str, x ≠ "__name__" → mb x = bootBuiltins x) (hlim : s1.heap.NoLimit) (hg : s1.gens = #[])
    (ha : s1.heap.get? a = some { cls := .type "list", data := .seq vs.toArray }) (hi : IntsAre vs ns) (hl : ns.length ≤ sizeLine) (hr : Room k callerA)
    (F : ∀ base : Heap, K.In base → base.Ns mainGlobals mg → FnG P w K mg base CX0 k fa fd [x] sp) (hbind : ∀ (s : Shared) (u : Value), BindsTo s fd ⟨[u], []⟩ [(x, u)])
    (hsp : ∀ H : Hp, Only H → SqL K H a (ns.map V.int) → sp [.ref a] H (fun v _ => v = .bl true) fun _ _ _ => False) :
    codeAny (model P w) callerA (.call (.ref fa) ⟨[.ref a], []⟩) (fun r s' => r = .ok (.ret (.bool true)) ∧ OldK s1.heap s'.heap ∧ s'.os = s1.os ∧ AllBare s'.gens) s1 := by
  have rv := vals_ints hi
  have go : ∀ H : Hp, Only H → SqL K H a (ns.map V.int) → HOk P w H s1.heap → (∀ b, H b ≠ none → b = a) → (H a ≠ none → K.lookup a = none) →
      codeAny (model P w) callerA (.call (.ref fa) ⟨[.ref a], []⟩) (fun r s' => r = .ok (.ret (.bool true)) ∧ OldK s1.heap s'.heap ∧ s'.os = s1.os ∧ AllBare s'.gens) s1 := by
    intro H hO hS hok hA hK
    have un0 : ∀ {b : Addr}, b ≠ a → H b = none := fun {b} n => by
      cases q : H b with
      | none => rfl
      | some u => exact absurd (hA b (by rw [q]; simp)) n
    have dictN : ∀ {b : Addr} {o : Obj} {es : Array DictEntry} {ep : Nat}, s1.heap.get? b = some o → o.data = .dict es ep → H b = none := fun {b o es ep} e d => un0 fun z => by
      subst z
      rw [ha] at e
      cases e
      cases d
    have ns2 : ∀ {b : Addr} {m : Str → Option Value}, s1.heap.Ns b m → (hidT s1.heap H).Ns b m := fun {b m} ⟨o, es, ep, e, d, r⟩ => ⟨o, es, ep, hidT_get e (dictN e d), d, r⟩
    have kin2 : K.In (hidT s1.heap H) := fun b o e => hidT_get (KX b o e) (by
      cases q : H b with
      | none => rfl
      | some u =>
        have e' := hA b (by rw [q]; simp)
        subst e'
        rw [hK (by rw [q]; simp)] at e
        cases e)
    have e0 : Env0 P w K mg (hidT s1.heap H) callerA [] s1 H := ⟨rfl, ⟨kin2, ns2 hns, ⟨mb, ns2 hb, hbb⟩, let ⟨mc, h1, h2⟩ := hlim; ⟨mc, ns2 h1, h2⟩⟩, fun b o e => of_hidT e, Nat.le_of_eq (hidT_size _ _), trivial, fun b hb => absurd (show b ∈ ([] : List Addr) from hb) (by simp), hok, .of_eq hg⟩
    refine codeAny_mono ((F _ kin2 (ns2 hns)).run callerA [] s1 H ⟨[.ref a], []⟩ [.ref a] [.ref a] _ _ ⟨hr, rfl⟩ e0 (hbind s1 (.ref a)) (.cons rfl .nil) (hsp H hO hS)) fun r s' h => ?_
    match r, h with
    | .error e, h => exact h.elim
    | .ok (.ret u), ⟨v, H', os, bare, un, hok', r', q⟩ =>
      obtain rfl : v = .bl true := q
      obtain rfl : u = Value.bool true := r'
      refine ⟨rfl, OldK.of_keep fun b o e => ?_, os, bare⟩
      rcases hO b with z | ⟨ob, xs, z⟩
      · exact un.keep b o e z (by intro y; exact absurd (show b ∈ ([] : List Addr) from y) (by simp)) (by simp)
      · obtain ⟨e1, _⟩ := hok b _ z
        obtain ⟨e2, _⟩ := hok' b _ (un.frzs b ob _ z)
        rw [e] at e1
        cases e1
        exact e2
  cases hk : K.lookup a with
  | some o =>
    have e := KX a o hk
    rw [ha] at e
    cases e
    exact go (fun _ => none) (fun _ => .inl rfl) (.inr ⟨_, vs.toArray, _, hk, rfl, rfl, rfl, by rw [List.size_toArray, hi.length]; exact hl, by simpa using rv⟩) (fun b u (z : (none : Option HO) = some u) => by cases z) (fun b z => absurd rfl z) fun z => absurd rfl z
  | none =>
    let u0 : HO := .frz { cls := .type "list", data := .seq vs.toArray } (.lst (ns.map V.int))
    have at_ : upd (fun _ => none) a u0 a = some u0 := upd_same
    have off : ∀ {b : Addr}, b ≠ a → upd (fun _ => none) a u0 b = none := fun n => upd_ne n
    refine go (upd (fun _ => none) a u0) (fun b => ?_) (.inl (.inr ⟨_, at_⟩)) (fun b u z => ?_) (fun b z => Classical.byContradiction fun n => z (off n)) fun _ => hk
    · by_cases q : b = a
      · exact .inr ⟨_, _, by rw [q]; exact at_⟩
      · exact .inl (off q)
    · by_cases q : b = a
      · subst q
        rw [at_] at z
        cases z
        exact ⟨ha, by rw [List.length_map]; exact hl, vs, _, rv, ha⟩
      · rw [off q] at z
        cases z
theorem walk_ofG {l : PySem.W.OpenLaw} {n k : Nat} {q : Program} {loose : List Str} {XP : (Str → Option Value) → Heap → Prop} {YP : World → Heap → Prop} {d : DefRec} {x : Str}
    (hn : l.most = some n) (hn2 : n ≤ sizeLine) (hdf : d.params.defaults = []) (hr : Room k callerA)
    (F : ∀ (w : World) (mg : Str → Option Value) (fa : Addr) (h : Heap), YP w h → h.Ns mainGlobals mg → mg d.name = some (.ref fa) →
      ∃ (K : PySem.W.Frag) (fd : FuncData) (sp : Sp), K.In h ∧ (∀ (s : Shared) (u : Value), BindsTo s fd ⟨[u], []⟩ [(x, u)]) ∧
        (∀ (H : Hp) (a : Addr) (ns : List Int), ns.length ≤ n → Only H → SqL K H a (ns.map V.int) → sp [.ref a] H (fun v _ => v = .bl true) fun _ _ _ => False) ∧
        ∀ base : Heap, K.In base → base.Ns mainGlobals mg → FnG l.prog w K mg base CX0 k fa fd [x] sp) :
    PySem.W.WalkO q loose XP YP l.row.toRowW d [] (fun f vs => PySem.call f vs) := by
  refine Att.attach_call hn hdf fun w s₀ s₁ mg mb fa o pm cd doc a vs ns G Y ho hd hcd hmg hobj hints hlen hg => ?_
  obtain ⟨K, fd, sp, KX, hb, hsp, hF⟩ := F w mg fa _ Y G.T.g hmg
  exact end_callG KX G.T.g G.T.b G.T.builtins G.T.nolimit hg hobj hints (Nat.le_trans hlen hn2) hr hF hb fun H hO hS => hsp H a ns hlen hO hS
end DL

set_option Elab.async false
set_option linter.all false
set_option maxRecDepth 100000
set_option maxHeartbeats 4000000
/-! THE DATA LAYER, part 11: operators. -/
namespace DL
open PySem PySem.Spec L2
open PyProof.Rows hiding St

section
variable {X : Cx}
theorem OpA.mk {f : Value → Value → Sem Value} {g : G2} (h : ∀ (pins : List (Addr × Obj)) (s : Shared) (σ : St) (H : Hp) (F : Addr → Prop) (v u : V) (x y : O) (a b : Value) (Q : VK) (Qa : O → Prop), Inv X pins σ H s → RelV v a → RelV u b → RW X.K H F v x → RW X.K H F u y → g x y Qa → FinV X.K H F Qa Q →
    wpAny (model X.prog X.w) X.A (f a b) (EP X pins σ Q) X.xe s) : OpA X f g :=
  ⟨fun v u H Q => ∃ F x y Qa, RW X.K H F v x ∧ RW X.K H F u y ∧ g x y Qa ∧ FinV X.K H F Qa Q, fun pins s σ H v u a b Q I rx ry ⟨F, x, y, Qa, hx, hy, hg, fin⟩ => h pins s σ H F v u x y a b Q Qa I rx ry hx hy hg fin,
    fun H F v u x y Q Qa hx hy hg fin => ⟨F, x, y, Qa, hx, hy, hg, fin⟩⟩
theorem UnA.mk {f : Value → Sem Value} {g : G1} (h : ∀ (pins : List (Addr × Obj)) (s : Shared) (σ : St) (H : Hp) (F : Addr → Prop) (v : V) (x : O) (a : Value) (Q : VK) (Qa : O → Prop), Inv X pins σ H s → RelV v a → RW X.K H F v x → g x Qa → FinV X.K H F Qa Q →
    wpAny (model X.prog X.w) X.A (f a) (EP X pins σ Q) X.xe s) : UnA X f g :=
  ⟨fun v H Q => ∃ F x Qa, RW X.K H F v x ∧ g x Qa ∧ FinV X.K H F Qa Q, fun pins s σ H v a Q I rx ⟨F, x, Qa, hx, hg, fin⟩ => h pins s σ H F v x a Q Qa I rx hx hg fin, fun H F v x Q Qa hx hg fin => ⟨F, x, Qa, hx, hg, fin⟩⟩
theorem CallA.mk {f : Value} {g : GN} (h : ∀ (pins : List (Addr × Obj)) (s : Shared) (σ : St) (H : Hp) (F : Addr → Prop) (vs : List V) (xs : List O) (us : List Value) (Q : VK) (Qa : O → Prop), Inv X pins σ H s → Vals vs us → Paired (RW X.K H F) vs xs → g xs Qa → FinV X.K H F Qa Q →
    wpAny (model X.prog X.w) X.A (call f us) (EP X pins σ Q) X.xe s) : CallA X f g :=
  ⟨fun vs H Q => ∃ F xs Qa, Paired (RW X.K H F) vs xs ∧ g xs Qa ∧ FinV X.K H F Qa Q, fun pins s σ H vs us Q I r ⟨F, xs, Qa, hx, hg, fin⟩ => h pins s σ H F vs xs us Q Qa I r hx hg fin, fun H F vs xs Q Qa hx hg fin => ⟨F, xs, Qa, hx, hg, fin⟩⟩
/-- one that keeps the heap and gives a flat value -/
theorem wp_fin {pins : List (Addr × Obj)} {σ : St} {H : Hp} {F : Addr → Prop} {Q : VK} {Qa : O → Prop} {s : Shared} {m : Sem Value} {v : V} {t : T} (h : ∀ Q' : VK, Q' v H → wpAny (model X.prog X.w) X.A m (EP X pins σ Q') X.xe s) (fin : FinV X.K H F Qa Q) (r : RP X.K H F v t) (q : Qa (.pure t)) :
    wpAny (model X.prog X.w) X.A m (EP X pins σ Q) X.xe s := h Q (fin.pure r q)

/-! ### sequences -/
def lsO : O → Option (List T)
  | .lst ts => some ts
  | .pure (.list ts) => some ts
  | _ => none
def tuO : O → Option (List T)
  | .pure (.tuple ts) => some ts
  | _ => none
theorem RW.ls {K : PySem.W.Frag} {H : Hp} {F : Addr → Prop} {v : V} {o : O} {ts : List T} (h : RW K H F v o) (e : lsO o = some ts) : ∃ a vs, v = .ref a ∧ SqL K H a vs ∧ RPs K H F vs ts := by
  unfold lsO at e
  split at e
  · cases e
    obtain ⟨a, vs, rfl, q, r⟩ := h
    exact ⟨a, vs, rfl, .inl (.inl q), r⟩
  · cases e
    obtain ⟨a, vs, rfl, q, r, _⟩ := RP.lstE h
    exact ⟨a, vs, rfl, q, r⟩
  · cases e
theorem RW.tu {K : PySem.W.Frag} {H : Hp} {F : Addr → Prop} {v : V} {o : O} {ts : List T} (h : RW K H F v o) (e : tuO o = some ts) : ∃ a vs, v = .ref a ∧ SqT K H a vs ∧ RPs K H F vs ts := by
  unfold tuO at e
  split at e
  · cases e
    exact RP.tupE h
  · cases e

/-! ### arithmetic -/
def gAdd : G2 := fun x y Q => match x, y with
  | .pure (.int i), .pure (.int j) => Q (.pure (.int (i + j)))
  | .pure (.int i), .pure (.bool k) => Q (.pure (.int (i + b2i k)))
  | .pure (.bool k), .pure (.int j) => Q (.pure (.int (b2i k + j)))
  | .pure (.str a), .pure (.str b) => a.length + b.length ≤ 16777216 ∧ Q (.pure (.str (a ++ b)))
  | .pure (.tuple ts), .pure (.tuple us) => ts.length + us.length ≤ 16777216 ∧ Q (.pure (.tuple (ts ++ us)))
  | .lst ts, .lst us => ts.length + us.length ≤ 16777216 ∧ Q (.lst (ts ++ us))
  | _, _ => False
theorem RPs.nil_of {K : PySem.W.Frag} {H : Hp} {F : Addr → Prop} {ts : List T} (r : RPs K H F [] ts) : ts = [] := by cases r; rfl
theorem opA_add : OpA X (binaryOp .Add) gAdd := OpA.mk fun pins s σ H F v u x y a b Q Qa I rx ry hx hy h fin => by
  unfold gAdd at h
  split at h
  · have e1 := RP.intE hx; have e2 := RP.intE hy; subst e1 e2
    exact op_add pins s σ H _ _ _ _ Q I rx ry ⟨_, _, rfl, rfl, fin.int h⟩
  · have e1 := RP.intE hx; have e2 := RP.boolE hy; subst e1 e2
    exact op_add_ib pins s σ H _ _ _ _ Q I rx ry ⟨_, _, rfl, rfl, fin.int h⟩
  · have e1 := RP.boolE hx; have e2 := RP.intE hy; subst e1 e2
    cases rx
    obtain ⟨t, rfl⟩ := ry
    refine PySem.IntBool.add_bool_int ⟨.int _, H, I.tok _, ⟨_, rfl⟩, fin.int ?_⟩
    exact h
  · have e1 := RP.strE hx; have e2 := RP.strE hy; subst e1 e2
    exact op_add_str pins s σ H _ _ _ _ Q I rx ry ⟨_, _, rfl, rfl, by rw [sizeLine_eq]; exact h.1, fin.str h.2⟩
  · obtain ⟨p, vs, rfl, hp, r1⟩ := RP.tupE hx
    obtain ⟨q, us, rfl, hq, r2⟩ := RP.tupE hy
    refine op_catA pins s σ H _ _ _ _ Q I rx ry ⟨p, q, vs, us, rfl, rfl, hp, hq, by rw [sizeLine_eq, Paired.len r1, Paired.len r2]; exact h.1, fun e => ?_, fun _ e => ?_, fun _ _ z hz => ?_⟩
    · subst e
      obtain rfl := RPs.nil_of r1
      exact fin.pure hy h.2
    · subst e
      obtain rfl := RPs.nil_of r2
      rw [List.append_nil] at h
      exact fin.pure hx h.2
    · exact fin.tup hz (Paired.app r1 r2) h.2
  · obtain ⟨p, vs, rfl, hp, r1⟩ := hx
    obtain ⟨q, us, rfl, hq, r2⟩ := hy
    exact op_cat pins s σ H _ _ _ _ Q I rx ry ⟨p, q, vs, us, rfl, rfl, hp, hq, by rw [sizeLine_eq, Paired.len r1, Paired.len r2]; exact h.1, fun z hz => fin.lst hz (Paired.app r1 r2) h.2⟩
  · exact h.elim
def gSub_ : G2 := fun x y Q => match x, y with
  | .pure (.int i), .pure (.int j) => Q (.pure (.int (i - j)))
  | .pure (.bool k), .pure (.int j) => Q (.pure (.int (b2i k - j)))
  | _, _ => False
theorem opA_sub : OpA X (binaryOp .Sub) gSub_ := OpA.mk fun pins s σ H F v u x y a b Q Qa I rx ry hx hy h fin => by
  unfold gSub_ at h
  split at h
  · have e1 := RP.intE hx; have e2 := RP.intE hy; subst e1 e2
    exact op_sub pins s σ H _ _ _ _ Q I rx ry ⟨_, _, rfl, rfl, fin.int h⟩
  · have e1 := RP.boolE hx; have e2 := RP.intE hy; subst e1 e2
    cases rx
    obtain ⟨t, rfl⟩ := ry
    exact PySem.IntBool.sub_bool_int ⟨.int _, H, I.tok _, ⟨_, rfl⟩, fin.int h⟩
  · exact h.elim
def repL (k : Int) (ts : List T) : List T := (List.replicate k.toNat ts).flatten
theorem Paired.rep {α β : Type} {G : α → β → Prop} {l : List α} {r : List β} (h : Paired G l r) : ∀ n : Nat, Paired G (List.replicate n l).flatten (List.replicate n r).flatten
  | 0 => .nil
  | n + 1 => by rw [List.replicate_succ, List.replicate_succ, List.flatten_cons, List.flatten_cons]; exact Paired.app h (Paired.rep h n)
def gMul : G2 := fun x y Q => match x, y with
  | .pure (.int i), .pure (.int j) => i.natAbs.log2 + j.natAbs.log2 < 1000000 ∧ Q (.pure (.int (i * j)))
  | .lst ts, .pure (.int k) => 0 ≤ k ∧ k ≤ 1000000 ∧ ts.length * k.toNat ≤ 16777216 ∧ Q (.lst (repL k ts))
  | _, _ => False
theorem opA_mul : OpA X (binaryOp .Mult) gMul := OpA.mk fun pins s σ H F v u x y a b Q Qa I rx ry hx hy h fin => by
  unfold gMul at h
  split at h
  · have e1 := RP.intE hx; have e2 := RP.intE hy; subst e1 e2
    exact op_mulW pins s σ H _ _ _ _ Q I rx ry ⟨_, _, rfl, rfl, h.1, fin.int h.2⟩
  · obtain ⟨p, vs, rfl, hp, r1⟩ := hx
    have e2 := RP.intE hy; subst e2
    obtain ⟨h1, h2, h3, h4⟩ := h
    exact op_rep pins s σ H _ _ _ _ Q I rx ry ⟨p, _, vs, rfl, rfl, hp, by omega, by omega, by rw [sizeLine_eq, Paired.len r1]; exact h3, fun z hz => fin.lst hz (Paired.rep r1 _) h4⟩
  · exact h.elim
def gFdiv : G2 := fun x y Q => match x, y with
  | .pure (.int i), .pure (.int j) => 0 < j ∧ j.natAbs.log2 < 9000 ∧ Q (.pure (.int (i / j)))
  | _, _ => False
theorem opA_fdiv : OpA X (binaryOp .FloorDiv) gFdiv := OpA.mk fun pins s σ H F v u x y a b Q Qa I rx ry hx hy h fin => by
  unfold gFdiv at h
  split at h
  · have e1 := RP.intE hx; have e2 := RP.intE hy; subst e1 e2
    exact op_fdivW pins s σ H _ _ _ _ Q I rx ry ⟨_, _, rfl, rfl, ⟨h.1, h.2.1⟩, fin.int h.2.2⟩
  · exact h.elim
def gMod : G2 := fun x y Q => match x, y with
  | .pure (.int i), .pure (.int j) => 0 < j ∧ Q (.pure (.int (i % j)))
  | _, _ => False
theorem opA_mod : OpA X (binaryOp .Mod) gMod := OpA.mk fun pins s σ H F v u x y a b Q Qa I rx ry hx hy h fin => by
  unfold gMod at h
  split at h
  · have e1 := RP.intE hx; have e2 := RP.intE hy; subst e1 e2
    exact op_mod pins s σ H _ _ _ _ Q I rx ry ⟨_, _, rfl, rfl, h.1, fin.int h.2⟩
  · exact h.elim
def gPow : G2 := fun x y Q => match x, y with
  | .pure (.int i), .pure (.int j) => 0 ≤ j ∧ j ≤ 1000 ∧ i.natAbs.log2 < 100000 ∧ Q (.pure (.int (i ^ j.toNat)))
  | _, _ => False
theorem opA_pow : OpA X (binaryOp .Pow) gPow := OpA.mk fun pins s σ H F v u x y a b Q Qa I rx ry hx hy h fin => by
  unfold gPow at h
  split at h
  · rename_i i j
    have e1 := RP.intE hx; have e2 := RP.intE hy; subst e1 e2
    obtain ⟨h1, h2, h3, h4⟩ := h
    obtain ⟨t, rfl⟩ := rx
    obtain ⟨t', rfl⟩ := ry
    refine pow_int h1 ?_ ⟨.int _, H, I.tok _, ⟨_, rfl⟩, fin.int h4⟩
    have b : (Builtin.Int.intBits i : Int) ≤ 100001 := by
      unfold Builtin.Int.intBits
      split <;> omega
    have b2 : (Builtin.Int.intBits i : Int) * j ≤ 100001 * 1000 := Int.mul_le_mul b h2 h1 (by omega)
    omega
  · exact h.elim
def gNeg : G1 := fun x Q => match x with
  | .pure (.int i) => Q (.pure (.int (-i)))
  | .pure (.bool k) => Q (.pure (.int (-(b2i k))))
  | _ => False
theorem neg_bool {prog : Program} {w : World} {A : Around} {E : Value → Shared → Prop} {s : Shared} {k : Bool} {Q : Value → Shared → Prop} (h : Q (.int (-(b2i k)) s.toks) { s with toks := s.toks + 1 }) : wpAny (model prog w) A (unaryOp .USub (.bool k)) Q E s := by
  unfold unaryOp
  refine wpAny_holding ?_
  refine wpAny_bind (m := callSpecial? (.bool k) (Str.ofString "__neg__")) (wpAny_callSpecial?_slot (name := Str.ofString "__neg__") (T := "bool") rfl F.slot_bool_neg
    (wpAny_call_entry F.slot_bool_neg (T := "bool") rfl entry_int_neg ?_ (args_int_neg _)))
  show wpAny _ _ (do ret (← mkInt (-(b2i k)))) _ _ s
  exact wpAny_ret_mkInt (wpAny_pure h)
theorem unA_neg : UnA X (unaryOp .USub) gNeg := UnA.mk fun pins s σ H F v x a Q Qa I rx hx h fin => by
  unfold gNeg at h
  split at h
  · have e1 := RP.intE hx; subst e1
    exact un_neg pins s σ H _ _ Q I rx ⟨_, rfl, fin.int h⟩
  · have e1 := RP.boolE hx; subst e1
    cases rx
    exact neg_bool ⟨.int _, H, I.tok _, ⟨_, rfl⟩, fin.int h⟩
  · exact h.elim

/-! ### comparisons -/
def gGe : G2 := fun x y Q => match x, y with
  | .pure (.int i), .pure (.int j) => Q (.pure (.bool (decide (j ≤ i))))
  | _, _ => False
def gGt : G2 := fun x y Q => match x, y with
  | .pure (.int i), .pure (.int j) => Q (.pure (.bool (decide (j < i))))
  | _, _ => False
def gLe : G2 := fun x y Q => match x, y with
  | .pure (.int i), .pure (.int j) => Q (.pure (.bool (decide (i ≤ j))))
  | _, _ => False
theorem opA_ge : OpA X (compareOp .GtE) gGe := OpA.mk fun pins s σ H F v u x y a b Q Qa I rx ry hx hy h fin => by
  unfold gGe at h
  split at h
  · have e1 := RP.intE hx; have e2 := RP.intE hy; subst e1 e2
    exact op_ge pins s σ H _ _ _ _ Q I rx ry ⟨_, _, rfl, rfl, fin.bl h⟩
  · exact h.elim
theorem opA_gt : OpA X (compareOp .Gt) gGt := OpA.mk fun pins s σ H F v u x y a b Q Qa I rx ry hx hy h fin => by
  unfold gGt at h
  split at h
  · have e1 := RP.intE hx; have e2 := RP.intE hy; subst e1 e2
    exact op_gt pins s σ H _ _ _ _ Q I rx ry ⟨_, _, rfl, rfl, fin.bl h⟩
  · exact h.elim
theorem opA_le : OpA X (compareOp .LtE) gLe := OpA.mk fun pins s σ H F v u x y a b Q Qa I rx ry hx hy h fin => by
  unfold gLe at h
  split at h
  · have e1 := RP.intE hx; have e2 := RP.intE hy; subst e1 e2
    exact op_le pins s σ H _ _ _ _ Q I rx ry ⟨_, _, rfl, rfl, fin.bl h⟩
  · exact h.elim
/-- x < y; the last: data that are alike -/
def gLt : G2 := fun x y Q => match x, y with
  | .pure (.int i), .pure (.int j) => Q (.pure (.bool (decide (i < j))))
  | .pure d, .pure e => PySem.W.alike d e = true ∧ d ≠ .none ∧ min d.depth e.depth ≤ 150 ∧ Q (.pure (.bool (PySem.W.dataLt d e)))
  | _, _ => False
theorem opA_lt (hu : X.A.units + 200 < cLine) : OpA X (compareOp .Lt) gLt := OpA.mk fun pins s σ H F v u x y a b Q Qa I rx ry hx hy h fin => by
  unfold gLt at h
  split at h
  · have e1 := RP.intE hx; have e2 := RP.intE hy; subst e1 e2
    exact op_lt pins s σ H _ _ _ _ Q I rx ry ⟨_, _, rfl, rfl, fin.bl h⟩
  · obtain ⟨h1, h2, h3, h4⟩ := h
    obtain ⟨as, r1⟩ := RW.reads I hx rx
    obtain ⟨bs, r2⟩ := RW.reads I hy ry
    exact PySem.W.rcLt_alike _ _ X.A s a b as bs r1 r2 h1 h2 (by simp only [O.frz] at *; omega) _ _ _ _ ⟨.bl _, H, I, rfl, fin.bl h4⟩
  · exact h.elim
def gEq : G2 := fun x y Q => cmpOk x.frz y.frz = true ∧ min x.frz.depth y.frz.depth ≤ 150 ∧ Q (.pure (.bool (PyData.eqv x.frz y.frz)))
theorem opA_eq (hu : X.A.units + 200 < cLine) : OpA X (compareOp .Eq) gEq := OpA.mk fun pins s σ H F v u x y a b Q Qa I rx ry hx hy h fin => by
  obtain ⟨h1, h2, h3⟩ := h
  obtain ⟨as, r1⟩ := RW.reads I hx rx
  obtain ⟨bs, r2⟩ := RW.reads I hy ry
  exact (eq_trees _ _ X.A s a b as bs r1 r2 h1 (by omega)).2 _ _ _ _ ⟨.bl _, H, I, rfl, fin.bl h3⟩
def gNe : G2 := fun x y Q => match x, y with
  | .pure (.int i), .pure (.int j) => Q (.pure (.bool (!decide (i = j))))
  | .pure (.str i), .pure (.str j) => Q (.pure (.bool (!decide (i = j))))
  | .pure (.bool i), .pure (.bool j) => Q (.pure (.bool (!decide (i = j))))
  | x, y => x.frz.canLay0 = true ∧ y.frz.canLay0 = true ∧ min x.frz.depth y.frz.depth ≤ 150 ∧ Q (.pure (.bool (!PyData.eqv x.frz y.frz)))
theorem opA_ne (hu : X.A.units + 200 < cLine) : OpA X (compareOp .NotEq) gNe := OpA.mk fun pins s σ H F v u x y a b Q Qa I rx ry hx hy h fin => by
  unfold gNe at h
  split at h
  · have e1 := RP.intE hx; have e2 := RP.intE hy; subst e1 e2
    exact op_ne pins s σ H _ _ _ _ Q I rx ry ⟨rfl, fin.bl (by simpa using h)⟩
  · have e1 := RP.strE hx; have e2 := RP.strE hy; subst e1 e2
    exact op_ne pins s σ H _ _ _ _ Q I rx ry ⟨rfl, fin.bl (by simpa using h)⟩
  · have e1 := RP.boolE hx; have e2 := RP.boolE hy; subst e1 e2
    exact op_ne pins s σ H _ _ _ _ Q I rx ry ⟨rfl, fin.bl (by simpa using h)⟩
  · obtain ⟨h1, h2, h3, h4⟩ := h
    obtain ⟨as, r1⟩ := RW.reads I hx rx
    obtain ⟨bs, r2⟩ := RW.reads I hy ry
    exact PySem.SeqAt.compareNe_reads r1 r2 h1 h2 (by omega) ⟨.bl _, H, I, rfl, fin.bl h4⟩
/-- one text in another -/
def inStr (x y : Str) : Bool := !(Builtin.Str.occurrences y x 0 y.length 1).isEmpty
def seqO (o : O) : Option (List T) := match lsO o with
  | some ts => some ts
  | none => tuO o
def gInW (neg : Bool) : G2 := fun x y Q => match x, y with
  | .pure (.str a), .pure (.str b) => Q (.pure (.bool (neg ^^ inStr a b)))
  | x, y => match seqO y with
    | some ts => (ts.all fun z => cmpOk z x.frz && decide (min z.depth x.frz.depth ≤ 150)) = true ∧ Q (.pure (.bool (neg ^^ ts.any fun z => PyData.eqv z x.frz)))
    | none => False
theorem depth_le_all : ∀ {ts : List T} {t : T}, t ∈ ts → t.depth ≤ PyData.depthAll ts
  | _ :: _, _, m => by
    simp only [PyData.depthAll]
    rcases List.mem_cons.mp m with rfl | m
    · exact Nat.le_max_left _ _
    · exact Nat.le_trans (depth_le_all m) (Nat.le_max_right _ _)
theorem readsAll_at {h : Heap} : ∀ {vs : List Value} {ds : List T} {as : List Addr}, ReadsAll h vs ds as → ∀ v ∈ vs, ∃ d ∈ ds, ∃ bs, Reads h v d bs
  | _, _, _, .cons r rs, v, m => by
    rcases List.mem_cons.mp m with rfl | m
    · exact ⟨_, List.mem_cons_self, _, r⟩
    · obtain ⟨d, hd, bs, q⟩ := readsAll_at rs v m
      exact ⟨d, List.mem_cons_of_mem _ hd, bs, q⟩
theorem any_reads {h : Heap} {f : Value → Bool} {g : T → Bool} (w : ∀ v d bs, Reads h v d bs → f v = g d) : ∀ {vs : List Value} {ds : List T} {as : List Addr}, ReadsAll h vs ds as → vs.any f = ds.any g
  | _, _, _, .nil => rfl
  | _, _, _, .cons r rs => by rw [List.any_cons, List.any_cons, w _ _ _ r, any_reads w rs]
theorem opA_inW (hu : X.A.units + 200 < cLine) (neg : Bool) : OpA X (compareOp (if neg = true then .NotIn else .In)) (gInW neg) := OpA.mk fun pins s σ H F v u x y a b Q Qa I rx ry hx hy h fin => by
  unfold gInW at h
  split at h
  · have e1 := RP.strE hx; have e2 := RP.strE hy; subst e1 e2
    cases neg with
    | false =>
      rw [if_neg Bool.false_ne_true]
      exact op_in_str pins s σ H _ _ _ _ Q I rx ry ⟨_, _, rfl, rfl, fin.bl (by simpa [inStr] using h)⟩
    | true =>
      rw [if_pos rfl]
      exact op_notin_str pins s σ H _ _ _ _ Q I rx ry ⟨_, _, rfl, rfl, fin.bl (by simpa [inStr] using h)⟩
  · split at h
    · rename_i ts es
      obtain ⟨h1, h2⟩ := h
      obtain ⟨as, r1⟩ := RW.reads I hx rx
      -- the items as read
      have key : ∀ (items : Array Value) (as' : List Addr), ReadsAll s.heap items.toList ts as' → ∃ e : Value → Bool, (∀ z, z ∈ items → SeqAt.EqAt X.A.in1 s z a (e z)) ∧ items.any e = ts.any fun z => PyData.eqv z x.frz := fun items as' ra => by
        classical
        refine ⟨fun z => if hz : ∃ d bs, Reads s.heap z d bs then PyData.eqv hz.choose x.frz else false, fun z hz => ?_, ?_⟩
        · obtain ⟨d, hd, bs, rd⟩ := readsAll_at ra z (by simpa using hz)
          have hz : ∃ d bs, Reads s.heap z d bs := ⟨d, bs, rd⟩
          have e : hz.choose = d := reads_one hz.choose_spec.choose_spec rd
          show SeqAt.EqAt X.A.in1 s z a (if hz : ∃ d bs, Reads s.heap z d bs then PyData.eqv hz.choose x.frz else false)
          rw [dif_pos hz, e]
          have c := List.all_eq_true.mp h1 d hd
          simp only [Bool.and_eq_true, decide_eq_true_eq] at c
          exact (eq_trees d _ X.A.in1 s z a bs as rd r1 c.1 (by show X.A.units + 1 + _ < _; omega)).1
        · rw [← Array.any_toList]
          refine any_reads (fun v d bs rd => ?_) ra
          have hz : ∃ d bs, Reads s.heap v d bs := ⟨d, bs, rd⟩
          show (if hz : ∃ d bs, Reads s.heap v d bs then PyData.eqv hz.choose x.frz else false) = _
          rw [dif_pos hz, reads_one hz.choose_spec.choose_spec rd]
      have ends : ∀ {k : Bool}, k = (ts.any fun z => PyData.eqv z x.frz) → EP X pins σ Q (.bool (neg ^^ k)) s := fun e => ⟨.bl _, H, I, rfl, by rw [e]; exact fin.bl h2⟩
      unfold seqO at es
      split at es
      · rename_i us el
        cases es
        obtain ⟨p, vs, rfl, hq, r2⟩ := RW.ls hy el
        cases ry
        obtain ⟨its, rv, pl, _⟩ := I.list hq
        obtain ⟨qs, r3, _⟩ := r2.rvs
        obtain ⟨cs, r4⟩ := RVs.reads I r3 rv
        obtain ⟨e, k1, k2⟩ := key its.toArray cs (by simpa using r4)
        cases neg with
        | false => rw [if_neg Bool.false_ne_true]; exact SeqAt.in_listAt e pl.isList k1 (by simpa using ends k2)
        | true => rw [if_pos rfl]; exact SeqAt.notIn_listAt e pl.isList k1 (by simpa using ends k2)
      · obtain ⟨p, vs, rfl, hq, r2⟩ := RW.tu hy es
        cases ry
        obtain ⟨its, rv, pl, _⟩ := I.tuple hq
        obtain ⟨qs, r3, _⟩ := r2.rvs
        obtain ⟨cs, r4⟩ := RVs.reads I r3 rv
        obtain ⟨e, k1, k2⟩ := key its.toArray cs (by simpa using r4)
        cases neg with
        | false => rw [if_neg Bool.false_ne_true]; exact SeqAt.in_tupleAt e pl k1 (by simpa using ends k2)
        | true => rw [if_pos rfl]; exact SeqAt.notIn_tupleAt e pl k1 (by simpa using ends k2)
    · exact h.elim
theorem opA_in (hu : X.A.units + 200 < cLine) : OpA X (compareOp .In) (gInW false) := opA_inW hu false
theorem opA_notIn (hu : X.A.units + 200 < cLine) : OpA X (compareOp .NotIn) (gInW true) := opA_inW hu true
/-- is None -/
def isNon : O → Bool
  | .pure .none => true
  | _ => false
theorem RW.non {K : PySem.W.Frag} {H : Hp} {F : Addr → Prop} {v : V} {o : O} (h : RW K H F v o) : decide (v = .non) = isNon o := by
  cases o with
  | pure t =>
    obtain ⟨as, r, _⟩ := h
    cases r <;> simp [isNon]
  | lst ts => obtain ⟨a, vs, rfl, _⟩ := h; simp [isNon]
  | dct ts => obtain ⟨a, vs, rfl, _⟩ := h; simp [isNon]
  | dcl ts => obtain ⟨a, vs, bs, rfl, _⟩ := h; simp [isNon]
def gIs : G2 := fun x y Q => match y with
  | .pure .none => Q (.pure (.bool (isNon x)))
  | _ => False
def gIsNot : G2 := fun x y Q => match y with
  | .pure .none => Q (.pure (.bool (!isNon x)))
  | _ => False
theorem opA_is : OpA X (compareOp .Is) gIs := OpA.mk fun pins s σ H F v u x y a b Q Qa I rx ry hx hy h fin => by
  unfold gIs at h
  split at h
  · have e2 := RP.noneE hy; subst e2
    exact op_isN pins s σ H _ _ _ _ Q I rx ry ⟨rfl, by rw [RW.non hx]; exact fin.bl h⟩
  · exact h.elim
theorem opA_isNot : OpA X (compareOp .IsNot) gIsNot := OpA.mk fun pins s σ H F v u x y a b Q Qa I rx ry hx hy h fin => by
  unfold gIsNot at h
  split at h
  · have e2 := RP.noneE hy; subst e2
    exact op_notN pins s σ H _ _ _ _ Q I rx ry ⟨rfl, by rw [RW.non hx]; exact fin.bl h⟩
  · exact h.elim
end
end DL

set_option Elab.async false
set_option linter.all false
set_option maxRecDepth 100000
set_option maxHeartbeats 4000000
/-! THE DATA LAYER, part 12: calls of built-ins, subscripts, slices, chains. -/
namespace DL
open PySem PySem.Spec L2
open PyProof.Rows hiding St

section
variable {X : Cx}
/-! ### built-in functions -/
def gLen : GN := fun os Q => match os with
  | [.pure (.str x)] => x.length ≤ 16777216 ∧ Q (.pure (.int x.length))
  | [o] => match seqO o with
    | some ts => Q (.pure (.int ts.length))
    | none => False
  | _ => False
theorem callA_len : CallA X (.builtin "len") gLen := CallA.mk fun pins s σ H F vs xs us Q Qa I r hx h fin => by
  unfold gLen at h
  split at h
  · cases hx with
    | cons h1 hr =>
      cases hr
      have e1 := RP.strE h1; subst e1
      exact call_len pins s σ H _ us Q I r ⟨_, _, rfl, ⟨by rw [sizeLine_eq]; exact h.1, rfl⟩, fin.int h.2⟩
  · cases hx with
    | cons h1 hr =>
      cases hr
      split at h
      · rename_i ts es
        unfold seqO at es
        split at es
        · rename_i us el
          cases es
          obtain ⟨p, vs, rfl, hq, r2⟩ := RW.ls h1 el
          exact call_len pins s σ H _ _ Q I r ⟨_, _, rfl, .inl ⟨vs, hq, rfl⟩, by rw [Paired.len r2]; exact fin.int h⟩
        · obtain ⟨p, vs, rfl, hq, r2⟩ := RW.tu h1 es
          exact call_len pins s σ H _ _ Q I r ⟨_, _, rfl, .inr ⟨vs, hq, rfl⟩, by rw [Paired.len r2]; exact fin.int h⟩
      · exact h.elim
  · exact h.elim
def boolsOf : List T → Option (List Bool)
  | [] => some []
  | .bool b :: ts => (boolsOf ts).map (b :: ·)
  | _ => none
theorem RPs.bools {K : PySem.W.Frag} {H : Hp} {F : Addr → Prop} : ∀ {vs : List V} {ts : List T} {bs : List Bool}, RPs K H F vs ts → boolsOf ts = some bs → vs = bs.map V.bl
  | _, _, _, .nil, e => by cases e; rfl
  | _, t :: ts, bs, .cons h r, e => by
    unfold boolsOf at e
    split at e
    · rename_i heq; cases heq
    · rename_i b ts' heq
      cases heq
      cases q : boolsOf ts with
      | none => rw [q] at e; cases e
      | some bs' =>
        rw [q] at e; cases e
        rw [List.map_cons, RP.boolE h, RPs.bools r q]
    · cases e
def gAllAny (f : List Bool → Bool) : GN := fun os Q => match os with
  | [o] => match lsO o with
    | some ts => match boolsOf ts with
      | some bs => Q (.pure (.bool (f bs)))
      | none => False
    | none => False
  | _ => False
theorem callA_all (hc : X.calm = true) : CallA X (.builtin "all") (gAllAny fun bs => bs.all id) := CallA.mk fun pins s σ H F vs xs us Q Qa I r hx h fin => by
  unfold gAllAny at h
  split at h
  · cases hx with
    | cons h1 hr =>
      cases hr
      split at h
      · rename_i ts el
        split at h
        · rename_i bs eb
          obtain ⟨p, vs, rfl, hq, r2⟩ := RW.ls h1 el
          obtain rfl := r2.bools eb
          exact cr_all hc pins s σ H _ _ Q I r ⟨p, bs, rfl, hq, fin.bl h⟩
        · exact h.elim
      · exact h.elim
  · exact h.elim
theorem callA_any (hc : X.calm = true) : CallA X (.builtin "any") (gAllAny fun bs => bs.any id) := CallA.mk fun pins s σ H F vs xs us Q Qa I r hx h fin => by
  unfold gAllAny at h
  split at h
  · cases hx with
    | cons h1 hr =>
      cases hr
      split at h
      · rename_i ts el
        split at h
        · rename_i bs eb
          obtain ⟨p, vs, rfl, hq, r2⟩ := RW.ls h1 el
          obtain rfl := r2.bools eb
          exact cr_any hc pins s σ H _ _ Q I r ⟨p, bs, rfl, hq, fin.bl h⟩
        · exact h.elim
      · exact h.elim
  · exact h.elim
def gAbs : GN := fun os Q => match os with
  | [.pure (.int i)] => Q (.pure (.int (if i < 0 then -i else i)))
  | _ => False
theorem callA_abs : CallA X (.builtin "abs") gAbs := CallA.mk fun pins s σ H F vs xs us Q Qa I r hx h fin => by
  unfold gAbs at h
  split at h
  · cases hx with
    | cons h1 hr =>
      cases hr
      have e1 := RP.intE h1; subst e1
      exact call_abs pins s σ H _ _ Q I r ⟨_, rfl, fin.int h⟩
  · exact h.elim
def gInt : GN := fun os Q => match os with
  | [.pure (.int i)] => Q (.pure (.int i))
  | [.pure (.bool k)] => Q (.pure (.int (if k = true then 1 else 0)))
  | _ => False
theorem callA_int : CallA X (.type "int") gInt := CallA.mk fun pins s σ H F vs xs us Q Qa I r hx h fin => by
  unfold gInt at h
  split at h
  · cases hx with
    | cons h1 hr =>
      cases hr
      have e1 := RP.intE h1; subst e1
      exact call_int1 pins s σ H _ _ Q I r (.inl ⟨_, rfl, fin.int h⟩)
  · cases hx with
    | cons h1 hr =>
      cases hr
      have e1 := RP.boolE h1; subst e1
      exact call_int1 pins s σ H _ _ Q I r (.inr ⟨_, rfl, fin.int h⟩)
  · exact h.elim
def gStr : GN := fun os Q => match os with
  | [.pure (.int i)] => i.natAbs.log2 < 1920 ∧ Q (.pure (.str (toString i)))
  | [.pure (.bool k)] => Q (.pure (.str (if k = true then "True" else "False")))
  | [.pure (.str x)] => Q (.pure (.str x))
  | _ => False
theorem callA_str : CallA X (.type "str") gStr := CallA.mk fun pins s σ H F vs xs us Q Qa I r hx h fin => by
  unfold gStr at h
  split at h
  · cases hx with
    | cons h1 hr =>
      cases hr
      have e1 := RP.intE h1; subst e1
      exact call_str_int pins s σ H _ _ Q I r ⟨_, rfl, h.1, fin.str h.2⟩
  · rename_i k
    cases hx with
    | cons h1 hr =>
      cases hr
      have e1 := RP.boolE h1; subst e1
      obtain ⟨u, rfl, ru⟩ := vals1 r
      cases ru
      refine PySem.P.str_of_bool ⟨.str (if k = true then "True" else "False"), H, I.tok _, ⟨s.toks, ?_⟩, fin.str ?_⟩
      · cases k <;> rfl
      · exact h
  · cases hx with
    | cons h1 hr =>
      cases hr
      have e1 := RP.strE h1; subst e1
      exact SkE.call_str_str pins s σ H _ _ Q I r ⟨_, rfl, fin.str h⟩
  · exact h.elim
def gM2 (f : Int → Int → Int) : GN := fun os Q => match os with
  | [.pure (.int i), .pure (.int j)] => Q (.pure (.int (f i j)))
  | _ => False
theorem callA_max2 (hc : X.calm = true) : CallA X (.builtin "max") (gM2 fun i j => if j > i then j else i) := CallA.mk fun pins s σ H F vs xs us Q Qa I r hx h fin => by
  unfold gM2 at h
  split at h
  · cases hx with
    | cons h1 hr =>
      cases hr with
      | cons h2 hr =>
        cases hr
        have e1 := RP.intE h1; have e2 := RP.intE h2; subst e1 e2
        exact call_max2 hc pins s σ H _ _ Q I r ⟨_, _, rfl, fin.int h⟩
  · exact h.elim
theorem callA_min2 (hc : X.calm = true) : CallA X (.builtin "min") (gM2 fun i j => if j < i then j else i) := CallA.mk fun pins s σ H F vs xs us Q Qa I r hx h fin => by
  unfold gM2 at h
  split at h
  · cases hx with
    | cons h1 hr =>
      cases hr with
      | cons h2 hr =>
        cases hr
        have e1 := RP.intE h1; have e2 := RP.intE h2; subst e1 e2
        exact call_min2 hc pins s σ H _ _ Q I r ⟨_, _, rfl, fin.int h⟩
  · exact h.elim
def gListOfS : GN := fun os Q => match os with
  | [o] => match seqO o with
    | some ts => Q (.lst ts)
    | none => False
  | _ => False
def gTupOfS : GN := fun os Q => match os with
  | [o] => match seqO o with
    | some ts => Q (.pure (.tuple ts))
    | none => False
  | _ => False
theorem RW.seq {K : PySem.W.Frag} {H : Hp} {F : Addr → Prop} {v : V} {o : O} {ts : List T} (h : RW K H F v o) (e : seqO o = some ts) : ∃ p vs, v = .ref p ∧ (SqL K H p vs ∨ (SqT K H p vs ∧ o = .pure (.tuple ts))) ∧ RPs K H F vs ts := by
  unfold seqO at e
  split at e
  · rename_i us el
    cases e
    obtain ⟨p, vs, rfl, hq, r2⟩ := RW.ls h el
    exact ⟨p, vs, rfl, .inl hq, r2⟩
  · obtain ⟨p, vs, rfl, hq, r2⟩ := RW.tu h e
    refine ⟨p, vs, rfl, .inr ⟨hq, ?_⟩, r2⟩
    unfold tuO at e
    split at e
    · cases e; rfl
    · cases e
theorem callA_listS : CallA X (.type "list") gListOfS := CallA.mk fun pins s σ H F vs xs us Q Qa I r hx h fin => by
  unfold gListOfS at h
  split at h
  · cases hx with
    | cons h1 hr =>
      cases hr
      split at h
      · rename_i ts es
        obtain ⟨p, vs, rfl, hq, r2⟩ := RW.seq h1 es
        exact call_list_of pins s σ H _ _ Q I r ⟨p, vs, rfl, hq.imp (fun q => q) (·.1), fun l hl => fin.lst hl r2 h⟩
      · exact h.elim
  · exact h.elim
theorem callA_tupleS : CallA X (.type "tuple") gTupOfS := CallA.mk fun pins s σ H F vs xs us Q Qa I r hx h fin => by
  unfold gTupOfS at h
  split at h
  · cases hx with
    | cons h1 hr =>
      cases hr
      split at h
      · rename_i ts es
        obtain ⟨p, vs, rfl, hq, r2⟩ := RW.seq h1 es
        rcases hq with hq | ⟨hq, e⟩
        · exact call_tuple_of pins s σ H _ _ Q I r ⟨p, vs, rfl, .inl ⟨hq, fun l hl => fin.tup hl r2 h⟩⟩
        · subst e
          exact call_tuple_of pins s σ H _ _ Q I r ⟨p, vs, rfl, .inr ⟨hq, fin.pure h1 h⟩⟩
      · exact h.elim
  · exact h.elim
def strsOf : List T → Option (List Str)
  | [] => some []
  | .str b :: ts => (strsOf ts).map (b :: ·)
  | _ => none
theorem RPs.strs {K : PySem.W.Frag} {H : Hp} {F : Addr → Prop} : ∀ {vs : List V} {ts : List T} {bs : List Str}, RPs K H F vs ts → strsOf ts = some bs → vs = bs.map V.str
  | _, _, _, .nil, e => by cases e; rfl
  | _, t :: ts, bs, .cons h r, e => by
    unfold strsOf at e
    split at e
    · rename_i heq; cases heq
    · rename_i b ts' heq
      cases heq
      cases q : strsOf ts with
      | none => rw [q] at e; cases e
      | some bs' =>
        rw [q] at e; cases e
        rw [List.map_cons, RP.strE h, RPs.strs r q]
    · cases e
theorem RPs.ofStrs {K : PySem.W.Frag} {H : Hp} {F : Addr → Prop} : ∀ ys : List Str, RPs K H F (ys.map V.str) (ys.map PyData.str)
  | [] => .nil
  | y :: ys => .cons (RP.str y) (RPs.ofStrs ys)
def gSortS : GN := fun os Q => match os with
  | [o] => match lsO o with
    | some ts => match strsOf ts with
      | some xs => xs.length < 64 ∧ ∀ ys : List Str, ys.Perm xs → sortedS ys = true → Q (.lst (ys.map PyData.str))
      | none => False
    | none => False
  | _ => False
theorem callA_sortS : CallA X (.builtin "sorted") gSortS := CallA.mk fun pins s σ H F vs xs us Q Qa I r hx h fin => by
  unfold gSortS at h
  split at h
  · cases hx with
    | cons h1 hr =>
      cases hr
      split at h
      · rename_i ts el
        split at h
        · rename_i bs eb
          obtain ⟨p, vs, rfl, hq, r2⟩ := RW.ls h1 el
          obtain rfl := r2.strs eb
          exact cr_sortedS pins s σ H _ _ Q I r ⟨p, bs, rfl, hq, h.1, fun ys l h1 h2 hl => fin.lst hl (RPs.ofStrs ys) (h.2 ys h1 h2)⟩
        · exact h.elim
      · exact h.elim
  · exact h.elim
/-- repr -/
def gRepr : GN := fun os Q => match os with
  | [o] => o.frz.showable = true ∧ o.frz.depth ≤ 150 ∧ o.frz.shown.length ≤ 16777216 ∧ Q (.pure (.str o.frz.shown))
  | _ => False
theorem callA_repr (hr : Rm 0 X.A) : CallA X (.builtin "repr") gRepr := CallA.mk fun pins s σ H F vs xs us Q Qa I r hx h fin => by
  unfold gRepr at h
  split at h
  · rename_i o
    cases hx with
    | cons h1 hr' =>
      cases hr'
      obtain ⟨u, rfl, ru⟩ := vals1 r
      obtain ⟨as, q⟩ := RW.view h1
      clear h1
      generalize o.frz = t at h q
      obtain ⟨k1, k2, k3, k4⟩ := h
      have hz : t.shown.length ≤ sizeLine := by rw [sizeLine_eq]; exact k3
      have un := hr.room.un
      have big : ∀ {a : Addr}, RV X.K H (.ref a) t as → u = .ref a → wpAny (model X.prog X.w) X.A (call (.builtin "repr") [u]) (EP X pins σ Q) X.xe s := fun {a} q e => by
        subst e
        obtain ⟨T, idr, S⟩ := RV.shows I q k1 hz
        refine call_repr_slot (by omega) (S.typeIs s fun _ _ e => e) S.slotRepr (S.call X.A.in1 X.xe s _ hr.gd (by show X.A.units + 1 + t.depth < cLine; omega) (fun _ _ e => e) fun h' k tk hk => ⟨_, _, rfl, ?_⟩)
        exact ⟨.str t.shown, H, I.kept (t' := tk) hk, ⟨k, rfl⟩, fin.str k4⟩
      cases q with
      | non =>
        cases ru
        simp only [PyData.shown] at k4
        exact PySem.P.repr_of_none ⟨.str "None", H, I.tok _, ⟨_, rfl⟩, fin.str k4⟩
      | bl b =>
        cases ru
        simp only [PyData.shown] at k4
        exact PySem.P.repr_of_bool ⟨.str _, H, I.tok _, ⟨_, rfl⟩, fin.str k4⟩
      | int i =>
        obtain ⟨t, rfl⟩ := ru
        simp only [PyData.shown] at k4
        exact PySem.P.repr_of_int (by simpa [PyData.showable] using k1) ⟨.str _, H, I.tok _, ⟨_, rfl⟩, fin.str k4⟩
      | str x =>
        obtain ⟨t, rfl⟩ := ru
        simp only [PyData.shown] at k4 hz
        exact PySem.P.repr_of_str ⟨.str _, H, I.tok _, ⟨_, rfl⟩, fin.str k4⟩ hz
      | tup h q => exact big (.tup h q) ru
      | lst h q => exact big (.lst h q) ru
      | lstK h1 h2 h3 h4 h5 h6 q => exact big (.lstK h1 h2 h3 h4 h5 h6 q) ru
      | dct h q => exact big (.dct h q) ru
  · exact h.elim
end

/-! ### isinstance -/
def tyT : T → String
  | .none => "NoneType"
  | .bool _ => "bool"
  | .int _ => "int"
  | .str _ => "str"
  | .list _ => "list"
  | .tuple _ => "tuple"
  | .dict _ => "dict"
def isT (n : String) (t : T) : Bool := tyT t == n || (n == "int" && tyT t == "bool")
section
variable {X : Cx}
theorem RV.ty {K : PySem.W.Frag} {H : Hp} {v : V} {t : T} {as : List Addr} (r : RV K H v t as) : TyX K H v (.type (tyT t)) := by
  cases r with
  | non => exact .base .non
  | bl b => exact .base (.bl b)
  | int i => exact .base (.int i)
  | str x => exact .base (.str x)
  | tup h _ =>
    rcases h with (h | ⟨o, h⟩) | ⟨o, its, n, h, c, _⟩
    · exact .base (.tup h)
    · exact .fTuple h
    · exact .kTuple h c
  | lst h _ =>
    rcases h with h | ⟨o, h⟩
    · exact .base (.lst h)
    · exact .base (.frz h)
  | lstK h c _ _ _ _ _ => exact .kList h c
  | dct h _ =>
    rcases h with h | ⟨o, h⟩
    · exact .base (.dK h)
    · exact .fDict h
/-- the classes that isinstance is asked of -/
def tyOk (n : String) : Prop := ∀ t : T, kitB (tyT t) n = some (isT n t)
theorem tyOk_of {n : String} (h1 : kitB "NoneType" n = some (isT n .none)) (h2 : kitB "bool" n = some (isT n (.bool true))) (h3 : kitB "int" n = some (isT n (.int 0))) (h4 : kitB "str" n = some (isT n (.str ""))) (h5 : kitB "list" n = some (isT n (.list []))) (h6 : kitB "tuple" n = some (isT n (.tuple []))) (h7 : kitB "dict" n = some (isT n (.dict []))) : tyOk n := fun t => by
  cases t with
  | none => exact h1
  | bool b => exact h2
  | int i => exact h3
  | str x => exact h4
  | list xs => exact h5
  | tuple xs => exact h6
  | dict xs => exact h7
theorem tyOk_str : tyOk "str" := tyOk_of (by decide +kernel) (by decide +kernel) (by decide +kernel) (by decide +kernel) (by decide +kernel) (by decide +kernel) (by decide +kernel)
theorem tyOk_int : tyOk "int" := tyOk_of (by decide +kernel) (by decide +kernel) (by decide +kernel) (by decide +kernel) (by decide +kernel) (by decide +kernel) (by decide +kernel)
theorem tyOk_bool : tyOk "bool" := tyOk_of (by decide +kernel) (by decide +kernel) (by decide +kernel) (by decide +kernel) (by decide +kernel) (by decide +kernel) (by decide +kernel)
theorem tyOk_list : tyOk "list" := tyOk_of (by decide +kernel) (by decide +kernel) (by decide +kernel) (by decide +kernel) (by decide +kernel) (by decide +kernel) (by decide +kernel)
theorem tyOk_tuple : tyOk "tuple" := tyOk_of (by decide +kernel) (by decide +kernel) (by decide +kernel) (by decide +kernel) (by decide +kernel) (by decide +kernel) (by decide +kernel)
theorem tyOk_dict : tyOk "dict" := tyOk_of (by decide +kernel) (by decide +kernel) (by decide +kernel) (by decide +kernel) (by decide +kernel) (by decide +kernel) (by decide +kernel)
def tIsi (n : String) (te : XT) : XT := fun ρ Q => te ρ fun p ρ1 => match p.get ρ1 with
  | some o => Q (.val (.pure (.bool (isT n o.frz)))) ρ1
  | none => False
theorem RO.ty {K : PySem.W.Frag} {H : Hp} {F : Addr → Prop} {v : V} {o : O} (r : RW K H F v o) : TyX K H v (.type (tyT o.frz)) := let ⟨_, q⟩ := r.view; q.ty
theorem ex_isi {n : String} {x : Str} {e : Expr} {te : XT} {p p2 pos : Pos} (hn : tyOk n) (hg : Gl X "isinstance") (hm : X.mg "isinstance" = none) (hg2 : Gl X x) (hm2 : X.mg x = none) (hb2 : bootBuiltins x = some (.type n)) (he : EX X e te) (hx : x ≠ "__name__" := by decide) (hd : (x == ("__debug__" : Str)) = false := by decide)
    (hs : starEach [e, .Name x p2] X.env = (false, eval e X.env) :: starEach [.Name x p2] X.env := by rfl) (hs2 : starEach [.Name x p2] X.env = (false, eval (.Name x p2) X.env) :: starEach [] X.env := by rfl)
    (hpl : (backTo pos (starEach [.Name x p2] X.env)).any (·.1) = false := by rfl) : EX X (.Call (.Name "isinstance" p) [e, .Name x p2] [] pos) (tIsi n te) := by
  refine ⟨PE.imp (pe_callB call_isi hg hm (by decide +kernel) (pa_cons he.pe (pa_cons (pe_bltn (v := .ty n) hg2 hm2 hb2 rfl hx hd) pa_nil hs2) hs) (by decide) (by decide) hs hpl) ?_⟩
  rintro σ H Q ⟨ρ, fp, G, Qa, R, h, fin⟩
  refine ⟨ρ, fp, G, _, R, h, fun v p A H1 ρ1 fp1 R1 r1 x1 h1 => ?_⟩
  split at h1
  · rename_i o eo
    have w := r1.rw0 R1 eo
    exact ⟨v, .ty n, _, _, _, rfl, .ty n, RO.ty w, kit_ty (hn _), FinV.bl (fin_of (G := G) R1 (fun a m => List.mem_append_right _ m) x1.or fin) h1⟩
  · exact h1.elim

/-! ### subscripts -/
def gIx : G2 := fun x y Q => match y with
  | .pure (.int i) => match x with
    | .pure (.str z) => z.length ≤ 16777216 ∧ match atI z.cps.toList i with
      | some c => Q (.pure (.str ⟨#[c]⟩))
      | none => False
    | x => match seqO x with
      | some ts => match atI ts i with
        | some t => Q (.pure t)
        | none => False
      | none => False
  | _ => False
theorem atI_pair {K : PySem.W.Frag} {H : Hp} {F : Addr → Prop} {vs : List V} {ts : List T} {i : Int} {t : T} (r : RPs K H F vs ts) (e : atI ts i = some t) : ∃ v, atI vs i = some v ∧ RP K H F v t := by
  unfold atI at e ⊢
  rw [Paired.len r]
  cases q : ixN ts.length i with
  | none => rw [q] at e; cases e
  | some j =>
    rw [q] at e
    obtain ⟨v, hv, rv⟩ := Paired.at r e
    exact ⟨v, hv, rv⟩
theorem ixA_seq : IxA X gIx := by
  refine ⟨rIx X.K, ix_seq, fun H F v u x y Q Qa hx hy h fin => ?_⟩
  unfold gIx at h
  split at h
  · rename_i i
    have e2 := RP.intE hy; subst e2
    split at h
    · rename_i z
      have e1 := RP.strE hx; subst e1
      obtain ⟨hz, h⟩ := h
      split at h
      · rename_i c ec
        exact .inr (.inr ⟨z, i, c, rfl, rfl, by rw [sizeLine_eq]; exact hz, ec, fin.str h⟩)
      · exact h.elim
    · split at h
      · rename_i ts es
        split at h
        · rename_i t et
          obtain ⟨p, vs, rfl, hq, r2⟩ := RW.seq hx es
          obtain ⟨w, hw, rw_⟩ := atI_pair r2 et
          rcases hq with hq | ⟨hq, _⟩
          · exact .inl ⟨p, vs, i, w, rfl, rfl, hq, hw, fin.pure rw_ h⟩
          · exact .inr (.inl ⟨p, vs, i, w, rfl, rfl, hq, hw, fin.pure rw_ h⟩)
        · exact h.elim
      · exact h.elim
  · exact h.elim

/-! ### slices -/
def cutT (ts : List T) (lo hi : Option Int) : List T := (ts.drop (HT.sIx ts.length 0 lo)).take (HT.sIx ts.length ts.length hi - HT.sIx ts.length 0 lo)
abbrev GS := O → Option Int → Option Int → (O → Prop) → Prop
def partT : Option XT → AEnv → (Option Int → AEnv → Prop) → Prop
  | none, ρ, Q => Q none ρ
  | some t, ρ, Q => t ρ fun p ρ1 => match p.get ρ1 with
    | some (.pure (.int i)) => Q (some i) ρ1
    | _ => False
def tSlc (te : XT) (tl th : Option XT) : XT := fun ρ Q => te ρ fun p ρ1 => partT tl ρ1 fun lo ρ2 => partT th ρ2 fun hi ρ3 => match p.get ρ3 with
  | some (.pure (.str z)) => z.length ≤ 16777216 ∧ Q (.val (.pure (.str (cutS z lo hi)))) ρ3
  | some (.pure (.tuple ts)) => Q (.val (.pure (.tuple (cutT ts lo hi)))) ρ3
  | some (.lst ts) => Q (.val (.lst (cutT ts lo hi))) ρ3
  | some (.pure (.list ts)) => Q (.val (.lst (cutT ts lo hi))) ρ3
  | _ => False
def LO (K : PySem.W.Frag) (t : Option XT) : TO := fun σ H Q => ∃ ρ fp G Qa, RS K σ H ρ fp G ∧ partT t ρ Qa ∧ ∀ o H' ρ' fp', RS K σ H' ρ' fp' G → Ext H (Fo fp) H' (Fo fp') → Qa o ρ' → Q o H'
structure OX (X : Cx) (e : Option Expr) (t : Option XT) : Prop where
  po : PO X e (LO X.K t)
theorem PO.imp {e : Option Expr} {t t' : TO} (h : PO X e t) (w : ∀ σ H Q, t' σ H Q → t σ H Q) : PO X e t' := ⟨fun pins s σ H Q I q => h.run pins s σ H Q I (w σ H Q q)⟩
theorem ox_none : OX X none none := by
  refine ⟨PO.imp po_none ?_⟩
  rintro σ H Q ⟨ρ, fp, G, Qa, R, h, fin⟩
  exact fin none H ρ fp R Ext.refl h
theorem ox_some {e : Expr} {te : XT} (h : EX X e te) : OX X (some e) (some te) := by
  refine ⟨PO.imp (po_some h.pe) ?_⟩
  rintro σ H Q ⟨ρ, fp, G, Qa, R, h, fin⟩
  refine ⟨ρ, fp, G, _, R, h, fun v p A H1 ρ1 fp1 R1 r1 x1 h1 => ?_⟩
  split at h1
  · rename_i i ei
    have e := RP.intE (r1.rw0 R1 ei)
    exact ⟨i, e, fin (some i) H1 ρ1 fp1 (R1.sub fun a m => List.mem_append_right _ m) x1.or h1⟩
  · exact h1.elim
def rSlAll (K : PySem.W.Frag) : V → Option Int → Option Int → Hp → VK → Prop := fun x lo hi H Q => rSlS x lo hi H Q ∨ rSlL K x lo hi H Q ∨ rSlA K x lo hi H Q
theorem cut_pair {K : PySem.W.Frag} {H : Hp} {F : Addr → Prop} {vs : List V} {ts : List T} {lo hi : Option Int} (r : RPs K H F vs ts) : RPs K H F (cutV vs lo hi) (cutT ts lo hi) := by
  unfold cutV cutT
  rw [Paired.len r]
  exact Paired.takeP _ (Paired.dropP _ r)
theorem cut_all {ts : List T} {lo hi : Option Int} (h : HT.sIx ts.length 0 lo = 0 ∧ HT.sIx ts.length ts.length hi = ts.length) : cutT ts lo hi = ts := by
  unfold cutT
  rw [h.1, h.2, List.drop_zero, Nat.sub_zero, List.take_length]
theorem ex_slice {e : Expr} {lo hi : Option Expr} {te : XT} {tl th : Option XT} {p2 pos : Pos} (he : EX X e te) (hl : OX X lo tl) (hh : OX X hi th) : EX X (.Subscript e (.Slice lo hi none p2) pos) (tSlc te tl th) := by
  refine ⟨PE.imp (pe_slice (sl_str.or (sl_list.or sl_tupA)) he.pe hl.po hh.po) ?_⟩
  rintro σ H Q ⟨ρ, fp, G, Qa, R, h, fin⟩
  refine ⟨ρ, fp, G, _, R, h, fun v p A H1 ρ1 fp1 R1 r1 x1 h1 => ?_⟩
  refine ⟨ρ1, fp1, A ++ G, _, R1, h1, fun l H2 ρ2 fp2 R2 x2 h2 => ?_⟩
  refine ⟨ρ2, fp2, A ++ G, _, R2, h2, fun u H3 ρ3 fp3 R3 x3 h3 => ?_⟩
  have x23 : Ext H1 (Fo fp1) H3 (Or1 (Fo fp3) []) := (x2.trans x3).weak (fun _ z => z) Or1.nil
  have w : ∀ {o : O}, p.get ρ3 = some o → RW X.K H3 (Or1 (Fo fp3) (A ++ G)) v o := fun e => r1.rw (B := []) R1 x23 R3 e
  have fz := fin_of (G := G) R3 (fun a m => List.mem_append_right _ m) (x1.or.trans (x2.trans x3)) fin
  split at h3
  · rename_i z ez
    have e1 := RP.strE (w ez)
    exact .inl ⟨z, e1, by rw [sizeLine_eq]; exact h3.1, fz.str h3.2⟩
  · rename_i ts ez
    obtain ⟨q, vs, e1, hq, r2⟩ := RP.tupE (w ez)
    refine .inr (.inr ⟨q, vs, e1, hq, fun hw => ?_, fun hw y hy => fz.tup hy (cut_pair r2) h3⟩)
    rw [Paired.len r2] at hw
    rw [cut_all hw] at h3
    have := w ez
    rw [e1] at this
    exact fz.pure this h3
  · rename_i ts ez
    obtain ⟨q, vs, e1, hq, r2⟩ := RW.ls (w ez) rfl
    exact .inr (.inl ⟨q, vs, e1, hq, fun y hy => fz.lst hy (cut_pair r2) h3⟩)
  · rename_i ts ez
    obtain ⟨q, vs, e1, hq, r2⟩ := RW.ls (w ez) rfl
    exact .inr (.inl ⟨q, vs, e1, hq, fun y hy => fz.lst hy (cut_pair r2) h3⟩)
  · exact h3.elim

/-! ### chained comparisons -/
theorem ex_chain {op op' : CmpOp} {g g' : G2} {a b c : Expr} {ta tb tc : XT} {pos : Pos} (ho : OpA X (compareOp op) g) (ho' : OpA X (compareOp op') g') (ha : EX X a ta) (hb : EX X b tb) (hc : EX X c tc)
    (hm : lastMarks [op, op'] [b, c] = false := by with_unfolding_all rfl) : TX X (.Compare a [op, op'] [b, c] pos) (tChainA g g' ta tb tc) := by
  obtain ⟨r, hr, hg⟩ := ho
  obtain ⟨r', hr', hg'⟩ := ho'
  refine ⟨PT.imp (pt_chain hr hr' ha.pe hb.pe hc.pe hm) ?_⟩
  rintro σ H Q ⟨ρ, fp, G, Qa, R, h, fin⟩
  refine ⟨ρ, fp, G, _, R, h, fun v p A H1 ρ1 fp1 R1 r1 x1 h1 => ?_⟩
  refine ⟨ρ1, fp1, A ++ G, _, R1, h1, fun u q B H2 ρ2 fp2 R2 r2 x2 h2 => ?_⟩
  unfold g2 at h2
  split at h2
  · rename_i x y e1 e2
    refine hg H2 (Or1 (Fo fp2) (B ++ (A ++ G))) v u x y _ _ (r1.rw R1 x2 R2 e1) (r2.rw0 R2 e2) h2 fun z o C H3 pr ro nC ndC q3 => ?_
    unfold bO at q3
    split at q3
    · rename_i c
      obtain ⟨rfl, ro⟩ := ro
      have ez := RP.boolE ro; subst ez
      refine ⟨c, rfl, ?_⟩
      cases c with
      | true =>
        rw [if_pos rfl] at q3 ⊢
        have R3 : RS X.K σ H3 ρ2 fp2 (B ++ (A ++ G)) := R2.pres pr
        refine ⟨ρ2, fp2, B ++ (A ++ G), _, R3, q3, fun w' r D H4 ρ4 fp4 R4 r4 x4 h4 => ?_⟩
        obtain ⟨hsl, h4⟩ := h4
        split at h4
        · rename_i y' z' e3 e4
          have r2' : ROp X.K σ H3 fp2 ρ2 (A ++ G) u q B := by
            cases q with
            | val o => exact ⟨r2.1.pres pr, r2.2⟩
            | slot j => exact r2
          refine hg' H4 (Or1 (Fo fp4) (D ++ (B ++ (A ++ G)))) u w' y' z' _ _ (r2'.rw R3 x4 R4 e3) (r4.rw0 R4 e4) h4 fun z2 o2 C2 H5 pr5 ro5 nC5 nd5 q5 => ?_
          split at q5
          · obtain ⟨rfl, ro5⟩ := ro5
            have ez := RP.boolE ro5; subst ez
            refine ⟨_, rfl, fin _ H5 ρ4 fp4 ((R4.sub (G' := G) fun a m => by simp [m]).pres pr5) ?_ q5⟩
            exact ((x1.or.trans x2.or).trans (pr.ext (F := Fo fp2))).trans (x4.or.trans pr5.ext)
          · exact q5.elim
        · exact h4.elim
      | false =>
        rw [if_neg Bool.false_ne_true] at q3 ⊢
        exact ⟨false, rfl, fin false H3 ρ2 fp2 ((R2.sub (G' := G) fun a m => by simp [m]).pres pr) ((x1.or.trans x2.or).trans pr.ext) q3⟩
    · exact q3.elim
  · exact h2.elim
end
end DL

set_option Elab.async false
set_option linter.all false
set_option maxRecDepth 100000
set_option maxHeartbeats 4000000
/-! THE DATA LAYER, part 13: constants of the module, methods of texts, xs[::-1], {}. -/
namespace DL
open PySem PySem.Spec L2
open PyProof.Rows hiding St

section
variable {X : Cx} {e : Expr} {te : XT} {pos : Pos}
theorem ex_gint {x : Str} {i : Int} (hg : Gl X x) (hm : ∃ t, X.mg x = some (.int i t)) (hd : (x == ("__debug__" : Str)) = false := by decide) : EX X (.Name x pos) (tCst (.int i)) := by
  obtain ⟨t, hm⟩ := hm
  exact ex_cst (pe_glob (v := .int i) hg hm ⟨t, rfl⟩ hd) fun _ _ _ => RP.int i
theorem ex_gstr {x : Str} {i : Str} (hg : Gl X x) (hm : ∃ t, X.mg x = some (.str i t)) (hd : (x == ("__debug__" : Str)) = false := by decide) : EX X (.Name x pos) (tCst (.str i)) := by
  obtain ⟨t, hm⟩ := hm
  exact ex_cst (pe_glob (v := .str i) hg hm ⟨t, rfl⟩ hd) fun _ _ _ => RP.str i
def tDct0 : XT := fun ρ Q => Q (.val (.dct [])) ρ
theorem ex_dct0 : EX X (.Dict [] [] pos) tDct0 := by
  refine ⟨PE.imp pe_dnewK ?_⟩
  rintro σ H Q ⟨ρ, fp, G, Qa, R, h, fin⟩
  intro p hp
  refine fin_of (G := G) R (fun a m => m) Ext.refl fin (.ref p) (.dct []) [p] _ (Pres.upd hp) ⟨p, [], rfl, rfl, upd_same, .nil⟩ (fun a m => by rw [List.mem_singleton.mp m]; exact hp) (by simp) h
/-- a method of a text without arguments -/
def tStrM (f : Str → Str) (C : Str → Prop) (te : XT) : XT := fun ρ Q => te ρ fun p ρ1 => match p.get ρ1 with
  | some (.pure (.str z)) => C z ∧ Q (.val (.pure (.str (f z)))) ρ1
  | _ => False
theorem lx_strM {K : PySem.W.Frag} {f : Str → Str} {C C' : Str → Prop} (hC : ∀ z, C z → C' z) {σ : St} {H : Hp} {Q : VK} (h : LX K (tStrM f C te) σ H Q) : tM0 (fun x xs H Q => ∃ a, x = .str a ∧ xs = [] ∧ C' a ∧ Q (.str (f a)) H) (LX K te) σ H Q := by
  obtain ⟨ρ, fp, G, Qa, R, h, fin⟩ := h
  refine ⟨ρ, fp, G, _, R, h, fun v p A H1 ρ1 fp1 R1 r1 x1 h1 => ?_⟩
  split at h1
  · rename_i z ez
    have e1 := RP.strE (r1.rw0 R1 ez)
    exact ⟨⟨z, e1⟩, z, e1, rfl, hC z h1.1, FinV.str (fin_of (G := G) R1 (fun a m => List.mem_append_right _ m) x1.or fin) h1.2⟩
  · exact h1.elim
theorem ex_upper {apos : Pos} (he : EX X e te) (hbase : attributeBase e "upper" X.env (eval e X.env) = eval e X.env := by rfl) (hline : (apos.endLine == pos.line) = true := by rfl) :
    EX X (.Call (.Attribute e "upper" apos) [] [] pos) (tStrM Txt.upper (fun z => z.length ≤ 5000000) te) := ⟨PE.imp (pe_upper he.pe hbase hline) fun σ H Q h => lx_strM (fun z hz => by omega) h⟩
theorem ex_lower {apos : Pos} (he : EX X e te) (hbase : attributeBase e "lower" X.env (eval e X.env) = eval e X.env := by rfl) (hline : (apos.endLine == pos.line) = true := by rfl) :
    EX X (.Call (.Attribute e "lower" apos) [] [] pos) (tStrM Txt.lower (fun z => z.length ≤ 5000000) te) := ⟨PE.imp (pe_lower he.pe hbase hline) fun σ H Q h => lx_strM (fun z hz => by omega) h⟩
theorem ex_strip {apos : Pos} (he : EX X e te) (hbase : attributeBase e "strip" X.env (eval e X.env) = eval e X.env := by rfl) (hline : (apos.endLine == pos.line) = true := by rfl) :
    EX X (.Call (.Attribute e "strip" apos) [] [] pos) (tStrM Txt.strip (fun z => z.length ≤ 5000000) te) := ⟨PE.imp (pe_strip he.pe hbase hline) fun σ H Q h => lx_strM (fun z hz => by rw [sizeLine_eq]; omega) h⟩
end

/-! ### xs[::-1] -/
section
variable {prog : Program} {w : World} {A : Around} {E : Value → Shared → Prop} {s : Shared}
theorem fm_congr {α β : Type} {f g : α → Option β} : ∀ {l : List α}, (∀ m ∈ l, f m = g m) → l.filterMap f = l.filterMap g
  | [], _ => rfl
  | a :: l, h => by
    rw [List.filterMap_cons, List.filterMap_cons, h a List.mem_cons_self, fm_congr fun m hm => h m (List.mem_cons_of_mem _ hm)]
theorem fm_all {α : Type} (l : List α) : (List.range l.length).filterMap (fun m => l[m]?) = l := by
  induction l with
  | nil => rfl
  | cons a l ih =>
    rw [List.length_cons, List.range_succ_eq_map, List.filterMap_cons, List.filterMap_map]
    simp only [List.getElem?_cons_zero]
    refine congrArg (a :: ·) (Eq.trans (fm_congr fun m _ => ?_) ih)
    simp
theorem rev_pick (xs : Array Value) : ((List.range xs.size).filterMap fun (m : Nat) => xs[(((xs.size : Int) - 1) + (m : Int) * (-1)).toNat]?).toArray = xs.toList.reverse.toArray := by
  refine congrArg List.toArray ?_
  have h := fm_all xs.toList.reverse
  rw [List.length_reverse, Array.length_toList] at h
  refine Eq.trans (fm_congr fun m hm => ?_) h
  have hm := List.mem_range.mp hm
  have : (((xs.size : Int) - 1) + (m : Int) * (-1)).toNat = xs.size - 1 - m := by omega
  rw [this, List.getElem?_reverse (by simpa using hm)]
  simp
theorem getItem_tuple_rev {t sl : Addr} {items : Array Value} {vs : Value} {Q : Value → Shared → Prop} (ht : IsTup s.heap t items) (hs : s.heap.IsSliceOf sl .none .none vs) (ps : IsPart vs (some (-1)))
    (h : Q (.ref s.heap.objs.size) { s with heap := s.heap.push { cls := .type "tuple", data := .seq items.toList.reverse.toArray } }) (hsz : items.size ≤ sizeLine) : wpAny (model prog w) A (getItem (.ref t) (.ref sl)) Q E s := by
  have hz : sizeOk (.seq items.toList.reverse.toArray) := by
    show items.toList.reverse.toArray.size ≤ sizeLine
    simpa using hsz
  obtain ⟨os, hos, hcs, hds⟩ := id hs
  have hTs : s.TypeIs (.ref sl) "slice" := ⟨os, hos, hcs⟩
  unfold getItem
  try with_reducible refine wpAny_holding ?_
  first | refine wpAny_bind (wpAny_pure ?_) | skip
  refine wpAny_bind (wpAny_sequenceKey ht.typeIs (by decide) ?_)
  refine wpAny_bind (wpAny_callSpecial?_slot (name := Str.ofString "__getitem__") ht.typeIs PyProof.Rows.slot_tuple_getitem
    (wpAny_call_entry PyProof.Rows.slot_tuple_getitem ht.typeIs entry_tuple_getitem ?_ (args_tuple_getitem _ _)))
  show wpAny _ _ (Builtin.Tuple.tupleItemsOf (.ref t) >>= _) _ _ s
  refine wpAny_bind (tupleItemsOf_ ht ?_)
  refine wpAny_bind (wpAny_typeOf hTs ?_)
  rw [if_pos (by decide)]
  refine wpAny_bind (m := Builtin.Slice.sliceApplied (.ref sl) (pure (items.size : Int))) ?_
  have app : ∀ Q' : Int × Int × Nat → Shared → Prop, Q' ((items.size : Int) - 1, -1, items.size) s → wpAny (model prog w) A.in1 (Builtin.Slice.sliceApplied (.ref sl) (pure (items.size : Int))) Q' E s := fun Q' hq => by
    unfold Builtin.Slice.sliceApplied Builtin.Slice.sliceFields
    refine wpAny_bind (wpAny_bind (wpAny_field hos hds (x := .none) rfl (wpAny_bind (wpAny_field hos hds (x := .none) rfl (wpAny_bind (wpAny_field hos hds (x := vs) rfl (wpAny_pure ?_)))))))
    refine wpAny_bind (HT.slicePart_ ps ?_)
    show wpAny _ _ (if ((-1 : Int) == 0) = true then _ else _) _ _ s
    rw [if_neg (by decide)]
    refine wpAny_bind (slicePart_none (wpAny_bind (slicePart_none (wpAny_bind (wpAny_pure ?_)))))
    have e1 : Builtin.Slice.sliceAdjust none none (-1) (items.size : Int) = ((items.size : Int) - 1, -1) := rfl
    have e2 : Builtin.Slice.slicePlaces ((items.size : Int) - 1) (-1) (-1) = items.size := by
      unfold Builtin.Slice.slicePlaces
      rw [if_neg (by decide)]
      by_cases z : items.size = 0
      · rw [z]; rfl
      · rw [if_pos (by omega)]
        simp only [Int.neg_neg, Int.ediv_one]
        omega
    show wpAny _ _ (match Builtin.Slice.sliceAdjust none none (-1) (items.size : Int) with | (lo, hi) => pure (lo, (-1 : Int), Builtin.Slice.slicePlaces lo hi (-1))) _ _ s
    rw [e1]
    show wpAny _ _ (pure ((items.size : Int) - 1, (-1 : Int), Builtin.Slice.slicePlaces ((items.size : Int) - 1) (-1) (-1))) _ _ s
    rw [e2]
    exact wpAny_pure hq
  refine app _ ?_
  have hno : ¬ ((((items.size : Int) - 1) == 0 && (-1 : Int) == 1 && items.size == items.size) = true) := by simp
  show wpAny _ _ (if (((items.size : Int) - 1) == 0 && (-1 : Int) == 1 && items.size == items.size) = true then _ else _) _ _ s
  rw [if_neg hno, rev_pick]
  first
    | exact wpAny_bind (m := Builtin.Tuple.tupleExact _) (wpAny_newObj_type (wpAny_pure ⟨_, rfl, wpAny_pure h⟩) hz)
    | exact wpAny_bind (m := Builtin.Tuple.tupleExact _) (wpAny_newObj_type (wpAny_bind (wpAny_pure (wpAny_pure ⟨_, rfl, wpAny_pure h⟩))) hz)
    | exact wpAny_bind (wpAny_bind (m := Builtin.Tuple.tupleExact _) (wpAny_newObj_type (wpAny_pure (wpAny_pure ⟨_, rfl, wpAny_pure h⟩)) hz))
    | exact wpAny_bind (wpAny_bind (m := Builtin.Tuple.tupleExact _) (wpAny_newObj_type (wpAny_pure ⟨_, rfl, wpAny_pure h⟩) hz))
end
section
variable {X : Cx} {e : Expr} {te : XT} {k : Nat} {p1 p2 p3 pos : Pos}
def tRevA (K : PySem.W.Frag) (te : TE) : TE := fun σ H Q => te σ H fun x H1 => (∃ a xs, x = .ref a ∧ SqL K H1 a xs ∧ ∀ p, H1 p = none → Q (.ref p) (upd H1 p (.lst xs.reverse))) ∨ ∃ a xs, x = .ref a ∧ SqT K H1 a xs ∧ ∀ p, H1 p = none → Q (.ref p) (upd H1 p (.tup xs.reverse))
theorem pe_revA {te : TE} (he : PE X e te) : PE X (.Subscript e (.Slice none none (some (.UnaryOp .USub (.Constant (.int 1) k p1) p2)) p3) pos) (tRevA X.K te) := by
  refine ⟨fun pins s σ H Q I h => ?_⟩
  refine Subscript_ (thn (he.run pins s σ H _ I h) fun v s1 ⟨x, H1, I1, r1, q1⟩ => ?_)
  have hst : PO X (some (.UnaryOp .USub (.Constant (.int 1) k p1) p2)) (tPart (tUn (rU fun i => .int (-i)) (tC (.int 1)))) := po_some (pe_un un_neg pe_int)
  refine wpAny_Slice (thn (po_none.run pins s1 σ H1 (fun o H2 => o = none ∧ H2 = H1) I1 ⟨rfl, rfl⟩) fun vl s2 ⟨l, H2, I2, pl, el, e2⟩ => ?_)
  subst el e2
  refine thn (po_none.run pins s2 σ H2 (fun o H3 => o = none ∧ H3 = H2) I2 ⟨rfl, rfl⟩) fun vu s3 ⟨u, H3, I3, pu, eu, e3⟩ => ?_
  subst eu e3
  refine thn (hst.run pins s3 σ H3 (fun o H4 => o = some (-1) ∧ H4 = H3) I3 ⟨1, rfl, -1, rfl, rfl, rfl⟩) fun vs s4 ⟨o, H4, I4, ps, eo, e4⟩ => ?_
  subst eo e4
  have I5 : Inv X pins σ H4 { s4 with heap := s4.heap.push { cls := .type "slice", data := .fields #[vl, vu, vs] } } := I4.kept (t' := s4.toks) fun b ob q => Heap.get?_push_of_some _ q
  rcases q1 with ⟨a, xs, ex, hx, q⟩ | ⟨a, xs, ex, hx, q⟩
  · subst ex
    cases r1
    obtain ⟨its, r, ht, hz⟩ := I5.list hx
    have hlen := r.length
    show wpAny (model X.prog X.w) X.A (subscriptTail e (.Slice none none (some (.UnaryOp .USub (.Constant (.int 1) k p1) p2)) p3) (.ref a) (.ref s4.heap.objs.size)) (EP X pins σ Q) X.xe { s4 with heap := s4.heap.push { cls := .type "slice", data := .fields #[vl, vu, vs] } }
    refine tail_any (ops := [.ref a, .ref s4.heap.objs.size]) ht.isList.typeIs (PySem.slot_list_getitem.lookup) ?_ (by with_unfolding_all rfl)
    refine wpAny_getItem_list_slice ht.isList (Heap.IsSliceOf.new _ vl vu vs) pl pu ps (by decide) ?_ (by rw [List.size_toArray]; omega)
    rw [PySem.W.krv_pick]
    refine ⟨.ref _, _, I5.laid (t' := s4.toks) (o := .lst xs.reverse) (fun b ob q => Heap.get?_push_of_some _ q) (Nat.le_refl _) ?_, rfl, q _ (I5.hok.fresh (Nat.le_refl _))⟩
    exact ⟨by rw [List.length_reverse]; exact hz, _, 0, r.reverse, Heap.get?_push_size _ rfl⟩
  · subst ex
    cases r1
    cases pl
    cases pu
    obtain ⟨its, r, ht, hz⟩ := I5.tuple hx
    have hlen := r.length
    show wpAny (model X.prog X.w) X.A (subscriptTail e (.Slice none none (some (.UnaryOp .USub (.Constant (.int 1) k p1) p2)) p3) (.ref a) (.ref s4.heap.objs.size)) (EP X pins σ Q) X.xe { s4 with heap := s4.heap.push { cls := .type "slice", data := .fields #[.none, .none, vs] } }
    refine tail_any (ops := [.ref a, .ref s4.heap.objs.size]) ht.typeIs (PyProof.Rows.slot_tuple_getitem.lookup) ?_ (by with_unfolding_all rfl)
    refine getItem_tuple_rev ht (Heap.IsSliceOf.new _ .none .none vs) ps ?_ (by rw [List.size_toArray]; omega)
    refine ⟨.ref _, _, I5.laid (t' := s4.toks) (o := .tup xs.reverse) (fun b ob q => Heap.get?_push_of_some _ q) (Nat.le_refl _) ?_, rfl, q _ (I5.hok.fresh (Nat.le_refl _))⟩
    exact ⟨by rw [List.length_reverse]; exact hz, _, r.reverse, IsTup.new _ _⟩
def tRev (te : XT) : XT := fun ρ Q => te ρ fun p ρ1 => match p.get ρ1 with
  | some (.pure (.tuple ts)) => Q (.val (.pure (.tuple ts.reverse))) ρ1
  | some (.lst ts) => Q (.val (.lst ts.reverse)) ρ1
  | some (.pure (.list ts)) => Q (.val (.lst ts.reverse)) ρ1
  | _ => False
theorem ex_rev (he : EX X e te) : EX X (.Subscript e (.Slice none none (some (.UnaryOp .USub (.Constant (.int 1) k p1) p2)) p3) pos) (tRev te) := by
  refine ⟨PE.imp (pe_revA he.pe) ?_⟩
  rintro σ H Q ⟨ρ, fp, G, Qa, R, h, fin⟩
  refine ⟨ρ, fp, G, _, R, h, fun v p A H1 ρ1 fp1 R1 r1 x1 h1 => ?_⟩
  have w : ∀ {o : O}, p.get ρ1 = some o → RW X.K H1 (Or1 (Fo fp1) (A ++ G)) v o := fun e => r1.rw0 R1 e
  have fz := fin_of (G := G) R1 (fun a m => List.mem_append_right _ m) x1.or fin
  split at h1
  · rename_i ts ez
    obtain ⟨q, vs, e1, hq, r2⟩ := RP.tupE (w ez)
    exact .inr ⟨q, vs, e1, hq, fun y hy => fz.tup hy (Paired.revP r2) h1⟩
  · rename_i ts ez
    obtain ⟨q, vs, e1, hq, r2⟩ := RW.ls (w ez) rfl
    exact .inl ⟨q, vs, e1, hq, fun y hy => fz.lst hy (Paired.revP r2) h1⟩
  · rename_i ts ez
    obtain ⟨q, vs, e1, hq, r2⟩ := RW.ls (w ez) rfl
    exact .inl ⟨q, vs, e1, hq, fun y hy => fz.lst hy (Paired.revP r2) h1⟩
  · exact h1.elim
end
end DL

set_option Elab.async false
set_option linter.all false
set_option maxRecDepth 100000
set_option maxHeartbeats 4000000
/-! THE DATA LAYER, part 14: several names that comprehensions share; facts of the built-ins' names. -/
namespace DL
open PySem PySem.Spec L2
open PyProof.Rows hiding St

theorem par_goP {K : PySem.W.Frag} {P : Nat → Bool} {js : List Nat} {ts : XTs} {n : Nat} (hn : js.length = n) (hp : (js.all fun j => !P j) = true) {D : Ends} {σ : St} {H : Hp} (h : LS K P (sPar js ts) D σ H) : LA K n ts σ H fun vs H1 => vs.length = n ∧ ∀ H', Pres H1 H' → D.nx (setV σ js vs) H' := by
  obtain ⟨ρ, fp, G, Da, R, h, f⟩ := h
  refine ⟨ρ, fp, G, _, R, h, fun vs ps A H1 ρ1 fp1 hl R1 r1 nd1 ng1 x1 h1 => ⟨hl, fun H' pr => ?_⟩⟩
  obtain ⟨os, js', ρ2, fp2, Bs, R2, r2, d2, n2, i2, _, _, _, hall, h2⟩ := prep_ok r1 R1 (fun a z => z) ng1 nd1 h1
  obtain ⟨fp3, R3, i3, p3⟩ := puts_ok (P := P) R2 r2 d2 n2 (by rw [hn, ← hl, r2.len.1]) (fun j m => Nat.le_of_ble_eq_true (List.all_eq_true.mp hall j m)) fun j m => by simpa using List.all_eq_true.mp hp j m
  refine f.nx _ H' _ fp3 (R3.pres pr) (x1.trans (pr.ext.weak (fun a z => ?_) fun _ z => z)) p3 h2
  exact i2 a (i3 a z)
section
variable {X : Cx} {P : Nat → Bool} {x y z : Str} {a b c : Expr} {ts : XTs} {px py pz pt pos : Pos}
theorem sx_parC2 {kt k2 pt2} (i j : Nat) (hc : X.calm = true) (hN : X.N.Nodup) (hi : X.N[i]? = some x) (hj : X.N[j]? = some y) (hx : Loc X.env.scope x) (hy : Loc X.env.scope y) (ha : EXs X [a, b] ts) (hp : (([i, j] : List Nat).all fun j => !P j) = true := by rfl)
    (fx : X.fn x = true ∨ X.env.scope.names.lookup x = some .local := by first | exact .inl rfl | exact .inr rfl) (fy : X.fn y = true ∨ X.env.scope.names.lookup y = some .local := by first | exact .inl rfl | exact .inr rfl)
    (hs : swapsWithSole [.Tuple [.Name x px, .Name y py] kt pt] (.Tuple [a, b] k2 pt2) pos.line X.env = pure false := by rfl) (hw : swappedStores [.Tuple [.Name x px, .Name y py] kt pt] (.Tuple [a, b] k2 pt2) X.env = pure none := by rfl)
    (h1 : (assignEach [.Tuple [.Name x px, .Name y py] kt pt] X.env).map (·.2) = [assign (.Tuple [.Name x px, .Name y py] kt pt) X.env] := by rfl)
    (hq1 : (assignEach [.Name x px, .Name y py] X.env).map (·.2) = assign (.Name x px) X.env :: (assignEach [.Name y py] X.env).map (·.2) := by rfl) (hq2 : (assignEach [.Name y py] X.env).map (·.2) = assign (.Name y py) X.env :: (assignEach [] X.env).map (·.2) := by rfl)
    (hn : (assignEach [.Name x px, .Name y py] X.env).length = 2 := by rfl) (hst : (assignEach [.Name x px, .Name y py] X.env).findIdx? (·.1) = none := by rfl) :
    SX X P (.Assign [.Tuple [.Name x px, .Name y py] kt pt] (.Tuple [a, b] k2 pt2) pos) (sPar [i, j] ts) := by
  refine ⟨PS.imp (ps_asg (pe_tup ha.pa) (pg_tup hc (pgs_cons (pg_name hN hi hx fx) (pgs_cons (pg_name hN hj hy fy) pgs_nil hq2) hq1) hn hst) hs hw h1) fun D σ H h => ?_⟩
  obtain ⟨ρ, fp, G, Qa, R, h, f⟩ := par_goP (n := 2) rfl hp h
  refine ⟨ρ, fp, G, Qa, R, h, fun vs ps A H1 ρ1 fp1 hl R1 r1 nd1 ng1 x1 h1 => ?_⟩
  obtain ⟨_, q⟩ := f vs ps A H1 ρ1 fp1 hl R1 r1 nd1 ng1 x1 h1
  match vs, hl with
  | [v, w], _ => exact ⟨by rw [sizeLine_eq]; simp, fun p np => ⟨p, [v, w], rfl, SqT.of upd_same, rfl, _, _, rfl, _, _, rfl, rfl, q _ (Pres.upd np)⟩⟩
theorem sx_parC3 {kt k2 pt2} (i j l : Nat) (hc : X.calm = true) (hN : X.N.Nodup) (hi : X.N[i]? = some x) (hj : X.N[j]? = some y) (hl : X.N[l]? = some z) (hx : Loc X.env.scope x) (hy : Loc X.env.scope y) (hz : Loc X.env.scope z) (ha : EXs X [a, b, c] ts) (hp : (([i, j, l] : List Nat).all fun j => !P j) = true := by rfl)
    (fx : X.fn x = true ∨ X.env.scope.names.lookup x = some .local := by first | exact .inl rfl | exact .inr rfl) (fy : X.fn y = true ∨ X.env.scope.names.lookup y = some .local := by first | exact .inl rfl | exact .inr rfl) (fz : X.fn z = true ∨ X.env.scope.names.lookup z = some .local := by first | exact .inl rfl | exact .inr rfl)
    (hs : swapsWithSole [.Tuple [.Name x px, .Name y py, .Name z pz] kt pt] (.Tuple [a, b, c] k2 pt2) pos.line X.env = pure false := by rfl) (hw : swappedStores [.Tuple [.Name x px, .Name y py, .Name z pz] kt pt] (.Tuple [a, b, c] k2 pt2) X.env = pure none := by rfl)
    (h1 : (assignEach [.Tuple [.Name x px, .Name y py, .Name z pz] kt pt] X.env).map (·.2) = [assign (.Tuple [.Name x px, .Name y py, .Name z pz] kt pt) X.env] := by rfl)
    (hq1 : (assignEach [.Name x px, .Name y py, .Name z pz] X.env).map (·.2) = assign (.Name x px) X.env :: (assignEach [.Name y py, .Name z pz] X.env).map (·.2) := by rfl) (hq2 : (assignEach [.Name y py, .Name z pz] X.env).map (·.2) = assign (.Name y py) X.env :: (assignEach [.Name z pz] X.env).map (·.2) := by rfl)
    (hq3 : (assignEach [.Name z pz] X.env).map (·.2) = assign (.Name z pz) X.env :: (assignEach [] X.env).map (·.2) := by rfl)
    (hn : (assignEach [.Name x px, .Name y py, .Name z pz] X.env).length = 3 := by rfl) (hst : (assignEach [.Name x px, .Name y py, .Name z pz] X.env).findIdx? (·.1) = none := by rfl) :
    SX X P (.Assign [.Tuple [.Name x px, .Name y py, .Name z pz] kt pt] (.Tuple [a, b, c] k2 pt2) pos) (sPar [i, j, l] ts) := by
  refine ⟨PS.imp (ps_asg (pe_tup ha.pa) (pg_tup hc (pgs_cons (pg_name hN hi hx fx) (pgs_cons (pg_name hN hj hy fy) (pgs_cons (pg_name hN hl hz fz) pgs_nil hq3) hq2) hq1) hn hst) hs hw h1) fun D σ H h => ?_⟩
  obtain ⟨ρ, fp, G, Qa, R, h, f⟩ := par_goP (n := 3) rfl hp h
  refine ⟨ρ, fp, G, Qa, R, h, fun vs ps A H1 ρ1 fp1 hl R1 r1 nd1 ng1 x1 h1 => ?_⟩
  obtain ⟨_, q⟩ := f vs ps A H1 ρ1 fp1 hl R1 r1 nd1 ng1 x1 h1
  match vs, hl with
  | [u, v, w], _ => exact ⟨by rw [sizeLine_eq]; simp, fun p np => ⟨p, [u, v, w], rfl, SqT.of upd_same, rfl, _, _, rfl, _, _, rfl, _, _, rfl, rfl, q _ (Pres.upd np)⟩⟩
end
/-! ### the built-ins' names -/
theorem bn_len : bootBuiltins "len" = some (.builtin "len") := by decide +kernel
theorem bn_all : bootBuiltins "all" = some (.builtin "all") := by decide +kernel
theorem bn_any : bootBuiltins "any" = some (.builtin "any") := by decide +kernel
theorem bn_abs : bootBuiltins "abs" = some (.builtin "abs") := by decide +kernel
theorem bn_max : bootBuiltins "max" = some (.builtin "max") := by decide +kernel
theorem bn_min : bootBuiltins "min" = some (.builtin "min") := by decide +kernel
theorem bn_repr : bootBuiltins "repr" = some (.builtin "repr") := by decide +kernel
theorem bn_sorted : bootBuiltins "sorted" = some (.builtin "sorted") := by decide +kernel
theorem bn_int : bootBuiltins "int" = some (.type "int") := by decide +kernel
theorem bn_str : bootBuiltins "str" = some (.type "str") := by decide +kernel
theorem bn_bool : bootBuiltins "bool" = some (.type "bool") := by decide +kernel
theorem bn_list : bootBuiltins "list" = some (.type "list") := by decide +kernel
theorem bn_tuple : bootBuiltins "tuple" = some (.type "tuple") := by decide +kernel
theorem bn_dict : bootBuiltins "dict" = some (.type "dict") := by decide +kernel
/-- a walk whose reading is found first, then held against the wanted one -/
theorem by_t {X : Cx} {P : Nat → Bool} {b : List Stmt} {t t' : ST} (h : SXs X P b t) (e : t = t') : SXs X P b t' := e ▸ h
/-- a def that is never called -/
theorem fng_bot {P : Program} {w : World} {K : PySem.W.Frag} {mg : Str → Option Value} {base : Heap} {k : Nat} {f : Addr} {fd : FuncData} {ps : List Str} {fl : List Bool} (hfl : fl.length = ps.length) : FnG P w K mg base CX0 k f fd ps (ASp K fl fun _ _ => False) :=
  ⟨fun vs H Q E ⟨os, fp, G, Qa, h, _⟩ => by rw [h, hfl], fun A outer s H args us vs Q E _ _ _ _ ⟨os, fp, G, Qa, _, _, _, z, _⟩ => z.elim⟩
end DL

set_option Elab.async false
set_option linter.all false
set_option maxRecDepth 100000
set_option maxHeartbeats 4000000
/-! THE DATA LAYER, part 15: tuple(text), list(text). -/
namespace DL
open PySem PySem.Spec L2
open PyProof.Rows hiding St
section
variable {prog : Program} {w : World} {A : Around} {E : Value → Shared → Prop} {s : Shared} {x : Str} {t : Tok}
theorem collect_strX {Q : List Value → Shared → Prop} (hh : A.handled = none) (hn : x.cps.size ≤ sizeLine)
    (hQ : ∀ (h' : Heap) (tk : Nat) (acc : Array Value), (∀ b o, s.heap.get? b = some o → h'.get? b = some o) → ItemsOf (SignAt x) acc x.cps.size → Q acc.toList { s with heap := h', toks := tk }) :
    wpAny (model prog w) A (collect (.str x t)) Q E s := by
  unfold collect
  refine wpAny_bind (wpAny_runValue (codeAny_builtin F.entry_proto_collect ?_))
  rw [Around.under_plainId F.plain_proto_collect _]
  show wpAny _ A.in1 (newList [] >>= fun l => again (.builtin "list.__iadd__" ⟨[l, .str x t], []⟩)) _ _ s
  refine wpAny_bind (wpAny_newObj_type ?_)
  refine wpAny_pure ⟨plainId_quiet F.plain_list_iadd _, codeAny_builtin F.entry_list_iadd ?_⟩
  rw [Around.under_plainId F.plain_list_iadd _]
  show wpAny _ A.in1 (Builtin.List.listExtendWith (.ref s.heap.objs.size) (.str x t) (.ref s.heap.objs.size)) _ _ _
  have hS : (s.heap.push { cls := .type "list", data := .seq ([] : List Value).toArray }).get? s.heap.objs.size = some { cls := .type "list", data := .seq #[] 0 } := Heap.get?_push_size _ rfl
  refine wpAny_mono (wpAny_extend_str (A := A) (R := fun rr s' => rr = .ok (.ret (.ref s.heap.objs.size)) ∧ ∃ (h' : Heap) (tk : Nat) (acc : Array Value) (c' : Nat), s' = { s with heap := h', toks := tk } ∧
      (∀ b o, s.heap.get? b = some o → h'.get? b = some o) ∧ h'.get? s.heap.objs.size = some { cls := .type "list", dict := none, data := .seq acc c', slots := #[] } ∧ ItemsOf (SignAt x) acc x.cps.size)
    (s := { s with heap := s.heap.push { cls := .type "list", data := .seq ([] : List Value).toArray } }) (hn := hn) hh x t _ _ 0 hS
    (fun h' tk acc c' hk e hi => ⟨rfl, h', tk, acc, c', rfl, fun b o q => hk b o (Nat.ne_of_lt (Heap.lt_size q)) (Heap.get?_push_of_some _ q), e, hi⟩)) (fun fin s' h => ?_) (fun e s' h => ?_)
  · cases fin with
    | done f =>
      obtain ⟨e, h', tk, acc, c', rfl, hk, hS', hi⟩ := h
      cases e
      show wpAny _ A (load s.heap.objs.size >>= _) _ _ _
      exact wpAny_bind (wpAny_load hS' (wpAny_pure (hQ h' tk acc hk hi)))
    | again c' =>
      refine ⟨h.1, codeAny_mono h.2 fun rr s'' hr' => ?_⟩
      obtain ⟨rfl, h', tk, acc, c', rfl, hk, hS', hi⟩ := hr'
      show wpAny _ A (load s.heap.objs.size >>= _) _ _ _
      exact wpAny_bind (wpAny_load hS' (wpAny_pure (hQ h' tk acc hk hi)))
  · exact absurd h.1 (by simp)
theorem code_tuple_new_strX {Q₁ : Value → Shared → Prop} (hh : A.handled = none) (hn : x.cps.size ≤ sizeLine)
    (h : ∀ (h' : Heap) (tk : Nat) (acc : Array Value), (∀ b o, s.heap.get? b = some o → h'.get? b = some o) → ItemsOf (SignAt x) acc x.cps.size →
      Q₁ (.ref h'.objs.size) { s with heap := h'.push { cls := .type "tuple", data := .seq acc }, toks := tk }) :
    codeAny (model prog w) A (.call (.builtin "tuple.__new__") ⟨[.type "tuple", .str x t], []⟩) (wants Q₁ E) s := by
  refine codeAny_of_tree ?_
  show wpAny _ A.in1 (do checkBuiltinCall "tuple.__new__" ⟨[.type "tuple", .str x t], []⟩; again (.builtin "tuple.__new__" ⟨[.type "tuple", .str x t], []⟩)) _ _ s
  refine wpAny_bind (wpAny_of_eq (F.newCall_tuple_1 _) (wpAny_pure ⟨plainId_quiet F.plain_tuple_new _, codeAny_builtin F.entry_tuple_new ?_⟩))
  rw [Around.under_plainId F.plain_tuple_new _]
  have hsub := sub_tuple_self
  have hinit := init_tuple_lookup
  have hmh := madeHere_tuple
  have hTI : s.TypeIs (.str x t) "str" := rfl
  have hh1 : A.in1.handled = none := hh
  wp_walk using wpAny_typeOf hTI, collect_strX (A := A.in1) hh1 hn
  intro h' tk acc hk hacc
  show wpAny _ _ (Builtin.Tuple.tupleExact acc.toList.toArray >>= fun v => ret v) _ _ _
  unfold Builtin.Tuple.tupleExact
  refine wpAny_bind (wpAny_newObj_type ?_ (by show acc.toList.toArray.size ≤ sizeLine; simp only [Array.toArray_toList]; rw [hacc.1]; exact hn))
  refine wpAny_pure ?_
  have e : acc.toList.toArray = acc := by simp
  rw [e]
  exact h h' tk acc hk hacc
theorem call_tuple_strX {Q : Value → Shared → Prop} (hh : A.handled = none) (hn : x.cps.size ≤ sizeLine)
    (hQ : ∀ (h' : Heap) (tk : Nat) (acc : Array Value), (∀ b o, s.heap.get? b = some o → h'.get? b = some o) → ItemsOf (SignAt x) acc x.cps.size →
      Q (.ref h'.objs.size) { s with heap := h'.push { cls := .type "tuple", data := .seq acc }, toks := tk }) :
    wpAny (model prog w) A (call (.type "tuple") [.str x t]) Q E s := by
  refine callType_codes (Q₁ := fun obj s₁ => s₁.TypeIs obj "tuple" ∧ Q obj s₁) F.called_tuple (F.typeCall_tuple_1 _) F.entry_object_init
    (code_tuple_new_strX (A := A.in1) hh hn fun h' tk acc hk hacc => ⟨⟨_, Heap.get?_push_size _ rfl, rfl⟩, hQ h' tk acc hk hacc⟩) fun obj s₁ h₁ => ?_
  exact ⟨h₁.1, F.args_object_init_2 obj _, object_init_meets F.called_tuple.init.lookup F.called_tuple.made (by decide) prog w A.in1 _ s₁ ⟨h₁.1, rfl, h₁.2⟩⟩
end
section
variable {X : Cx}
def signV (x : Str) : List V := x.cps.toList.map fun c => V.str ⟨#[c]⟩
theorem vals_sign {x : Str} {acc : Array Value} (h : ItemsOf (SignAt x) acc x.cps.size) : Vals (signV x) acc.toList := by
  refine vals_of_at (by simp [signV, h.1]) fun j v u h1 h2 => ?_
  obtain ⟨c, t, hc, rfl⟩ := h.2 j u (by rw [← Array.getElem?_toList]; exact h2)
  unfold signV at h1
  rw [List.getElem?_map, Array.getElem?_toList, hc] at h1
  cases h1
  exact ⟨t, rfl⟩
theorem rps_sign {K : PySem.W.Frag} {H : Hp} {F : Addr → Prop} (x : Str) : RPs K H F (signV x) (strItems x) := by
  unfold signV strItems
  generalize x.cps.toList = l
  induction l with
  | nil => exact .nil
  | cons c l ih => exact .cons (RP.str _) ih
def gListOf : GN := fun os Q => match os with
  | [.pure (.str x)] => x.length ≤ 1000000 ∧ Q (.lst (strItems x))
  | [o] => match seqO o with
    | some ts => Q (.lst ts)
    | none => False
  | _ => False
def gTupOf : GN := fun os Q => match os with
  | [.pure (.str x)] => x.length ≤ 1000000 ∧ Q (.pure (.tuple (strItems x)))
  | [o] => match seqO o with
    | some ts => Q (.pure (.tuple ts))
    | none => False
  | _ => False
theorem sign_fits {x : Str} (h : x.length ≤ 1000000) : x.cps.size ≤ sizeLine ∧ (signV x).length ≤ sizeLine := by
  have : x.length = x.cps.size := rfl
  rw [sizeLine_eq]
  unfold signV
  rw [List.length_map, Array.length_toList]
  omega
theorem callA_list (hc : X.calm = true) : CallA X (.type "list") gListOf := CallA.mk fun pins s σ H F vs xs us Q Qa I r hx h fin => by
  unfold gListOf at h
  split at h
  · rename_i x
    cases hx with
    | cons h1 hr =>
      cases hr
      obtain ⟨hz, h⟩ := h
      obtain rfl := RP.strE h1
      obtain ⟨u, rfl, rx⟩ := vals1 r
      obtain ⟨t, rfl⟩ := rx
      obtain ⟨f1, f2⟩ := sign_fits hz
      refine call_list_str (hn := f1) (I.ok.hd hc) x t fun h' tk acc' c' hk e hi => ?_
      exact ⟨.ref s.heap.objs.size, _, I.laid hk (Nat.le_refl _) (show ObjOk X.prog X.w _ _ _ (.lst (signV x)) from ⟨f2, acc'.toList, c', vals_sign hi, by rw [Array.toArray_toList]; exact e⟩), rfl,
        fin.lst (I.hok.fresh (Nat.le_refl _)) (rps_sign x) h⟩
  · rename_i o _
    obtain ⟨r', h1, h2⟩ := callA_listS (X := X)
    exact h1 pins s σ H vs us Q I r (h2 H F vs _ Q Qa hx h fin)
  · exact h.elim
theorem callA_tuple (hc : X.calm = true) : CallA X (.type "tuple") gTupOf := CallA.mk fun pins s σ H F vs xs us Q Qa I r hx h fin => by
  unfold gTupOf at h
  split at h
  · rename_i x
    cases hx with
    | cons h1 hr =>
      cases hr
      obtain ⟨hz, h⟩ := h
      obtain rfl := RP.strE h1
      obtain ⟨u, rfl, rx⟩ := vals1 r
      obtain ⟨t, rfl⟩ := rx
      obtain ⟨f1, f2⟩ := sign_fits hz
      refine call_tuple_strX (I.ok.hd hc) f1 fun h' tk acc hk hi => ?_
      have I2 : Inv X pins σ H { s with heap := h', toks := tk } := I.kept hk
      refine ⟨.ref h'.objs.size, _, I2.laid (t' := tk) (fun c o e => Heap.get?_push_of_some _ e) (Nat.le_refl _) (show ObjOk X.prog X.w _ _ _ (.tup (signV x)) from ⟨f2, acc.toList, vals_sign hi, ?_⟩), rfl, fin.tup (I2.hok.fresh (Nat.le_refl _)) (rps_sign x) h⟩
      rw [Array.toArray_toList]; exact IsTup.new _ _
  · rename_i o _
    obtain ⟨r', h1, h2⟩ := callA_tupleS (X := X)
    exact h1 pins s σ H vs us Q I r (h2 H F vs _ Q Qa hx h fin)
  · exact h.elim
end
end DL

set_option Elab.async false
set_option linter.all false
set_option maxRecDepth 100000
set_option maxHeartbeats 4000000
/-! THE DATA LAYER, part 16: sets of ints and texts, as the table that they are. -/
namespace DL
open PySem PySem.Spec L2
open PyProof.Rows hiding St
noncomputable instance memDec (k : Key) (ks : List Key) : Decidable (k ∈ ks) := Classical.propDecidable _
/-- a value as a key -/
def keyX : Value → Key
  | .int k _ => .inl k
  | .str x _ => .inr x
  | _ => .inl 0
theorem keyX_rel {k : Key} {v : Value} (r : RelV (kV k) v) : keyX v = k := by
  cases k with
  | inl i => obtain ⟨t, rfl⟩ := r; rfl
  | inr x => obtain ⟨t, rfl⟩ := r; rfl
def GoodX (P : Program) (w : World) (e : Int × Value) : Prop := ∃ k : Key, RelV (kV k) e.2 ∧ e.1 = (mixKind P w).hash k
/-- the set at a has the members ks -/
def SetX (P : Program) (w : World) (h : Heap) (a : Addr) (ks : List Key) : Prop :=
  ∃ o es ep t, h.get? a = some o ∧ o.ExactSet ∧ o.data = .set es ep t ∧ (∀ e ∈ es.toList, GoodX P w e) ∧ (es.toList.map fun e => keyX e.2).Perm ks ∧ ks.Nodup ∧
    es.size < scanBound ∧ t.fits es.size = true ∧ Ris t.place.toList ∧ (w.params.followText "set-order" = true ∨ t.led = true)
section
variable {P : Program} {w : World} {h h' : Heap} {a : Addr} {ks : List Key}
theorem SetX.at (R : SetX P w h a ks) (k : ∀ o, h.get? a = some o → h'.get? a = some o) : SetX P w h' a ks := by
  obtain ⟨o, es, ep, t, ho, r⟩ := R
  exact ⟨o, es, ep, t, k o ho, r⟩
theorem SetX.perm {ls : List Key} (R : SetX P w h a ks) (p : ks.Perm ls) : SetX P w h a ls := by
  obtain ⟨o, es, ep, t, ho, hx, hd, g, pm, nd, r⟩ := R
  exact ⟨o, es, ep, t, ho, hx, hd, g, pm.trans p, p.nodup_iff.mp nd, r⟩
theorem goodX_elems {l : List (Int × Value)} (g : ∀ e ∈ l, GoodX P w e) : ElemsOf (mixKind P w) l := fun e he => by
  obtain ⟨k, h1, h2⟩ := g e he
  exact ⟨⟨k, kV_is h1, h2⟩, key_scan h1⟩
theorem goodX_is {e : Int × Value} (g : GoodX P w e) (k : Key) : (mixKind P w).is k e.2 = true ↔ keyX e.2 = k := by
  obtain ⟨k0, h1, _⟩ := g
  rw [keyX_rel h1]
  constructor
  · intro q
    have := keyIs_rel (k := k) (v := e.2) q
    rw [← keyX_rel h1, keyX_rel this]
  · rintro rfl
    exact kV_is h1
theorem goodX_mem {l : List (Int × Value)} (g : ∀ e ∈ l, GoodX P w e) (k : Key) : k ∈ l.map (fun e => keyX e.2) ↔ ∃ e ∈ l, (mixKind P w).is k e.2 = true := by
  rw [List.mem_map]
  exact ⟨fun ⟨e, he, q⟩ => ⟨e, he, (goodX_is (g e he) k).2 q⟩, fun ⟨e, he, q⟩ => ⟨e, he, (goodX_is (g e he) k).1 q⟩⟩
theorem SetX.setOf (R : SetX P w h a ks) : h.SetOf (mixKind P w) a (fun k => decide (k ∈ ks)) ks.length := by
  obtain ⟨o, es, ep, t, ho, hx, hd, g, pm, nd, hb, hf, _⟩ := R
  refine ⟨o, es, ep, t, ho, hx, hd, goodX_elems g, fun k => ?_, hb, hf, ?_⟩
  · rw [decide_eq_true_eq, ← pm.mem_iff]
    exact goodX_mem g k
  · rw [← pm.length_eq, List.length_map, Array.length_toList]
end
section
variable {P : Program} {w : World} {A : Around} {E : Value → Shared → Prop} {s : Shared} {a : Addr} {ks : List Key}
theorem setX_tail {g : Bool → Sem Unit} (hg : ∀ (b : Bool) (s₁ : Shared) (Q' : Unit → Shared → Prop), Q' () s₁ → wpAny (model P w) A (g b) Q' E s₁)
    {o : Obj} {es : Array (Int × Value)} {ep : Nat} {t : SetTable} (ho : s.heap.get? a = some o) (hex : o.ExactSet) (hd : o.data = .set es ep t)
    {es1 : Array (Int × Value)} {t2 : SetTable} (g1 : ∀ e ∈ es1.toList, GoodX P w e) (p1 : (es1.toList.map fun e => keyX e.2).Perm ks) (nd1 : ks.Nodup)
    (hb1 : es1.size < scanBound) (hf2 : t2.fits es1.size = true) (hr : Ris t2.place.toList) (hl : w.params.followText "set-order" = true ∨ t2.led = true) {wasDummy : Bool} {R : Option Bool → Shared → Prop}
    (hR : ∀ h', Heap.SameBut a s.heap h' → SetX P w h' a ks → R (some true) { s with heap := h' }) :
    wpAny (model P w) A (do
        storeSet a es1 t2
        if (!wasDummy && t2.tooFull) = true then do
            g (relayAll t2 es1 (SetTable.grown es1.size)).2.2
            storeSet a (relayAll t2 es1 (SetTable.grown es1.size)).1 (relayAll t2 es1 (SetTable.grown es1.size)).2.1
            pure (some true)
          else pure (some true)) R E s := by
  refine wpAny_bind (wpAny_storeSet_of ho hd ?_ (fits_of_scanBound hb1))
  have ho1 := store_at (es' := es1) (t' := t2) ho hd
  have sb1 := Heap.SameBut.update s.heap a (Obj.putSet es1 t2)
  split
  · have pm := relayAll_perm t2 es1 (SetTable.grown es1.size)
    have hf3 := relayAll_fits t2 es1 (SetTable.grown es1.size)
    have hr3 := relayAll_ris t2 es1 (SetTable.grown es1.size)
    have hl3 := relayAll_led t2 es1 (SetTable.grown es1.size)
    generalize relayAll t2 es1 (SetTable.grown es1.size) = Z at pm hf3 hr3 hl3 ⊢
    obtain ⟨es2, t3, gave⟩ := Z
    dsimp only at pm hf3 hr3 hl3 ⊢
    have hsz : es2.size = es1.size := by rw [← Array.length_toList, pm.length_eq, Array.length_toList]
    have hb2 : es2.size < scanBound := by omega
    refine wpAny_bind (hg _ _ _ ?_)
    refine wpAny_bind (wpAny_storeSet_of ho1 rfl ?_ (fits_of_scanBound hb2))
    have ho2 := store_at (es' := es2) (t' := t3) ho1 rfl
    refine wpAny_pure (hR _ (sb1.trans (Heap.SameBut.update _ a _)) ?_)
    exact ⟨_, es2, _, t3, ho2, hex, rfl, fun e he => g1 e (pm.mem_iff.mp he), (pm.map _).trans p1, nd1, hb2, hf3, hr3, hl.imp id fun z => by rw [hl3]; exact z⟩
  · exact wpAny_pure (hR _ sb1 ⟨_, es1, _, t2, ho1, hex, rfl, g1, p1, nd1, hb1, hf2, hr, hl⟩)
/-- a key's value is put in -/
theorem setX_add {k : Key} {v : Value} {Q : Bool → Shared → Prop} (hv : RelV (kV k) v) (R : SetX P w s.heap a ks) (room : ks.length + 1 < scanBound)
    (hQ : ∀ h' b, Heap.SameBut a s.heap h' → SetX P w h' a (if k ∈ ks then ks else ks ++ [k]) → Q b { s with heap := h' }) :
    wpAny (model P w) A (setAddHashed a v ((mixKind P w).hash k)) Q E s := by
  obtain ⟨o, es, ep, t, ho, hex, hd, g, pm0, nd, hb, hf, hr, hl⟩ := R
  have hn : es.size = ks.length := by rw [← pm0.length_eq, List.length_map, Array.length_toList]
  have hkey : (mixKind P w).is k v = true := kV_is hv
  have hsc : v.scannable = true := key_scan hv
  have hel : ElemsOf (mixKind P w) es.toList := goodX_elems g
  unfold setAddHashed setAddHashedIn
  refine wpAny_holding (wpAny_bind (wpAny_setState_of ho hd hf ?_))
  dsimp only
  rw [byScan_of hsc hb hel]
  simp only [↓reduceIte]
  unfold setAddByScan
  refine wpAny_bind ?_
  refine wpAny_bind (wpAny_rule ?_)
  refine wpAny_bind (wpAny_setScan_of hkey ho hd hf hel ?_)
  cases hfi : List.findIdx? (fun e => (mixKind P w).is k e.2) es.toList with
  | some j =>
    dsimp only
    obtain ⟨hj, pj, _⟩ := List.findIdx?_eq_some_iff_getElem.mp hfi
    have hin : k ∈ ks := pm0.mem_iff.mp ((goodX_mem g k).2 ⟨es.toList[j], List.getElem_mem hj, pj⟩)
    refine wpAny_pure (wpAny_pure ?_)
    refine hQ s.heap _ (Heap.SameBut.refl a s.heap) ?_
    rw [if_pos hin]
    exact ⟨o, es, ep, t, ho, hex, hd, g, pm0, nd, hb, hf, hr, hl⟩
  | none =>
    dsimp only
    have hnk : k ∉ ks := fun z => by
      obtain ⟨e, he, q⟩ := (goodX_mem g k).1 (pm0.mem_iff.mpr z)
      have c := List.findIdx?_eq_none_iff.mp hfi e he
      rw [q] at c
      cases c
    have hgw : ∀ (b : Bool) {s₁ : Shared} {Q' : Unit → Shared → Prop}, Q' () s₁ → wpAny (model P w) A (match b with | true => rule "set.scan.the-table-gave-way" | false => pure ()) Q' E s₁ :=
      fun b s₁ Q' q => by cases b <;> first | exact wpAny_pure q | exact wpAny_rule q
    have pm := layNew_perm t es ((mixKind P w).hash k) v
    have hf1 := layNew_fits t es ((mixKind P w).hash k) v
    have hr1 := layNew_ris t es ((mixKind P w).hash k) v hr
    have hl1 := layNew_led t es ((mixKind P w).hash k) v
    generalize layNew t es ((mixKind P w).hash k) v = Z at pm hf1 hr1 hl1 ⊢
    obtain ⟨es1, t1, wasDummy, gave⟩ := Z
    dsimp only at pm hf1 hr1 hl1 ⊢
    rw [Array.toList_push] at pm
    have g1 : ∀ e ∈ es1.toList, GoodX P w e := fun e he => by
      rcases List.mem_append.mp (pm.mem_iff.mp he) with z | z
      · exact g e z
      · rw [List.mem_singleton.mp z]; exact ⟨k, hv, rfl⟩
    have p1 : (es1.toList.map fun e => keyX e.2).Perm (ks ++ [k]) := by
      refine (pm.map _).trans ?_
      rw [List.map_append]
      refine List.Perm.append pm0 ?_
      rw [List.map_singleton, keyX_rel hv]
    have nd1 : (ks ++ [k]).Nodup := List.nodup_append.mpr ⟨nd, by simp, fun x hx y hy => by rw [List.mem_singleton.mp hy]; exact fun z => hnk (z ▸ hx)⟩
    have hsz : es1.size = ks.length + 1 := by
      have := p1.length_eq
      simpa using this
    have hb1 : es1.size < scanBound := by omega
    have hled : w.params.followText "set-order" = true ∨ t1.led = true := hl.imp id fun z => by rw [hl1]; exact z
    have fin : ∀ h', Heap.SameBut a s.heap h' → SetX P w h' a (ks ++ [k]) → Q true { s with heap := h' } := fun h' sb r => hQ h' true sb (by rw [if_neg hnk]; exact r)
    refine wpAny_bind (hgw _ ?_)
    split
    · refine wpAny_bind ?_
      rw [hashByValue_scannable 8 hsc]
      refine wpAny_pure ?_
      refine setX_tail ?_ ho hex hd g1 p1 nd1 hb1 ?_ ?_ ?_ ?_
      · intro b s₁ Q' q; cases b <;> first | exact wpAny_pure q | exact wpAny_rule q
      · first | (split <;> first | exact hf1 | exact SetTable.fits_plain_off hf1) | exact hf1
      · first | (split <;> exact hr1) | exact hr1
      · first | (split <;> exact hled) | exact hled
      · intro h' sb r; dsimp only; exact wpAny_pure (fin h' sb r)
    · refine wpAny_bind (wpAny_pure ?_)
      simp only [↓reduceIte]
      refine setX_tail ?_ ho hex hd g1 p1 nd1 hb1 hf1 hr1 hled ?_
      · intro b s₁ Q' q; cases b <;> first | exact wpAny_pure q | exact wpAny_rule q
      · intro h' sb r; dsimp only; exact wpAny_pure (fin h' sb r)
/-! ### set(x) of a list, of a tuple -/
theorem setX_new {h : Heap} (ho : h.get? a = some { cls := .type "set", dict := none, data := .set #[] 0 (.fresh 0 0 (!w.params.followText "set-order")) }) : SetX P w h a [] :=
  ⟨_, #[], 0, _, ho, ⟨rfl, rfl, rfl⟩, rfl, (fun e he => by simp at he), (by simp), List.nodup_nil, (by decide), (by rfl), List.Pairwise.nil, by
    show _ ∨ (!w.params.followText "set-order") = true
    cases w.params.followText "set-order"
    · exact .inr rfl
    · exact .inl rfl⟩
theorem setX_loop {I : Addr} {fp wr : List Addr} {G : Array GenState → Array GenState → Prop} {n : Nat} {Pv : Nat → Value → Prop} {St : Nat → Shared → Prop} {R : Result → Shared → Prop}
    (W : WalksS P w A.in1 I fp wr G n Pv St) (S : Addr) (hSf : S ∉ fp) (ls : List Key) (hn : n = ls.length) (hb : ls.length + 1 < scanBound) (hval : ∀ i v, Pv i v → ∃ k, ls[i]? = some k ∧ RelV (kV k) v) :
    ∀ (j i : Nat) (s : Shared), n - i = j → i ≤ n → St i s → (∃ ks, ks.length ≤ i ∧ SetX P w s.heap S ks ∧ ∀ x, x ∈ ks ↔ x ∈ ls.take i) →
      (∀ s' ks, Moved (S :: wr) G s s' → ks.length ≤ n → SetX P w s'.heap S ks → (∀ x, x ∈ ks ↔ x ∈ ls) → R (.ok (.ret .none)) s') →
      codeAny (model P w) A (.builtin "set.update.loop" ⟨[.ref S, .ref I], []⟩) R s := by
  have hSw : S ∉ wr := fun h => hSf (W.sub _ h)
  have hsub : ∀ b ∈ wr, b ∈ S :: wr := fun b hb => List.mem_cons_of_mem _ hb
  intro j
  induction j with
  | zero =>
    intro i s hk' hi hst ⟨ks, hc, hS, hm0⟩ hR
    have hin : i = n := by omega
    subst hin
    refine codeAny_builtin F.entry_set_update_loop ?_
    rw [Around.under_plainId F.plain_set_update_loop _]
    show wpAny _ A.in1 (pyNext (.ref I) >>= _) _ _ s
    refine wpAny_bind (W.done s _ _ hst fun s' hm => ?_)
    show wpAny _ A.in1 (ret Value.none) _ _ s'
    have e : ls.take i = ls := List.take_of_length_le (by omega)
    rw [e] at hm0
    exact wpAny_pure (hR s' ks (hm.mono hsub) hc (hS.at fun o e => hm.heap S o hSw e) hm0)
  | succ j ih =>
    intro i s hk' hi hst ⟨ks, hc, hS, hm0⟩ hR
    have hlt : i < n := by omega
    refine codeAny_builtin F.entry_set_update_loop ?_
    rw [Around.under_plainId F.plain_set_update_loop _]
    show wpAny _ A.in1 (pyNext (.ref I) >>= _) _ _ s
    refine wpAny_bind (W.item i s _ _ hlt hst fun v s' hP hst' hm => ?_)
    obtain ⟨z, hz, rz⟩ := hval i v hP
    have hS' : SetX P w s'.heap S ks := hS.at fun o e => hm.heap S o hSw e
    show wpAny _ A.in1 (holding [v] (setAdd S v) >>= _) _ _ s'
    refine wpAny_bind (wpAny_holding ?_)
    unfold setAdd
    refine wpAny_holding ?_
    refine wpAny_bind ((mixKind P w).pyHash (k := z) (kV_is rz) ?_)
    refine setX_add rz (s := { s' with toks := s'.toks + 1 }) hS' (by omega) fun h' b hsb hS2 => ?_
    have hm3 : ∀ x, x ∈ (if z ∈ ks then ks else ks ++ [z]) ↔ x ∈ ls.take (i + 1) := fun x => by
      rw [List.take_add_one, hz]
      split
      · rename_i hin
        simp only [Option.toList_some, List.mem_append, List.mem_singleton, ← hm0 x]
        exact ⟨.inl, fun q => q.elim id fun e => e ▸ hin⟩
      · simp only [Option.toList_some, List.mem_append, List.mem_singleton, ← hm0 x]
    have hc3 : (if z ∈ ks then ks else ks ++ [z]).length ≤ i + 1 := by
      split
      · omega
      · simp; omega
    refine wpAny_pure ⟨plainId_quiet F.plain_set_update_loop _, ih (i + 1) _ (by omega) hlt (W.frame _ s' _ _ hst' (Nat.le_succ _) fun b hb o e => ?_) ⟨_, hc3, hS2, hm3⟩ fun s'' ks2 hm'' hc'' hS'' hm4 => ?_⟩
    · rw [hsb.2 b (fun h : b = S => hSf (by rw [← h]; exact hb))]; exact e
    · refine hR s'' ks2 (Moved.trans W.gtrans ((hm.mono hsub).then_heap (Nat.le_succ _) fun b o hb e => ?_) hm'') hc'' hS'' hm4
      rw [hsb.2 b (fun h : b = S => hb (by rw [h]; exact List.mem_cons_self))]; exact e
set_option maxHeartbeats 3200000 in
theorem call_setX_list {l : Addr} {items : Array Value} (ls : List Key) {Q : Value → Shared → Prop} (hh : A.handled = none) (hl : s.heap.IsList l items) (hsz : items.size = ls.length) (hval : ∀ (i : Nat) (v : Value), items[i]? = some v → ∃ k, ls[i]? = some k ∧ RelV (kV k) v) (hb : ls.length + 1 < scanBound)
    (h : ∀ (h' : Heap) (tk : Nat) (ks : List Key), SetX P w h' s.heap.objs.size ks → ks.length ≤ ls.length → (∀ x, x ∈ ks ↔ x ∈ ls) → (∀ b o, s.heap.get? b = some o → h'.get? b = some o) → Q (.ref s.heap.objs.size) { s with heap := h', toks := tk }) :
    wpAny (model P w) A (call (.type "set") [.ref l]) Q E s := by
  obtain ⟨c, tl, hmro⟩ := F.called_set.mro
  have hmade := F.called_set.made
  have hsub := F.called_set.sub
  refine wpAny_call (codeAny_of_tree ?_)
  show wpAny _ _ (callAny (.type "set") _) _ _ _
  refine wpAny_pure ⟨Code.quiet_builtin _ (by decide +kernel), codeAny_builtin F.entry_type_call ?_⟩
  rw [Around.under_plain (weight_type_call_type "set" [.ref l] []) rfl]
  have h1 := F.called_set.notType
  have h2 := F.called_set.canCreate
  have hct := F.typeCall_set_1 (.ref l)
  repeat (any_goals (first | assumption | wp_step))
  refine codeAny_mono (code_set_led1 (.ref l) (E := E) (Q₁ := fun obj s₁ => obj = .ref s.heap.objs.size ∧ s₁ = { s with heap := s.heap.push { cls := .type "set", dict := none, data := .set #[] 0 (.fresh 0 0 (!w.params.followText "set-order")) } }) ⟨rfl, rfl⟩) fun r s₁ hr => ?_
  cases r with
  | error e => exact hr
  | ok fl =>
    cases fl with
    | ret obj =>
      obtain ⟨rfl, rfl⟩ := hr
      have hS : (s.heap.push { cls := .type "set", dict := none, data := .set #[] 0 (.fresh 0 0 (!w.params.followText "set-order")) }).get? s.heap.objs.size = some { cls := .type "set", dict := none, data := .set #[] 0 (.fresh 0 0 (!w.params.followText "set-order")) } := Heap.get?_push_size _ rfl
      have hT : Shared.TypeIs { s with heap := s.heap.push { cls := .type "set", dict := none, data := .set #[] 0 (.fresh 0 0 (!w.params.followText "set-order")) } } (.ref s.heap.objs.size) "set" := ⟨_, hS, rfl⟩
      have hli := F.called_set.init.lookup
      have hbi := F.called_set.init.bind (.ref s.heap.objs.size)
      repeat (any_goals (first | assumption | wp_step))
      refine codeAny_mono (codeAny_call_builtin (R := wants (fun r s₂ => r = .none ∧ ∃ h' tk ks, s₂ = { s with heap := h', toks := tk } ∧ SetX P w h' s.heap.objs.size ks ∧ ks.length ≤ ls.length ∧ (∀ x, x ∈ ks ↔ x ∈ ls) ∧
          (∀ b o, s.heap.get? b = some o → h'.get? b = some o)) E) F.called_set.init.plain F.entry_set_init (check_set_init_1 hT ?_)) fun r₂ s₂ hr₂ => ?_
      · obtain ⟨ol, hol, hcl, nl, hdl⟩ := hl
        obtain ⟨ocls, odict, odata, oslots⟩ := ol
        simp only at hcl hdl
        subst hcl; subst hdl
        have hol' : (s.heap.push { cls := .type "set", dict := none, data := .set #[] 0 (.fresh 0 0 (!w.params.followText "set-order")) }).get? l = some { cls := .type "list", dict := odict, data := .seq items nl, slots := oslots } := Heap.get?_push_of_some _ hol
        have hsls := F.sub_list_set
        have hslf := F.sub_list_frozenset
        have hne : (Value.type "list" == Value.type "dict") = false := by decide
        have hl1 : (s.heap.push { cls := .type "set", dict := none, data := .set #[] 0 (.fresh 0 0 (!w.params.followText "set-order")) }).IsList l items := ⟨_, hol', rfl, nl, rfl⟩
        unfold Builtin.«set.__init__» noKeywords Builtin.Frozenset.updateFrom
        generalize hPI : pyIter = PI
        wp_walk
        subst hPI
        refine wpAny_pyIter_list (s := { s with heap := s.heap.push { cls := .type "set", dict := none, data := .set #[] 0 (.fresh 0 0 (!w.params.followText "set-order")) } }) hl1 ?_
        refine wpAny_bind (wpAny_runValue ?_)
        have hlS : l < s.heap.objs.size := Heap.lt_size hol
        have hh3 : A.in1.in1.in1.handled = none := by simp [hh]
        have hneI : l ≠ (s.heap.push { cls := .type "set", dict := none, data := .set #[] 0 (.fresh 0 0 (!w.params.followText "set-order")) }).objs.size := by
          rw [Heap.size_push]; exact Nat.ne_of_lt (Nat.lt_succ_of_lt hlS)
        have hSf : s.heap.objs.size ∉ [(s.heap.push { cls := .type "set", dict := none, data := .set #[] 0 (.fresh 0 0 (!w.params.followText "set-order")) }).objs.size, l] := by
          rw [Heap.size_push]; simp only [List.mem_cons, List.mem_singleton, List.not_mem_nil, or_false, not_or]
          exact ⟨Nat.ne_of_lt (Nat.lt_succ_self _), Nat.ne_of_gt hlS⟩
        refine setX_loop ((Walks.list hh3 _ l hneI items).toS) s.heap.objs.size
          hSf ls hsz hb hval (items.size - 0) 0 _ (by omega) (Nat.zero_le _)
          ⟨⟨_, Heap.get?_push_size _ rfl, rfl, rfl⟩, (hl1.push _)⟩ ?hS0 ?hR
        case hS0 =>
          refine ⟨[], Nat.le_refl 0, setX_new ?_, fun x => by simp⟩
          exact Heap.get?_push_of_some _ hS
        case hR =>
          intro s' ks' hm hc' hS' hm4
          obtain ⟨h', g2, d', tk', os'⟩ := s'
          have eg : g2 = s.gens := hm.gens
          have ed : d' = s.drawn := hm.drawn
          have eo : os' = s.os := hm.os
          subst eg; subst ed; subst eo
          show wpAny _ _ _ _ _ _
          refine wpAny_pure ?_
          show wpAny _ _ (ret Value.none) _ _ _
          refine wpAny_pure ⟨rfl, h', tk', ks', rfl, hS', by omega, hm4, fun b o e => ?_⟩
          have hb0 : b < s.heap.objs.size := Heap.lt_size e
          have hb1 : b ≠ s.heap.objs.size := Nat.ne_of_lt hb0
          have hb2 : b ≠ (s.heap.push { cls := .type "set", dict := none, data := .set #[] 0 (.fresh 0 0 (!w.params.followText "set-order")) }).objs.size := by
            rw [Heap.size_push]; exact Nat.ne_of_lt (Nat.lt_succ_of_lt hb0)
          exact hm.heap b o (by simp only [List.mem_cons, List.mem_singleton, List.not_mem_nil, or_false, not_or]; exact ⟨hb1, hb2⟩) (Heap.get?_push_of_some _ (Heap.get?_push_of_some _ e))
      · cases r₂ with
        | error e => exact hr₂
        | ok fl₂ =>
          cases fl₂ with
          | ret r =>
            obtain ⟨rfl, h', tk, ks', rfl, hS', hc', hm4, hk'⟩ := hr₂
            repeat (any_goals (first | assumption | wp_step))
            exact h _ _ _ hS' hc' hm4 hk'
          | _ => exact hr₂.elim
    | _ => exact hr.elim
set_option maxHeartbeats 3200000 in
theorem call_setX_tuple {l : Addr} {items : Array Value} (ls : List Key) {Q : Value → Shared → Prop} (hh : A.handled = none) (hl : s.heap.IsTuple l items) (hsz : items.size = ls.length) (hval : ∀ (i : Nat) (v : Value), items[i]? = some v → ∃ k, ls[i]? = some k ∧ RelV (kV k) v) (hb : ls.length + 1 < scanBound)
    (h : ∀ (h' : Heap) (tk : Nat) (ks : List Key), SetX P w h' s.heap.objs.size ks → ks.length ≤ ls.length → (∀ x, x ∈ ks ↔ x ∈ ls) → (∀ b o, s.heap.get? b = some o → h'.get? b = some o) → Q (.ref s.heap.objs.size) { s with heap := h', toks := tk }) :
    wpAny (model P w) A (call (.type "set") [.ref l]) Q E s := by
  obtain ⟨c, tl, hmro⟩ := F.called_set.mro
  have hmade := F.called_set.made
  have hsub := F.called_set.sub
  refine wpAny_call (codeAny_of_tree ?_)
  show wpAny _ _ (callAny (.type "set") _) _ _ _
  refine wpAny_pure ⟨Code.quiet_builtin _ (by decide +kernel), codeAny_builtin F.entry_type_call ?_⟩
  rw [Around.under_plain (weight_type_call_type "set" [.ref l] []) rfl]
  have h1 := F.called_set.notType
  have h2 := F.called_set.canCreate
  have hct := F.typeCall_set_1 (.ref l)
  repeat (any_goals (first | assumption | wp_step))
  refine codeAny_mono (code_set_led1 (.ref l) (E := E) (Q₁ := fun obj s₁ => obj = .ref s.heap.objs.size ∧ s₁ = { s with heap := s.heap.push { cls := .type "set", dict := none, data := .set #[] 0 (.fresh 0 0 (!w.params.followText "set-order")) } }) ⟨rfl, rfl⟩) fun r s₁ hr => ?_
  cases r with
  | error e => exact hr
  | ok fl =>
    cases fl with
    | ret obj =>
      obtain ⟨rfl, rfl⟩ := hr
      have hS : (s.heap.push { cls := .type "set", dict := none, data := .set #[] 0 (.fresh 0 0 (!w.params.followText "set-order")) }).get? s.heap.objs.size = some { cls := .type "set", dict := none, data := .set #[] 0 (.fresh 0 0 (!w.params.followText "set-order")) } := Heap.get?_push_size _ rfl
      have hT : Shared.TypeIs { s with heap := s.heap.push { cls := .type "set", dict := none, data := .set #[] 0 (.fresh 0 0 (!w.params.followText "set-order")) } } (.ref s.heap.objs.size) "set" := ⟨_, hS, rfl⟩
      have hli := F.called_set.init.lookup
      have hbi := F.called_set.init.bind (.ref s.heap.objs.size)
      repeat (any_goals (first | assumption | wp_step))
      refine codeAny_mono (codeAny_call_builtin (R := wants (fun r s₂ => r = .none ∧ ∃ h' tk ks, s₂ = { s with heap := h', toks := tk } ∧ SetX P w h' s.heap.objs.size ks ∧ ks.length ≤ ls.length ∧ (∀ x, x ∈ ks ↔ x ∈ ls) ∧
          (∀ b o, s.heap.get? b = some o → h'.get? b = some o)) E) F.called_set.init.plain F.entry_set_init (check_set_init_1 hT ?_)) fun r₂ s₂ hr₂ => ?_
      · obtain ⟨ol, hol, hcl, nl, hdl⟩ := hl
        obtain ⟨ocls, odict, odata, oslots⟩ := ol
        simp only at hcl hdl
        subst hcl; subst hdl
        have hol' : (s.heap.push { cls := .type "set", dict := none, data := .set #[] 0 (.fresh 0 0 (!w.params.followText "set-order")) }).get? l = some { cls := .type "tuple", dict := odict, data := .seq items nl, slots := oslots } := Heap.get?_push_of_some _ hol
        have hsls := F.sub_tuple_set
        have hslf := F.sub_tuple_frozenset
        have hne : (Value.type "tuple" == Value.type "dict") = false := by decide
        have hl1 : (s.heap.push { cls := .type "set", dict := none, data := .set #[] 0 (.fresh 0 0 (!w.params.followText "set-order")) }).IsTuple l items := ⟨_, hol', rfl, nl, rfl⟩
        unfold Builtin.«set.__init__» noKeywords Builtin.Frozenset.updateFrom
        generalize hPI : pyIter = PI
        wp_walk
        subst hPI
        refine wpAny_pyIter_tuple (s := { s with heap := s.heap.push { cls := .type "set", dict := none, data := .set #[] 0 (.fresh 0 0 (!w.params.followText "set-order")) } }) hl1 ?_
        refine wpAny_bind (wpAny_runValue ?_)
        have hlS : l < s.heap.objs.size := Heap.lt_size hol
        have hh3 : A.in1.in1.in1.handled = none := by simp [hh]
        have hneI : l ≠ (s.heap.push { cls := .type "set", dict := none, data := .set #[] 0 (.fresh 0 0 (!w.params.followText "set-order")) }).objs.size := by
          rw [Heap.size_push]; exact Nat.ne_of_lt (Nat.lt_succ_of_lt hlS)
        have hSf : s.heap.objs.size ∉ [(s.heap.push { cls := .type "set", dict := none, data := .set #[] 0 (.fresh 0 0 (!w.params.followText "set-order")) }).objs.size, l] := by
          rw [Heap.size_push]; simp only [List.mem_cons, List.mem_singleton, List.not_mem_nil, or_false, not_or]
          exact ⟨Nat.ne_of_lt (Nat.lt_succ_self _), Nat.ne_of_gt hlS⟩
        refine setX_loop ((Walks.tuple hh3 _ l hneI items).toS) s.heap.objs.size
          hSf ls hsz hb hval (items.size - 0) 0 _ (by omega) (Nat.zero_le _)
          ⟨⟨_, Heap.get?_push_size _ rfl, rfl, rfl⟩, (hl1.push _)⟩ ?hS0 ?hR
        case hS0 =>
          refine ⟨[], Nat.le_refl 0, setX_new ?_, fun x => by simp⟩
          exact Heap.get?_push_of_some _ hS
        case hR =>
          intro s' ks' hm hc' hS' hm4
          obtain ⟨h', g2, d', tk', os'⟩ := s'
          have eg : g2 = s.gens := hm.gens
          have ed : d' = s.drawn := hm.drawn
          have eo : os' = s.os := hm.os
          subst eg; subst ed; subst eo
          show wpAny _ _ _ _ _ _
          refine wpAny_pure ?_
          show wpAny _ _ (ret Value.none) _ _ _
          refine wpAny_pure ⟨rfl, h', tk', ks', rfl, hS', by omega, hm4, fun b o e => ?_⟩
          have hb0 : b < s.heap.objs.size := Heap.lt_size e
          have hb1 : b ≠ s.heap.objs.size := Nat.ne_of_lt hb0
          have hb2 : b ≠ (s.heap.push { cls := .type "set", dict := none, data := .set #[] 0 (.fresh 0 0 (!w.params.followText "set-order")) }).objs.size := by
            rw [Heap.size_push]; exact Nat.ne_of_lt (Nat.lt_succ_of_lt hb0)
          exact hm.heap b o (by simp only [List.mem_cons, List.mem_singleton, List.not_mem_nil, or_false, not_or]; exact ⟨hb1, hb2⟩) (Heap.get?_push_of_some _ (Heap.get?_push_of_some _ e))
      · cases r₂ with
        | error e => exact hr₂
        | ok fl₂ =>
          cases fl₂ with
          | ret r =>
            obtain ⟨rfl, h', tk, ks', rfl, hS', hc', hm4, hk'⟩ := hr₂
            repeat (any_goals (first | assumption | wp_step))
            exact h _ _ _ hS' hc' hm4 hk'
          | _ => exact hr₂.elim
    | _ => exact hr.elim
/-! ### sorted(s) -/
theorem relV_int {k : Key} {v : Value} {i : Int} (r : RelV (kV k) v) (e : k = .inl i) : ∃ t, v = .int i t := by subst e; exact r
theorem setX_sorted {Q : Value → Shared → Prop} (R : SetX P w s.heap a ks) (hh : A.handled = none) {F : List Value → List Value → Prop}
    (hsort : ∀ (vs : List Value) (s' : Shared) (b : Addr) (Pf : Fin → Shared → Prop), (vs.map keyX).Perm ks → (∀ v ∈ vs, RelV (kV (keyX v)) v) → vs.length ≤ sizeLine → s'.heap.get? b = some (seqObj "list" vs.toArray 0) →
      (∀ out : Array Value, F vs out.toList → Pf (.done (.ret .none)) { s' with heap := sortedHeap s'.heap b vs out }) → wpAny (model P w) A.in1.in1 (Builtin.«list.sort» ⟨[.ref b], []⟩) Pf E s')
    (hQ : ∀ s' p (vs : List Value) (out : Array Value) (c : Nat), (∀ b o, s.heap.get? b = some o → s'.heap.get? b = some o) → s'.gens = s.gens → s'.os = s.os → s.heap.objs.size ≤ p →
      s'.heap.get? p = some (seqObj "list" out c) → F vs out.toList → (vs.map keyX).Perm ks → Q (.ref p) s') :
    wpAny (model P w) A (call (.builtin "sorted") [.ref a]) Q E s := by
  obtain ⟨o, es, ep, t, ho, hex, hd, g, pm0, nd, hb, hf, hr, hl⟩ := R
  refine Calls.call_function_entry kind_sorted plain_sorted entry_sorted (args_sorted1 _) ?_
  unfold Builtin.«sorted»
  refine wpAny_bind (m := checkCount "sorted" 1 1 _) (wpAny_pure ?_)
  refine wpAny_bind (collect_set (A := A.in1) hh ⟨o, ho, hex.1, hd⟩ hf hb hr hl fun s1 vs k1 hz g1 o1 pm => ?_)
  have pk : (vs.map keyX).Perm ks := by
    have q := pm.map keyX
    rw [List.map_map] at q
    exact q.trans pm0
  have hv : ∀ v ∈ vs, RelV (kV (keyX v)) v := fun v hv => by
    obtain ⟨e, he, q⟩ := List.mem_map.mp (pm.mem_iff.mp hv)
    obtain ⟨k, h1, _⟩ := g e he
    rw [q] at h1
    rw [keyX_rel h1]; exact h1
  have hvl : vs.length ≤ sizeLine := by
    rw [pm.length_eq, List.length_map, Array.length_toList]
    exact fits_of_scanBound hb
  refine wpAny_bind (wpAny_newList ?_ hvl)
  have hoL : (s1.heap.push (seqObj "list" vs.toArray 0)).get? s1.heap.objs.size = some (seqObj "list" vs.toArray 0) := Heap.get?_push_size _ rfl
  refine wpAny_bind (wpAny_holding (wpAny_call_entry slot_list_sort ⟨_, hoL, rfl⟩ entry_list_sort (hsort vs _ _ _ pk hv hvl hoL fun out a1 => ⟨_, rfl, ?_⟩) (args_list_sort _)))
  obtain ⟨c, hc⟩ := sortedHeap_at (vs := vs) (out := out) hoL
  refine wpAny_pure ⟨_, rfl, hQ _ s1.heap.objs.size vs out c (fun b u e => ?_) g1 o1 hz hc a1 pk⟩
  have q := k1 b u e
  have hlt := Heap.lt_size q
  show (sortedHeap (s1.heap.push (seqObj "list" vs.toArray 0)) s1.heap.objs.size vs out).get? b = some u
  rw [sortedHeap_old (Nat.ne_of_lt hlt) (by rw [size_push']; exact Nat.lt_succ_of_lt hlt)]
  exact Heap.get?_push_of_some _ q
end
end DL

set_option Elab.async false
set_option linter.all false
set_option maxRecDepth 100000
set_option maxHeartbeats 4000000
/-! THE DATA LAYER, part 17: sorted of data, sorted(set(x)), len(set(x)), strip(signs). -/
namespace DL
open PySem PySem.Spec L2
open PyProof.Rows hiding St
/-! ### sorted of any data that are alike -/
/-- a comes not behind b -/
def dLe (a b : T) : Bool := !PySem.W.dataLt b a
def gSortD : GN := fun os Q => match os with
  | [o] => match lsO o with
    | some ts => PySem.W.AllAlike ts ∧ PySem.W.Sortable ts ∧ (∀ t ∈ ts, t.depth ≤ 100) ∧ ts.length ≤ 1000000 ∧ Q (.lst (ts.mergeSort dLe))
    | none => False
  | _ => False
theorem paired_zip {α β : Type} {G : α → β → Prop} : ∀ {l : List α} {r : List β}, Paired G l r → (l.zip r).map (·.1) = l ∧ (l.zip r).map (·.2) = r ∧ ∀ p ∈ l.zip r, G p.1 p.2
  | _, _, .nil => ⟨rfl, rfl, fun _ m => by simp at m⟩
  | _, _, .cons h t => by
    obtain ⟨h1, h2, h3⟩ := paired_zip t
    refine ⟨by simp [h1], by simp [h2], fun p m => ?_⟩
    rcases List.mem_cons.mp (by simpa using m) with e | e
    · rw [e]; exact h
    · exact h3 p e
theorem paired_of {α β γ : Type} {G : β → γ → Prop} {f : α → β} {g : α → γ} : ∀ {l : List α}, (∀ a ∈ l, G (f a) (g a)) → Paired G (l.map f) (l.map g)
  | [], _ => .nil
  | a :: l, h => .cons (h a List.mem_cons_self) (paired_of fun b m => h b (List.mem_cons_of_mem _ m))
theorem each_vals {γ : Type} : ∀ {ps : List (V × γ)} {us : List Value}, Vals (ps.map (·.1)) us → PySem.W.EachIs (fun u (p : V × γ) => RelV p.1 u) us ps
  | [], _, .nil => .nil
  | _ :: _, _, .cons h t => .cons h (each_vals t)
theorem vals_each {γ : Type} : ∀ {us : List Value} {ps : List (V × γ)}, PySem.W.EachIs (fun u (p : V × γ) => RelV p.1 u) us ps → Vals (ps.map (·.1)) us
  | _, _, .nil => .nil
  | _, _, .cons h t => .cons h (vals_each t)
theorem each_reads {γ : Type} {R : Value → V × γ → Prop} : ∀ {us : List Value} {ps : List (V × γ)}, PySem.W.EachIs (fun u (p : V × γ) => RelV p.1 u) us ps → (∀ p ∈ ps, ∀ u, RelV p.1 u → R u p) → PySem.W.EachIs R us ps
  | _, _, .nil, _ => .nil
  | _, _, .cons h t, w => .cons (w _ List.mem_cons_self _ h) (each_reads t fun p m => w p (List.mem_cons_of_mem _ m))
theorem sort_snd {γ : Type} (ps : List (γ × T)) : (ps.mergeSort (PySem.W.dataLe false fun p : γ × T => p.2)).map (·.2) = (ps.map (·.2)).mergeSort dLe := by
  have e : PySem.W.dataLe false (fun p : γ × T => p.2) = fun p q => dLe p.2 q.2 := rfl
  rw [e]
  exact (List.map_mergeSort (f := fun p : γ × T => p.2) (fun _ _ _ _ => rfl)).symm ▸ rfl
section
variable {X : Cx}
theorem callA_sortD (hu : X.A.units + 200 < cLine) : CallA X (.builtin "sorted") gSortD := CallA.mk fun pins s σ H F vs xs us Q Qa I r hx h fin => by
  unfold gSortD at h
  split at h
  · cases hx with
    | cons h1 hr =>
      cases hr
      split at h
      · rename_i ts el
        obtain ⟨ha, hk, hd, hz, h⟩ := h
        obtain ⟨a, vs, rfl, hq, r2⟩ := RW.ls h1 el
        obtain ⟨u, rfl, rx⟩ := vals1 r
        cases rx
        obtain ⟨its, rv, pl, _⟩ := I.list hq
        obtain ⟨z1, z2, z3⟩ := paired_zip r2
        have e0 : Vals ((vs.zip ts).map (·.1)) its := by rw [z1]; exact rv
        have e1 := each_vals e0
        have hl : (vs.zip ts).length = ts.length := by rw [← List.length_map (f := (·.2)), z2]
        refine PySem.W.sorted_data (bs := vs.zip ts) (enc := fun p : V × T => p.2) pl.isList e1 (each_reads e1 fun p m u ru => ?_) (by rw [z2]; exact ha) (by rw [z2]; exact hk) (by rw [hl, sizeLine_eq]; omega) (fun p m => ?_) fun out ho e2 => ?_
        · obtain ⟨as, q, _⟩ := z3 p m
          exact RV.reads I q ru
        · have := hd p.2 (by rw [← z2]; exact List.mem_map_of_mem m)
          omega
        · have rr := vals_each e2
          have pm := List.mergeSort_perm (vs.zip ts) (PySem.W.dataLe false fun p : V × T => p.2)
          have hlen : (((vs.zip ts).mergeSort (PySem.W.dataLe false fun p : V × T => p.2)).map (·.1)).length ≤ sizeLine := by
            rw [List.length_map, pm.length_eq, hl, sizeLine_eq]; omega
          obtain ⟨ep, he'⟩ := PyProof.Rows.sortedAll_at s.heap its out.toArray
          refine ⟨.ref _, upd H (s.heap.objs.size + 1) (.lst (((vs.zip ts).mergeSort (PySem.W.dataLe false fun p : V × T => p.2)).map (·.1))), I.laid (t' := s.toks) (fun _ _ => PyProof.Rows.sortedAll_old) (Nat.le_succ _) ⟨hlen, out, ep, rr, he'⟩, rfl, ?_⟩
          refine fin.lst (I.hok.fresh (Nat.le_succ _)) (ts := ts.mergeSort dLe) ?_ h
          rw [← z2, ← sort_snd, z2]
          exact paired_of fun p m => z3 p (pm.mem_iff.mp m)
      · exact h.elim
  · exact h.elim
end
/-! ### strip(signs) -/
def gStripC : GN := fun os Q => match os with
  | [.pure (.str x), .pure (.str y)] => x.length ≤ 16777216 ∧ Q (.pure (.str (Txt.stripChars x y)))
  | _ => False
def tStripC (te tc : XT) : XT := fun ρ Q => te ρ fun p ρ1 => tc ρ1 fun q ρ2 => gN gStripC ρ2 [p, q] fun o => Q (.val o) ρ2
/-! ### sets of keys, once made -/
def SetH (P : Program) (w : World) (a : Addr) (ks : List Key) : HO := .ext fun h => SetX P w h a ks
theorem setH_new {w : World} {P : Program} {H : Hp} {h : Heap} {a : Addr} {ks : List Key} (R : SetX P w h a ks) : ObjOk P w H h a (SetH P w a ks) := by
  have ⟨o, _, _, _, ho, _⟩ := R
  exact ⟨R, ⟨o, ho⟩, fun h1 h2 p k => SetX.at p k⟩
section
variable {X : Cx}
theorem setH_get {pins : List (Addr × Obj)} {σ : St} {H : Hp} {s : Shared} {a : Addr} {ks : List Key} (I : Inv X pins σ H s) (ha : H a = some (SetH X.prog X.w a ks)) : SetX X.prog X.w s.heap a ks := (I.hok a _ ha).1
theorem vals_at {vs : List V} {us : List Value} (r : Vals vs us) : ∀ (i : Nat) (u : Value), us[i]? = some u → ∃ v, vs[i]? = some v ∧ RelV v u := by
  induction r with
  | nil => intro i u h; simp at h
  | cons h t ih =>
    intro i u e
    cases i with
    | zero => simp at e; subst e; exact ⟨_, rfl, h⟩
    | succ i => simpa using ih i u (by simpa using e)
/-- set(x) of a list or a tuple of keys -/
def rSetX (K : PySem.W.Frag) (P : Program) (w : World) : List V → Hp → VK → Prop := fun xs H Q => ∃ (l : Addr) (ls : List Key), xs = [V.ref l] ∧ (SqL K H l (ls.map kV) ∨ SqT K H l (ls.map kV)) ∧ ls.length < 4000 ∧
  ∀ p ks, H p = none → ks.Nodup → (∀ x, x ∈ ks ↔ x ∈ ls) → ks.length ≤ ls.length → Q (.ref p) (upd H p (SetH P w p ks))
theorem cr_setX (hc : X.calm = true) : CallR X (.type "set") (rSetX X.K X.prog X.w) := by
  intro pins s σ H xs us Q I r h
  obtain ⟨l, ls, rfl, hq, hb, q⟩ := h
  obtain ⟨u, rfl, rx⟩ := vals1 r
  cases rx
  have hb2 : ls.length + 1 < scanBound := by unfold scanBound; omega
  have fin : ∀ (h' : Heap) (tk : Nat) (ks : List Key), SetX X.prog X.w h' s.heap.objs.size ks → ks.length ≤ ls.length → (∀ x, x ∈ ks ↔ x ∈ ls) → (∀ b o, s.heap.get? b = some o → h'.get? b = some o) → EP X pins σ Q (.ref s.heap.objs.size) { s with heap := h', toks := tk } := fun h' tk ks R h1 h2 kp =>
    have nd : ks.Nodup := by obtain ⟨_, _, _, _, _, _, _, _, _, nd, _⟩ := R; exact nd
    ⟨.ref s.heap.objs.size, _, I.laid (t' := tk) kp (Nat.le_refl _) (setH_new R), rfl, q _ ks (I.hok.fresh (Nat.le_refl _)) nd h2 h1⟩
  have go : ∀ its : List Value, Vals (ls.map kV) its → its.toArray.size = ls.length ∧ ∀ (i : Nat) (v : Value), its.toArray[i]? = some v → ∃ k, ls[i]? = some k ∧ RelV (kV k) v := fun its rv => by
    refine ⟨by rw [List.size_toArray, ← rv.length, List.length_map], fun i v e => ?_⟩
    obtain ⟨x, e1, r1⟩ := vals_at rv i v (by simpa using e)
    rw [List.getElem?_map] at e1
    cases e2 : ls[i]? with
    | none => rw [e2] at e1; cases e1
    | some k => rw [e2] at e1; cases e1; exact ⟨k, rfl, r1⟩
  rcases hq with hq | hq
  · obtain ⟨its, rv, pl, hz⟩ := I.list hq
    obtain ⟨g1, g2⟩ := go its rv
    exact call_setX_list ls (I.ok.hd hc) pl.isList g1 g2 hb2 fin
  · obtain ⟨its, rv, pl, hz⟩ := I.tuple hq
    obtain ⟨g1, g2⟩ := go its rv
    exact call_setX_tuple ls (I.ok.hd hc) pl g1 g2 hb2 fin
def rSortX (P : Program) (w : World) : List V → Hp → VK → Prop := fun xs H Q => ∃ (a : Addr) (ks : List Key), xs = [V.ref a] ∧ H a = some (SetH P w a ks) ∧
  ((∃ is : List Int, ks = is.map .inl ∧ ∀ (q : Addr) (ms : List Int), H q = none → ms.Perm is → ms.Pairwise (· ≤ ·) → Q (.ref q) (upd H q (.lst (ms.map V.int)))) ∨
   (∃ is : List Str, ks = is.map .inr ∧ ∀ (q : Addr) (ms : List Str), H q = none → ms.Perm is → sortedS ms = true → Q (.ref q) (upd H q (.lst (ms.map V.str)))))
theorem ints_of_keys : ∀ {vs : List Value} , (∀ v ∈ vs, RelV (kV (keyX v)) v) → ∀ is : List Int, (vs.map keyX).Perm (is.map .inl) → ∃ ns, IntsAre vs ns ∧ ns.Perm is
  | vs, hv, is, pm => by
    have h1 : ∀ v ∈ vs, ∃ i t, v = Value.int i t ∧ keyX v = .inl i := fun v m => by
      obtain ⟨i, _, e⟩ := List.mem_map.mp (pm.mem_iff.mp (List.mem_map_of_mem (f := keyX) m))
      have := hv v m
      rw [← e] at this
      obtain ⟨t, rfl⟩ := this
      exact ⟨i, t, rfl, rfl⟩
    have h2 : ∀ us : List Value, (∀ v ∈ us, ∃ i t, v = Value.int i t ∧ keyX v = .inl i) → ∃ ns, IntsAre us ns ∧ us.map keyX = ns.map .inl := fun us => by
      induction us with
      | nil => exact fun _ => ⟨[], .nil, rfl⟩
      | cons u us ih =>
        intro h
        obtain ⟨ns, a1, a2⟩ := ih fun v m => h v (List.mem_cons_of_mem _ m)
        obtain ⟨i, t, rfl, e⟩ := h u List.mem_cons_self
        exact ⟨i :: ns, .cons i t a1, by simp [a2, e]⟩
    obtain ⟨ns, a1, a2⟩ := h2 vs h1
    refine ⟨ns, a1, ?_⟩
    rw [a2] at pm
    have := pm.map (fun k : Key => match k with | .inl i => i | .inr _ => 0)
    simpa [List.map_map, Function.comp_def] using this
theorem strs_of_keys : ∀ {vs : List Value} , (∀ v ∈ vs, RelV (kV (keyX v)) v) → ∀ is : List Str, (vs.map keyX).Perm (is.map .inr) → ∃ ns, StrsAre vs ns ∧ ns.Perm is
  | vs, hv, is, pm => by
    have h1 : ∀ v ∈ vs, ∃ i t, v = Value.str i t ∧ keyX v = .inr i := fun v m => by
      obtain ⟨i, _, e⟩ := List.mem_map.mp (pm.mem_iff.mp (List.mem_map_of_mem (f := keyX) m))
      have := hv v m
      rw [← e] at this
      obtain ⟨t, rfl⟩ := this
      exact ⟨i, t, rfl, rfl⟩
    have h2 : ∀ us : List Value, (∀ v ∈ us, ∃ i t, v = Value.str i t ∧ keyX v = .inr i) → ∃ ns, StrsAre us ns ∧ us.map keyX = ns.map .inr := fun us => by
      induction us with
      | nil => exact fun _ => ⟨[], .nil, rfl⟩
      | cons u us ih =>
        intro h
        obtain ⟨ns, a1, a2⟩ := ih fun v m => h v (List.mem_cons_of_mem _ m)
        obtain ⟨i, t, rfl, e⟩ := h u List.mem_cons_self
        exact ⟨i :: ns, .cons i t a1, by simp [a2, e]⟩
    obtain ⟨ns, a1, a2⟩ := h2 vs h1
    refine ⟨ns, a1, ?_⟩
    rw [a2] at pm
    have := pm.map (fun k : Key => match k with | .inl _ => (Str.empty : Str) | .inr x => x)
    simpa [List.map_map, Function.comp_def] using this
theorem cr_sortX (hc : X.calm = true) : CallR X (.builtin "sorted") (rSortX X.prog X.w) := by
  intro pins s σ H xs us Q I r h
  obtain ⟨a, ks, rfl, ha, q⟩ := h
  have R := setH_get I ha
  rw [Vals.ref1 r]
  have fin : ∀ (s' : Shared) (p : Addr) (out : Array Value) (c : Nat) (zs : List V), (∀ b o, s.heap.get? b = some o → s'.heap.get? b = some o) → s'.gens = s.gens → s'.os = s.os → s.heap.objs.size ≤ p → s'.heap.get? p = some (seqObj "list" out c) → Vals zs out.toList → zs.length ≤ sizeLine →
      (H p = none → Q (.ref p) (upd H p (.lst zs))) → EP X pins σ Q (.ref p) s' := fun s' p out c zs k g o hp hg hv hz w => by
    have hn : H p = none := I.hok.fresh hp
    have J : Inv X pins σ (upd H p (.lst zs)) { s with heap := s'.heap, gens := s'.gens, drawn := s'.drawn, toks := s'.toks } :=
      I.call (ch := []) (Un.laid k hp hn) (I.hok.laid k hp ⟨hz, out.toList, c, hv, by rw [Array.toArray_toList]; exact hg⟩) (by rw [g]; exact I.bare) (fun _ z => nomatch z)
    have e : s' = { s with heap := s'.heap, gens := s'.gens, drawn := s'.drawn, toks := s'.toks } := by
      cases s'
      cases s
      cases o
      rfl
    rw [e]
    exact ⟨.ref p, _, J, rfl, w hn⟩
  rcases q with ⟨is, rfl, q⟩ | ⟨is, rfl, q⟩
  · refine setX_sorted R (I.ok.hd hc) (F := fun _ out => ∃ ms, IntsAre out ms ∧ ms.Perm is ∧ ms.Pairwise (· ≤ ·)) (fun vs s' b Pf pm hv hl ho hp => ?_) fun s' p vs out c k g o hp hg hF pm => ?_
    · obtain ⟨ns, a1, a2⟩ := ints_of_keys hv is pm
      exact list_sort_treeAny ho a1 hl fun out ms b1 b2 b3 => hp out ⟨ms, b1, b2.trans a2, b3⟩
    · obtain ⟨ms, b1, b2, b3⟩ := hF
      have hz : (ms.map V.int).length ≤ sizeLine := by
        obtain ⟨_, es, _, _, _, _, _, _, pm0, _, hb, _⟩ := R
        have e1 := pm0.length_eq
        rw [List.length_map, b2.length_eq, sizeLine_eq]
        rw [List.length_map, List.length_map, Array.length_toList] at e1
        unfold scanBound at hb
        omega
      exact fin s' p out c (ms.map V.int) k g o hp hg (vals_of_ints b1) hz fun hn => q p ms hn b2 b3
  · refine setX_sorted R (I.ok.hd hc) (F := fun _ out => ∃ ms, StrsAre out ms ∧ ms.Perm is ∧ sortedS ms = true) (fun vs s' b Pf pm hv hl ho hp => ?_) fun s' p vs out c k g o hp hg hF pm => ?_
    · obtain ⟨ns, a1, a2⟩ := strs_of_keys hv is pm
      refine list_sort_treeKAny strKind_oneLt ho a1.keysOf (fun v₁ v₂ rest e => keyKind_strs (by rw [← e]; exact a1)) hl fun st' h1 h2 => ?_
      obtain ⟨ms, b1, b2, b3⟩ := sorted_out_str a1 h1 h2
      exact hp _ ⟨ms, b1, b2.trans a2, b3⟩
    · obtain ⟨ms, b1, b2, b3⟩ := hF
      have hz : (ms.map V.str).length ≤ sizeLine := by
        obtain ⟨_, es, _, _, _, _, _, _, pm0, _, hb, _⟩ := R
        have e1 := pm0.length_eq
        rw [List.length_map, b2.length_eq, sizeLine_eq]
        rw [List.length_map, List.length_map, Array.length_toList] at e1
        unfold scanBound at hb
        omega
      exact fin s' p out c (ms.map V.str) k g o hp hg (vals_of_strs b1) hz fun hn => q p ms hn b2 b3
def rLenX (P : Program) (w : World) : List V → Hp → VK → Prop := fun xs H Q => ∃ (a : Addr) (ks : List Key), xs = [V.ref a] ∧ H a = some (SetH P w a ks) ∧ Q (.int ks.length) H
theorem cr_lenX : CallR X (.builtin "len") (rLenX X.prog X.w) := by
  intro pins s σ H xs us Q I r h
  obtain ⟨a, ks, rfl, ha, q⟩ := h
  have R := setH_get I ha
  rw [Vals.ref1 r]
  obtain ⟨o, es, ep, t, ho, hex, hd, g, pm0, nd, hb, hf, _⟩ := R
  have hn : es.size = ks.length := by rw [← pm0.length_eq, List.length_map, Array.length_toList]
  exact call_len_set ho hex hd hf (by rw [hn]; unfold scanBound at hb; omega) ⟨.int ks.length, H, I.tok _, ⟨_, by rw [hn]⟩, q⟩
theorem bn_set : bootBuiltins "set" = some (.type "set") := by decide +kernel
/-! ### sorted(set(x)), len(set(x)) -/
def gSortSet : GN := fun os Q => match os with
  | [o] => match seqO o with
    | some ts => ts.length < 4000 ∧ ((∃ ns : List Int, ts = ns.map .int ∧ ∀ ms : List Int, ms.Nodup → (∀ x, x ∈ ms ↔ x ∈ ns) → ms.Pairwise (· ≤ ·) → Q (.lst (ms.map .int))) ∨
      (∃ ns : List Str, ts = ns.map .str ∧ ∀ ms : List Str, ms.Nodup → (∀ x, x ∈ ms ↔ x ∈ ns) → sortedS ms = true → Q (.lst (ms.map .str))))
    | none => False
  | _ => False
theorem RPs.intsE {K : PySem.W.Frag} {H : Hp} {F : Addr → Prop} : ∀ {vs : List V} {ns : List Int}, RPs K H F vs (ns.map PyData.int) → vs = ns.map V.int
  | _, [], .nil => rfl
  | _, n :: ns, .cons h t => by rw [RP.intE h, RPs.intsE t]; rfl
theorem RPs.strsE {K : PySem.W.Frag} {H : Hp} {F : Addr → Prop} : ∀ {vs : List V} {ns : List Str}, RPs K H F vs (ns.map PyData.str) → vs = ns.map V.str
  | _, [], .nil => rfl
  | _, n :: ns, .cons h t => by rw [RP.strE h, RPs.strsE t]; rfl
theorem rps_intsX {K : PySem.W.Frag} {H : Hp} {F : Addr → Prop} : ∀ ns : List Int, RPs K H F (ns.map V.int) (ns.map PyData.int)
  | [] => .nil
  | i :: ns => .cons (RP.int i) (rps_intsX ns)
theorem nodup_of_map {α β : Type} {f : α → β} {l : List α} (h : (l.map f).Nodup) : l.Nodup := by
  induction l with
  | nil => exact List.nodup_nil
  | cons a l ih =>
    rw [List.map_cons, List.nodup_cons] at h
    exact List.nodup_cons.mpr ⟨fun m => h.1 (List.mem_map_of_mem m), ih h.2⟩
/-- sorted(set(x)): what the set holds, in order -/
theorem sortSet_go {H : Hp} {F : Addr → Prop} {vs : List V} {xs : List O} {Q : VK} {Qa : O → Prop} (hx : Paired (RW X.K H F) vs xs) (h : gSortSet xs Qa) (fin : FinV X.K H F Qa Q) : rSetX X.K X.prog X.w vs H fun v H1 => rSortX X.prog X.w [v] H1 Q := by
  unfold gSortSet at h
  split at h
  · cases hx with
    | cons h1 hr =>
      cases hr
      split at h
      · rename_i ts es
        obtain ⟨hz, h⟩ := h
        obtain ⟨p, vs, rfl, hq, r2⟩ := RW.seq h1 es
        have hq' : SqL X.K H p vs ∨ SqT X.K H p vs := hq.imp id And.left
        have lay : ∀ (a b : Addr) (o u : HO), H a = none → L2.upd H a o b = none → b ≠ a ∧ H b = none := fun a b o u n e => by
          have ne : b ≠ a := fun z => by rw [z, upd_same] at e; cases e
          rw [upd_ne ne] at e
          exact ⟨ne, e⟩
        have done : ∀ (a b : Addr) (o : HO) (zs : List V) (ts : List T), H a = none → L2.upd H a o b = none → (∀ (H' : Hp) (F' : Addr → Prop), RPs X.K H' F' zs ts) → Qa (.lst ts) → Q (.ref b) (L2.upd (L2.upd H a o) b (.lst zs)) := fun a b o zs ts na nb rz q => by
          obtain ⟨ne, nb'⟩ := lay a b o o na nb
          refine fin (.ref b) (.lst ts) [b] _ (Pres.trans (Pres.upd na) (Pres.upd nb)) ⟨b, zs, rfl, rfl, upd_same, rz _ _⟩ (fun c m => by rw [List.mem_singleton.mp m]; exact nb') (by simp) q
        rcases h with ⟨ns, rfl, h⟩ | ⟨ns, rfl, h⟩
        · obtain rfl := r2.intsE
          refine ⟨p, ns.map .inl, rfl, by simpa [List.map_map, Function.comp_def, kV] using hq', by simpa using hz, fun a ks na nd hm hl => ⟨a, ks, rfl, upd_same, .inl ?_⟩⟩
          have hk : ∀ k ∈ ks, ∃ i : Int, k = .inl i := fun k m => by
            obtain ⟨i, _, e⟩ := List.mem_map.mp ((hm k).mp m)
            exact ⟨i, e.symm⟩
          have e1 : ks = (ks.map fun k : Key => match k with | .inl i => i | .inr _ => 0).map .inl := by
            rw [List.map_map]
            refine (List.map_id ks).symm.trans (List.map_congr_left fun k m => ?_)
            obtain ⟨i, rfl⟩ := hk k m
            rfl
          generalize (ks.map fun k : Key => match k with | .inl i => i | .inr _ => 0) = is at e1
          subst e1
          refine ⟨is, rfl, fun b ms nb pm so => done a b _ _ _ na nb (fun _ _ => rps_intsX ms) (h ms (pm.nodup_iff.mpr (nodup_of_map nd)) (fun x => ?_) so)⟩
          have := hm (.inl x)
          first | simpa [pm.mem_iff] using this | (rw [pm.mem_iff]; simpa using this)
        · obtain rfl := r2.strsE
          refine ⟨p, ns.map .inr, rfl, by simpa [List.map_map, Function.comp_def, kV] using hq', by simpa using hz, fun a ks na nd hm hl => ⟨a, ks, rfl, upd_same, .inr ?_⟩⟩
          have hk : ∀ k ∈ ks, ∃ i : Str, k = .inr i := fun k m => by
            obtain ⟨i, _, e⟩ := List.mem_map.mp ((hm k).mp m)
            exact ⟨i, e.symm⟩
          have e1 : ks = (ks.map fun k : Key => match k with | .inl _ => Str.empty | .inr x => x).map .inr := by
            rw [List.map_map]
            refine (List.map_id ks).symm.trans (List.map_congr_left fun k m => ?_)
            obtain ⟨i, rfl⟩ := hk k m
            rfl
          generalize (ks.map fun k : Key => match k with | .inl _ => Str.empty | .inr x => x) = is at e1
          subst e1
          refine ⟨is, rfl, fun b ms nb pm so => done a b _ _ _ na nb (fun _ _ => RPs.ofStrs ms) (h ms (pm.nodup_iff.mpr (nodup_of_map nd)) (fun x => ?_) so)⟩
          have := hm (.inr x)
          first | simpa [pm.mem_iff] using this | (rw [pm.mem_iff]; simpa using this)
      · exact h.elim
  · exact h.elim
theorem ex_sortSet {e : Expr} {ts : XTs} {p p2 q pos : Pos} (hc : X.calm = true) (hg : Gl X "sorted") (hm : X.mg "sorted" = none) (hg2 : Gl X "set") (hm2 : X.mg "set" = none) (hb : bootBuiltins "sorted" = some (.builtin "sorted")) (hb2 : bootBuiltins "set" = some (.type "set")) (ha : EXs X [e] ts)
    (he : starEach [.Call (.Name "set" p2) [e] [] q] X.env = (false, eval (.Call (.Name "set" p2) [e] [] q) X.env) :: starEach [] X.env := by rfl) (he2 : starEach [e] X.env = (false, eval e X.env) :: starEach [] X.env := by rfl) :
    EX X (.Call (.Name "sorted" p) [.Call (.Name "set" p2) [e] [] q] [] pos) (tCallB gSortSet ts) := by
  refine ⟨PE.imp (pe_callB (cr_sortX hc) hg hm hb (pa_cons (pe_callTy (cr_setX hc) hg2 hm2 hb2 ha.pa (by decide) (by decide) he2 (by rfl)) pa_nil he) (by decide) (by decide) he (by rfl)) ?_⟩
  rintro σ H Q ⟨ρ, fp, G, Qa, R, h, fin⟩
  refine ⟨ρ, fp, G, _, R, h, fun vs ps A H1 ρ1 fp1 hl R1 r1 nd1 ng1 x1 h1 => ?_⟩
  unfold gN at h1
  split at h1
  · rename_i os e1
    exact sortSet_go (getAll_rw R1 r1 e1) h1 (fin_of R1 (fun a m => List.mem_append_right _ m) x1.or fin)
  · exact h1.elim
end
section
variable {X : Cx}
/-- sorted of texts, of data that are alike -/
def gSort : GN := fun os Q => gSortS os Q ∨ gSortD os Q
theorem callA_sort (hu : X.A.units + 200 < cLine) : CallA X (.builtin "sorted") gSort := by
  obtain ⟨r1, h1, g1⟩ := callA_sortS (X := X)
  obtain ⟨r2, h2, g2⟩ := callA_sortD hu
  exact ⟨_, CallR.or h1 h2, fun H F vs xs Q Qa hx h fin => h.imp (fun h => g1 H F vs xs Q Qa hx h fin) fun h => g2 H F vs xs Q Qa hx h fin⟩
end
end DL

set_option Elab.async false
set_option linter.all false
set_option maxRecDepth 100000
set_option maxHeartbeats 4000000
/-! THE DATA LAYER, part 18: a chain of comparisons as a value. -/
namespace DL
open PySem PySem.Spec L2
open PyProof.Rows hiding St
section
variable {X : Cx}
theorem chain_lt {g g' : G2} {r r' : R2} {ta tb tc : XT} (hg : ∀ H F v u x y Q Qa, RW X.K H F v x → RW X.K H F u y → g x y Qa → FinV X.K H F Qa Q → r v u H Q)
    (hg' : ∀ H F v u x y Q Qa, RW X.K H F v x → RW X.K H F u y → g' x y Qa → FinV X.K H F Qa Q → r' v u H Q) : ∀ (σ : St) (H : Hp) (Q : Bool → Hp → Prop), LT X.K (tChainA g g' ta tb tc) σ H Q → tTest (tChain r r' (LX X.K ta) (LX X.K tb) (LX X.K tc)) σ H Q := by
  rintro σ H Q ⟨ρ, fp, G, Qa, R, h, fin⟩
  refine ⟨ρ, fp, G, _, R, h, fun v p A H1 ρ1 fp1 R1 r1 x1 h1 => ?_⟩
  refine ⟨ρ1, fp1, A ++ G, _, R1, h1, fun u q B H2 ρ2 fp2 R2 r2 x2 h2 => ?_⟩
  unfold g2 at h2
  split at h2
  · rename_i x y e1 e2
    refine hg H2 (Or1 (Fo fp2) (B ++ (A ++ G))) v u x y _ _ (r1.rw R1 x2 R2 e1) (r2.rw0 R2 e2) h2 fun z o C H3 pr ro nC ndC q3 => ?_
    unfold bO at q3
    split at q3
    · rename_i c
      obtain ⟨rfl, ro⟩ := ro
      have ez := RP.boolE ro; subst ez
      refine ⟨c, rfl, ?_⟩
      cases c with
      | true =>
        rw [if_pos rfl] at q3 ⊢
        have R3 : RS X.K σ H3 ρ2 fp2 (B ++ (A ++ G)) := R2.pres pr
        refine ⟨ρ2, fp2, B ++ (A ++ G), _, R3, q3, fun w' r D H4 ρ4 fp4 R4 r4 x4 h4 => ?_⟩
        obtain ⟨hsl, h4⟩ := h4
        split at h4
        · rename_i y' z' e3 e4
          have r2' : ROp X.K σ H3 fp2 ρ2 (A ++ G) u q B := by
            cases q with
            | val o => exact ⟨r2.1.pres pr, r2.2⟩
            | slot j => exact r2
          refine hg' H4 (Or1 (Fo fp4) (D ++ (B ++ (A ++ G)))) u w' y' z' _ _ (r2'.rw R3 x4 R4 e3) (r4.rw0 R4 e4) h4 fun z2 o2 C2 H5 pr5 ro5 nC5 nd5 q5 => ?_
          split at q5
          · obtain ⟨rfl, ro5⟩ := ro5
            have ez := RP.boolE ro5; subst ez
            refine ⟨_, rfl, fin _ H5 ρ4 fp4 ((R4.sub (G' := G) fun a m => by simp [m]).pres pr5) ?_ q5⟩
            exact ((x1.or.trans x2.or).trans (pr.ext (F := Fo fp2))).trans (x4.or.trans pr5.ext)
          · exact q5.elim
        · exact h4.elim
      | false =>
        rw [if_neg Bool.false_ne_true] at q3 ⊢
        exact ⟨false, rfl, fin false H3 ρ2 fp2 ((R2.sub (G' := G) fun a m => by simp [m]).pres pr) ((x1.or.trans x2.or).trans pr.ext) q3⟩
    · exact q3.elim
  · exact h2.elim
/-- a < b < c as a value -/
def tChainE (g g' : G2) (ta tb tc : XT) : XT := fun ρ Q => tChainA g g' ta tb tc ρ fun b ρ1 => Q (.val (.pure (.bool b))) ρ1
theorem ex_chainE {op op' : CmpOp} {g g' : G2} {a b c : Expr} {ta tb tc : XT} {pos : Pos} (ho : OpA X (compareOp op) g) (ho' : OpA X (compareOp op') g') (ha : EX X a ta) (hb : EX X b tb) (hc : EX X c tc)
    (hm : lastMarks [op, op'] [b, c] = false := by with_unfolding_all rfl) : EX X (.Compare a [op, op'] [b, c] pos) (tChainE g g' ta tb tc) := by
  obtain ⟨r, hr, hg⟩ := ho
  obtain ⟨r', hr', hg'⟩ := ho'
  have e := pe_chain (pos := pos) hr hr' ha.pe hb.pe hc.pe hm
  refine ⟨⟨fun pins s σ H Q I h => ?_⟩⟩
  obtain ⟨ρ, fp, G, Qa, R, h, fin⟩ := h
  have h2 : LT X.K (tChainA g g' ta tb tc) σ H fun b H' => Q (.bl b) H' := ⟨ρ, fp, G, _, R, h, fun b H' ρ' fp' R' x' q => by
    have rb : ROp X.K σ H' fp' ρ' G (.bl b) (.val (.pure (.bool b))) [] := rop_pure (RP.bl b)
    refine fin (.bl b) (.val (.pure (.bool b))) [] H' ρ' fp' R' rb ?_ q
    exact x'.weak (fun a z => z) fun a z => z.elim id fun m => nomatch m⟩
  refine wpAny_mono (e.run pins s σ H _ I (chain_lt hg hg' σ H _ h2)) (fun u s' ⟨v, H', I', r', k, ev, q⟩ => ?_) fun _ _ z => z
  subst ev
  exact ⟨_, H', I', r', q⟩
/-- tuple(range(n)), list(range(n)) -/
def rgK (lst : Bool) (ρ : AEnv) (Q : Opd → AEnv → Prop) : Option O → Prop
  | some (.pure (.int n)) => 0 ≤ n ∧ n ≤ 1000000 ∧ Q (.val (if lst = true then .lst (rngItems 0 n.toNat) else .pure (.tuple (rngItems 0 n.toNat)))) ρ
  | _ => False
def tRg (lst : Bool) (ta : XT) : XT := fun ρ Q => ta ρ fun p ρ1 => rgK lst ρ1 Q (p.get ρ1)
theorem rps_rg {K : PySem.W.Frag} {H : Hp} {F : Addr → Prop} (n : Int) : RPs K H F (rgV 0 n) (rngItems 0 n.toNat) := by
  unfold rgV rngItems
  rw [Int.sub_zero]
  exact paired_of fun i m => RP.int _
theorem ex_tupRg {a : Expr} {ta : XT} {p p2 q pos : Pos} (hc : X.calm = true) (hg : Gl X "tuple") (hm : X.mg "tuple" = none) (hg2 : Gl X "range") (hm2 : X.mg "range" = none) (ha : EX X a ta)
    (na : starEach [a] X.env = (false, eval a X.env) :: starEach [] X.env := by rfl) (nb : starEach [.Call (.Name "range" p2) [a] [] q] X.env = (false, eval (.Call (.Name "range" p2) [a] [] q) X.env) :: starEach [] X.env := by rfl) :
    EX X (.Call (.Name "tuple" p) [.Call (.Name "range" p2) [a] [] q] [] pos) (tRg false ta) := by
  refine ⟨PE.imp (pe_tupRg hc hg hm (prg_1 hg2 hm2 ha.pe na) nb) ?_⟩
  rintro σ H Q ⟨ρ, fp, G, Qa, R, h, fin⟩
  refine ⟨ρ, fp, G, _, R, h, fun v p A H1 ρ1 fp1 R1 r1 x1 h1 => ?_⟩
  unfold rgK at h1
  split at h1
  · rename_i n e1
    obtain ⟨h0, hl, h1⟩ := h1
    refine ⟨n, RP.intE (r1.rw0 R1 e1), RgOk.of_le (by omega) (by omega) (by omega) h0, fun q hq => ?_⟩
    exact FinV.tup (fin_of (G := G) R1 (fun a m => List.mem_append_right _ m) x1.or fin) hq (rps_rg n) h1
  · exact h1.elim
theorem ex_lstRg {a : Expr} {ta : XT} {p p2 q pos : Pos} (hc : X.calm = true) (hg : Gl X "list") (hm : X.mg "list" = none) (hg2 : Gl X "range") (hm2 : X.mg "range" = none) (ha : EX X a ta)
    (na : starEach [a] X.env = (false, eval a X.env) :: starEach [] X.env := by rfl) (nb : starEach [.Call (.Name "range" p2) [a] [] q] X.env = (false, eval (.Call (.Name "range" p2) [a] [] q) X.env) :: starEach [] X.env := by rfl) :
    EX X (.Call (.Name "list" p) [.Call (.Name "range" p2) [a] [] q] [] pos) (tRg true ta) := by
  refine ⟨PE.imp (pe_listRg hc hg hm (prg_1 hg2 hm2 ha.pe na) nb) ?_⟩
  rintro σ H Q ⟨ρ, fp, G, Qa, R, h, fin⟩
  refine ⟨ρ, fp, G, _, R, h, fun v p A H1 ρ1 fp1 R1 r1 x1 h1 => ?_⟩
  unfold rgK at h1
  split at h1
  · rename_i n e1
    obtain ⟨h0, hl, h1⟩ := h1
    refine ⟨n, RP.intE (r1.rw0 R1 e1), RgOk.of_le (by omega) (by omega) (by omega) h0, fun q hq => ?_⟩
    exact FinV.lst (fin_of (G := G) R1 (fun a m => List.mem_append_right _ m) x1.or fin) hq (rps_rg n) h1
  · exact h1.elim
/-- text * n -/
def repS (x : Str) (k : Int) : Str := ⟨(List.replicate k.toNat x.cps).foldl (· ++ ·) #[]⟩
def gMulS : G2 := fun x y Q => match x, y with
  | .pure (.str z), .pure (.int k) => 2 ≤ k ∧ k ≤ 1000 ∧ 1 ≤ z.length ∧ z.length ≤ 1000 ∧ Q (.pure (.str (repS z k)))
  | _, _ => False
theorem opA_mulS : OpA X (binaryOp .Mult) gMulS := OpA.mk fun pins s σ H F v u x y a b Q Qa I rx ry hx hy h fin => by
  unfold gMulS at h
  split at h
  · rename_i z k
    obtain ⟨h1, h2, h3, h4, h⟩ := h
    have e1 := RP.strE hx; have e2 := RP.intE hy; subst e1 e2
    obtain ⟨t, rfl⟩ := rx
    obtain ⟨t', rfl⟩ := ry
    have c1 : ¬ k < 1 := by omega
    have c2 : (k == 1 || z.length == 0) = false := by simp; omega
    have hz : z.length * k.toNat ≤ 1000 * 1000 := Nat.mul_le_mul h4 (by omega)
    refine PySem.P.mul_str (by simp; omega) (fun _ _ => ?_) (fun _ _ => ?_) ?_
    · have : (1000 : Int) ≤ (2 ^ 63 - 1) / k := (Int.le_ediv_iff_mul_le (by omega)).mpr (by omega)
      omega
    · exact short24 (by omega)
    · rw [if_neg c1, if_neg (by rw [c2]; decide)]
      refine ⟨?_, ⟨.str (repS z k), H, I.tok _, ⟨_, rfl⟩, fin.str h⟩⟩
      exact fits_reps (short24 (by omega))
  · exact h.elim
def gMul2 : G2 := fun x y Q => match x with
  | .pure (.str z) => gMulS (.pure (.str z)) y Q
  | x => gMul x y Q
theorem gMul2_s {z : Str} {y : O} {Q : O → Prop} : gMul2 (.pure (.str z)) y Q = gMulS (.pure (.str z)) y Q := rfl
theorem gMul2_i {i : Int} {y : O} {Q : O → Prop} : gMul2 (.pure (.int i)) y Q = gMul (.pure (.int i)) y Q := rfl
theorem gMul2_l {ts : List T} {y : O} {Q : O → Prop} : gMul2 (.lst ts) y Q = gMul (.lst ts) y Q := rfl
theorem opA_mul2 : OpA X (binaryOp .Mult) gMul2 := OpA.alt (g := gMulS) (g' := gMul) opA_mulS opA_mul fun x y Qa h => by
  unfold gMul2 at h
  split at h
  · exact .inl h
  · exact .inr h
end
end DL

set_option Elab.async false
set_option linter.all false
set_option maxRecDepth 100000
set_option maxHeartbeats 4000000
/-! THE DATA LAYER, part 19: strip(signs). -/
namespace DL
open PySem PySem.Spec L2
open PyProof.Rows hiding St
section
variable {X : Cx}
def strip2K (x : Str) (ρ : AEnv) (Q : Opd → AEnv → Prop) : Option O → Prop
  | some (.pure (.str y)) => x.length ≤ 16777216 ∧ Q (.val (.pure (.str (Txt.stripChars x y)))) ρ
  | _ => False
def strip1K (tc : XT) (ρ : AEnv) (Q : Opd → AEnv → Prop) : Option O → Prop
  | some (.pure (.str x)) => tc ρ fun q ρ2 => strip2K x ρ2 Q (q.get ρ2)
  | _ => False
def tStripX (te tc : XT) : XT := fun ρ Q => te ρ fun p ρ1 => strip1K tc ρ1 Q (p.get ρ1)
theorem ex_stripC {e c : Expr} {te tc : XT} {apos pos : Pos} (he : EX X e te) (hcx : EX X c tc) (hs : starEach [c] X.env = [(false, eval c X.env)] := by rfl) (hbase : attributeBase e "strip" X.env (eval e X.env) = eval e X.env := by rfl) (hline : (apos.endLine == pos.line) = true := by rfl) :
    EX X (.Call (.Attribute e "strip" apos) [c] [] pos) (tStripX te tc) := by
  refine ⟨PE.imp (pe_m1 F.slot_str_strip F.type_str_strip mt_stripChars he.pe hcx.pe hs hbase hline) ?_⟩
  rintro σ H Q ⟨ρ, fp, G, Qa, R, h, fin⟩
  refine ⟨ρ, fp, G, _, R, h, fun v p A H1 ρ1 fp1 R1 r1 x1 h1 => ?_⟩
  unfold strip1K at h1
  split at h1
  · rename_i x e1
    have ev := RP.strE (r1.rw0 R1 e1)
    subst ev
    refine ⟨⟨x, rfl⟩, ρ1, fp1, A ++ G, _, R1, h1, fun u q B H2 ρ2 fp2 R2 r2 x2 h2 => ?_⟩
    unfold strip2K at h2
    split at h2
    · rename_i y e2
      have eu := RP.strE (r2.rw0 R2 e2)
      subst eu
      exact ⟨x, y, rfl, rfl, by rw [sizeLine_eq]; exact h2.1, FinV.str (fin_of (G := G) R2 (fun a m => by simp [m]) (x1.or.trans x2.or) fin) h2.2⟩
    · exact h2.elim
  · exact h1.elim
end
end DL

set_option Elab.async false
set_option linter.all false
set_option maxRecDepth 100000
set_option maxHeartbeats 4000000
/-! plain lemmas about the transformers -/
namespace DL
open PySem PySem.Spec L2
open PyProof.Rows hiding St

theorem isT_str (t : T) : isT "str" t = (match t with | .str _ => true | _ => false) := by cases t <;> rfl
theorem isT_tuple (t : T) : isT "tuple" t = (match t with | .tuple _ => true | _ => false) := by cases t <;> rfl
theorem isT_list (t : T) : isT "list" t = (match t with | .list _ => true | _ => false) := by cases t <;> rfl
theorem isT_dict (t : T) : isT "dict" t = (match t with | .dict _ => true | _ => false) := by cases t <;> rfl
theorem isT_bool (t : T) : isT "bool" t = (match t with | .bool _ => true | _ => false) := by cases t <;> rfl
theorem isT_int (t : T) : isT "int" t = (match t with | .int _ => true | .bool _ => true | _ => false) := by cases t <;> rfl
/-- a comprehension whose items do not change what is held -/
theorem compW_map {g : GT} {tt : BT} {te : XT} {vs : List Nat} {ρ : AEnv} {Q : List T → AEnv → Prop} (f : T → T) : ∀ (ts acc : List T),
    (∀ t ∈ ts, ∀ Q' : List T → AEnv → Prop, ∀ acc' ts', (compW g tt te vs ts' (acc' ++ [f t]) ρ Q') → compW g tt te vs (t :: ts') acc' ρ Q') → Q (acc ++ ts.map f) ρ → compW g tt te vs ts acc ρ Q
  | [], acc, _, q => by simpa [compW] using q
  | t :: ts, acc, h, q => h t List.mem_cons_self Q acc ts (compW_map f ts _ (fun t m => h t (List.mem_cons_of_mem _ m)) (by simpa using q))
theorem boolsOf_map (f : T → Bool) : ∀ ts : List T, boolsOf (ts.map fun t => .bool (f t)) = some (ts.map f)
  | [] => rfl
  | t :: ts => by simp [boolsOf, boolsOf_map f ts]
/-- a comprehension by an invariant; N: how many items there are -/
theorem compW_inv {g : GT} {tt : BT} {te : XT} {vs : List Nat} {Q : List T → AEnv → Prop} (Inv : Nat → List T → AEnv → Prop) (N : Nat) : ∀ (ts : List T) (i : Nat) (acc : List T) (ρ : AEnv), i + ts.length = N →
    (∀ i t acc ρ ts' (Q' : List T → AEnv → Prop), t ∈ ts → i < N → Inv i acc ρ → (∀ acc' ρ', Inv (i + 1) acc' ρ' → compW g tt te vs ts' acc' ρ' Q') → compW g tt te vs (t :: ts') acc ρ Q') →
    Inv i acc ρ → (∀ acc' ρ', Inv N acc' ρ' → Q acc' ρ') → compW g tt te vs ts acc ρ Q
  | [], i, acc, ρ, e, _, h, q => by
    unfold compW
    have : i = N := by simpa using e
    subst this
    exact q _ _ h
  | t :: ts, i, acc, ρ, e, st, h, q => st i t acc ρ ts Q List.mem_cons_self (by simp at e; omega) h fun acc' ρ' h' => compW_inv Inv N ts (i + 1) acc' ρ' (by simp at e; omega) (fun i t acc ρ ts' Q' m => st i t acc ρ ts' Q' (List.mem_cons_of_mem _ m)) h' q
/-- a loop by an invariant -/
theorem forW_inv {g : GT} {tb : ST} {D : AEnds} (Inv : Nat → AEnv → Prop) (N : Nat) : ∀ (ts : List T) (i : Nat) (ρ : AEnv), i + ts.length = N →
    (∀ i t ρ (D' : AEnds), t ∈ ts → i < N → Inv i ρ → (∀ ρ', Inv (i + 1) ρ' → D'.nx ρ') → (∀ ρ', Inv (i + 1) ρ' → D'.ct ρ') → D'.rt = D.rt → D'.bk = D.nx → g t ρ fun ρ1 => tb D' ρ1) →
    Inv i ρ → (∀ ρ', Inv N ρ' → D.nx ρ') → forW g tb D ts ρ
  | [], i, ρ, e, _, h, q => by
    unfold forW
    have : i = N := by simpa using e
    subst this
    exact q _ h
  | t :: ts, i, ρ, e, st, h, q => by
    have nxt : ∀ ρ', Inv (i + 1) ρ' → forW g tb D ts ρ' := fun ρ' h' => forW_inv Inv N ts (i + 1) ρ' (by simp at e; omega) (fun i t ρ D' m => st i t ρ D' (List.mem_cons_of_mem _ m)) h' q
    unfold forW
    exact st i t ρ _ List.mem_cons_self (by simp at e; omega) h nxt nxt rfl rfl
end DL

set_option Elab.async false
set_option linter.all false
set_option maxRecDepth 100000
set_option maxHeartbeats 4000000
/-! trees of bounded size, depth, numbers: what repr can show -/
namespace DL
open PySem PySem.Spec L2
open PyProof.Rows hiding St
mutual
def sz : T → Nat
  | .str x => x.length + 1
  | .list xs => szs xs + 1
  | .tuple xs => szs xs + 1
  | .none => 1
  | .bool _ => 1
  | .int _ => 1
  | .dict _ => 1
def szs : List T → Nat
  | [] => 0
  | x :: xs => sz x + szs xs
end
def asc (x : Str) : Bool := x.cps.toList.all fun c => decide (c < 128)
mutual
def lf (b : Nat) : T → Bool
  | .int i => decide (i.natAbs ≤ b)
  | .str x => asc x
  | .list xs => lfs b xs
  | .tuple xs => lfs b xs
  | .none => true
  | .bool _ => true
  | .dict kvs => kvs.isEmpty
def lfs (b : Nat) : List T → Bool
  | [] => true
  | x :: xs => lf b x && lfs b xs
end
theorem szs_app : ∀ (a b : List T), szs (a ++ b) = szs a + szs b
  | [], b => by simp [szs]
  | x :: a, b => by simp [szs, szs_app a b]; omega
theorem lfs_all {b : Nat} : ∀ {ts : List T}, lfs b ts = true ↔ ∀ t ∈ ts, lf b t = true
  | [] => by simp [lfs]
  | x :: ts => by simp [lfs, lfs_all (ts := ts)]
theorem dep_all {d : Nat} : ∀ {ts : List T}, PyData.depthAll ts ≤ d ↔ ∀ t ∈ ts, t.depth ≤ d
  | [] => by simp [PyData.depthAll]
  | x :: ts => by
    have h := dep_all (d := d) (ts := ts)
    simp only [PyData.depthAll, List.mem_cons, forall_eq_or_imp, ← h]
    omega
theorem sz_mem : ∀ {ts : List T} {t : T}, t ∈ ts → sz t ≤ szs ts
  | x :: ts, t, m => by
    simp only [szs]
    rcases List.mem_cons.mp m with rfl | m
    · omega
    · have := sz_mem m; omega
theorem szs_take (n : Nat) (ts : List T) : szs (ts.take n) ≤ szs ts := by
  have := szs_app (ts.take n) (ts.drop n)
  rw [List.take_append_drop] at this
  omega
theorem szs_drop (n : Nat) (ts : List T) : szs (ts.drop n) ≤ szs ts := by
  have := szs_app (ts.take n) (ts.drop n)
  rw [List.take_append_drop] at this
  omega
theorem szs_rev : ∀ ts : List T, szs ts.reverse = szs ts
  | [] => rfl
  | x :: ts => by rw [List.reverse_cons, szs_app, szs_rev ts]; simp [szs]; omega
theorem szs_len {k : Nat} : ∀ {ts : List T}, (∀ t ∈ ts, sz t ≤ k) → szs ts ≤ ts.length * k
  | [], _ => by simp [szs]
  | x :: ts, h => by
    have h1 := h x List.mem_cons_self
    have h2 := szs_len (k := k) (ts := ts) fun t m => h t (List.mem_cons_of_mem _ m)
    simp only [szs, List.length_cons, Nat.add_mul, Nat.one_mul]
    omega
theorem len_szs : ∀ {ts : List T}, ts.length ≤ szs ts
  | [] => by simp
  | x :: ts => by
    have := len_szs (ts := ts)
    have h : 1 ≤ sz x := by cases x <;> simp [sz]
    simp only [szs, List.length_cons]
    omega
/-- a tree within bounds -/
structure Gd (w d b : Nat) (t : T) : Prop where
  w : sz t ≤ w
  d : t.depth ≤ d
  l : lf b t = true
structure Gds (w d b : Nat) (ts : List T) : Prop where
  w : szs ts ≤ w
  d : ∀ t ∈ ts, t.depth ≤ d
  l : ∀ t ∈ ts, lf b t = true
section
variable {w w' d d' b b' : Nat} {t u : T} {ts us : List T}
mutual
theorem lf_mono (h : b ≤ b') : ∀ t : T, lf b t = true → lf b' t = true
  | .int i, e => by simp only [lf, decide_eq_true_eq] at e ⊢; omega
  | .str x, e => by simpa only [lf] using e
  | .list xs, e => by simp only [lf] at e ⊢; exact lfs_mono h xs e
  | .tuple xs, e => by simp only [lf] at e ⊢; exact lfs_mono h xs e
  | .none, _ => by simp only [lf]
  | .bool _, _ => by simp only [lf]
  | .dict kvs, e => by simpa only [lf] using e
theorem lfs_mono (h : b ≤ b') : ∀ ts : List T, lfs b ts = true → lfs b' ts = true
  | [], _ => by simp only [lfs]
  | x :: xs, e => by
    simp only [lfs, Bool.and_eq_true] at e ⊢
    exact ⟨lf_mono h x e.1, lfs_mono h xs e.2⟩
end
theorem Gd.mono (g : Gd w d b t) (h1 : w ≤ w') (h2 : d ≤ d') (h3 : b ≤ b') : Gd w' d' b' t := ⟨Nat.le_trans g.w h1, Nat.le_trans g.d h2, lf_mono h3 _ g.l⟩
theorem Gds.mono (g : Gds w d b ts) (h1 : w ≤ w') (h2 : d ≤ d') (h3 : b ≤ b') : Gds w' d' b' ts := ⟨Nat.le_trans g.w h1, fun t m => Nat.le_trans (g.d t m) h2, fun t m => lf_mono h3 _ (g.l t m)⟩
theorem Gds.nil : Gds 0 0 0 [] := ⟨by simp [szs], by simp, by simp⟩
theorem Gds.nil' : Gds w d b [] := ⟨by simp [szs], by simp, by simp⟩
theorem Gds.cons (g : Gd w d b t) (h : Gds w' d b ts) : Gds (w + w') d b (t :: ts) :=
  ⟨by simp only [szs]; have := g.w; have := h.w; omega, by simpa using ⟨g.d, h.d⟩, by simpa using ⟨g.l, h.l⟩⟩
theorem Gds.app (g : Gds w d b ts) (h : Gds w' d b us) : Gds (w + w') d b (ts ++ us) :=
  ⟨by rw [szs_app]; have := g.w; have := h.w; omega, fun t m => (List.mem_append.mp m).elim (g.d t) (h.d t), fun t m => (List.mem_append.mp m).elim (g.l t) (h.l t)⟩
theorem Gds.sub (g : Gds w d b ts) (h1 : szs us ≤ szs ts) (h2 : ∀ t ∈ us, t ∈ ts) : Gds w d b us := ⟨Nat.le_trans h1 g.w, fun t m => g.d t (h2 t m), fun t m => g.l t (h2 t m)⟩
theorem Gds.take (g : Gds w d b ts) (n : Nat) : Gds w d b (ts.take n) := g.sub (szs_take n ts) fun _ m => List.mem_of_mem_take m
theorem Gds.drop (g : Gds w d b ts) (n : Nat) : Gds w d b (ts.drop n) := g.sub (szs_drop n ts) fun _ m => List.mem_of_mem_drop m
theorem Gds.rev (g : Gds w d b ts) : Gds w d b ts.reverse := g.sub (by rw [szs_rev]; exact Nat.le_refl _) fun _ m => List.mem_reverse.mp m
theorem Gds.cut (g : Gds w d b ts) (lo hi : Option Int) : Gds w d b (cutT ts lo hi) := (g.drop _).take _
theorem Gds.mem (g : Gds w d b ts) (m : t ∈ ts) : Gd w d b t := ⟨Nat.le_trans (sz_mem m) g.w, g.d t m, g.l t m⟩
theorem Gds.one (g : Gd w d b t) : Gds w d b [t] := ⟨by simp only [szs]; exact g.w, by simpa using g.d, by simpa using g.l⟩
theorem Gds.len (g : Gds w d b ts) : ts.length ≤ w := Nat.le_trans len_szs g.w
theorem Gd.tup (g : Gds w d b ts) : Gd (w + 1) (d + 1) b (.tuple ts) := ⟨by simp only [sz]; have := g.w; omega, by simp only [PyData.depth]; have := dep_all.mpr g.d; omega, by simp only [lf]; exact lfs_all.mpr g.l⟩
theorem Gd.lst (g : Gds w d b ts) : Gd (w + 1) (d + 1) b (.list ts) := ⟨by simp only [sz]; have := g.w; omega, by simp only [PyData.depth]; have := dep_all.mpr g.d; omega, by simp only [lf]; exact lfs_all.mpr g.l⟩
theorem Gd.tupE (g : Gd w d b (.tuple ts)) : Gds (w - 1) (d - 1) b ts := by
  obtain ⟨h1, h2, h3⟩ := g
  simp only [sz, PyData.depth, lf] at h1 h2 h3
  exact ⟨by omega, dep_all.mp (by omega), lfs_all.mp h3⟩
theorem Gd.tupW (g : Gd w d b (.tuple ts)) : 1 ≤ w ∧ 1 ≤ d := by
  obtain ⟨h1, h2, h3⟩ := g
  simp only [sz, PyData.depth] at h1 h2
  omega
theorem Gd.str {x : Str} (h : x.length < w) (a : asc x = true) : Gd w d b (.str x) := ⟨by simp only [sz]; omega, by simp [PyData.depth], by simpa only [lf] using a⟩
theorem Gd.strE {x : Str} (g : Gd w d b (.str x)) : x.length < w ∧ asc x = true := ⟨by have := g.w; simp only [sz] at this; omega, by simpa only [lf] using g.l⟩
theorem Gd.int {i : Int} (h : i.natAbs ≤ b) : Gd 1 d b (.int i) := ⟨by simp [sz], by simp [PyData.depth], by simpa [lf] using h⟩
theorem Gd.intE {i : Int} (g : Gd w d b (.int i)) : i.natAbs ≤ b := by simpa only [lf, decide_eq_true_eq] using g.l
theorem Gd.bool {c : Bool} : Gd 1 d b (.bool c) := ⟨by simp [sz], by simp [PyData.depth], by simp [lf]⟩
theorem Gd.none : Gd 1 d b .none := ⟨by simp [sz], by simp [PyData.depth], by simp [lf]⟩
end
theorem asc_app {x y : Str} (h : asc x = true) (k : asc y = true) : asc (x ++ y) = true := by
  unfold asc at *
  rw [PySem.Str.cps_append, Array.toList_append, List.all_append, h, k]; rfl
theorem asc_cut {x : Str} (h : asc x = true) (lo hi : Option Int) : asc (cutS x lo hi) = true ∧ (cutS x lo hi).length ≤ x.length := by
  unfold asc cutS at *
  constructor
  · rw [List.all_eq_true] at h ⊢
    exact fun c m => h c (List.mem_of_mem_drop (List.mem_of_mem_take (by simpa using m)))
  · show ((List.take _ (List.drop _ x.cps.toList)).toArray).size ≤ x.cps.size
    simp only [List.size_toArray, List.length_take, List.length_drop, Array.length_toList]
    omega
theorem asc_one {c : Nat} (h : c < 128) : asc ⟨#[c]⟩ = true := by simp [asc, h]
theorem asc_int (i : Int) : asc (toString i) = true := by
  unfold asc
  rw [List.all_eq_true]
  intro c m
  have h := int_ascii i
  rw [PySem.Str.ofString_eq_toList] at m
  simp only [List.mem_map] at m
  obtain ⟨d, m, rfl⟩ := m
  exact decide_eq_true (h d m)
theorem asc_upperL : ∀ l : List Nat, (∀ c ∈ l, c < 128) → asc (Txt.upper ⟨l.toArray⟩) = true ∧ (Txt.upper ⟨l.toArray⟩).length = l.length
  | [], _ => by decide +kernel
  | c :: l, h => by
    have e : (⟨(c :: l).toArray⟩ : Str) = ⟨#[c]⟩ ++ ⟨l.toArray⟩ := PySem.Str.ext' (by rw [PySem.Str.cps_append]; simp)
    have hc := h c List.mem_cons_self
    obtain ⟨h1, h2⟩ := asc_upperL l fun d m => h d (List.mem_cons_of_mem _ m)
    rw [e, PySem.W.KOpn.upper_app, PySem.W.KOpn.upper_one hc]
    refine ⟨asc_app (asc_one (by split <;> omega)) h1, ?_⟩
    rw [strLen_append, h2]
    show 1 + l.length = _
    simp; omega
theorem asc_upper {x : Str} (h : asc x = true) : asc (Txt.upper x) = true ∧ (Txt.upper x).length = x.length := by
  have := asc_upperL x.cps.toList fun c m => of_decide_eq_true (List.all_eq_true.mp h c m)
  simpa [PySem.Str.length] using this
mutual
theorem shown_sz {b : Nat} (hb : b < 10 ^ 30) : ∀ t : T, lf b t = true → t.shown.length + 2 ≤ 40 * sz t
  | .int i, e => by
    simp only [lf, decide_eq_true_eq] at e
    have h : i.natAbs < 10 ^ 30 := by omega
    have h2 : (Str.ofString (toString i)).length ≤ 31 := by
      have := int_text_length_le10 (k := 30) (by decide) h
      rw [PySem.ofString_length]
      omega
    have e2 : (PyData.shown (.int i)) = Str.ofString (toString i) := by simp only [PyData.shown]
    rw [e2]
    simp only [sz]
    omega
  | .str x, e => by
    simp only [lf] at e
    have h : ∀ c ∈ x.cps.toList, c < 16 ^ 8 := fun c m => Nat.lt_trans (of_decide_eq_true (List.all_eq_true.mp e c m)) (by decide)
    have h2 := StrLaws.reprText_len x h
    simp only [PyData.shown, sz]
    omega
  | .list xs, e => by
    simp only [lf] at e
    have h1 := shown_szs hb xs e
    have h2 := listText_len_le (PyData.shownAll xs)
    simp only [PyData.shown, sz]
    omega
  | .tuple xs, e => by
    simp only [lf] at e
    have h1 := shown_szs hb xs e
    have h2 := tupleText_len_le (PyData.shownAll xs)
    simp only [PyData.shown, sz]
    omega
  | .none, _ => by
    have e : (PyData.shown .none).length = 4 := rfl
    simp only [sz]; omega
  | .bool c, _ => by
    have e : (PyData.shown (.bool c)).length ≤ 5 := by cases c <;> decide
    simp only [sz]; omega
  | .dict kvs, e => by
    simp only [lf, List.isEmpty_iff] at e
    subst e
    have h2 := dictText_len_le []
    simp only [PyData.shown, PyData.shownKv, sz]
    simp at h2
    omega
theorem shown_szs {b : Nat} (hb : b < 10 ^ 30) : ∀ xs : List T, lfs b xs = true → ((PyData.shownAll xs).map (·.length)).sum + 2 * (PyData.shownAll xs).length ≤ 40 * szs xs
  | [], _ => by simp [PyData.shownAll, szs]
  | x :: xs, e => by
    simp only [lfs, Bool.and_eq_true] at e
    have h1 := shown_sz hb x e.1
    have h2 := shown_szs hb xs e.2
    simp only [PyData.shownAll, szs, List.map_cons, List.sum_cons, List.length_cons]
    omega
end
mutual
theorem lf_showable {b : Nat} (hb : b < 10 ^ 30) : ∀ t : T, lf b t = true → t.showable = true
  | .int i, e => by
    simp only [lf, decide_eq_true_eq] at e
    simp only [PyData.showable, decide_eq_true_eq]
    have : i.natAbs < 2 ^ 100 := Nat.lt_of_le_of_lt e (Nat.lt_trans hb (by decide))
    exact Nat.lt_trans (PySem.Flt.log2_lt_of (by decide) this) (by decide)
  | .str x, e => by simp only [PyData.showable]
  | .list xs, e => by simp only [PyData.showable]; exact lfs_showable hb xs (by simpa only [lf] using e)
  | .tuple xs, e => by simp only [PyData.showable]; exact lfs_showable hb xs (by simpa only [lf] using e)
  | .none, _ => by simp only [PyData.showable]
  | .bool c, _ => by simp only [PyData.showable]
  | .dict kvs, e => by
    simp only [lf, List.isEmpty_iff] at e
    subst e
    simp only [PyData.showable, PyData.showableKv]
theorem lfs_showable {b : Nat} (hb : b < 10 ^ 30) : ∀ xs : List T, lfs b xs = true → PyData.showableAll xs = true
  | [], _ => by simp only [PyData.showableAll]
  | x :: xs, e => by
    simp only [lfs, Bool.and_eq_true] at e
    simp only [PyData.showableAll, lf_showable hb x e.1, lfs_showable hb xs e.2, Bool.and_self]
end
theorem dep_app : ∀ (a b : List T), PyData.depthAll (a ++ b) = max (PyData.depthAll a) (PyData.depthAll b)
  | [], b => by simp [PyData.depthAll]
  | x :: a, b => by simp only [List.cons_append, PyData.depthAll, dep_app a b]; omega
theorem dep_rev : ∀ a : List T, PyData.depthAll a.reverse = PyData.depthAll a
  | [] => rfl
  | x :: a => by rw [List.reverse_cons, dep_app, dep_rev a]; simp only [PyData.depthAll]; omega
theorem lfs_app {b : Nat} : ∀ (x y : List T), lfs b (x ++ y) = (lfs b x && lfs b y)
  | [], y => by simp [lfs]
  | z :: x, y => by simp only [List.cons_append, lfs, lfs_app x y, Bool.and_assoc]
theorem lfs_rev {b : Nat} : ∀ a : List T, lfs b a.reverse = lfs b a
  | [] => rfl
  | x :: a => by rw [List.reverse_cons, lfs_app, lfs_rev a]; simp only [lfs, Bool.and_true]; exact Bool.and_comm ..
theorem szs_cut (ts : List T) (lo hi : Option Int) : szs (cutT ts lo hi) ≤ szs ts := Nat.le_trans (szs_take _ _) (szs_drop _ _)
theorem dep_cut (ts : List T) (lo hi : Option Int) : PyData.depthAll (cutT ts lo hi) ≤ PyData.depthAll ts :=
  dep_all.mpr fun t m => dep_all.mp (Nat.le_refl _) t (List.mem_of_mem_drop (List.mem_of_mem_take m))
theorem lfs_cut {b : Nat} {ts : List T} (h : lfs b ts = true) (lo hi : Option Int) : lfs b (cutT ts lo hi) = true :=
  lfs_all.mpr fun t m => lfs_all.mp h t (List.mem_of_mem_drop (List.mem_of_mem_take m))
end DL

set_option Elab.async false
set_option linter.all false
set_option maxRecDepth 100000
set_option maxHeartbeats 4000000
/-! the transformers, said so that simp does not open what is not known yet -/
namespace DL
open PySem PySem.Spec L2
open PyProof.Rows hiding St
section
variable {ρ : AEnv} {j i : Nat} {p q : Opd} {ps : List Opd} {o : O} {P : Nat → Bool} {fl : List Bool}
def nameK (j : Nat) (ρ : AEnv) (Q : Opd → AEnv → Prop) : Option (Option O) → Prop
  | some (some (.pure t)) => Q (.val (.pure t)) ρ
  | some (some (.lst ts)) => Q (.slot j) ρ
  | some (some (.dct k)) => Q (.slot j) ρ
  | some (some (.dcl k)) => Q (.slot j) ρ
  | some none => False
  | none => False
theorem tName_k {Q : Opd → AEnv → Prop} : tName j ρ Q = nameK j ρ Q ρ[j]? := by
  unfold tName
  rcases ρ[j]? with _ | _ | o
  · rfl
  · rfl
  · cases o <;> rfl
def atK (Q : O → Prop) : Option (Option O) → Prop
  | some (some o) => Q o
  | some none => False
  | none => False
theorem take1_v {Q : T → AEnv → Prop} : take1 (.val o) ρ Q = Q o.frz ρ := rfl
theorem take1_s {Q : T → AEnv → Prop} : take1 (.slot j) ρ Q = atK (fun o => Q o.frz (ρ.set j (some (.pure o.frz)))) ρ[j]? := by
  rw [take1]
  rcases ρ[j]? with _ | _ | o <;> rfl
theorem takeO_v {Q : O → AEnv → Prop} : takeO (.val o) ρ Q = Q o ρ := rfl
theorem takeO_s {Q : O → AEnv → Prop} : takeO (.slot j) ρ Q = atK (fun o => Q (.pure o.frz) (ρ.set j (some (.pure o.frz)))) ρ[j]? := by
  rw [takeO]
  rcases ρ[j]? with _ | _ | o <;> rfl
theorem takeR_v {Q : O → AEnv → Prop} : takeR P (.val o) ρ Q = Q o ρ := rfl
theorem takeR_s {Q : O → AEnv → Prop} : takeR P (.slot j) ρ Q = atK (fun o => if P j = true then Q (.pure o.frz) (ρ.set j (some (.pure o.frz))) else Q o (ρ.set j none)) ρ[j]? := by
  rw [takeR]
  rcases ρ[j]? with _ | _ | o <;> rfl
theorem prep_n {Q : List O → List (Option Nat) → AEnv → Prop} : prep [] [] ρ Q = Q [] [] ρ := rfl
theorem prep_tv {Q : List O → List (Option Nat) → AEnv → Prop} : prep (true :: fl) (.val o :: ps) ρ Q = prep fl ps ρ fun os js ρ' => Q (o :: os) (none :: js) ρ' := rfl
theorem prep_ts {Q : List O → List (Option Nat) → AEnv → Prop} : prep (true :: fl) (.slot j :: ps) ρ Q = atK (fun o => prep fl ps (ρ.set j none) fun os js ρ' => Q (o :: os) (some j :: js) ρ') ρ[j]? := by
  rw [prep]
  rcases ρ[j]? with _ | _ | o <;> rfl
theorem prep_f {Q : List O → List (Option Nat) → AEnv → Prop} : prep (false :: fl) (p :: ps) ρ Q = take1 p ρ fun t ρ1 => prep fl ps ρ1 fun os js ρ' => Q (.pure t :: os) js ρ' := by
  rw [prep]
def lstK (Q : List T → Prop) : Option (Option O) → Prop
  | some (some (.lst ts)) => Q ts
  | some (some (.pure t)) => False
  | some (some (.dct k)) => False
  | some (some (.dcl k)) => False
  | some none => False
  | none => False
theorem lstAt_k {Q : List T → Prop} : lstAt ρ j Q = lstK Q ρ[j]? := by
  unfold lstAt
  rcases ρ[j]? with _ | _ | o
  · rfl
  · rfl
  · cases o <;> rfl
def g2K (g : G2) (Q : O → Prop) : Option O → Option O → Prop
  | some x, some y => g x y Q
  | none, _ => False
  | some _, none => False
theorem g2_k {g : G2} {Q : O → Prop} : g2 g ρ p q Q = g2K g Q (p.get ρ) (q.get ρ) := by
  unfold g2
  rcases p.get ρ with _ | x
  · rfl
  · rcases q.get ρ with _ | y <;> rfl
def g1K (g : G1) (Q : O → Prop) : Option O → Prop
  | some x => g x Q
  | none => False
theorem g1_k {g : G1} {Q : O → Prop} : g1 g ρ p Q = g1K g Q (p.get ρ) := by
  unfold g1
  rcases p.get ρ with _ | x <;> rfl
def gNK (g : GN) (Q : O → Prop) : Option (List O) → Prop
  | some x => g x Q
  | none => False
theorem gN_k {g : GN} {Q : O → Prop} : gN g ρ ps Q = gNK g Q (getAll ρ ps) := by
  unfold gN
  rcases getAll ρ ps with _ | x <;> rfl
def boK (Q : Bool → Prop) : Option O → Prop
  | some (.pure (.bool b)) => Q b
  | _ => False
theorem bOf_k {Q : Bool → Prop} : bOf ρ p Q = boK Q (p.get ρ) := by
  unfold bOf
  rcases p.get ρ with _ | x
  · rfl
  · cases x with
    | pure t => cases t <;> rfl
    | _ => rfl
def isiK (n : String) (ρ : AEnv) (Q : Opd → AEnv → Prop) : Option O → Prop
  | some o => Q (.val (.pure (.bool (isT n o.frz)))) ρ
  | none => False
theorem tIsi_k {n : String} {te : XT} {Q : Opd → AEnv → Prop} : tIsi n te ρ Q = te ρ fun p ρ1 => isiK n ρ1 Q (p.get ρ1) := by
  unfold tIsi
  refine congrArg _ (funext fun p => funext fun ρ1 => ?_)
  rcases p.get ρ1 with _ | x <;> rfl
def partK (ρ : AEnv) (Q : Option Int → AEnv → Prop) : Option O → Prop
  | some (.pure (.int i)) => Q (some i) ρ
  | _ => False
theorem part_n {Q : Option Int → AEnv → Prop} : partT none ρ Q = Q none ρ := rfl
theorem part_s {t : XT} {Q : Option Int → AEnv → Prop} : partT (some t) ρ Q = t ρ fun p ρ1 => partK ρ1 Q (p.get ρ1) := by
  rw [partT]
  refine congrArg _ (funext fun p => funext fun ρ1 => ?_)
  rcases p.get ρ1 with _ | x
  · rfl
  · cases x with
    | pure t => cases t <;> rfl
    | _ => rfl
def slcK (lo hi : Option Int) (ρ : AEnv) (Q : Opd → AEnv → Prop) : Option O → Prop
  | some (.pure (.str z)) => z.length ≤ 16777216 ∧ Q (.val (.pure (.str (cutS z lo hi)))) ρ
  | some (.pure (.tuple ts)) => Q (.val (.pure (.tuple (cutT ts lo hi)))) ρ
  | some (.lst ts) => Q (.val (.lst (cutT ts lo hi))) ρ
  | some (.pure (.list ts)) => Q (.val (.lst (cutT ts lo hi))) ρ
  | _ => False
theorem tSlc_k {te : XT} {tl th : Option XT} {Q : Opd → AEnv → Prop} : tSlc te tl th ρ Q = te ρ fun p ρ1 => partT tl ρ1 fun lo ρ2 => partT th ρ2 fun hi ρ3 => slcK lo hi ρ3 Q (p.get ρ3) := by
  unfold tSlc
  refine congrArg _ (funext fun p => funext fun ρ1 => ?_)
  refine congrArg _ (funext fun lo => funext fun ρ2 => ?_)
  refine congrArg _ (funext fun hi => funext fun ρ3 => ?_)
  rcases p.get ρ3 with _ | x
  · rfl
  · cases x with
    | pure t => cases t <;> rfl
    | _ => rfl
def revK (ρ : AEnv) (Q : Opd → AEnv → Prop) : Option O → Prop
  | some (.pure (.tuple ts)) => Q (.val (.pure (.tuple ts.reverse))) ρ
  | some (.lst ts) => Q (.val (.lst ts.reverse)) ρ
  | some (.pure (.list ts)) => Q (.val (.lst ts.reverse)) ρ
  | _ => False
theorem tRev_k {te : XT} {Q : Opd → AEnv → Prop} : tRev te ρ Q = te ρ fun p ρ1 => revK ρ1 Q (p.get ρ1) := by
  unfold tRev
  refine congrArg _ (funext fun p => funext fun ρ1 => ?_)
  rcases p.get ρ1 with _ | x
  · rfl
  · cases x with
    | pure t => cases t <;> rfl
    | _ => rfl
def strMK (f : Str → Str) (C : Str → Prop) (ρ : AEnv) (Q : Opd → AEnv → Prop) : Option O → Prop
  | some (.pure (.str z)) => C z ∧ Q (.val (.pure (.str (f z)))) ρ
  | _ => False
theorem tStrM_k {f : Str → Str} {C : Str → Prop} {te : XT} {Q : Opd → AEnv → Prop} : tStrM f C te ρ Q = te ρ fun p ρ1 => strMK f C ρ1 Q (p.get ρ1) := by
  unfold tStrM
  refine congrArg _ (funext fun p => funext fun ρ1 => ?_)
  rcases p.get ρ1 with _ | x
  · rfl
  · cases x with
    | pure t => cases t <;> rfl
    | _ => rfl
def itK (Q : List T → Prop) : Option (List T) → Prop
  | some ts => Q ts
  | none => False
theorem tIter_k {te : XT} {Q : List T → AEnv → Prop} : tIter te ρ Q = te ρ fun p ρ1 => take1 p ρ1 fun t ρ2 => itK (fun ts => Q ts ρ2) (itemsOf t) := by
  unfold tIter
  refine congrArg _ (funext fun p => funext fun ρ1 => ?_)
  refine congrArg _ (funext fun t => funext fun ρ2 => ?_)
  rcases itemsOf t with _ | x <;> rfl
def enumK (Q : List T → Prop) : List T → Prop
  | [t] => itK (fun ts => Q (enumItems ts)) (itemsOf t)
  | _ => False
theorem tEnum_k {ts : XTs} {Q : List T → AEnv → Prop} : tEnum ts ρ Q = ts ρ fun ps ρ1 => takeAll ps ρ1 fun ts ρ2 => enumK (fun ts => Q ts ρ2) ts := by
  unfold tEnum
  refine congrArg _ (funext fun p => funext fun ρ1 => ?_)
  refine congrArg _ (funext fun t => funext fun ρ2 => ?_)
  match t with
  | [] => rfl
  | [t] =>
    show (match itemsOf t with
      | some ts => Q (enumItems ts) ρ2
      | none => False) = itK _ (itemsOf t)
    rcases itemsOf t with _ | x <;> rfl
  | _ :: _ :: _ => rfl
def zipK (Q : List T → Prop) : List T → Prop
  | [.list ts, .list us] => Q (zipItems ts us)
  | [.tuple ts, .tuple us] => Q (zipItems ts us)
  | _ => False
theorem tZip_k {ts : XTs} {Q : List T → AEnv → Prop} : tZip ts ρ Q = ts ρ fun ps ρ1 => takeAll ps ρ1 fun ts ρ2 => zipK (fun ts => Q ts ρ2) ts := by
  unfold tZip
  refine congrArg _ (funext fun p => funext fun ρ1 => ?_)
  refine congrArg _ (funext fun t => funext fun ρ2 => ?_)
  unfold zipK
  split <;> simp_all
def intsK (Q : List Int → Prop) : Option (List O) → Prop
  | some [.pure (.int i)] => Q [i]
  | some [.pure (.int i), .pure (.int j)] => Q [i, j]
  | _ => False
theorem intsOf_k {Q : List Int → Prop} : intsOf ρ ps Q = intsK Q (getAll ρ ps) := by
  unfold intsOf intsK
  split <;> simp_all
def endK (Q : List O → Prop) : Option (List O) → Prop
  | some os => Q os
  | none => False
theorem endO_k {Q : List O → Prop} : endO fl ρ Q = endK Q (outsOf fl 0 ρ) := by
  unfold endO
  rcases outsOf fl 0 ρ with _ | x <;> rfl
def extK (j : Nat) (ρ : AEnv) (Q : Opd → AEnv → Prop) : Option O → Prop
  | some (.lst us) => lstK (fun ts => ts.length + us.length ≤ 16777216 ∧ Q (.val (.pure .none)) (ρ.set j (some (.lst (ts ++ us))))) ρ[j]?
  | _ => False
theorem tExtend_k {te : XT} {Q : Opd → AEnv → Prop} : tExtend j te ρ Q = lstK (fun _ => te ρ fun p ρ1 => extK j ρ1 Q (p.get ρ1)) ρ[j]? := by
  unfold tExtend
  rw [lstAt_k]
  refine congrArg (lstK · _) (funext fun _ => ?_)
  refine congrArg _ (funext fun p => funext fun ρ1 => ?_)
  rcases p.get ρ1 with _ | x
  · rfl
  · cases x with
    | lst t => show lstAt _ _ _ = lstK _ _; rw [lstAt_k]
    | _ => rfl
theorem tAppend_k {te : XT} {Q : Opd → AEnv → Prop} : tAppend j te ρ Q = lstK (fun _ => te ρ fun p ρ1 => take1 p ρ1 fun y ρ2 => lstK (fun ts => ts.length < 16777216 ∧ Q (.val (.pure .none)) (ρ2.set j (some (.lst (ts ++ [y]))))) ρ2[j]?) ρ[j]? := by
  unfold tAppend
  rw [lstAt_k]
  refine congrArg (lstK · _) (funext fun _ => ?_)
  refine congrArg _ (funext fun p => funext fun ρ1 => ?_)
  refine congrArg _ (funext fun y => funext fun ρ2 => ?_)
  rw [lstAt_k]
def setIxK (j : Nat) (y : T) (ρ : AEnv) (D : AEnds) : Option O → Prop
  | some (.pure (.int k)) => lstK (fun ts => match ixN ts.length k with
    | some m => D.nx (ρ.set j (some (.lst (ts.set m y))))
    | none => False) ρ[j]?
  | _ => False
theorem sSetIx_k {te ti : XT} {D : AEnds} : sSetIx j te ti D ρ = te ρ fun p ρ1 => take1 p ρ1 fun y ρ2 => lstK (fun _ => ti ρ2 fun q ρ3 => setIxK j y ρ3 D (q.get ρ3)) ρ2[j]? := by
  unfold sSetIx
  refine congrArg _ (funext fun p => funext fun ρ1 => ?_)
  refine congrArg _ (funext fun y => funext fun ρ2 => ?_)
  rw [lstAt_k]
  refine congrArg (lstK · _) (funext fun _ => ?_)
  refine congrArg _ (funext fun q => funext fun ρ3 => ?_)
  rcases q.get ρ3 with _ | x
  · rfl
  · cases x with
    | pure t =>
      cases t with
      | int k => show lstAt _ _ _ = lstK _ _; rw [lstAt_k] <;> rfl
      | _ => rfl
    | _ => rfl
def popAtK (j : Nat) (ρ : AEnv) (Q : Opd → AEnv → Prop) : Option O → Prop
  | some (.pure (.int i)) => lstK (fun ts => match ixN ts.length i with
    | some k => match ts[k]? with
      | some y => Q (.val (.pure y)) (ρ.set j (some (.lst (ts.eraseIdx k))))
      | none => False
    | none => False) ρ[j]?
  | _ => False
theorem tPopAt_k {te : XT} {Q : Opd → AEnv → Prop} : tPopAt j te ρ Q = lstK (fun _ => te ρ fun p ρ1 => popAtK j ρ1 Q (p.get ρ1)) ρ[j]? := by
  unfold tPopAt
  rw [lstAt_k]
  refine congrArg (lstK · _) (funext fun _ => ?_)
  refine congrArg _ (funext fun q => funext fun ρ3 => ?_)
  rcases q.get ρ3 with _ | x
  · rfl
  · cases x with
    | pure t =>
      cases t with
      | int k => show lstAt _ _ _ = lstK _ _; rw [lstAt_k] <;> rfl
      | _ => rfl
    | _ => rfl
theorem at_join {j : Nat} {ρ : AEnv} : ρ.at j = Option.join ρ[j]? := by
  unfold AEnv.at
  rcases ρ[j]? with _ | _ | o <;> rfl
theorem join_some {α : Type} {x : Option α} : Option.join (some x) = x := rfl
theorem back_nil {os : List O} {ρ : AEnv} : back [] os ρ = ρ := by
  cases os <;> rfl
theorem seqO_l {ts : List T} : seqO (.lst ts) = some ts := rfl
theorem seqO_p {ts : List T} : seqO (.pure (.list ts)) = some ts := rfl
theorem seqO_t {ts : List T} : seqO (.pure (.tuple ts)) = some ts := rfl
theorem at_some {x : Option O} {j : Nat} {ρ : AEnv} (h : ρ[j]? = some x) : ρ.at j = x := by
  unfold AEnv.at
  rw [h]
  cases x <;> rfl
end
theorem ati0 {α : Type} {a : α} {l : List α} : atI (a :: l) 0 = some a := by simp [atI, ixN]
theorem ati1 {α : Type} {a b : α} {l : List α} : atI (a :: b :: l) 1 = some b := by
  unfold atI ixN
  rw [if_pos (by omega), if_pos (by simp; omega)]
  rfl
theorem ati2 {α : Type} {a b c : α} {l : List α} : atI (a :: b :: c :: l) 2 = some c := by
  unfold atI ixN
  rw [if_pos (by omega), if_pos (by simp; omega)]
  rfl
/-! ### slices -/
theorem cut_take {ts : List T} {i : Int} (h : 0 ≤ i) : cutT ts none (some i) = ts.take i.toNat := by
  unfold cutT
  have e : HT.sIx ts.length ts.length (some i) = min i.toNat ts.length := by
    show (if i < 0 then _ else _) = _
    rw [if_neg (by omega)]
  rw [e, HT.sIx_none, Nat.sub_zero, List.drop_zero]
  by_cases g : i.toNat ≤ ts.length
  · rw [Nat.min_eq_left g]
  · rw [Nat.min_eq_right (by omega), List.take_length, List.take_of_length_le (by omega)]
theorem cut_drop {ts : List T} {i : Int} (h : 0 ≤ i) : cutT ts (some i) none = ts.drop i.toNat := by
  unfold cutT
  have e : HT.sIx ts.length 0 (some i) = min i.toNat ts.length := by
    show (if i < 0 then _ else _) = _
    rw [if_neg (by omega)]
  rw [e, HT.sIx_none]
  have e2 : ts.drop (min i.toNat ts.length) = ts.drop i.toNat := by
    by_cases g : i.toNat ≤ ts.length
    · rw [Nat.min_eq_left g]
    · rw [Nat.min_eq_right (by omega), List.drop_length, List.drop_of_length_le (by omega)]
  rw [e2]
  exact List.take_of_length_le (by rw [List.length_drop]; omega)
theorem cut_len {ts : List T} {lo hi : Option Int} : (cutT ts lo hi).length ≤ ts.length := by
  unfold cutT; simp only [List.length_take, List.length_drop]; omega
theorem at_nn {α : Type} {ts : List α} {i : Int} {t : α} (h : 0 ≤ i) (e : atI ts i = some t) : ts[i.toNat]? = some t := by
  unfold atI ixN at e
  rw [if_pos h] at e
  split at e
  · exact e
  · cases e
theorem at_split : ∀ {ts : List T} {i : Nat} {t : T}, ts[i]? = some t → szs (ts.take i) + sz t + szs (ts.drop (i + 1)) = szs ts
  | [], _, _, h => by simp at h
  | x :: ts, 0, t, h => by simp at h; subst h; simp [szs]
  | x :: ts, i + 1, t, h => by
    have := at_split (ts := ts) (i := i) (t := t) (by simpa using h)
    simp only [List.take_succ_cons, List.drop_succ_cons, szs]
    omega
end DL
namespace DL
open PySem PySem.Spec L2
open PyProof.Rows hiding St
theorem rps_ints {K : PySem.W.Frag} {H : Hp} {F : Addr → Prop} : ∀ ns : List Int, RPs K H F (ns.map V.int) (ns.map PyData.int)
  | [] => .nil
  | i :: ns => .cons (RP.int i) (rps_ints ns)
/-- the script as the law's argument -/
theorem asp_ints {K : PySem.W.Frag} {H : Hp} {a : Addr} {ns : List Int} {spec : FSpec} {Q : VK} {E : XK} (hS : SqL K H a (ns.map V.int)) (h : spec [.pure (.list (ns.map PyData.int))] fun o outs => o = .pure (.bool true)) (q : ∀ H', Q (.bl true) H') : ASp K [false] spec [.ref a] H Q E := by
  refine ⟨[.pure (.list (ns.map PyData.int))], fun _ => [], [], _, rfl, ?_, fun _ _ => rfl, h, fun v o A outs H' fp' R _ r _ _ _ _ e => ?_⟩
  · have nF : ∀ a, ¬ Or1 (Fo fun _ => []) [] a := fun a z => by
      rcases z with ⟨i, m⟩ | m
      · cases m
      · cases m
    refine ⟨fun i o e => ?_, fun _ _ => rfl, fun i j a m => (nomatch m), fun _ => List.nodup_nil, fun a m => (nomatch m), fun a m => (nomatch m), rfl⟩
    match i, e with
    | 0, e =>
      cases e
      refine ⟨.ref a, rfl, rfl, ?_⟩
      rcases hS with hS | ⟨o, its, n, h1, h2, h3, h4, h5, h6⟩
      · exact RP.lst hS (rps_ints ns) (nF a)
      · obtain ⟨as, r, m⟩ := (rps_ints (K := K) (H := H) (F := Or1 (Fo fun _ => []) []) ns).rvs
        exact ⟨as, .lstK h1 h2 h3 h4 h5 h6 r, m⟩
    | i + 1, e => simp at e
  · subst e
    obtain rfl := RP.boolE r.2
    exact q _
end DL

set_option Elab.async false
set_option linter.all false
set_option maxRecDepth 100000
set_option maxHeartbeats 4000000
namespace WS
open PySem PySem.Spec L2 DL
open PyProof.Rows hiding St
def letters : Str := "abcdefghijklmnopqrstuvwxyz"
def mWord : T → Bool
  | .str x => decide (1 ≤ (x.length : Int)) && decide ((x.length : Int) ≤ 8) && ((strItems x).all fun t => match t with | .str c => inStr c letters | _ => false)
  | _ => false
def szS (t : T) : Prop := ∀ x, t = .str x → x.length ≤ 16777216
def sp_is_name : FSpec := fun os Q => ∃ t, os = [.pure t] ∧ szS t ∧ Q (.pure (.bool (mWord t))) []
/-- is_name: slots 0:value 1:letter -/
def t_is_name : ST := (sSeq (sIf (bOr (bNot (tTst (tIsi "str" (tName 0)))) (bNot (tChainA gLe gLe (tCst (.int 1)) (tCallB gLen (tConsA (tName 0) tNilA)) (tCst (.int 8))))) (sRet (fun j => [false].getD j false) (tCst (.bool false))) sNext)
  (sRet (fun j => [false].getD j false) (tCallB (gAllAny fun bs => bs.all id) (tConsA (tComp (tIter (tName 0)) (tgName 1) bYes (tBin (gInW false) (tName 1) (tCst (.str "abcdefghijklmnopqrstuvwxyz"))) [1]) tNilA))))
theorem strItems_mem {x : Str} {t : T} (h : t ∈ strItems x) : ∃ c : Nat, t = .str ⟨#[c]⟩ := by
  unfold strItems at h
  obtain ⟨c, _, e⟩ := List.mem_map.mp h
  exact ⟨c, e.symm⟩
theorem all_map {α : Type} (p : α → Bool) (l : List α) : (l.map p).all id = l.all p := by simp [List.all_map]
theorem pl_is_name (os : List O) (Qa : O → List O → Prop) (_ : os.length = 1) (h : sp_is_name os Qa) : t_is_name (endsOf [false] Qa) (startA 2 os) := by
  obtain ⟨t, rfl, hz, h⟩ := h
  unfold t_is_name
  cases t with
  | str x =>
    simp only [sSeq, sNext, sRet, sRetN, sDrop, sIf, sSet, sSetIx, sFor, sPar, sAsg, bAnd, bOr, bNot, tTst, bOf, tName, tCst, tBin, tUny, tNilA, tConsA, g2, g1, gN, getAll, tCallB, tCallF, tTupD, tLstD, tChainA, tChainE, tRg, rgK.eq_1, tStripX, strip1K.eq_1, strip2K.eq_1, tAndE, tOrE, tNotE, tIfE, tComp, bYes, Option.some.injEq, exists_eq, exists_eq', false_implies, Opd.slot.injEq, forall_eq, forall_eq', bO, tIsi, tSlc, partT, tRev, tDct0, tStrM, tAppend, tExtend, lstAt, tRange, intsOf, tIter, itemsOf, tEnum, tZip, tgName, tgTup, tgCons, tgNil, takeR, takeO, take1, takeAll, prep, back, setO, gAdd, gSub_, gMul2_s, gMul2_i, gMul2_l, gMul, gFdiv, gMod, gPow, gNeg, gGe, gGt, gLe, gLt, gEq, gNe, gInW, gIs, gIsNot, gLen, gAllAny, gAbs, gInt, gStr, gM2, gListOf, gTupOf, gSortS, gRepr, gIx, Opd.get, AEnv.at, O.frz, lsO, tuO, seqO, endsOf, endO, outsOf, startA, wipeA, List.getElem?_cons_zero, List.getElem?_cons_succ, List.length_cons, List.length_nil, List.map_cons, List.map_nil, List.set_cons_zero, List.set_cons_succ, List.replicate_succ, List.replicate_zero, List.cons_append, List.nil_append, List.getD_cons_zero, List.getD_cons_succ, if_true, if_false, Bool.false_eq_true, reduceIte, reduceCtorEq, Bool.not_true, Bool.not_false, implies_true, true_and, and_true, Nat.sub_self, Nat.reduceAdd, Nat.reduceSub, Nat.zero_add, List.all_cons, List.all_nil, Bool.and_true, Bool.true_and, isT_str]
    refine ⟨hz x rfl, ?_⟩
    unfold mWord at h
    by_cases h1 : 1 ≤ (x.length : Int)
    · by_cases h2 : (x.length : Int) ≤ 8
      · simp only [h1, h2, decide_true, if_true, Bool.not_true, Bool.false_eq_true, if_false, Bool.true_and] at h ⊢
        have h3 : x.cps.size ≤ 1000000 := by have : x.length = x.cps.size := rfl; omega
        rw [if_pos h3]
        refine compW_map (fun t => .bool (match t with | .str c => inStr c letters | _ => false)) _ _ (fun t m Q' acc ts' k => ?_) ?_
        · obtain ⟨c, rfl⟩ := strItems_mem m
          simp only [sSeq, sNext, sRet, sRetN, sDrop, sIf, sSet, sSetIx, sFor, sPar, sAsg, bAnd, bOr, bNot, tTst, bOf, tName, tCst, tBin, tUny, tNilA, tConsA, g2, g1, gN, getAll, tCallB, tCallF, tTupD, tLstD, tChainA, tChainE, tRg, rgK.eq_1, tStripX, strip1K.eq_1, strip2K.eq_1, tAndE, tOrE, tNotE, tIfE, tComp, bYes, Option.some.injEq, exists_eq, exists_eq', false_implies, Opd.slot.injEq, forall_eq, forall_eq', bO, tIsi, tSlc, partT, tRev, tDct0, tStrM, tAppend, tExtend, lstAt, tRange, intsOf, tIter, itemsOf, tEnum, tZip, tgName, tgTup, tgCons, tgNil, takeR, takeO, take1, takeAll, prep, back, setO, gAdd, gSub_, gMul2_s, gMul2_i, gMul2_l, gMul, gFdiv, gMod, gPow, gNeg, gGe, gGt, gLe, gLt, gEq, gNe, gInW, gIs, gIsNot, gLen, gAllAny, gAbs, gInt, gStr, gM2, gListOf, gTupOf, gSortS, gRepr, gIx, Opd.get, AEnv.at, O.frz, lsO, tuO, seqO, endsOf, endO, outsOf, startA, wipeA, List.getElem?_cons_zero, List.getElem?_cons_succ, List.length_cons, List.length_nil, List.map_cons, List.map_nil, List.set_cons_zero, List.set_cons_succ, List.replicate_succ, List.replicate_zero, List.cons_append, List.nil_append, List.getD_cons_zero, List.getD_cons_succ, if_true, if_false, Bool.false_eq_true, reduceIte, reduceCtorEq, Bool.not_true, Bool.not_false, implies_true, true_and, and_true, Nat.sub_self, Nat.reduceAdd, Nat.reduceSub, Nat.zero_add, List.all_cons, List.all_nil, Bool.and_true, Bool.true_and, compW, Bool.false_xor]
          exact ⟨rfl, k⟩
        · rw [List.nil_append, boolsOf_map]
          simp only [all_map]
          exact h
      · simp only [h1, h2, decide_true, decide_false, if_true, Bool.not_false, Bool.false_and, Bool.and_false, Bool.true_and] at h ⊢
        exact h
    · simp only [h1, decide_false, Bool.false_eq_true, if_false, Bool.false_and] at h ⊢
      exact h
  | _ => simp only [sSeq, sNext, sRet, sRetN, sDrop, sIf, sSet, sSetIx, sFor, sPar, sAsg, bAnd, bOr, bNot, tTst, bOf, tName, tCst, tBin, tUny, tNilA, tConsA, g2, g1, gN, getAll, tCallB, tCallF, tTupD, tLstD, tChainA, tChainE, tRg, rgK.eq_1, tStripX, strip1K.eq_1, strip2K.eq_1, tAndE, tOrE, tNotE, tIfE, tComp, bYes, Option.some.injEq, exists_eq, exists_eq', false_implies, Opd.slot.injEq, forall_eq, forall_eq', bO, tIsi, tSlc, partT, tRev, tDct0, tStrM, tAppend, tExtend, lstAt, tRange, intsOf, tIter, itemsOf, tEnum, tZip, tgName, tgTup, tgCons, tgNil, takeR, takeO, take1, takeAll, prep, back, setO, gAdd, gSub_, gMul2_s, gMul2_i, gMul2_l, gMul, gFdiv, gMod, gPow, gNeg, gGe, gGt, gLe, gLt, gEq, gNe, gInW, gIs, gIsNot, gLen, gAllAny, gAbs, gInt, gStr, gM2, gListOf, gTupOf, gSortS, gRepr, gIx, Opd.get, AEnv.at, O.frz, lsO, tuO, seqO, endsOf, endO, outsOf, startA, wipeA, List.getElem?_cons_zero, List.getElem?_cons_succ, List.length_cons, List.length_nil, List.map_cons, List.map_nil, List.set_cons_zero, List.set_cons_succ, List.replicate_succ, List.replicate_zero, List.cons_append, List.nil_append, List.getD_cons_zero, List.getD_cons_succ, if_true, if_false, Bool.false_eq_true, reduceIte, reduceCtorEq, Bool.not_true, Bool.not_false, implies_true, true_and, and_true, Nat.sub_self, Nat.reduceAdd, Nat.reduceSub, Nat.zero_add, List.all_cons, List.all_nil, Bool.and_true, Bool.true_and, isT_str]; exact h
def pLt (a b : T) : Bool := match a, b with
  | .int i, .int j => decide (i < j)
  | d, e => PySem.W.dataLt d e
def mAsc (ts : List T) : Bool := (zipItems ts (cutT ts (some 1) none)).all fun p => match p with
  | .tuple [a, b] => pLt a b
  | _ => false
def ascOk (ts : List T) : Prop := ∀ a ∈ ts, ∀ b ∈ ts, (PySem.W.alike a b = true ∧ a ≠ .none ∧ a.depth ≤ 100)
theorem zip_mem {ts rs : List T} {t : T} (h : t ∈ zipItems ts rs) : ∃ a ∈ ts, ∃ b ∈ rs, t = .tuple [a, b] := by
  unfold zipItems at h
  obtain ⟨i, hi, e⟩ := List.getElem_of_mem h
  rw [List.getElem_zipWith] at e
  exact ⟨_, List.getElem_mem _, _, List.getElem_mem _, e.symm⟩
theorem cut_mem {ts : List T} {lo hi : Option Int} {t : T} (h : t ∈ cutT ts lo hi) : t ∈ ts := List.mem_of_mem_drop (List.mem_of_mem_take h)
theorem gLt_ok {a b : T} {Q : O → Prop} (h1 : PySem.W.alike a b = true) (h2 : a ≠ .none) (h3 : a.depth ≤ 100) (q : Q (.pure (.bool (pLt a b)))) : gLt (.pure a) (.pure b) Q := by
  have m : min a.depth b.depth ≤ 150 := Nat.le_trans (Nat.min_le_left _ _) (by omega)
  cases a with
  | int i =>
    cases b with
    | int j => exact q
    | _ => simp [PySem.W.alike] at h1
  | none => exact absurd rfl h2
  | _ => exact ⟨h1, h2, m, q⟩
theorem mWord_str {t : T} (h : mWord t = true) : ∃ x, t = .str x := by
  cases t with
  | str x => exact ⟨x, rfl⟩
  | _ => exact nomatch (show false = true from h)
theorem words_asc {ts : List T} (h : ts.all mWord = true) : ascOk ts := fun a ha b hb => by
  obtain ⟨x, rfl⟩ := mWord_str (List.all_eq_true.mp h a ha)
  obtain ⟨y, rfl⟩ := mWord_str (List.all_eq_true.mp h b hb)
  exact ⟨by simp [PySem.W.alike], by simp, by simp [PyData.depth]⟩
def seqT (b : Bool) (ts : List T) : T := if b = true then .tuple ts else .list ts
def sp_are_ascending : FSpec := fun os Q => ∃ b ts, os = [.pure (seqT b ts)] ∧ ascOk ts ∧ Q (.pure (.bool (mAsc ts))) []
/-- are_ascending: slots 0:some 1:one 2:other -/
def t_are_ascending : ST := (sRet (fun j => [false].getD j false) (tCallB (gAllAny fun bs => bs.all id) (tConsA (tComp (tZip (tConsA (tName 0) (tConsA (tSlc (tName 0) (some (tCst (.int 1))) none) tNilA))) (tgTup 2 (tgCons (tgName 1) (tgCons (tgName 2) tgNil))) bYes (tBin gLt (tName 1) (tName 2)) [1, 2]) tNilA)))
theorem pl_are_ascending (os : List O) (Qa : O → List O → Prop) (_ : os.length = 1) (h : sp_are_ascending os Qa) : t_are_ascending (endsOf [false] Qa) (startA 3 os) := by
  obtain ⟨b, ts, rfl, hz, h⟩ := h
  unfold t_are_ascending
  cases b with
  | true =>
    simp only [sSeq, sNext, sRet, sRetN, sDrop, sIf, sSet, sFor, sPar, sAsg, bAnd, bOr, bNot, tTst, tCst, tBin, tUny, tNilA, tConsA, getAll, tCallB, tCallF, tTupD, tLstD, tChainA, tChainE, tRg, rgK.eq_1, tStripX, strip1K.eq_1, strip2K.eq_1, tAndE, tOrE, tNotE, tIfE, tComp, bYes, tDct0, tRange.eq_1, tgName, tgTup.eq_1, tgCons.eq_1, tgNil.eq_1, takeAll, back.eq_1, back.eq_2, back_nil, setO, tName_k, nameK.eq_1, nameK.eq_2, nameK.eq_3, nameK.eq_4, atK.eq_1, take1_v, take1_s, takeO_v, takeO_s, takeR_v, takeR_s, prep_n, prep_tv, prep_ts, prep_f, lstK.eq_1, lstAt_k, g2K.eq_1, g2_k, g1K.eq_1, g1_k, gNK.eq_1, gN_k, boK.eq_1, bOf_k, isiK.eq_1, tIsi_k, partK.eq_1, part_n, part_s, slcK.eq_1, slcK.eq_2, slcK.eq_3, slcK.eq_4, tSlc_k, revK.eq_1, revK.eq_2, revK.eq_3, tRev_k, strMK.eq_1, tStrM_k, itK.eq_1, tIter_k, enumK.eq_1, tEnum_k, zipK.eq_1, zipK.eq_2, tZip_k, intsK.eq_1, intsK.eq_2, intsOf_k, endK.eq_1, endO_k, extK.eq_1, tExtend_k, tAppend_k, setIxK.eq_1, sSetIx_k, popAtK.eq_1, tPopAt_k, bO.eq_1, itemsOf.eq_1, itemsOf.eq_2, itemsOf.eq_3, gAdd.eq_1, gAdd.eq_2, gAdd.eq_3, gAdd.eq_4, gAdd.eq_5, gAdd.eq_6, gSub_.eq_1, gSub_.eq_2, gMul2_s, gMul2_i, gMul2_l, gMulS.eq_1, gMul.eq_1, gMul.eq_2, gFdiv.eq_1, gMod.eq_1, gPow.eq_1, gNeg.eq_1, gNeg.eq_2, gGe.eq_1, gGt.eq_1, gLe.eq_1, gLt.eq_1, gLt.eq_2, gEq.eq_1, gNe.eq_1, gNe.eq_2, gNe.eq_3, gNe.eq_4, gInW.eq_1, gInW.eq_2, gIs.eq_1, gIsNot.eq_1, gLen.eq_1, gLen.eq_2, gAllAny.eq_1, gAbs.eq_1, gInt.eq_1, gInt.eq_2, gStr.eq_1, gStr.eq_2, gStr.eq_3, gM2.eq_1, gListOf.eq_1, gListOf.eq_2, gTupOf.eq_1, gTupOf.eq_2, gSort, gSortS.eq_1, gSortD.eq_1, gSortSet.eq_1, gRepr.eq_1, gIx.eq_1, gIx.eq_2, ati0, ati1, ati2, Option.some.injEq, exists_eq, exists_eq', false_implies, Opd.slot.injEq, forall_eq, forall_eq', Opd.get.eq_1, Opd.get.eq_2, at_join, join_some, O.frz.eq_1, O.frz.eq_2, O.frz.eq_3, O.frz.eq_4, lsO.eq_1, lsO.eq_2, tuO.eq_1, seqO_l, seqO_p, seqO_t, endsOf, outsOf, startA, wipeA, List.getElem?_cons_zero, List.getElem?_cons_succ, List.length_cons, List.length_nil, List.map_cons, List.map_nil, List.set_cons_zero, List.set_cons_succ, List.replicate_succ, List.replicate_zero, List.cons_append, List.nil_append, List.getD_cons_zero, List.getD_cons_succ, if_true, if_false, Bool.false_eq_true, reduceIte, reduceCtorEq, Bool.not_true, Bool.not_false, implies_true, true_and, and_true, Nat.sub_self, Nat.reduceAdd, Nat.reduceSub, Nat.zero_add, List.all_cons, List.all_nil, Bool.and_true, Bool.true_and, tComp, seqT]
    refine compW_map (fun t => .bool (match t with | .tuple [a, b] => pLt a b | _ => false)) _ _ (fun t m Q' acc ts' k => ?_) ?_
    · obtain ⟨a, ha, b, hb, rfl⟩ := zip_mem m
      obtain ⟨h1, h2, h3⟩ := hz a ha b (cut_mem hb)
      unfold compW
      simp only [tgTup, tgCons, tgNil, tgName, List.length_cons, List.length_nil, List.set_cons_zero, List.set_cons_succ, bYes, tBin, tName, List.getElem?_cons_zero, List.getElem?_cons_succ, g2, Opd.get, take1, O.frz, if_true, wipeA]
      refine ⟨trivial, rfl, rfl, gLt_ok h1 h2 h3 k⟩
    · rw [List.nil_append, boolsOf_map]
      simp only [all_map]
      exact h
  | false =>
    simp only [sSeq, sNext, sRet, sRetN, sDrop, sIf, sSet, sFor, sPar, sAsg, bAnd, bOr, bNot, tTst, tCst, tBin, tUny, tNilA, tConsA, getAll, tCallB, tCallF, tTupD, tLstD, tChainA, tChainE, tRg, rgK.eq_1, tStripX, strip1K.eq_1, strip2K.eq_1, tAndE, tOrE, tNotE, tIfE, tComp, bYes, tDct0, tRange.eq_1, tgName, tgTup.eq_1, tgCons.eq_1, tgNil.eq_1, takeAll, back.eq_1, back.eq_2, back_nil, setO, tName_k, nameK.eq_1, nameK.eq_2, nameK.eq_3, nameK.eq_4, atK.eq_1, take1_v, take1_s, takeO_v, takeO_s, takeR_v, takeR_s, prep_n, prep_tv, prep_ts, prep_f, lstK.eq_1, lstAt_k, g2K.eq_1, g2_k, g1K.eq_1, g1_k, gNK.eq_1, gN_k, boK.eq_1, bOf_k, isiK.eq_1, tIsi_k, partK.eq_1, part_n, part_s, slcK.eq_1, slcK.eq_2, slcK.eq_3, slcK.eq_4, tSlc_k, revK.eq_1, revK.eq_2, revK.eq_3, tRev_k, strMK.eq_1, tStrM_k, itK.eq_1, tIter_k, enumK.eq_1, tEnum_k, zipK.eq_1, zipK.eq_2, tZip_k, intsK.eq_1, intsK.eq_2, intsOf_k, endK.eq_1, endO_k, extK.eq_1, tExtend_k, tAppend_k, setIxK.eq_1, sSetIx_k, popAtK.eq_1, tPopAt_k, bO.eq_1, itemsOf.eq_1, itemsOf.eq_2, itemsOf.eq_3, gAdd.eq_1, gAdd.eq_2, gAdd.eq_3, gAdd.eq_4, gAdd.eq_5, gAdd.eq_6, gSub_.eq_1, gSub_.eq_2, gMul2_s, gMul2_i, gMul2_l, gMulS.eq_1, gMul.eq_1, gMul.eq_2, gFdiv.eq_1, gMod.eq_1, gPow.eq_1, gNeg.eq_1, gNeg.eq_2, gGe.eq_1, gGt.eq_1, gLe.eq_1, gLt.eq_1, gLt.eq_2, gEq.eq_1, gNe.eq_1, gNe.eq_2, gNe.eq_3, gNe.eq_4, gInW.eq_1, gInW.eq_2, gIs.eq_1, gIsNot.eq_1, gLen.eq_1, gLen.eq_2, gAllAny.eq_1, gAbs.eq_1, gInt.eq_1, gInt.eq_2, gStr.eq_1, gStr.eq_2, gStr.eq_3, gM2.eq_1, gListOf.eq_1, gListOf.eq_2, gTupOf.eq_1, gTupOf.eq_2, gSort, gSortS.eq_1, gSortD.eq_1, gSortSet.eq_1, gRepr.eq_1, gIx.eq_1, gIx.eq_2, ati0, ati1, ati2, Option.some.injEq, exists_eq, exists_eq', false_implies, Opd.slot.injEq, forall_eq, forall_eq', Opd.get.eq_1, Opd.get.eq_2, at_join, join_some, O.frz.eq_1, O.frz.eq_2, O.frz.eq_3, O.frz.eq_4, lsO.eq_1, lsO.eq_2, tuO.eq_1, seqO_l, seqO_p, seqO_t, endsOf, outsOf, startA, wipeA, List.getElem?_cons_zero, List.getElem?_cons_succ, List.length_cons, List.length_nil, List.map_cons, List.map_nil, List.set_cons_zero, List.set_cons_succ, List.replicate_succ, List.replicate_zero, List.cons_append, List.nil_append, List.getD_cons_zero, List.getD_cons_succ, if_true, if_false, Bool.false_eq_true, reduceIte, reduceCtorEq, Bool.not_true, Bool.not_false, implies_true, true_and, and_true, Nat.sub_self, Nat.reduceAdd, Nat.reduceSub, Nat.zero_add, List.all_cons, List.all_nil, Bool.and_true, Bool.true_and, tComp, seqT]
    refine compW_map (fun t => .bool (match t with | .tuple [a, b] => pLt a b | _ => false)) _ _ (fun t m Q' acc ts' k => ?_) ?_
    · obtain ⟨a, ha, b, hb, rfl⟩ := zip_mem m
      obtain ⟨h1, h2, h3⟩ := hz a ha b (cut_mem hb)
      unfold compW
      simp only [tgTup, tgCons, tgNil, tgName, List.length_cons, List.length_nil, List.set_cons_zero, List.set_cons_succ, bYes, tBin, tName, List.getElem?_cons_zero, List.getElem?_cons_succ, g2, Opd.get, take1, O.frz, if_true, wipeA]
      refine ⟨trivial, rfl, rfl, gLt_ok h1 h2 h3 k⟩
    · rw [List.nil_append, boolsOf_map]
      simp only [all_map]
      exact h
end WS

set_option Elab.async false
set_option linter.all false
set_option maxRecDepth 100000
set_option maxHeartbeats 4000000
namespace WS
open PySem PySem.Spec L2 DL
open PyProof.Rows hiding St
/-- a deck; n bounds its count of draws -/
def Dk (n : Nat) (o : O) : Prop := ∃ a b c : Int, o = .lst [.int a, .int b, .int c] ∧ 0 ≤ a ∧ a < 10 ^ 300 ∧ 0 ≤ b ∧ b < 2305843009213693921 ∧ 0 ≤ c ∧ c ≤ n
theorem Dk.mono {n m : Nat} {o : O} (h : Dk n o) (l : n ≤ m) : Dk m o := by
  obtain ⟨a, b, c, e, h1, h2, h3, h4, h5, h6⟩ := h
  exact ⟨a, b, c, e, h1, h2, h3, h4, h5, by omega⟩
/-- below 2^k -/
def Bd (k : Nat) (i : Int) : Prop := i.natAbs < 2 ^ k
theorem Bd.add {a b : Nat} {i j : Int} (h1 : Bd a i) (h2 : Bd b j) : Bd (a + b + 1) (i + j) := by
  unfold Bd at *
  have e1 : 2 ^ a ≤ 2 ^ (a + b) := Nat.pow_le_pow_right (by decide) (by omega)
  have e2 : 2 ^ b ≤ 2 ^ (a + b) := Nat.pow_le_pow_right (by decide) (by omega)
  have e3 : 2 ^ (a + b + 1) = 2 * 2 ^ (a + b) := by rw [Nat.pow_succ, Nat.mul_comm]
  omega
theorem Bd.mul {a b : Nat} {i j : Int} (h1 : Bd a i) (h2 : Bd b j) : Bd (a + b) (i * j) := wide_lt h1 h2
theorem Bd.of {k : Nat} {i j : Int} (h0 : 0 ≤ i) (h : i ≤ j) (hj : Bd k j) : Bd k i := Nat.lt_of_le_of_lt (by omega) hj
theorem Bd.log {a : Nat} {i : Int} (h : Bd a i) (h0 : 0 < a) : i.natAbs.log2 < a := PySem.Flt.log2_lt_of h0 h
theorem bd_mul {a b : Nat} {i j : Int} (h1 : Bd a i) (h2 : Bd b j) (h0 : 0 < a) (h3 : 0 < b) (h : a + b ≤ 1000000) : i.natAbs.log2 + j.natAbs.log2 < 1000000 := wide_mul h1 h2 h0 h3 h
theorem bd_mod {k : Nat} {i j : Int} (h : 0 < j) (hj : Bd k j) : Bd k (i % j) := by
  have h1 := Int.emod_nonneg i (by omega : j ≠ 0)
  have h2 := Int.emod_lt_of_pos i h
  unfold Bd at *
  omega
theorem at3_0 {α : Type} (a b c : α) : atI [a, b, c] 0 = some a := rfl
theorem at3_1 {α : Type} (a b c : α) : atI [a, b, c] 1 = some b := rfl
theorem at3_2 {α : Type} (a b c : α) : atI [a, b, c] 2 = some c := rfl
theorem ix3_0 : ixN 3 0 = some 0 := rfl
theorem ix3_2 : ixN 3 2 = some 2 := rfl
theorem at5 (p q r s t : T) (i : Int) : ∃ z, atI [p, q, r, s, t] (i % 5) = some z ∧ z ∈ [p, q, r, s, t] := by
  have : i % 5 = 0 ∨ i % 5 = 1 ∨ i % 5 = 2 ∨ i % 5 = 3 ∨ i % 5 = 4 := by omega
  rcases this with e | e | e | e | e <;> rw [e]
  · exact ⟨p, rfl, by simp⟩
  · exact ⟨q, rfl, by simp⟩
  · exact ⟨r, rfl, by simp⟩
  · exact ⟨s, rfl, by simp⟩
  · exact ⟨t, rfl, by simp⟩
def sp__law_draw : FSpec := fun os Q => ∃ n d m, n ≤ 1000000 ∧ os = [d, .pure (.int m)] ∧ Dk n d ∧ 1 ≤ m ∧ m ≤ 1000000000 ∧ ∀ r d', 0 ≤ r → r < m → Dk (n + 1) d' → Q (.pure (.int r)) [d']
/-- _law_draw: slots 0:_law_deck_here 1:_law_many 2:_law_digit 3:_law_prime 4:_law_mixed -/
def t__law_draw : ST := (sSeq (sIf (tTst (tBin gGt (tBin gIx (tName 0) (tCst (.int 0))) (tCst (.int 0)))) (sSeq (sSet 2 (tBin gMod (tBin gIx (tName 0) (tCst (.int 0))) (tName 1)))
  (sSeq (sSetIx 0 (tBin gFdiv (tBin gIx (tName 0) (tCst (.int 0))) (tName 1)) (tCst (.int 0)))
  (sRet (fun j => [true, false].getD j false) (tName 2)))) sNext)
  (sSeq (sSetIx 0 (tBin gAdd (tBin gIx (tName 0) (tCst (.int 2))) (tCst (.int 1))) (tCst (.int 2)))
  (sSeq (sSet 3 (tBin gIx (tLstD (tConsA (tCst (.int 2147483647)) (tConsA (tCst (.int 2147483629)) (tConsA (tCst (.int 2147483587)) (tConsA (tCst (.int 2147483579)) (tConsA (tCst (.int 2147483563)) tNilA)))))) (tBin gMod (tBin gIx (tName 0) (tCst (.int 2))) (tCst (.int 5)))))
  (sSeq (sSet 4 (tBin gMod (tBin gPow (tBin gAdd (tBin gAdd (tBin gIx (tName 0) (tCst (.int 1))) (tBin gMul2 (tBin gMul2 (tCst (.int 98317)) (tBin gIx (tName 0) (tCst (.int 2)))) (tBin gIx (tName 0) (tCst (.int 2))))) (tCst (.int 43))) (tCst (.int 3))) (tName 3)))
  (sRet (fun j => [true, false].getD j false) (tBin gMod (tBin gFdiv (tBin gMod (tBin gMul2 (tName 4) (tBin gAdd (tBin gMod (tName 4) (tCst (.int 10007))) (tBin gMul2 (tCst (.int 83)) (tBin gIx (tName 0) (tCst (.int 2)))))) (tCst (.int 2305843009213693907))) (tCst (.int 89))) (tName 1)))))))
theorem pl__law_draw (os : List O) (Qa : O → List O → Prop) (_ : os.length = 2) (h : sp__law_draw os Qa) : t__law_draw (endsOf [true, false] Qa) (startA 5 os) := by
  obtain ⟨n, d, m, hn, rfl, ⟨a, b, c, rfl, ha, ha2, hb, hb2, hc, hc2⟩, h1, h2, h⟩ := h
  unfold t__law_draw
  simp only [sSeq, sNext, sRet, sRetN, sDrop, sIf, sSet, sSetIx, sFor, sPar, sAsg, bAnd, bOr, bNot, tTst, bOf, tName, tCst, tBin, tUny, tNilA, tConsA, g2, g1, gN, getAll, tCallB, tCallF, tTupD, tLstD, tChainA, tChainE, tRg, rgK.eq_1, tStripX, strip1K.eq_1, strip2K.eq_1, tAndE, tOrE, tNotE, tIfE, tComp, bYes, Option.some.injEq, exists_eq, exists_eq', false_implies, Opd.slot.injEq, forall_eq, forall_eq', bO, tIsi, tSlc, partT, tRev, tDct0, tStrM, tAppend, tExtend, lstAt, tRange, intsOf, tIter, itemsOf, tEnum, tZip, tgName, tgTup, tgCons, tgNil, takeR, takeO, take1, takeAll, prep, back, setO, gAdd, gSub_, gMul2_s, gMul2_i, gMul2_l, gMul, gFdiv, gMod, gPow, gNeg, gGe, gGt, gLe, gLt, gEq, gNe, gInW, gIs, gIsNot, gLen, gAllAny, gAbs, gInt, gStr, gM2, gListOf, gTupOf, gSortS, gRepr, gIx, Opd.get, AEnv.at, O.frz, lsO, tuO, seqO, endsOf, endO, outsOf, startA, wipeA, List.getElem?_cons_zero, List.getElem?_cons_succ, List.length_cons, List.length_nil, List.map_cons, List.map_nil, List.set_cons_zero, List.set_cons_succ, List.replicate_succ, List.replicate_zero, List.cons_append, List.nil_append, List.getD_cons_zero, List.getD_cons_succ, if_true, if_false, Bool.false_eq_true, reduceIte, reduceCtorEq, Bool.not_true, Bool.not_false, implies_true, true_and, and_true, Nat.sub_self, Nat.reduceAdd, Nat.reduceSub, Nat.zero_add, List.all_cons, List.all_nil, Bool.and_true, Bool.true_and, at3_0, at3_1, at3_2, ix3_0, ix3_2]
  have bm : Bd 31 m := by unfold Bd; omega
  have bc : Bd 21 (c + 1) := by unfold Bd; omega
  have bb : Bd 62 b := by unfold Bd; omega
  by_cases g : 0 < a
  · rw [decide_eq_true g, if_pos rfl]
    refine ⟨by omega, rfl, by omega, Nat.lt_trans (bm.log (by decide)) (by decide), h _ _ (Int.emod_nonneg _ (by omega)) (Int.emod_lt_of_pos _ (by omega)) ?_⟩
    have e1 : 0 ≤ a / m := Int.ediv_nonneg ha (by omega)
    have e2 : a / m ≤ a := Int.ediv_le_self _ ha
    exact ⟨_, _, _, rfl, e1, by omega, hb, hb2, hc, by omega⟩
  · rw [decide_eq_false g, if_neg Bool.false_ne_true]
    refine ⟨by decide, ?_⟩
    obtain ⟨z, e, hz⟩ := at5 (.int 2147483647) (.int 2147483629) (.int 2147483587) (.int 2147483579) (.int 2147483563) (c + 1)
    rw [e]
    obtain ⟨p, rfl, hp, hp2⟩ : ∃ p : Int, z = .int p ∧ 0 < p ∧ p < 2147483648 := by
      simp only [List.mem_cons, List.not_mem_nil, or_false] at hz
      rcases hz with rfl | rfl | rfl | rfl | rfl <;> exact ⟨_, rfl, by decide, by decide⟩
    have bp : Bd 31 p := by unfold Bd; omega
    have k1 : Bd 17 98317 := by unfold Bd; decide
    have k2 : Bd 7 83 := by unfold Bd; decide
    have k3 : Bd 14 10007 := by unfold Bd; decide
    have k4 : Bd 6 43 := by unfold Bd; decide
    have m1 := k1.mul bc
    have m2 := m1.mul bc
    have m3 := (bb.add m2).add k4
    have q1 := bd_mod (i := (b + 98317 * (c + 1) * (c + 1) + 43) ^ Int.toNat 3) hp bp
    have q2 := (bd_mod (i := (b + 98317 * (c + 1) * (c + 1) + 43) ^ Int.toNat 3 % p) (by decide : (0 : Int) < 10007) k3).add (k2.mul bc)
    refine ⟨rfl, bd_mul k1 bc (by decide) (by decide) (by decide), bd_mul m1 bc (by decide) (by decide) (by decide), by decide, by decide, Nat.lt_trans (m3.log (by decide)) (by decide), hp, rfl, by decide, bd_mul k2 bc (by decide) (by decide) (by decide), bd_mul q1 q2 (by decide) (by decide) (by decide), by decide, by decide, by decide, by omega, ?_⟩
    exact h _ _ (Int.emod_nonneg _ (by omega)) (Int.emod_lt_of_pos _ (by omega)) ⟨_, _, _, rfl, ha, ha2, hb, hb2, by omega, by omega⟩
def sp__law_any : FSpec := fun os Q => ∃ n d ts, n ≤ 1000000 ∧ os = [d, .pure (.list ts)] ∧ Dk n d ∧ ts ≠ [] ∧ ts.length ≤ 1000000 ∧ ∀ t d', t ∈ ts → Dk (n + 1) d' → Q (.pure t) [d']
/-- _law_any: slots 0:_law_deck_here 1:_law_items -/
def t__law_any : ST := (sRet (fun j => [true, false].getD j false) (tBin gIx (tName 1) (tCallF [true, false] sp__law_draw (tConsA (tName 0) (tConsA (tCallB gLen (tConsA (tName 1) tNilA)) tNilA)))))
theorem Dk.frz {n : Nat} {o : O} (h : Dk n o) : ∃ ds, o = .lst ds := by obtain ⟨a, b, c, rfl, _⟩ := h; exact ⟨_, rfl⟩
theorem at_mem {ts : List T} {r : Int} (h0 : 0 ≤ r) (h1 : r < ts.length) : ∃ t, atI ts r = some t ∧ t ∈ ts := by
  have hl : r.toNat < ts.length := by omega
  refine ⟨ts[r.toNat], ?_, List.getElem_mem _⟩
  unfold atI ixN
  rw [if_pos h0, if_pos h1]
  exact List.getElem?_eq_getElem hl
theorem pl__law_any (os : List O) (Qa : O → List O → Prop) (_ : os.length = 2) (h : sp__law_any os Qa) : t__law_any (endsOf [true, false] Qa) (startA 2 os) := by
  obtain ⟨n, d, ts, hn, rfl, hd, hne, hl, h⟩ := h
  obtain ⟨ds, rfl⟩ := hd.frz
  have hp : 0 < ts.length := List.length_pos_iff.mpr hne
  unfold t__law_any
  simp only [sSeq, sNext, sRet, sRetN, sDrop, sIf, sSet, sSetIx, sFor, sPar, sAsg, bAnd, bOr, bNot, tTst, bOf, tName, tCst, tBin, tUny, tNilA, tConsA, g2, g1, gN, getAll, tCallB, tCallF, tTupD, tLstD, tChainA, tChainE, tRg, rgK.eq_1, tStripX, strip1K.eq_1, strip2K.eq_1, tAndE, tOrE, tNotE, tIfE, tComp, bYes, Option.some.injEq, exists_eq, exists_eq', false_implies, Opd.slot.injEq, forall_eq, forall_eq', bO, tIsi, tSlc, partT, tRev, tDct0, tStrM, tAppend, tExtend, lstAt, tRange, intsOf, tIter, itemsOf, tEnum, tZip, tgName, tgTup, tgCons, tgNil, takeR, takeO, take1, takeAll, prep, back, setO, gAdd, gSub_, gMul2_s, gMul2_i, gMul2_l, gMul, gFdiv, gMod, gPow, gNeg, gGe, gGt, gLe, gLt, gEq, gNe, gInW, gIs, gIsNot, gLen, gAllAny, gAbs, gInt, gStr, gM2, gListOf, gTupOf, gSortS, gRepr, gIx, Opd.get, AEnv.at, O.frz, lsO, tuO, seqO, endsOf, endO, outsOf, startA, wipeA, List.getElem?_cons_zero, List.getElem?_cons_succ, List.length_cons, List.length_nil, List.map_cons, List.map_nil, List.set_cons_zero, List.set_cons_succ, List.replicate_succ, List.replicate_zero, List.cons_append, List.nil_append, List.getD_cons_zero, List.getD_cons_succ, if_true, if_false, Bool.false_eq_true, reduceIte, reduceCtorEq, Bool.not_true, Bool.not_false, implies_true, true_and, and_true, Nat.sub_self, Nat.reduceAdd, Nat.reduceSub, Nat.zero_add, List.all_cons, List.all_nil, Bool.and_true, Bool.true_and]
  refine ⟨n, _, _, hn, rfl, hd, by omega, by omega, fun r d' h0 h1 hd' => ?_⟩
  obtain ⟨ds', rfl⟩ := hd'.frz
  obtain ⟨t, e, m⟩ := at_mem h0 h1
  simp only [sSeq, sNext, sRet, sRetN, sDrop, sIf, sSet, sSetIx, sFor, sPar, sAsg, bAnd, bOr, bNot, tTst, bOf, tName, tCst, tBin, tUny, tNilA, tConsA, g2, g1, gN, getAll, tCallB, tCallF, tTupD, tLstD, tChainA, tChainE, tRg, rgK.eq_1, tStripX, strip1K.eq_1, strip2K.eq_1, tAndE, tOrE, tNotE, tIfE, tComp, bYes, Option.some.injEq, exists_eq, exists_eq', false_implies, Opd.slot.injEq, forall_eq, forall_eq', bO, tIsi, tSlc, partT, tRev, tDct0, tStrM, tAppend, tExtend, lstAt, tRange, intsOf, tIter, itemsOf, tEnum, tZip, tgName, tgTup, tgCons, tgNil, takeR, takeO, take1, takeAll, prep, back, setO, gAdd, gSub_, gMul2_s, gMul2_i, gMul2_l, gMul, gFdiv, gMod, gPow, gNeg, gGe, gGt, gLe, gLt, gEq, gNe, gInW, gIs, gIsNot, gLen, gAllAny, gAbs, gInt, gStr, gM2, gListOf, gTupOf, gSortS, gRepr, gIx, Opd.get, AEnv.at, O.frz, lsO, tuO, seqO, endsOf, endO, outsOf, startA, wipeA, List.getElem?_cons_zero, List.getElem?_cons_succ, List.length_cons, List.length_nil, List.map_cons, List.map_nil, List.set_cons_zero, List.set_cons_succ, List.replicate_succ, List.replicate_zero, List.cons_append, List.nil_append, List.getD_cons_zero, List.getD_cons_succ, if_true, if_false, Bool.false_eq_true, reduceIte, reduceCtorEq, Bool.not_true, Bool.not_false, implies_true, true_and, and_true, Nat.sub_self, Nat.reduceAdd, Nat.reduceSub, Nat.zero_add, List.all_cons, List.all_nil, Bool.and_true, Bool.true_and]
  rw [e]
  exact h t _ m hd'
def sp__law_deck : FSpec := fun os Q => ∃ ts k, os = [.pure (.list ts), .pure (.int k)] ∧ (∀ t ∈ ts, ∃ i : Int, t = .int i) ∧ 0 ≤ k ∧ k ≤ 100 ∧ ∀ d, Dk 0 d → Q d []
/-- _law_deck: slots 0:_law_script 1:_law_k 2:_law_cell 3:_law_own -/
def t__law_deck : ST := (sSeq (sSet 2 (tBin gAdd (tBin gMul2 (tCst (.int 17)) (tName 1)) (tCst (.int 9))))
  (sSeq (sIf (tTst (tBin gLt (tName 1) (tCallB gLen (tConsA (tName 0) tNilA)))) (sSet 2 (tBin gIx (tName 0) (tName 1))) sNext)
  (sSeq (sSet 3 (tBin gMul2 (tBin gMod (tCallB gAbs (tConsA (tName 2) tNilA)) (tBin gPow (tBin gPow (tCst (.int 10)) (tCst (.int 60))) (tCst (.int 5)))) (tCallB gInt (tConsA (tBin gGe (tCallB gAbs (tConsA (tName 2) tNilA)) (tBin gPow (tCst (.int 10)) (tCst (.int 18)))) tNilA))))
  (sRet (fun j => [false, false].getD j false) (tLstD (tConsA (tName 3) (tConsA (tBin gMod (tBin gAdd (tBin gAdd (tBin gMul2 (tBin gMod (tName 2) (tCst (.int 2305843009213693951))) (tCst (.int 69857))) (tBin gMul2 (tBin gMul2 (tCst (.int 7907)) (tName 1)) (tName 1))) (tCst (.int 23))) (tCst (.int 2305843009213693921))) (tConsA (tCst (.int 0)) tNilA))))))))
theorem deck_fin {k c a : Int} {Q : O → List O → Prop} (h0 : 0 ≤ k) (h1 : k ≤ 100) (h : ∀ d, Dk 0 d → Q d []) :
    0 ≤ (60 : Int) ∧ (60 : Int) ≤ 1000 ∧ (Int.natAbs 10).log2 < 100000 ∧ 0 ≤ (5 : Int) ∧ (5 : Int) ≤ 1000 ∧ ((10 : Int) ^ Int.toNat 60).natAbs.log2 < 100000 ∧ 0 < ((10 : Int) ^ Int.toNat 60) ^ Int.toNat 5 ∧ 0 ≤ (18 : Int) ∧ (18 : Int) ≤ 1000 ∧ (Int.natAbs 10).log2 < 100000 ∧
      (a % ((10 : Int) ^ Int.toNat 60) ^ Int.toNat 5).natAbs.log2 + (if decide ((10 : Int) ^ Int.toNat 18 ≤ a) = true then (1 : Int) else 0).natAbs.log2 < 1000000 ∧ Nat.blt 3 4 = true ∧ 0 < (2305843009213693951 : Int) ∧
      (c % 2305843009213693951).natAbs.log2 + (Int.natAbs 69857).log2 < 1000000 ∧ (Int.natAbs 7907).log2 + k.natAbs.log2 < 1000000 ∧ (7907 * k).natAbs.log2 + k.natAbs.log2 < 1000000 ∧ 0 < (2305843009213693921 : Int) ∧
      Q (O.lst [PyData.int (a % ((10 : Int) ^ Int.toNat 60) ^ Int.toNat 5 * if decide ((10 : Int) ^ Int.toNat 18 ≤ a) = true then 1 else 0), PyData.int ((c % 2305843009213693951 * 69857 + 7907 * k * k + 23) % 2305843009213693921), PyData.int 0]) [] := by
  have e300 : ((10 : Int) ^ Int.toNat 60) ^ Int.toNat 5 = 10 ^ 300 := by decide +kernel
  rw [e300]
  have p300 : (0 : Int) < 10 ^ 300 := by decide +kernel
  have bk : Bd 7 k := by unfold Bd; omega
  have b2 := Bd.mul (i := 7907) (a := 13) (by unfold Bd; decide) bk
  have b3 : Bd 1000 ((10 : Int) ^ 300) := by unfold Bd; decide +kernel
  have b4 := bd_mod (i := a) p300 b3
  have m0 := Int.emod_nonneg a (by omega : (10 : Int) ^ 300 ≠ 0)
  have m1 := Int.emod_lt_of_pos a p300
  have b5 := bd_mod (i := c) (j := 2305843009213693951) (k := 62) (by decide) (by unfold Bd; decide)
  have l4 := b4.log (by decide)
  have l5 := b5.log (by decide)
  have lk := bk.log (by decide)
  have l2 := b2.log (by decide)
  refine ⟨by decide, by decide, by decide, by decide, by decide, by decide +kernel, p300, by decide, by decide, by decide, ?_, rfl, by decide, ?_, ?_, ?_, by decide, h _ ⟨_, _, _, rfl, ?_, ?_, Int.emod_nonneg _ (by decide), Int.emod_lt_of_pos _ (by decide), by decide, by decide⟩⟩
  · split
    · have : (Int.natAbs 1).log2 = 0 := by decide
      omega
    · have : (Int.natAbs 0).log2 = 0 := by decide
      omega
  · have : (Int.natAbs 69857).log2 = 16 := by decide
    omega
  · have : (Int.natAbs 7907).log2 = 12 := by decide
    omega
  · omega
  · split <;> omega
  · split <;> omega
theorem pl__law_deck (os : List O) (Qa : O → List O → Prop) (_ : os.length = 2) (h : sp__law_deck os Qa) : t__law_deck (endsOf [false, false] Qa) (startA 4 os) := by
  obtain ⟨ts, k, rfl, hi, h0, h1, h⟩ := h
  unfold t__law_deck
  have lk : k.natAbs.log2 < 7 := Bd.log (by unfold Bd; omega) (by decide)
  have l17 : (Int.natAbs 17).log2 = 4 := by decide
  simp only [sSeq, sNext, sRet, sRetN, sDrop, sIf, sSet, sFor, sPar, sAsg, bAnd, bOr, bNot, tTst, tCst, tBin, tUny, tNilA, tConsA, getAll, tCallB, tCallF, tTupD, tLstD, tChainA, tChainE, tRg, rgK.eq_1, tStripX, strip1K.eq_1, strip2K.eq_1, tAndE, tOrE, tNotE, tIfE, tComp, bYes, tDct0, tRange.eq_1, tgName, tgTup.eq_1, tgCons.eq_1, tgNil.eq_1, takeAll, back.eq_1, back.eq_2, back_nil, setO, tName_k, nameK.eq_1, nameK.eq_2, nameK.eq_3, nameK.eq_4, atK.eq_1, take1_v, take1_s, takeO_v, takeO_s, takeR_v, takeR_s, prep_n, prep_tv, prep_ts, prep_f, lstK.eq_1, lstAt_k, g2K.eq_1, g2_k, g1K.eq_1, g1_k, gNK.eq_1, gN_k, boK.eq_1, bOf_k, isiK.eq_1, tIsi_k, partK.eq_1, part_n, part_s, slcK.eq_1, slcK.eq_2, slcK.eq_3, slcK.eq_4, tSlc_k, revK.eq_1, revK.eq_2, revK.eq_3, tRev_k, strMK.eq_1, tStrM_k, itK.eq_1, tIter_k, enumK.eq_1, tEnum_k, zipK.eq_1, zipK.eq_2, tZip_k, intsK.eq_1, intsK.eq_2, intsOf_k, endK.eq_1, endO_k, extK.eq_1, tExtend_k, tAppend_k, setIxK.eq_1, sSetIx_k, popAtK.eq_1, tPopAt_k, bO.eq_1, itemsOf.eq_1, itemsOf.eq_2, itemsOf.eq_3, gAdd.eq_1, gAdd.eq_2, gAdd.eq_3, gAdd.eq_4, gAdd.eq_5, gAdd.eq_6, gSub_.eq_1, gSub_.eq_2, gMul2_s, gMul2_i, gMul2_l, gMulS.eq_1, gMul.eq_1, gMul.eq_2, gFdiv.eq_1, gMod.eq_1, gPow.eq_1, gNeg.eq_1, gNeg.eq_2, gGe.eq_1, gGt.eq_1, gLe.eq_1, gLt.eq_1, gLt.eq_2, gEq.eq_1, gNe.eq_1, gNe.eq_2, gNe.eq_3, gNe.eq_4, gInW.eq_1, gInW.eq_2, gIs.eq_1, gIsNot.eq_1, gLen.eq_1, gLen.eq_2, gAllAny.eq_1, gAbs.eq_1, gInt.eq_1, gInt.eq_2, gStr.eq_1, gStr.eq_2, gStr.eq_3, gM2.eq_1, gListOf.eq_1, gListOf.eq_2, gTupOf.eq_1, gTupOf.eq_2, gSort, gSortS.eq_1, gSortD.eq_1, gSortSet.eq_1, gRepr.eq_1, gIx.eq_1, gIx.eq_2, ati0, ati1, ati2, Option.some.injEq, exists_eq, exists_eq', false_implies, Opd.slot.injEq, forall_eq, forall_eq', Opd.get.eq_1, Opd.get.eq_2, at_join, join_some, O.frz.eq_1, O.frz.eq_2, O.frz.eq_3, O.frz.eq_4, lsO.eq_1, lsO.eq_2, tuO.eq_1, seqO_l, seqO_p, seqO_t, endsOf, outsOf, startA, wipeA, List.getElem?_cons_zero, List.getElem?_cons_succ, List.length_cons, List.length_nil, List.map_cons, List.map_nil, List.set_cons_zero, List.set_cons_succ, List.replicate_succ, List.replicate_zero, List.cons_append, List.nil_append, List.getD_cons_zero, List.getD_cons_succ, if_true, if_false, Bool.false_eq_true, reduceIte, reduceCtorEq, Bool.not_true, Bool.not_false, implies_true, true_and, and_true, Nat.sub_self, Nat.reduceAdd, Nat.reduceSub, Nat.zero_add, List.all_cons, List.all_nil, Bool.and_true, Bool.true_and]
  refine ⟨by omega, rfl, ?_⟩
  by_cases g : k < ts.length
  · rw [decide_eq_true g, if_pos rfl]
    obtain ⟨t, e, m⟩ := at_mem h0 g
    obtain ⟨c, rfl⟩ := hi t m
    rw [e]
    simp only [sSeq, sNext, sRet, sRetN, sDrop, sIf, sSet, sFor, sPar, sAsg, bAnd, bOr, bNot, tTst, tCst, tBin, tUny, tNilA, tConsA, getAll, tCallB, tCallF, tTupD, tLstD, tChainA, tChainE, tRg, rgK.eq_1, tStripX, strip1K.eq_1, strip2K.eq_1, tAndE, tOrE, tNotE, tIfE, tComp, bYes, tDct0, tRange.eq_1, tgName, tgTup.eq_1, tgCons.eq_1, tgNil.eq_1, takeAll, back.eq_1, back.eq_2, back_nil, setO, tName_k, nameK.eq_1, nameK.eq_2, nameK.eq_3, nameK.eq_4, atK.eq_1, take1_v, take1_s, takeO_v, takeO_s, takeR_v, takeR_s, prep_n, prep_tv, prep_ts, prep_f, lstK.eq_1, lstAt_k, g2K.eq_1, g2_k, g1K.eq_1, g1_k, gNK.eq_1, gN_k, boK.eq_1, bOf_k, isiK.eq_1, tIsi_k, partK.eq_1, part_n, part_s, slcK.eq_1, slcK.eq_2, slcK.eq_3, slcK.eq_4, tSlc_k, revK.eq_1, revK.eq_2, revK.eq_3, tRev_k, strMK.eq_1, tStrM_k, itK.eq_1, tIter_k, enumK.eq_1, tEnum_k, zipK.eq_1, zipK.eq_2, tZip_k, intsK.eq_1, intsK.eq_2, intsOf_k, endK.eq_1, endO_k, extK.eq_1, tExtend_k, tAppend_k, setIxK.eq_1, sSetIx_k, popAtK.eq_1, tPopAt_k, bO.eq_1, itemsOf.eq_1, itemsOf.eq_2, itemsOf.eq_3, gAdd.eq_1, gAdd.eq_2, gAdd.eq_3, gAdd.eq_4, gAdd.eq_5, gAdd.eq_6, gSub_.eq_1, gSub_.eq_2, gMul2_s, gMul2_i, gMul2_l, gMulS.eq_1, gMul.eq_1, gMul.eq_2, gFdiv.eq_1, gMod.eq_1, gPow.eq_1, gNeg.eq_1, gNeg.eq_2, gGe.eq_1, gGt.eq_1, gLe.eq_1, gLt.eq_1, gLt.eq_2, gEq.eq_1, gNe.eq_1, gNe.eq_2, gNe.eq_3, gNe.eq_4, gInW.eq_1, gInW.eq_2, gIs.eq_1, gIsNot.eq_1, gLen.eq_1, gLen.eq_2, gAllAny.eq_1, gAbs.eq_1, gInt.eq_1, gInt.eq_2, gStr.eq_1, gStr.eq_2, gStr.eq_3, gM2.eq_1, gListOf.eq_1, gListOf.eq_2, gTupOf.eq_1, gTupOf.eq_2, gSort, gSortS.eq_1, gSortD.eq_1, gSortSet.eq_1, gRepr.eq_1, gIx.eq_1, gIx.eq_2, ati0, ati1, ati2, Option.some.injEq, exists_eq, exists_eq', false_implies, Opd.slot.injEq, forall_eq, forall_eq', Opd.get.eq_1, Opd.get.eq_2, at_join, join_some, O.frz.eq_1, O.frz.eq_2, O.frz.eq_3, O.frz.eq_4, lsO.eq_1, lsO.eq_2, tuO.eq_1, seqO_l, seqO_p, seqO_t, endsOf, outsOf, startA, wipeA, List.getElem?_cons_zero, List.getElem?_cons_succ, List.length_cons, List.length_nil, List.map_cons, List.map_nil, List.set_cons_zero, List.set_cons_succ, List.replicate_succ, List.replicate_zero, List.cons_append, List.nil_append, List.getD_cons_zero, List.getD_cons_succ, if_true, if_false, Bool.false_eq_true, reduceIte, reduceCtorEq, Bool.not_true, Bool.not_false, implies_true, true_and, and_true, Nat.sub_self, Nat.reduceAdd, Nat.reduceSub, Nat.zero_add, List.all_cons, List.all_nil, Bool.and_true, Bool.true_and]
    exact ⟨rfl, deck_fin h0 h1 h⟩
  · rw [decide_eq_false g, if_neg Bool.false_ne_true]
    exact deck_fin h0 h1 h
theorem _root_.DL.Gd.one' {w d b : Nat} {t : T} (g : Gd w d b t) : Gds w d b [t] := Gds.one g
theorem gds_of {k w d b : Nat} {ts : List T} (h : ∀ t ∈ ts, Gd k d b t) (hw : ts.length * k ≤ w) : Gds w d b ts :=
  ⟨Nat.le_trans (szs_len fun t m => (h t m).w) hw, fun t m => (h t m).d, fun t m => (h t m).l⟩
theorem strItems_gd {x : Str} {t : T} (h : t ∈ strItems x) (a : asc x = true) : Gd 2 0 0 t := by
  unfold strItems at h
  obtain ⟨c, m, rfl⟩ := List.mem_map.mp h
  exact Gd.str (by show 1 < 2; omega) (asc_one (of_decide_eq_true (List.all_eq_true.mp a c m)))
theorem strItems_len {x : Str} : (strItems x).length = x.length := by simp [strItems, PySem.Str.length]
theorem enum_mem {ts : List T} {t : T} (h : t ∈ enumItems ts) : ∃ (i : Nat) (u : T), i < ts.length ∧ u ∈ ts ∧ t = .tuple [.int i, u] := by
  unfold enumItems at h
  obtain ⟨i, hi, e⟩ := List.getElem_of_mem h
  rw [List.getElem_zipWith] at e
  simp only [List.getElem_range] at e
  have : i < ts.length := by simpa using hi
  exact ⟨i, ts[i], this, List.getElem_mem _, e.symm⟩
end WS

set_option Elab.async false
set_option linter.all false
set_option maxRecDepth 100000
set_option maxHeartbeats 4000000
namespace WS
open PySem PySem.Spec L2 DL
open PyProof.Rows hiding St
/-- names: texts of at most 8 letters -/
def nameT (t : T) : Prop := ∃ x : Str, t = .str x ∧ x.length ≤ 8 ∧ asc x = true
def sp__law_names : FSpec := fun os Q => ∃ n d k, n ≤ 900000 ∧ os = [d, .pure (.int (k : Nat))] ∧ Dk n d ∧ k ≤ 20 ∧ ∀ ts d', ts.length = k → (∀ t ∈ ts, nameT t) → Dk (n + 2) d' → Q (.lst ts) [d']
/-- _law_names: slots 0:_law_deck_here 1:_law_many 2:_law_stem 3:_law_first 4:_law_letters 5:_law_at -/
def t__law_names : ST := (sSeq (sPar [2, 3] (tConsA (tCallF [true, false] sp__law_any (tConsA (tName 0) (tConsA (tLstD (tConsA (tCst (.str "")) (tConsA (tCst (.str "")) (tConsA (tCst (.str "x")) (tConsA (tCst (.str "step")) (tConsA (tCst (.str "release")) tNilA)))))) tNilA))) (tConsA (tCallF [true, false] sp__law_draw (tConsA (tName 0) (tConsA (tCst (.int 26)) tNilA))) tNilA)))
  (sSeq (sSet 4 (tCst (.str "abcdefghijklmnopqrstuvwxyz")))
  (sRet (fun j => [true, false].getD j false) (tCallB gSort (tConsA (tComp (tRange (tConsA (tName 1) tNilA)) (tgName 5) bYes (tBin gAdd (tName 2) (tBin gIx (tName 4) (tBin gMod (tBin gAdd (tName 3) (tBin gMul2 (tCst (.int 5)) (tName 5))) (tCst (.int 26))))) [5]) tNilA)))))
theorem strsOf_map (f : T → Str) : ∀ ts : List T, strsOf (ts.map fun t => .str (f t)) = some (ts.map f)
  | [] => rfl
  | t :: ts => by simp [strsOf, strsOf_map f ts]
theorem rng_mem {lo : Int} {n : Nat} {t : T} (h : t ∈ rngItems lo n) : ∃ i : Int, (lo ≤ i ∧ i < lo + n) ∧ t = .int i := by
  unfold rngItems at h
  obtain ⟨i, hi, rfl⟩ := List.mem_map.mp h
  have := List.mem_range.mp hi
  exact ⟨_, ⟨by omega, by omega⟩, rfl⟩
def nmS (st : Str) (r : Int) : T → Str
  | .int i => st ++ ⟨#[(atI letters.cps.toList ((r + 5 * i) % 26)).getD 0]⟩
  | _ => st
theorem nmS_int (st : Str) (r i : Int) : nmS st r (.int i) = st ++ ⟨#[(atI letters.cps.toList ((r + 5 * i) % 26)).getD 0]⟩ := rfl
theorem lett_at (i : Int) : ∃ c, atI letters.cps.toList (i % 26) = some c := by
  have h0 := Int.emod_nonneg i (by decide : (26 : Int) ≠ 0)
  have h1 := Int.emod_lt_of_pos i (by decide : (0 : Int) < 26)
  have hl : letters.cps.toList.length = 26 := by decide +kernel
  unfold atI ixN
  rw [if_pos h0, if_pos (by omega)]
  exact ⟨_, List.getElem?_eq_getElem (by omega)⟩
theorem lett_asc : ∀ c ∈ letters.cps.toList, c < 128 := by decide +kernel
theorem atI_mem {α : Type} {l : List α} {i : Int} {x : α} (h : atI l i = some x) : x ∈ l := by
  unfold atI at h
  cases e : ixN l.length i with
  | none => rw [e] at h; cases h
  | some j => rw [e] at h; exact List.mem_of_getElem? h
theorem len_app (a b : Str) : (a ++ b).length = a.length + b.length := strLen_append a b
theorem pl__law_names (os : List O) (Qa : O → List O → Prop) (_ : os.length = 2) (h : sp__law_names os Qa) : t__law_names (endsOf [true, false] Qa) (startA 6 os) := by
  obtain ⟨n, d, k, hn, rfl, hd, hk, h⟩ := h
  obtain ⟨ds, rfl⟩ := hd.frz
  unfold t__law_names
  simp only [sSeq, sNext, sRet, sRetN, sDrop, sIf, sSet, sSetIx, sFor, sPar, sAsg, bAnd, bOr, bNot, tTst, bOf, tName, tCst, tBin, tUny, tNilA, tConsA, g2, g1, gN, getAll, tCallB, tCallF, tTupD, tLstD, tChainA, tChainE, tRg, rgK.eq_1, tStripX, strip1K.eq_1, strip2K.eq_1, tAndE, tOrE, tNotE, tIfE, tComp, bYes, Option.some.injEq, exists_eq, exists_eq', false_implies, Opd.slot.injEq, forall_eq, forall_eq', bO, tIsi, tSlc, partT, tRev, tDct0, tStrM, tAppend, tExtend, lstAt, tRange, intsOf, tIter, itemsOf, tEnum, tZip, tgName, tgTup, tgCons, tgNil, takeR, takeO, take1, takeAll, prep, back, setO, gAdd, gSub_, gMul2_s, gMul2_i, gMul2_l, gMul, gFdiv, gMod, gPow, gNeg, gGe, gGt, gLe, gLt, gEq, gNe, gInW, gIs, gIsNot, gLen, gAllAny, gAbs, gInt, gStr, gM2, gListOf, gTupOf, gSortS, gRepr, gIx, Opd.get, AEnv.at, O.frz, lsO, tuO, seqO, endsOf, endO, outsOf, startA, wipeA, List.getElem?_cons_zero, List.getElem?_cons_succ, List.length_cons, List.length_nil, List.map_cons, List.map_nil, List.set_cons_zero, List.set_cons_succ, List.replicate_succ, List.replicate_zero, List.cons_append, List.nil_append, List.getD_cons_zero, List.getD_cons_succ, if_true, if_false, Bool.false_eq_true, reduceIte, reduceCtorEq, Bool.not_true, Bool.not_false, implies_true, true_and, and_true, Nat.sub_self, Nat.reduceAdd, Nat.reduceSub, Nat.zero_add, List.all_cons, List.all_nil, Bool.and_true, Bool.true_and]
  refine ⟨n, _, _, by omega, rfl, hd, by simp, by simp, fun t d' ht hd' => ?_⟩
  obtain ⟨ds', rfl⟩ := hd'.frz
  simp only [sSeq, sNext, sRet, sRetN, sDrop, sIf, sSet, sSetIx, sFor, sPar, sAsg, bAnd, bOr, bNot, tTst, bOf, tName, tCst, tBin, tUny, tNilA, tConsA, g2, g1, gN, getAll, tCallB, tCallF, tTupD, tLstD, tChainA, tChainE, tRg, rgK.eq_1, tStripX, strip1K.eq_1, strip2K.eq_1, tAndE, tOrE, tNotE, tIfE, tComp, bYes, Option.some.injEq, exists_eq, exists_eq', false_implies, Opd.slot.injEq, forall_eq, forall_eq', bO, tIsi, tSlc, partT, tRev, tDct0, tStrM, tAppend, tExtend, lstAt, tRange, intsOf, tIter, itemsOf, tEnum, tZip, tgName, tgTup, tgCons, tgNil, takeR, takeO, take1, takeAll, prep, back, setO, gAdd, gSub_, gMul2_s, gMul2_i, gMul2_l, gMul, gFdiv, gMod, gPow, gNeg, gGe, gGt, gLe, gLt, gEq, gNe, gInW, gIs, gIsNot, gLen, gAllAny, gAbs, gInt, gStr, gM2, gListOf, gTupOf, gSortS, gRepr, gIx, Opd.get, AEnv.at, O.frz, lsO, tuO, seqO, endsOf, endO, outsOf, startA, wipeA, List.getElem?_cons_zero, List.getElem?_cons_succ, List.length_cons, List.length_nil, List.map_cons, List.map_nil, List.set_cons_zero, List.set_cons_succ, List.replicate_succ, List.replicate_zero, List.cons_append, List.nil_append, List.getD_cons_zero, List.getD_cons_succ, if_true, if_false, Bool.false_eq_true, reduceIte, reduceCtorEq, Bool.not_true, Bool.not_false, implies_true, true_and, and_true, Nat.sub_self, Nat.reduceAdd, Nat.reduceSub, Nat.zero_add, List.all_cons, List.all_nil, Bool.and_true, Bool.true_and]
  refine ⟨n + 1, _, _, by omega, rfl, hd', by decide, by decide, fun r d' h0 h1 hd' => ?_⟩
  obtain ⟨ds', rfl⟩ := hd'.frz
  simp only [sSeq, sNext, sRet, sRetN, sDrop, sIf, sSet, sSetIx, sFor, sPar, sAsg, bAnd, bOr, bNot, tTst, bOf, tName, tCst, tBin, tUny, tNilA, tConsA, g2, g1, gN, getAll, tCallB, tCallF, tTupD, tLstD, tChainA, tChainE, tRg, rgK.eq_1, tStripX, strip1K.eq_1, strip2K.eq_1, tAndE, tOrE, tNotE, tIfE, tComp, bYes, Option.some.injEq, exists_eq, exists_eq', false_implies, Opd.slot.injEq, forall_eq, forall_eq', bO, tIsi, tSlc, partT, tRev, tDct0, tStrM, tAppend, tExtend, lstAt, tRange, intsOf, tIter, itemsOf, tEnum, tZip, tgName, tgTup, tgCons, tgNil, takeR, takeO, take1, takeAll, prep, back, setO, gAdd, gSub_, gMul2_s, gMul2_i, gMul2_l, gMul, gFdiv, gMod, gPow, gNeg, gGe, gGt, gLe, gLt, gEq, gNe, gInW, gIs, gIsNot, gLen, gAllAny, gAbs, gInt, gStr, gM2, gListOf, gTupOf, gSortS, gRepr, gIx, Opd.get, AEnv.at, O.frz, lsO, tuO, seqO, endsOf, endO, outsOf, startA, wipeA, List.getElem?_cons_zero, List.getElem?_cons_succ, List.length_cons, List.length_nil, List.map_cons, List.map_nil, List.set_cons_zero, List.set_cons_succ, List.replicate_succ, List.replicate_zero, List.cons_append, List.nil_append, List.getD_cons_zero, List.getD_cons_succ, if_true, if_false, Bool.false_eq_true, reduceIte, reduceCtorEq, Bool.not_true, Bool.not_false, implies_true, true_and, and_true, Nat.sub_self, Nat.reduceAdd, Nat.reduceSub, Nat.zero_add, List.all_cons, List.all_nil, Bool.and_true, Bool.true_and]
  obtain ⟨st, rfl, hst, hsa⟩ : ∃ st : Str, t = .str st ∧ st.length ≤ 7 ∧ asc st = true := by
    simp only [List.mem_cons, List.not_mem_nil, or_false] at ht
    rcases ht with rfl | rfl | rfl | rfl | rfl <;> exact ⟨_, rfl, by decide, by decide +kernel⟩
  refine ⟨rfl, rfl, by omega, by omega, ?_⟩
  refine compW_map (fun t => .str (nmS st r t)) _ _ (fun t m Q' acc ts' q => ?_) ?_
  · obtain ⟨i, hi, rfl⟩ := rng_mem m
    unfold compW
    simp only [sSeq, sNext, sRet, sRetN, sDrop, sIf, sSet, sSetIx, sFor, sPar, sAsg, bAnd, bOr, bNot, tTst, bOf, tName, tCst, tBin, tUny, tNilA, tConsA, g2, g1, gN, getAll, tCallB, tCallF, tTupD, tLstD, tChainA, tChainE, tRg, rgK.eq_1, tStripX, strip1K.eq_1, strip2K.eq_1, tAndE, tOrE, tNotE, tIfE, tComp, bYes, Option.some.injEq, exists_eq, exists_eq', false_implies, Opd.slot.injEq, forall_eq, forall_eq', bO, tIsi, tSlc, partT, tRev, tDct0, tStrM, tAppend, tExtend, lstAt, tRange, intsOf, tIter, itemsOf, tEnum, tZip, tgName, tgTup, tgCons, tgNil, takeR, takeO, take1, takeAll, prep, back, setO, gAdd, gSub_, gMul2_s, gMul2_i, gMul2_l, gMul, gFdiv, gMod, gPow, gNeg, gGe, gGt, gLe, gLt, gEq, gNe, gInW, gIs, gIsNot, gLen, gAllAny, gAbs, gInt, gStr, gM2, gListOf, gTupOf, gSortS, gRepr, gIx, Opd.get, AEnv.at, O.frz, lsO, tuO, seqO, endsOf, endO, outsOf, startA, wipeA, List.getElem?_cons_zero, List.getElem?_cons_succ, List.length_cons, List.length_nil, List.map_cons, List.map_nil, List.set_cons_zero, List.set_cons_succ, List.replicate_succ, List.replicate_zero, List.cons_append, List.nil_append, List.getD_cons_zero, List.getD_cons_succ, if_true, if_false, Bool.false_eq_true, reduceIte, reduceCtorEq, Bool.not_true, Bool.not_false, implies_true, true_and, and_true, Nat.sub_self, Nat.reduceAdd, Nat.reduceSub, Nat.zero_add, List.all_cons, List.all_nil, Bool.and_true, Bool.true_and]
    obtain ⟨c, hc⟩ := lett_at (r + 5 * i)
    have e : nmS st r (.int i) = st ++ ⟨#[c]⟩ := by rw [nmS_int, hc]; rfl
    rw [e] at q
    refine ⟨rfl, by
      have : (5 : Int).natAbs.log2 = 2 := by decide
      have h2 : Bd 5 i := by unfold Bd; omega
      have := h2.log (by decide)
      omega, by decide, by decide, ?_⟩
    have hc' : atI (Str.ofString "abcdefghijklmnopqrstuvwxyz").cps.toList ((r + 5 * i) % 26) = some c := hc
    rw [hc']
    refine ⟨?_, q⟩
    have : (⟨#[c]⟩ : Str).length = 1 := rfl
    omega
  · refine .inl ?_
    simp only [gSortS, lsO]
    rw [List.nil_append, strsOf_map]
    simp only [sSeq, sNext, sRet, sRetN, sDrop, sIf, sSet, sSetIx, sFor, sPar, sAsg, bAnd, bOr, bNot, tTst, bOf, tName, tCst, tBin, tUny, tNilA, tConsA, g2, g1, gN, getAll, tCallB, tCallF, tTupD, tLstD, tChainA, tChainE, tRg, rgK.eq_1, tStripX, strip1K.eq_1, strip2K.eq_1, tAndE, tOrE, tNotE, tIfE, tComp, bYes, Option.some.injEq, exists_eq, exists_eq', false_implies, Opd.slot.injEq, forall_eq, forall_eq', bO, tIsi, tSlc, partT, tRev, tDct0, tStrM, tAppend, tExtend, lstAt, tRange, intsOf, tIter, itemsOf, tEnum, tZip, tgName, tgTup, tgCons, tgNil, takeR, takeO, take1, takeAll, prep, back, setO, gAdd, gSub_, gMul2_s, gMul2_i, gMul2_l, gMul, gFdiv, gMod, gPow, gNeg, gGe, gGt, gLe, gLt, gEq, gNe, gInW, gIs, gIsNot, gLen, gAllAny, gAbs, gInt, gStr, gM2, gListOf, gTupOf, gSortS, gRepr, gIx, Opd.get, AEnv.at, O.frz, lsO, tuO, seqO, endsOf, endO, outsOf, startA, wipeA, List.getElem?_cons_zero, List.getElem?_cons_succ, List.length_cons, List.length_nil, List.map_cons, List.map_nil, List.set_cons_zero, List.set_cons_succ, List.replicate_succ, List.replicate_zero, List.cons_append, List.nil_append, List.getD_cons_zero, List.getD_cons_succ, if_true, if_false, Bool.false_eq_true, reduceIte, reduceCtorEq, Bool.not_true, Bool.not_false, implies_true, true_and, and_true, Nat.sub_self, Nat.reduceAdd, Nat.reduceSub, Nat.zero_add, List.all_cons, List.all_nil, Bool.and_true, Bool.true_and]
    have hl : ((rngItems 0 ((k : Int)).toNat).map (nmS st r)).length = k := by simp [rngItems]
    refine ⟨by rw [hl]; omega, fun ys hp _ => h _ _ (by rw [List.length_map, hp.length_eq, hl]) (fun t m => ?_) hd'⟩
    obtain ⟨y, hy, rfl⟩ := List.mem_map.mp m
    obtain ⟨z, hz, rfl⟩ := List.mem_map.mp (hp.mem_iff.mp hy)
    obtain ⟨i, _, rfl⟩ := rng_mem hz
    obtain ⟨c, hc⟩ := lett_at (r + 5 * i)
    have hc2 : c < 128 := lett_asc c (atI_mem hc)
    refine ⟨_, rfl, ?_, ?_⟩
    · rw [nmS_int, len_app]
      have : ((⟨#[(atI letters.cps.toList ((r + 5 * i) % 26)).getD 0]⟩ : Str)).length = 1 := rfl
      omega
    · rw [nmS_int, hc]
      exact asc_app hsa (asc_one hc2)
theorem name_gd {t : T} (h : nameT t) : Gd 9 0 0 t := by
  obtain ⟨x, rfl, h1, h2⟩ := h
  exact Gd.str (by omega) h2
end WS

set_option Elab.async false
set_option linter.all false
set_option maxRecDepth 100000
set_option maxHeartbeats 4000000
namespace WS
open PySem PySem.Spec L2 DL
open PyProof.Rows hiding St
def sp__law_odd : FSpec := fun os Q => ∃ n d t w dp b, n ≤ 900000 ∧ os = [d, .pure t] ∧ Dk n d ∧ Gd w dp b t ∧ w ≤ 100000 ∧ 10 ^ 20 ≤ b ∧ b < 10 ^ 30 ∧ ∀ t' d', Gd (2 * w + 40) (dp + 2) (b + 1) t' → Dk (n + 1) d' → Q (.pure t') [d']
/-- _law_odd: slots 0:_law_deck_here 1:_law_thing 2:_law_some -/
def t__law_odd : ST := (sSeq (sSet 2 (tLstD (tConsA (tCst .none) (tConsA (tCst (.bool true)) (tConsA (tCst (.bool false)) (tConsA (tCst (.int 0)) (tConsA (tCst (.int 1)) (tConsA (tUny gNeg (tCst (.int 1))) (tConsA (tCst (.int 12)) (tConsA (tBin gPow (tCst (.int 10)) (tCst (.int 20))) (tConsA (tCst (.str "")) (tConsA (tCst (.str "a")) (tConsA (tCst (.str "A")) (tConsA (tCst (.str "ab")) (tConsA (tTupD tNilA) (tConsA (tLstD tNilA) (tConsA tDct0 (tConsA (tTupD (tConsA (tCst (.int 0)) tNilA)) (tConsA (tTupD (tConsA (tCst (.str "a")) tNilA)) (tConsA (tTupD (tConsA (tTupD (tConsA (tCst (.str "a")) (tConsA (tCst (.int 1)) tNilA))) tNilA)) (tConsA (tLstD (tConsA (tCst (.int 0)) tNilA)) tNilA)))))))))))))))))))))
  (sSeq (sIf (tTst (tIsi "tuple" (tName 1))) (sSet 2 (tBin gAdd (tName 2) (tBin gMul2 (tLstD (tConsA (tCallB gListOf (tConsA (tName 1) tNilA)) (tConsA (tSlc (tName 1) none (some (tUny gNeg (tCst (.int 1))))) (tConsA (tBin gAdd (tName 1) (tSlc (tName 1) (some (tUny gNeg (tCst (.int 1)))) none)) (tConsA (tRev (tName 1)) (tConsA (tTupD (tConsA (tName 1) tNilA)) (tConsA (tSlc (tName 1) (some (tCst (.int 1))) none) tNilA))))))) (tCst (.int 2))))) (sIf (tTst (tIsi "str" (tName 1))) (sSet 2 (tBin gAdd (tName 2) (tBin gMul2 (tLstD (tConsA (tBin gAdd (tName 1) (tCst (.str "a"))) (tConsA (tSlc (tName 1) none (some (tUny gNeg (tCst (.int 1))))) (tConsA (tStrM Txt.upper (fun z => z.length ≤ 5000000) (tName 1)) (tConsA (tBin gAdd (tName 1) (tCst (.str " "))) (tConsA (tTupD (tConsA (tName 1) tNilA)) (tConsA (tLstD (tConsA (tName 1) tNilA)) tNilA))))))) (tCst (.int 2))))) (sIf (tTst (tIsi "int" (tName 1))) (sSet 2 (tBin gAdd (tName 2) (tBin gMul2 (tLstD (tConsA (tBin gAdd (tName 1) (tCst (.int 1))) (tConsA (tBin gSub_ (tName 1) (tCst (.int 1))) (tConsA (tCallB gStr (tConsA (tName 1) tNilA)) (tConsA (tBin gEq (tName 1) (tCst (.int 1))) (tConsA (tUny gNeg (tName 1)) tNilA)))))) (tCst (.int 2))))) sNext)))
  (sRet (fun j => [true, false].getD j false) (tCallF [true, false] sp__law_any (tConsA (tName 0) (tConsA (tName 2) tNilA))))))
def oddC : List T := [.none, .bool true, .bool false, .int 0, .int 1, .int (-1), .int 12, .int (10 ^ 20), .str "", .str "a", .str "A", .str "ab", .tuple [], .list [], .dict [], .tuple [.int 0], .tuple [.str "a"], .tuple [.tuple [.str "a", .int 1]], .list [.int 0]]
theorem oddC_gd : ∀ t ∈ oddC, Gd 40 2 (10 ^ 20) t := by
  unfold oddC
  simp only [List.mem_cons, List.not_mem_nil, or_false, forall_eq_or_imp, forall_eq]
  repeat' apply And.intro
  all_goals exact ⟨by decide +kernel, by decide +kernel, by decide +kernel⟩
theorem any_ok {n : Nat} {ds ts : List T} {Q : O → List O → Prop} (hn : n ≤ 1000000) (hd : Dk n (.lst ds)) (hne : ts ≠ []) (hl : ts.length ≤ 1000000) (h : ∀ t d', t ∈ ts → Dk (n + 1) d' → Q (.pure t) [d']) : sp__law_any [.lst ds, .pure (.list ts)] Q :=
  ⟨n, _, ts, hn, rfl, hd, hne, hl, h⟩
theorem rep_mem {k : Int} {l : List T} {t : T} (h : t ∈ repL k l) : t ∈ l := by
  unfold repL at h
  obtain ⟨r, hr, m⟩ := List.mem_flatten.mp h
  rw [List.eq_of_mem_replicate hr] at m
  exact m
theorem rep_len {l : List T} : (repL 2 l).length = 2 * l.length := by
  unfold repL
  show (List.replicate 2 l).flatten.length = _
  simp [List.replicate]; omega
theorem odd_any {n w dp b : Nat} {ds l : List T} {Q : O → List O → Prop} (hn : n ≤ 900000) (hd : Dk n (.lst ds)) (hb1 : 10 ^ 20 ≤ b) (hl : ∀ t ∈ l, Gd (2 * w + 40) (dp + 2) (b + 1) t) (hl2 : l.length ≤ 20)
    (h : ∀ t' d', Gd (2 * w + 40) (dp + 2) (b + 1) t' → Dk (n + 1) d' → Q (.pure t') [d']) : sp__law_any [.lst ds, .pure (.list (oddC ++ l))] Q := by
  refine any_ok (by omega) hd (by simp [oddC]) (by rw [List.length_append]; simp [oddC]; omega) fun t d' m hd' => h t d' ?_ hd'
  rcases List.mem_append.mp m with m | m
  · exact (oddC_gd t m).mono (by omega) (by omega) (by omega)
  · exact hl t m
theorem pl__law_odd (os : List O) (Qa : O → List O → Prop) (_ : os.length = 2) (h : sp__law_odd os Qa) : t__law_odd (endsOf [true, false] Qa) (startA 3 os) := by
  obtain ⟨n, d, t, w, dp, b, hn, rfl, hd, g, hw, hb1, hb2, h⟩ := h
  obtain ⟨ds, rfl⟩ := hd.frz
  unfold t__law_odd
  have p0 : (0 : Int) ≤ 20 ∧ (20 : Int) ≤ 1000 ∧ (Int.natAbs 10).log2 < 100000 := by decide
  have e2 : Nat.blt 2 3 = true := rfl
  cases t with
  | tuple ts =>
    have gt := g.tupE
    have gw := g.tupW
    have gl := gt.len
    have gc : ∀ lo hi, (cutT ts lo hi).length ≤ ts.length := fun lo hi => by unfold cutT; simp only [List.length_take, List.length_drop]; omega
    simp only [sSeq, sNext, sRet, sRetN, sDrop, sIf, sSet, sSetIx, sFor, sPar, sAsg, bAnd, bOr, bNot, tTst, bOf, tName, tCst, tBin, tUny, tNilA, tConsA, g2, g1, gN, getAll, tCallB, tCallF, tTupD, tLstD, tChainA, tChainE, tRg, rgK.eq_1, tStripX, strip1K.eq_1, strip2K.eq_1, tAndE, tOrE, tNotE, tIfE, tComp, bYes, Option.some.injEq, exists_eq, exists_eq', false_implies, Opd.slot.injEq, forall_eq, forall_eq', bO, tIsi, tSlc, partT, tRev, tDct0, tStrM, tAppend, tExtend, lstAt, tRange, intsOf, tIter, itemsOf, tEnum, tZip, tgName, tgTup, tgCons, tgNil, takeR, takeO, take1, takeAll, prep, back, setO, gAdd, gSub_, gMul2_s, gMul2_i, gMul2_l, gMul, gFdiv, gMod, gPow, gNeg, gGe, gGt, gLe, gLt, gEq, gNe, gInW, gIs, gIsNot, gLen, gAllAny, gAbs, gInt, gStr, gM2, gListOf, gTupOf, gSortS, gRepr, gIx, Opd.get, AEnv.at, O.frz, lsO, tuO, seqO, endsOf, endO, outsOf, startA, wipeA, List.getElem?_cons_zero, List.getElem?_cons_succ, List.length_cons, List.length_nil, List.map_cons, List.map_nil, List.set_cons_zero, List.set_cons_succ, List.replicate_succ, List.replicate_zero, List.cons_append, List.nil_append, List.getD_cons_zero, List.getD_cons_succ, if_true, if_false, Bool.false_eq_true, reduceIte, reduceCtorEq, Bool.not_true, Bool.not_false, implies_true, true_and, and_true, Nat.sub_self, Nat.reduceAdd, Nat.reduceSub, Nat.zero_add, List.all_cons, List.all_nil, Bool.and_true, Bool.true_and, isT_tuple]
    refine ⟨p0.1, p0.2.1, p0.2.2, e2, by have := gc (some (-1)) none; omega, by decide, by decide, by decide, by rw [rep_len]; simp, e2, ?_⟩
    refine odd_any (l := repL 2 _) hn hd hb1 (fun t m => ?_) (by rw [rep_len]; simp) h
    have m := rep_mem m
    simp only [List.mem_cons, List.not_mem_nil, or_false] at m
    rcases m with rfl | rfl | rfl | rfl | rfl | rfl
    · exact (Gd.lst gt).mono (by omega) (by omega) (by omega)
    · exact (Gd.tup (gt.cut _ _)).mono (by omega) (by omega) (by omega)
    · exact (Gd.tup (gt.app (gt.cut _ _))).mono (by omega) (by omega) (by omega)
    · exact (Gd.tup gt.rev).mono (by omega) (by omega) (by omega)
    · exact (Gd.tup (Gds.one g)).mono (by omega) (by omega) (by omega)
    · exact (Gd.tup (gt.cut _ _)).mono (by omega) (by omega) (by omega)
  | str x =>
    obtain ⟨gl, ga⟩ := g.strE
    simp only [sSeq, sNext, sRet, sRetN, sDrop, sIf, sSet, sSetIx, sFor, sPar, sAsg, bAnd, bOr, bNot, tTst, bOf, tName, tCst, tBin, tUny, tNilA, tConsA, g2, g1, gN, getAll, tCallB, tCallF, tTupD, tLstD, tChainA, tChainE, tRg, rgK.eq_1, tStripX, strip1K.eq_1, strip2K.eq_1, tAndE, tOrE, tNotE, tIfE, tComp, bYes, Option.some.injEq, exists_eq, exists_eq', false_implies, Opd.slot.injEq, forall_eq, forall_eq', bO, tIsi, tSlc, partT, tRev, tDct0, tStrM, tAppend, tExtend, lstAt, tRange, intsOf, tIter, itemsOf, tEnum, tZip, tgName, tgTup, tgCons, tgNil, takeR, takeO, take1, takeAll, prep, back, setO, gAdd, gSub_, gMul2_s, gMul2_i, gMul2_l, gMul, gFdiv, gMod, gPow, gNeg, gGe, gGt, gLe, gLt, gEq, gNe, gInW, gIs, gIsNot, gLen, gAllAny, gAbs, gInt, gStr, gM2, gListOf, gTupOf, gSortS, gRepr, gIx, Opd.get, AEnv.at, O.frz, lsO, tuO, seqO, endsOf, endO, outsOf, startA, wipeA, List.getElem?_cons_zero, List.getElem?_cons_succ, List.length_cons, List.length_nil, List.map_cons, List.map_nil, List.set_cons_zero, List.set_cons_succ, List.replicate_succ, List.replicate_zero, List.cons_append, List.nil_append, List.getD_cons_zero, List.getD_cons_succ, if_true, if_false, Bool.false_eq_true, reduceIte, reduceCtorEq, Bool.not_true, Bool.not_false, implies_true, true_and, and_true, Nat.sub_self, Nat.reduceAdd, Nat.reduceSub, Nat.zero_add, List.all_cons, List.all_nil, Bool.and_true, Bool.true_and, isT_tuple, isT_str]
    refine ⟨p0.1, p0.2.1, p0.2.2, e2, ?_⟩
    have l1 : ("a" : Str).length = 1 := by decide
    have l2 : (" " : Str).length = 1 := by decide
    have u := asc_upper ga
    have c := asc_cut ga none (some (-1))
    refine ⟨by omega, by omega, by omega, by omega, by decide, by decide, by decide, by rw [rep_len]; simp, e2, ?_⟩
    refine odd_any (l := repL 2 _) hn hd hb1 (fun t m => ?_) (by rw [rep_len]; simp) h
    have m := rep_mem m
    simp only [List.mem_cons, List.not_mem_nil, or_false] at m
    rcases m with rfl | rfl | rfl | rfl | rfl | rfl
    · exact Gd.str (by rw [strLen_append]; omega) (asc_app ga (by decide +kernel))
    · exact Gd.str (by omega) c.1
    · exact Gd.str (by omega) u.1
    · exact Gd.str (by rw [strLen_append]; omega) (asc_app ga (by decide +kernel))
    · exact (Gd.tup (Gds.one g)).mono (by omega) (by omega) (by omega)
    · exact (Gd.lst (Gds.one g)).mono (by omega) (by omega) (by omega)
  | int i =>
    have gi := g.intE
    simp only [sSeq, sNext, sRet, sRetN, sDrop, sIf, sSet, sSetIx, sFor, sPar, sAsg, bAnd, bOr, bNot, tTst, bOf, tName, tCst, tBin, tUny, tNilA, tConsA, g2, g1, gN, getAll, tCallB, tCallF, tTupD, tLstD, tChainA, tChainE, tRg, rgK.eq_1, tStripX, strip1K.eq_1, strip2K.eq_1, tAndE, tOrE, tNotE, tIfE, tComp, bYes, Option.some.injEq, exists_eq, exists_eq', false_implies, Opd.slot.injEq, forall_eq, forall_eq', bO, tIsi, tSlc, partT, tRev, tDct0, tStrM, tAppend, tExtend, lstAt, tRange, intsOf, tIter, itemsOf, tEnum, tZip, tgName, tgTup, tgCons, tgNil, takeR, takeO, take1, takeAll, prep, back, setO, gAdd, gSub_, gMul2_s, gMul2_i, gMul2_l, gMul, gFdiv, gMod, gPow, gNeg, gGe, gGt, gLe, gLt, gEq, gNe, gInW, gIs, gIsNot, gLen, gAllAny, gAbs, gInt, gStr, gM2, gListOf, gTupOf, gSortS, gRepr, gIx, Opd.get, AEnv.at, O.frz, lsO, tuO, seqO, endsOf, endO, outsOf, startA, wipeA, List.getElem?_cons_zero, List.getElem?_cons_succ, List.length_cons, List.length_nil, List.map_cons, List.map_nil, List.set_cons_zero, List.set_cons_succ, List.replicate_succ, List.replicate_zero, List.cons_append, List.nil_append, List.getD_cons_zero, List.getD_cons_succ, if_true, if_false, Bool.false_eq_true, reduceIte, reduceCtorEq, Bool.not_true, Bool.not_false, implies_true, true_and, and_true, Nat.sub_self, Nat.reduceAdd, Nat.reduceSub, Nat.zero_add, List.all_cons, List.all_nil, Bool.and_true, Bool.true_and, isT_tuple, isT_str, isT_int]
    have g100 : i.natAbs < 2 ^ 100 := Nat.lt_of_le_of_lt gi (Nat.lt_trans hb2 (by decide))
    have glen : (Str.ofString (toString i)).length ≤ 31 := by
      have := int_text_length_le10 (k := 30) (a := i) (by decide) (by omega)
      rw [PySem.ofString_length]; omega
    refine ⟨p0.1, p0.2.1, p0.2.2, e2, Nat.lt_trans (PySem.Flt.log2_lt_of (by decide) g100) (by decide), by simp [cmpOk], by simp [PyData.depth], by decide, by decide, by decide, by rw [rep_len]; simp, e2, ?_⟩
    refine odd_any (l := repL 2 _) hn hd hb1 (fun t m => ?_) (by rw [rep_len]; simp) h
    have m := rep_mem m
    simp only [List.mem_cons, List.not_mem_nil, or_false] at m
    rcases m with rfl | rfl | rfl | rfl | rfl
    · exact (Gd.int (i := i + 1) (d := dp + 2) (b := b + 1) (by omega)).mono (by omega) (by omega) (by omega)
    · exact (Gd.int (i := i - 1) (d := dp + 2) (b := b + 1) (by omega)).mono (by omega) (by omega) (by omega)
    · exact Gd.str (by omega) (asc_int i)
    · exact Gd.bool.mono (by omega) (Nat.le_refl _) (Nat.le_refl _)
    · exact (Gd.int (i := -i) (d := dp + 2) (b := b + 1) (by omega)).mono (by omega) (by omega) (by omega)
  | bool i =>
    simp only [sSeq, sNext, sRet, sRetN, sDrop, sIf, sSet, sSetIx, sFor, sPar, sAsg, bAnd, bOr, bNot, tTst, bOf, tName, tCst, tBin, tUny, tNilA, tConsA, g2, g1, gN, getAll, tCallB, tCallF, tTupD, tLstD, tChainA, tChainE, tRg, rgK.eq_1, tStripX, strip1K.eq_1, strip2K.eq_1, tAndE, tOrE, tNotE, tIfE, tComp, bYes, Option.some.injEq, exists_eq, exists_eq', false_implies, Opd.slot.injEq, forall_eq, forall_eq', bO, tIsi, tSlc, partT, tRev, tDct0, tStrM, tAppend, tExtend, lstAt, tRange, intsOf, tIter, itemsOf, tEnum, tZip, tgName, tgTup, tgCons, tgNil, takeR, takeO, take1, takeAll, prep, back, setO, gAdd, gSub_, gMul2_s, gMul2_i, gMul2_l, gMul, gFdiv, gMod, gPow, gNeg, gGe, gGt, gLe, gLt, gEq, gNe, gInW, gIs, gIsNot, gLen, gAllAny, gAbs, gInt, gStr, gM2, gListOf, gTupOf, gSortS, gRepr, gIx, Opd.get, AEnv.at, O.frz, lsO, tuO, seqO, endsOf, endO, outsOf, startA, wipeA, List.getElem?_cons_zero, List.getElem?_cons_succ, List.length_cons, List.length_nil, List.map_cons, List.map_nil, List.set_cons_zero, List.set_cons_succ, List.replicate_succ, List.replicate_zero, List.cons_append, List.nil_append, List.getD_cons_zero, List.getD_cons_succ, if_true, if_false, Bool.false_eq_true, reduceIte, reduceCtorEq, Bool.not_true, Bool.not_false, implies_true, true_and, and_true, Nat.sub_self, Nat.reduceAdd, Nat.reduceSub, Nat.zero_add, List.all_cons, List.all_nil, Bool.and_true, Bool.true_and, isT_tuple, isT_str, isT_int]
    refine ⟨p0.1, p0.2.1, p0.2.2, e2, by simp [cmpOk], by simp [PyData.depth], by decide, by decide, by decide, by rw [rep_len]; simp, e2, ?_⟩
    refine odd_any (l := repL 2 _) hn hd hb1 (fun t m => ?_) (by rw [rep_len]; simp) h
    have m := rep_mem m
    have hbi : b2i i = 0 ∨ b2i i = 1 := by cases i <;> simp [b2i]
    simp only [List.mem_cons, List.not_mem_nil, or_false] at m
    rcases m with rfl | rfl | rfl | rfl | rfl
    · exact (Gd.int (i := b2i i + 1) (d := dp + 2) (b := b + 1) (by omega)).mono (by omega) (by omega) (by omega)
    · exact (Gd.int (i := b2i i - 1) (d := dp + 2) (b := b + 1) (by omega)).mono (by omega) (by omega) (by omega)
    · have h2 : (if i = true then Str.ofString "True" else Str.ofString "False").length < 6 ∧ asc (if i = true then Str.ofString "True" else Str.ofString "False") = true := by
        cases i
        · exact ⟨by decide +kernel, by decide +kernel⟩
        · exact ⟨by decide +kernel, by decide +kernel⟩
      exact Gd.str (by omega) h2.2
    · exact Gd.bool.mono (by omega) (Nat.le_refl _) (Nat.le_refl _)
    · exact (Gd.int (i := -b2i i) (d := dp + 2) (b := b + 1) (by omega)).mono (by omega) (by omega) (by omega)
  | _ =>
    simp only [sSeq, sNext, sRet, sRetN, sDrop, sIf, sSet, sSetIx, sFor, sPar, sAsg, bAnd, bOr, bNot, tTst, bOf, tName, tCst, tBin, tUny, tNilA, tConsA, g2, g1, gN, getAll, tCallB, tCallF, tTupD, tLstD, tChainA, tChainE, tRg, rgK.eq_1, tStripX, strip1K.eq_1, strip2K.eq_1, tAndE, tOrE, tNotE, tIfE, tComp, bYes, Option.some.injEq, exists_eq, exists_eq', false_implies, Opd.slot.injEq, forall_eq, forall_eq', bO, tIsi, tSlc, partT, tRev, tDct0, tStrM, tAppend, tExtend, lstAt, tRange, intsOf, tIter, itemsOf, tEnum, tZip, tgName, tgTup, tgCons, tgNil, takeR, takeO, take1, takeAll, prep, back, setO, gAdd, gSub_, gMul2_s, gMul2_i, gMul2_l, gMul, gFdiv, gMod, gPow, gNeg, gGe, gGt, gLe, gLt, gEq, gNe, gInW, gIs, gIsNot, gLen, gAllAny, gAbs, gInt, gStr, gM2, gListOf, gTupOf, gSortS, gRepr, gIx, Opd.get, AEnv.at, O.frz, lsO, tuO, seqO, endsOf, endO, outsOf, startA, wipeA, List.getElem?_cons_zero, List.getElem?_cons_succ, List.length_cons, List.length_nil, List.map_cons, List.map_nil, List.set_cons_zero, List.set_cons_succ, List.replicate_succ, List.replicate_zero, List.cons_append, List.nil_append, List.getD_cons_zero, List.getD_cons_succ, if_true, if_false, Bool.false_eq_true, reduceIte, reduceCtorEq, Bool.not_true, Bool.not_false, implies_true, true_and, and_true, Nat.sub_self, Nat.reduceAdd, Nat.reduceSub, Nat.zero_add, List.all_cons, List.all_nil, Bool.and_true, Bool.true_and, isT_tuple, isT_str, isT_int]
    refine ⟨p0.1, p0.2.1, p0.2.2, e2, ?_⟩
    exact odd_any (l := []) hn hd hb1 (by simp) (by simp) h
/-- _law_bent -/
def sp__law_bentK (m : Nat) : FSpec := fun os Q => ∃ n d t w dp b, ∃ k : Nat, k ≤ m ∧ n + 2 * k ≤ 800000 ∧ os = [d, .pure t, .pure (.int k)] ∧ Dk n d ∧ Gd w dp b t ∧ w ≤ 100000 ∧ 10 ^ 20 ≤ b ∧ b < 10 ^ 30 ∧ ∀ t' d', Gd (3 * w + 40) (dp + k + 2) (b + 1) t' → Dk (n + 2 * k + 2) d' → Q (.pure t') [d']
theorem sp__law_bent_mono {j m : Nat} (h : j ≤ m) {os : List O} {Q : O → List O → Prop} (z : sp__law_bentK j os Q) : sp__law_bentK m os Q := by
  obtain ⟨n, d, t, w, dp, b, k, hk, r⟩ := z
  exact ⟨n, d, t, w, dp, b, k, Nat.le_trans hk h, r⟩
/-- _law_bent: slots 0:_law_deck_here 1:_law_thing 2:_law_deep 3:_law_at -/
def t__law_bent (sp__law_bent : FSpec) : ST := (sSeq (sIf (bOr (tTst (tBin gEq (tName 2) (tCst (.int 0)))) (bOr (bNot (tTst (tIsi "tuple" (tName 1)))) (bOr (tTst (tBin gEq (tName 1) (tTupD tNilA))) (tTst (tBin gEq (tCallF [true, false] sp__law_draw (tConsA (tName 0) (tConsA (tCst (.int 5)) tNilA))) (tCst (.int 0))))))) (sRet (fun j => [true, false, false].getD j false) (tCallF [true, false] sp__law_odd (tConsA (tName 0) (tConsA (tName 1) tNilA)))) sNext)
  (sSeq (sSet 3 (tCallF [true, false] sp__law_draw (tConsA (tName 0) (tConsA (tCallB gLen (tConsA (tName 1) tNilA)) tNilA))))
  (sRet (fun j => [true, false, false].getD j false) (tBin gAdd (tBin gAdd (tSlc (tName 1) none (some (tName 3))) (tTupD (tConsA (tCallF [true, false, false] sp__law_bent (tConsA (tName 0) (tConsA (tBin gIx (tName 1) (tName 3)) (tConsA (tBin gSub_ (tName 2) (tCst (.int 1))) tNilA)))) tNilA))) (tSlc (tName 1) (some (tBin gAdd (tName 3) (tCst (.int 1)))) none)))))
abbrev sp__law_bent : FSpec := sp__law_bentK 3
theorem cmp_nil : ∀ ts : List T, cmpOk (.tuple ts) (.tuple []) = true
  | [] => by simp [cmpOk, cmpOks]
  | x :: ts => by simp [cmpOk, cmpOks]
theorem pl__law_bentK {inn : FSpec} {m : Nat} (hin : ∀ j, j < m → ∀ os Q, sp__law_bentK j os Q → inn os Q) (os : List O) (Qa : O → List O → Prop) (_ : os.length = 3) (h : sp__law_bentK m os Qa) : t__law_bent inn (endsOf [true, false, false] Qa) (startA 4 os) := by
  obtain ⟨n, d, t, w, dp, b, k, hkm, hn, rfl, hd, g, hw, hb1, hb2, h⟩ := h
  obtain ⟨ds, rfl⟩ := hd.frz
  have odd : ∀ (m : Nat) (ds : List T) (Q : O → List O → Prop), m ≤ n + 1 → Dk m (.lst ds) → (∀ t' d', Gd (3 * w + 40) (dp + k + 2) (b + 1) t' → Dk (n + 2 * k + 2) d' → Q (.pure t') [d']) → sp__law_odd [.lst ds, .pure t] Q := fun m ds Q hm hd q =>
    ⟨m, _, t, w, dp, b, by omega, rfl, hd, g, hw, hb1, hb2, fun t' d' g' hd' => q t' d' (g'.mono (by omega) (by omega) (by omega)) (hd'.mono (by omega))⟩
  unfold t__law_bent
  simp only [sSeq, sNext, sRet, sRetN, sDrop, sIf, sSet, sFor, sPar, sAsg, bAnd, bOr, bNot, tTst, tCst, tBin, tUny, tNilA, tConsA, getAll, tCallB, tCallF, tTupD, tLstD, tChainA, tChainE, tRg, rgK.eq_1, tStripX, strip1K.eq_1, strip2K.eq_1, tAndE, tOrE, tNotE, tIfE, tComp, bYes, tDct0, tRange.eq_1, tgName, tgTup.eq_1, tgCons.eq_1, tgNil.eq_1, takeAll, back.eq_1, back.eq_2, back_nil, setO, tName_k, nameK.eq_1, nameK.eq_2, nameK.eq_3, nameK.eq_4, atK.eq_1, take1_v, take1_s, takeO_v, takeO_s, takeR_v, takeR_s, prep_n, prep_tv, prep_ts, prep_f, lstK.eq_1, lstAt_k, g2K.eq_1, g2_k, g1K.eq_1, g1_k, gNK.eq_1, gN_k, boK.eq_1, bOf_k, isiK.eq_1, tIsi_k, partK.eq_1, part_n, part_s, slcK.eq_1, slcK.eq_2, slcK.eq_3, slcK.eq_4, tSlc_k, revK.eq_1, revK.eq_2, revK.eq_3, tRev_k, strMK.eq_1, tStrM_k, itK.eq_1, tIter_k, enumK.eq_1, tEnum_k, zipK.eq_1, zipK.eq_2, tZip_k, intsK.eq_1, intsK.eq_2, intsOf_k, endK.eq_1, endO_k, extK.eq_1, tExtend_k, tAppend_k, setIxK.eq_1, sSetIx_k, popAtK.eq_1, tPopAt_k, bO.eq_1, itemsOf.eq_1, itemsOf.eq_2, itemsOf.eq_3, gAdd.eq_1, gAdd.eq_2, gAdd.eq_3, gAdd.eq_4, gAdd.eq_5, gAdd.eq_6, gSub_.eq_1, gSub_.eq_2, gMul2_s, gMul2_i, gMul2_l, gMulS.eq_1, gMul.eq_1, gMul.eq_2, gFdiv.eq_1, gMod.eq_1, gPow.eq_1, gNeg.eq_1, gNeg.eq_2, gGe.eq_1, gGt.eq_1, gLe.eq_1, gLt.eq_1, gLt.eq_2, gEq.eq_1, gNe.eq_1, gNe.eq_2, gNe.eq_3, gNe.eq_4, gInW.eq_1, gInW.eq_2, gIs.eq_1, gIsNot.eq_1, gLen.eq_1, gLen.eq_2, gAllAny.eq_1, gAbs.eq_1, gInt.eq_1, gInt.eq_2, gStr.eq_1, gStr.eq_2, gStr.eq_3, gM2.eq_1, gListOf.eq_1, gListOf.eq_2, gTupOf.eq_1, gTupOf.eq_2, gSort, gSortS.eq_1, gSortD.eq_1, gSortSet.eq_1, gRepr.eq_1, gIx.eq_1, gIx.eq_2, ati0, ati1, ati2, Option.some.injEq, exists_eq, exists_eq', false_implies, Opd.slot.injEq, forall_eq, forall_eq', Opd.get.eq_1, Opd.get.eq_2, at_join, join_some, O.frz.eq_1, O.frz.eq_2, O.frz.eq_3, O.frz.eq_4, lsO.eq_1, lsO.eq_2, tuO.eq_1, seqO_l, seqO_p, seqO_t, endsOf, outsOf, startA, wipeA, List.getElem?_cons_zero, List.getElem?_cons_succ, List.length_cons, List.length_nil, List.map_cons, List.map_nil, List.set_cons_zero, List.set_cons_succ, List.replicate_succ, List.replicate_zero, List.cons_append, List.nil_append, List.getD_cons_zero, List.getD_cons_succ, if_true, if_false, Bool.false_eq_true, reduceIte, reduceCtorEq, Bool.not_true, Bool.not_false, implies_true, true_and, and_true, Nat.sub_self, Nat.reduceAdd, Nat.reduceSub, Nat.zero_add, List.all_cons, List.all_nil, Bool.and_true, Bool.true_and, isT_tuple]
  refine ⟨by simp [cmpOk], by simp [PyData.depth], ?_⟩
  by_cases hk : k = 0
  · subst hk
    rw [if_pos (by simp [PyData.eqv])]
    exact odd n _ _ (by omega) hd h
  rw [if_neg (by simp [PyData.eqv]; omega)]
  cases t with
  | tuple ts =>
    simp only [sSeq, sNext, sRet, sRetN, sDrop, sIf, sSet, sFor, sPar, sAsg, bAnd, bOr, bNot, tTst, tCst, tBin, tUny, tNilA, tConsA, getAll, tCallB, tCallF, tTupD, tLstD, tChainA, tChainE, tRg, rgK.eq_1, tStripX, strip1K.eq_1, strip2K.eq_1, tAndE, tOrE, tNotE, tIfE, tComp, bYes, tDct0, tRange.eq_1, tgName, tgTup.eq_1, tgCons.eq_1, tgNil.eq_1, takeAll, back.eq_1, back.eq_2, back_nil, setO, tName_k, nameK.eq_1, nameK.eq_2, nameK.eq_3, nameK.eq_4, atK.eq_1, take1_v, take1_s, takeO_v, takeO_s, takeR_v, takeR_s, prep_n, prep_tv, prep_ts, prep_f, lstK.eq_1, lstAt_k, g2K.eq_1, g2_k, g1K.eq_1, g1_k, gNK.eq_1, gN_k, boK.eq_1, bOf_k, isiK.eq_1, tIsi_k, partK.eq_1, part_n, part_s, slcK.eq_1, slcK.eq_2, slcK.eq_3, slcK.eq_4, tSlc_k, revK.eq_1, revK.eq_2, revK.eq_3, tRev_k, strMK.eq_1, tStrM_k, itK.eq_1, tIter_k, enumK.eq_1, tEnum_k, zipK.eq_1, zipK.eq_2, tZip_k, intsK.eq_1, intsK.eq_2, intsOf_k, endK.eq_1, endO_k, extK.eq_1, tExtend_k, tAppend_k, setIxK.eq_1, sSetIx_k, popAtK.eq_1, tPopAt_k, bO.eq_1, itemsOf.eq_1, itemsOf.eq_2, itemsOf.eq_3, gAdd.eq_1, gAdd.eq_2, gAdd.eq_3, gAdd.eq_4, gAdd.eq_5, gAdd.eq_6, gSub_.eq_1, gSub_.eq_2, gMul2_s, gMul2_i, gMul2_l, gMulS.eq_1, gMul.eq_1, gMul.eq_2, gFdiv.eq_1, gMod.eq_1, gPow.eq_1, gNeg.eq_1, gNeg.eq_2, gGe.eq_1, gGt.eq_1, gLe.eq_1, gLt.eq_1, gLt.eq_2, gEq.eq_1, gNe.eq_1, gNe.eq_2, gNe.eq_3, gNe.eq_4, gInW.eq_1, gInW.eq_2, gIs.eq_1, gIsNot.eq_1, gLen.eq_1, gLen.eq_2, gAllAny.eq_1, gAbs.eq_1, gInt.eq_1, gInt.eq_2, gStr.eq_1, gStr.eq_2, gStr.eq_3, gM2.eq_1, gListOf.eq_1, gListOf.eq_2, gTupOf.eq_1, gTupOf.eq_2, gSort, gSortS.eq_1, gSortD.eq_1, gSortSet.eq_1, gRepr.eq_1, gIx.eq_1, gIx.eq_2, ati0, ati1, ati2, Option.some.injEq, exists_eq, exists_eq', false_implies, Opd.slot.injEq, forall_eq, forall_eq', Opd.get.eq_1, Opd.get.eq_2, at_join, join_some, O.frz.eq_1, O.frz.eq_2, O.frz.eq_3, O.frz.eq_4, lsO.eq_1, lsO.eq_2, tuO.eq_1, seqO_l, seqO_p, seqO_t, endsOf, outsOf, startA, wipeA, List.getElem?_cons_zero, List.getElem?_cons_succ, List.length_cons, List.length_nil, List.map_cons, List.map_nil, List.set_cons_zero, List.set_cons_succ, List.replicate_succ, List.replicate_zero, List.cons_append, List.nil_append, List.getD_cons_zero, List.getD_cons_succ, if_true, if_false, Bool.false_eq_true, reduceIte, reduceCtorEq, Bool.not_true, Bool.not_false, implies_true, true_and, and_true, Nat.sub_self, Nat.reduceAdd, Nat.reduceSub, Nat.zero_add, List.all_cons, List.all_nil, Bool.and_true, Bool.true_and]
    refine ⟨cmp_nil ts, by simp [PyData.depth, PyData.depthAll], ?_⟩
    cases ts with
    | nil =>
      rw [if_pos (by simp [PyData.eqv, PyData.eqvAll])]
      exact odd n _ _ (by omega) hd h
    | cons x xs =>
      rw [if_neg (by simp [PyData.eqv, PyData.eqvAll])]
      refine ⟨n, _, _, by omega, rfl, hd, by decide, by decide, fun r d' h0 h1 hd' => ?_⟩
      obtain ⟨ds', rfl⟩ := hd'.frz
      simp only [sSeq, sNext, sRet, sRetN, sDrop, sIf, sSet, sFor, sPar, sAsg, bAnd, bOr, bNot, tTst, tCst, tBin, tUny, tNilA, tConsA, getAll, tCallB, tCallF, tTupD, tLstD, tChainA, tChainE, tRg, rgK.eq_1, tStripX, strip1K.eq_1, strip2K.eq_1, tAndE, tOrE, tNotE, tIfE, tComp, bYes, tDct0, tRange.eq_1, tgName, tgTup.eq_1, tgCons.eq_1, tgNil.eq_1, takeAll, back.eq_1, back.eq_2, back_nil, setO, tName_k, nameK.eq_1, nameK.eq_2, nameK.eq_3, nameK.eq_4, atK.eq_1, take1_v, take1_s, takeO_v, takeO_s, takeR_v, takeR_s, prep_n, prep_tv, prep_ts, prep_f, lstK.eq_1, lstAt_k, g2K.eq_1, g2_k, g1K.eq_1, g1_k, gNK.eq_1, gN_k, boK.eq_1, bOf_k, isiK.eq_1, tIsi_k, partK.eq_1, part_n, part_s, slcK.eq_1, slcK.eq_2, slcK.eq_3, slcK.eq_4, tSlc_k, revK.eq_1, revK.eq_2, revK.eq_3, tRev_k, strMK.eq_1, tStrM_k, itK.eq_1, tIter_k, enumK.eq_1, tEnum_k, zipK.eq_1, zipK.eq_2, tZip_k, intsK.eq_1, intsK.eq_2, intsOf_k, endK.eq_1, endO_k, extK.eq_1, tExtend_k, tAppend_k, setIxK.eq_1, sSetIx_k, popAtK.eq_1, tPopAt_k, bO.eq_1, itemsOf.eq_1, itemsOf.eq_2, itemsOf.eq_3, gAdd.eq_1, gAdd.eq_2, gAdd.eq_3, gAdd.eq_4, gAdd.eq_5, gAdd.eq_6, gSub_.eq_1, gSub_.eq_2, gMul2_s, gMul2_i, gMul2_l, gMulS.eq_1, gMul.eq_1, gMul.eq_2, gFdiv.eq_1, gMod.eq_1, gPow.eq_1, gNeg.eq_1, gNeg.eq_2, gGe.eq_1, gGt.eq_1, gLe.eq_1, gLt.eq_1, gLt.eq_2, gEq.eq_1, gNe.eq_1, gNe.eq_2, gNe.eq_3, gNe.eq_4, gInW.eq_1, gInW.eq_2, gIs.eq_1, gIsNot.eq_1, gLen.eq_1, gLen.eq_2, gAllAny.eq_1, gAbs.eq_1, gInt.eq_1, gInt.eq_2, gStr.eq_1, gStr.eq_2, gStr.eq_3, gM2.eq_1, gListOf.eq_1, gListOf.eq_2, gTupOf.eq_1, gTupOf.eq_2, gSort, gSortS.eq_1, gSortD.eq_1, gSortSet.eq_1, gRepr.eq_1, gIx.eq_1, gIx.eq_2, ati0, ati1, ati2, Option.some.injEq, exists_eq, exists_eq', false_implies, Opd.slot.injEq, forall_eq, forall_eq', Opd.get.eq_1, Opd.get.eq_2, at_join, join_some, O.frz.eq_1, O.frz.eq_2, O.frz.eq_3, O.frz.eq_4, lsO.eq_1, lsO.eq_2, tuO.eq_1, seqO_l, seqO_p, seqO_t, endsOf, outsOf, startA, wipeA, List.getElem?_cons_zero, List.getElem?_cons_succ, List.length_cons, List.length_nil, List.map_cons, List.map_nil, List.set_cons_zero, List.set_cons_succ, List.replicate_succ, List.replicate_zero, List.cons_append, List.nil_append, List.getD_cons_zero, List.getD_cons_succ, if_true, if_false, Bool.false_eq_true, reduceIte, reduceCtorEq, Bool.not_true, Bool.not_false, implies_true, true_and, and_true, Nat.sub_self, Nat.reduceAdd, Nat.reduceSub, Nat.zero_add, List.all_cons, List.all_nil, Bool.and_true, Bool.true_and]
      refine ⟨by simp [cmpOk], by simp [PyData.depth], ?_⟩
      by_cases gr : r = 0
      · subst gr
        rw [if_pos (by simp [PyData.eqv])]
        exact odd (n + 1) _ _ (by omega) hd' h
      rw [if_neg (by simp [PyData.eqv, gr])]
      have gl := g.tupE.len
      refine ⟨n + 1, _, _, by omega, rfl, hd', by simp; omega, by simp at gl ⊢; omega, fun r2 d' h0 h1 hd' => ?_⟩
      obtain ⟨ds', rfl⟩ := hd'.frz
      simp only [sSeq, sNext, sRet, sRetN, sDrop, sIf, sSet, sFor, sPar, sAsg, bAnd, bOr, bNot, tTst, tCst, tBin, tUny, tNilA, tConsA, getAll, tCallB, tCallF, tTupD, tLstD, tChainA, tChainE, tRg, rgK.eq_1, tStripX, strip1K.eq_1, strip2K.eq_1, tAndE, tOrE, tNotE, tIfE, tComp, bYes, tDct0, tRange.eq_1, tgName, tgTup.eq_1, tgCons.eq_1, tgNil.eq_1, takeAll, back.eq_1, back.eq_2, back_nil, setO, tName_k, nameK.eq_1, nameK.eq_2, nameK.eq_3, nameK.eq_4, atK.eq_1, take1_v, take1_s, takeO_v, takeO_s, takeR_v, takeR_s, prep_n, prep_tv, prep_ts, prep_f, lstK.eq_1, lstAt_k, g2K.eq_1, g2_k, g1K.eq_1, g1_k, gNK.eq_1, gN_k, boK.eq_1, bOf_k, isiK.eq_1, tIsi_k, partK.eq_1, part_n, part_s, slcK.eq_1, slcK.eq_2, slcK.eq_3, slcK.eq_4, tSlc_k, revK.eq_1, revK.eq_2, revK.eq_3, tRev_k, strMK.eq_1, tStrM_k, itK.eq_1, tIter_k, enumK.eq_1, tEnum_k, zipK.eq_1, zipK.eq_2, tZip_k, intsK.eq_1, intsK.eq_2, intsOf_k, endK.eq_1, endO_k, extK.eq_1, tExtend_k, tAppend_k, setIxK.eq_1, sSetIx_k, popAtK.eq_1, tPopAt_k, bO.eq_1, itemsOf.eq_1, itemsOf.eq_2, itemsOf.eq_3, gAdd.eq_1, gAdd.eq_2, gAdd.eq_3, gAdd.eq_4, gAdd.eq_5, gAdd.eq_6, gSub_.eq_1, gSub_.eq_2, gMul2_s, gMul2_i, gMul2_l, gMulS.eq_1, gMul.eq_1, gMul.eq_2, gFdiv.eq_1, gMod.eq_1, gPow.eq_1, gNeg.eq_1, gNeg.eq_2, gGe.eq_1, gGt.eq_1, gLe.eq_1, gLt.eq_1, gLt.eq_2, gEq.eq_1, gNe.eq_1, gNe.eq_2, gNe.eq_3, gNe.eq_4, gInW.eq_1, gInW.eq_2, gIs.eq_1, gIsNot.eq_1, gLen.eq_1, gLen.eq_2, gAllAny.eq_1, gAbs.eq_1, gInt.eq_1, gInt.eq_2, gStr.eq_1, gStr.eq_2, gStr.eq_3, gM2.eq_1, gListOf.eq_1, gListOf.eq_2, gTupOf.eq_1, gTupOf.eq_2, gSort, gSortS.eq_1, gSortD.eq_1, gSortSet.eq_1, gRepr.eq_1, gIx.eq_1, gIx.eq_2, ati0, ati1, ati2, Option.some.injEq, exists_eq, exists_eq', false_implies, Opd.slot.injEq, forall_eq, forall_eq', Opd.get.eq_1, Opd.get.eq_2, at_join, join_some, O.frz.eq_1, O.frz.eq_2, O.frz.eq_3, O.frz.eq_4, lsO.eq_1, lsO.eq_2, tuO.eq_1, seqO_l, seqO_p, seqO_t, endsOf, outsOf, startA, wipeA, List.getElem?_cons_zero, List.getElem?_cons_succ, List.length_cons, List.length_nil, List.map_cons, List.map_nil, List.set_cons_zero, List.set_cons_succ, List.replicate_succ, List.replicate_zero, List.cons_append, List.nil_append, List.getD_cons_zero, List.getD_cons_succ, if_true, if_false, Bool.false_eq_true, reduceIte, reduceCtorEq, Bool.not_true, Bool.not_false, implies_true, true_and, and_true, Nat.sub_self, Nat.reduceAdd, Nat.reduceSub, Nat.zero_add, List.all_cons, List.all_nil, Bool.and_true, Bool.true_and]
      obtain ⟨p, ep, mp⟩ := at_mem (ts := x :: xs) h0 (by simpa using h1)
      rw [ep]
      have es := at_split (at_nn h0 ep)
      have gp := g.tupE.mem mp
      have gw := g.tupW
      have gs := g.tupE.w
      refine ⟨rfl, hin (k - 1) (by omega) _ _ ⟨n + 2, _, p, sz p, dp - 1, b, k - 1, Nat.le_refl _, by omega, by rw [show ((k - 1 : Nat) : Int) = (k : Int) - 1 by omega], hd', ⟨Nat.le_refl _, gp.d, gp.l⟩, by have := gp.w; omega, hb1, hb2, fun t' d' gt' hd' => ?_⟩⟩
      obtain ⟨ds2, rfl⟩ := hd'.frz
      simp only [sSeq, sNext, sRet, sRetN, sDrop, sIf, sSet, sFor, sPar, sAsg, bAnd, bOr, bNot, tTst, tCst, tBin, tUny, tNilA, tConsA, getAll, tCallB, tCallF, tTupD, tLstD, tChainA, tChainE, tRg, rgK.eq_1, tStripX, strip1K.eq_1, strip2K.eq_1, tAndE, tOrE, tNotE, tIfE, tComp, bYes, tDct0, tRange.eq_1, tgName, tgTup.eq_1, tgCons.eq_1, tgNil.eq_1, takeAll, back.eq_1, back.eq_2, back_nil, setO, tName_k, nameK.eq_1, nameK.eq_2, nameK.eq_3, nameK.eq_4, atK.eq_1, take1_v, take1_s, takeO_v, takeO_s, takeR_v, takeR_s, prep_n, prep_tv, prep_ts, prep_f, lstK.eq_1, lstAt_k, g2K.eq_1, g2_k, g1K.eq_1, g1_k, gNK.eq_1, gN_k, boK.eq_1, bOf_k, isiK.eq_1, tIsi_k, partK.eq_1, part_n, part_s, slcK.eq_1, slcK.eq_2, slcK.eq_3, slcK.eq_4, tSlc_k, revK.eq_1, revK.eq_2, revK.eq_3, tRev_k, strMK.eq_1, tStrM_k, itK.eq_1, tIter_k, enumK.eq_1, tEnum_k, zipK.eq_1, zipK.eq_2, tZip_k, intsK.eq_1, intsK.eq_2, intsOf_k, endK.eq_1, endO_k, extK.eq_1, tExtend_k, tAppend_k, setIxK.eq_1, sSetIx_k, popAtK.eq_1, tPopAt_k, bO.eq_1, itemsOf.eq_1, itemsOf.eq_2, itemsOf.eq_3, gAdd.eq_1, gAdd.eq_2, gAdd.eq_3, gAdd.eq_4, gAdd.eq_5, gAdd.eq_6, gSub_.eq_1, gSub_.eq_2, gMul2_s, gMul2_i, gMul2_l, gMulS.eq_1, gMul.eq_1, gMul.eq_2, gFdiv.eq_1, gMod.eq_1, gPow.eq_1, gNeg.eq_1, gNeg.eq_2, gGe.eq_1, gGt.eq_1, gLe.eq_1, gLt.eq_1, gLt.eq_2, gEq.eq_1, gNe.eq_1, gNe.eq_2, gNe.eq_3, gNe.eq_4, gInW.eq_1, gInW.eq_2, gIs.eq_1, gIsNot.eq_1, gLen.eq_1, gLen.eq_2, gAllAny.eq_1, gAbs.eq_1, gInt.eq_1, gInt.eq_2, gStr.eq_1, gStr.eq_2, gStr.eq_3, gM2.eq_1, gListOf.eq_1, gListOf.eq_2, gTupOf.eq_1, gTupOf.eq_2, gSort, gSortS.eq_1, gSortD.eq_1, gSortSet.eq_1, gRepr.eq_1, gIx.eq_1, gIx.eq_2, ati0, ati1, ati2, Option.some.injEq, exists_eq, exists_eq', false_implies, Opd.slot.injEq, forall_eq, forall_eq', Opd.get.eq_1, Opd.get.eq_2, at_join, join_some, O.frz.eq_1, O.frz.eq_2, O.frz.eq_3, O.frz.eq_4, lsO.eq_1, lsO.eq_2, tuO.eq_1, seqO_l, seqO_p, seqO_t, endsOf, outsOf, startA, wipeA, List.getElem?_cons_zero, List.getElem?_cons_succ, List.length_cons, List.length_nil, List.map_cons, List.map_nil, List.set_cons_zero, List.set_cons_succ, List.replicate_succ, List.replicate_zero, List.cons_append, List.nil_append, List.getD_cons_zero, List.getD_cons_succ, if_true, if_false, Bool.false_eq_true, reduceIte, reduceCtorEq, Bool.not_true, Bool.not_false, implies_true, true_and, and_true, Nat.sub_self, Nat.reduceAdd, Nat.reduceSub, Nat.zero_add, List.all_cons, List.all_nil, Bool.and_true, Bool.true_and]
      rw [cut_take h0, cut_drop (by omega), show (r2 + 1).toNat = r2.toNat + 1 by omega]
      have l1 : ((x :: xs).take r2.toNat).length ≤ w := by simp only [List.length_take]; omega
      have l2 : ((x :: xs).drop (r2.toNat + 1)).length ≤ w := by simp only [List.length_drop]; omega
      refine ⟨by omega, by rw [List.length_append]; simp only [List.length_cons, List.length_nil]; omega, h _ _ ?_ (hd'.mono (by omega))⟩
      have hg := g.tupE.mono (Nat.le_refl _) (Nat.le_refl _) (Nat.le_succ b)
      have a1 : Gds (szs ((x :: xs).take r2.toNat)) (dp + k + 1) (b + 1) ((x :: xs).take r2.toNat) := ⟨Nat.le_refl _, fun t m => Nat.le_trans ((hg.take _).d t m) (by omega), (hg.take _).l⟩
      have a2 : Gds (szs ((x :: xs).drop (r2.toNat + 1))) (dp + k + 1) (b + 1) ((x :: xs).drop (r2.toNat + 1)) := ⟨Nat.le_refl _, fun t m => Nat.le_trans ((hg.drop _).d t m) (by omega), (hg.drop _).l⟩
      have a3 : Gds (3 * sz p + 40) (dp + k + 1) (b + 1) [t'] := Gds.one (gt'.mono (Nat.le_refl _) (by omega) (Nat.le_refl _))
      exact (Gd.tup ((a1.app a3).app a2)).mono (by omega) (by omega) (Nat.le_refl _)
  | _ => simp only [sSeq, sNext, sRet, sRetN, sDrop, sIf, sSet, sFor, sPar, sAsg, bAnd, bOr, bNot, tTst, tCst, tBin, tUny, tNilA, tConsA, getAll, tCallB, tCallF, tTupD, tLstD, tChainA, tChainE, tRg, rgK.eq_1, tStripX, strip1K.eq_1, strip2K.eq_1, tAndE, tOrE, tNotE, tIfE, tComp, bYes, tDct0, tRange.eq_1, tgName, tgTup.eq_1, tgCons.eq_1, tgNil.eq_1, takeAll, back.eq_1, back.eq_2, back_nil, setO, tName_k, nameK.eq_1, nameK.eq_2, nameK.eq_3, nameK.eq_4, atK.eq_1, take1_v, take1_s, takeO_v, takeO_s, takeR_v, takeR_s, prep_n, prep_tv, prep_ts, prep_f, lstK.eq_1, lstAt_k, g2K.eq_1, g2_k, g1K.eq_1, g1_k, gNK.eq_1, gN_k, boK.eq_1, bOf_k, isiK.eq_1, tIsi_k, partK.eq_1, part_n, part_s, slcK.eq_1, slcK.eq_2, slcK.eq_3, slcK.eq_4, tSlc_k, revK.eq_1, revK.eq_2, revK.eq_3, tRev_k, strMK.eq_1, tStrM_k, itK.eq_1, tIter_k, enumK.eq_1, tEnum_k, zipK.eq_1, zipK.eq_2, tZip_k, intsK.eq_1, intsK.eq_2, intsOf_k, endK.eq_1, endO_k, extK.eq_1, tExtend_k, tAppend_k, setIxK.eq_1, sSetIx_k, popAtK.eq_1, tPopAt_k, bO.eq_1, itemsOf.eq_1, itemsOf.eq_2, itemsOf.eq_3, gAdd.eq_1, gAdd.eq_2, gAdd.eq_3, gAdd.eq_4, gAdd.eq_5, gAdd.eq_6, gSub_.eq_1, gSub_.eq_2, gMul2_s, gMul2_i, gMul2_l, gMulS.eq_1, gMul.eq_1, gMul.eq_2, gFdiv.eq_1, gMod.eq_1, gPow.eq_1, gNeg.eq_1, gNeg.eq_2, gGe.eq_1, gGt.eq_1, gLe.eq_1, gLt.eq_1, gLt.eq_2, gEq.eq_1, gNe.eq_1, gNe.eq_2, gNe.eq_3, gNe.eq_4, gInW.eq_1, gInW.eq_2, gIs.eq_1, gIsNot.eq_1, gLen.eq_1, gLen.eq_2, gAllAny.eq_1, gAbs.eq_1, gInt.eq_1, gInt.eq_2, gStr.eq_1, gStr.eq_2, gStr.eq_3, gM2.eq_1, gListOf.eq_1, gListOf.eq_2, gTupOf.eq_1, gTupOf.eq_2, gSort, gSortS.eq_1, gSortD.eq_1, gSortSet.eq_1, gRepr.eq_1, gIx.eq_1, gIx.eq_2, ati0, ati1, ati2, Option.some.injEq, exists_eq, exists_eq', false_implies, Opd.slot.injEq, forall_eq, forall_eq', Opd.get.eq_1, Opd.get.eq_2, at_join, join_some, O.frz.eq_1, O.frz.eq_2, O.frz.eq_3, O.frz.eq_4, lsO.eq_1, lsO.eq_2, tuO.eq_1, seqO_l, seqO_p, seqO_t, endsOf, outsOf, startA, wipeA, List.getElem?_cons_zero, List.getElem?_cons_succ, List.length_cons, List.length_nil, List.map_cons, List.map_nil, List.set_cons_zero, List.set_cons_succ, List.replicate_succ, List.replicate_zero, List.cons_append, List.nil_append, List.getD_cons_zero, List.getD_cons_succ, if_true, if_false, Bool.false_eq_true, reduceIte, reduceCtorEq, Bool.not_true, Bool.not_false, implies_true, true_and, and_true, Nat.sub_self, Nat.reduceAdd, Nat.reduceSub, Nat.zero_add, List.all_cons, List.all_nil, Bool.and_true, Bool.true_and]; exact odd n _ _ (by omega) hd h
end WS

set_option Elab.async false
set_option linter.all false
set_option maxRecDepth 100000
set_option maxHeartbeats 4000000
namespace WS
open PySem PySem.Spec L2 DL
open PyProof.Rows hiding St
theorem canLay_asc {x : Str} (h : asc x = true) : PyData.canLay0 (.str x) = true := by
  unfold asc at h
  simp only [PyData.canLay0, PyData.strOk]
  rw [Array.all_eq_true_iff_forall_mem]
  exact fun c m => decide_eq_true (Nat.lt_trans (of_decide_eq_true (List.all_eq_true.mp h c (by simpa using m))) (by decide))
/-- the items, in whatever sequence -/
def sp__law_turned : FSpec := fun os Q => ∃ n d b ts, n + ts.length ≤ 900000 ∧ os = [d, .pure (seqT b ts)] ∧ Dk n d ∧ ts.length ≤ 1000 ∧ (∀ t ∈ ts, PyData.canLay0 t = true ∧ t.depth ≤ 100) ∧ ∀ ts' d', ts'.Perm ts → Dk (n + ts.length) d' → Q (.lst ts') [d']
/-- _law_turned: slots 0:_law_deck_here 1:_law_items 2:_law_left 3:_law_found -/
def t__law_turned_b1 : ST := (sDrop (tAppend 3 (tPopAt 2 (tCallF [true, false] sp__law_draw (tConsA (tName 0) (tConsA (tCallB gLen (tConsA (tName 2) tNilA)) tNilA))))))
def t__law_turned : ST := (sSeq (sPar [2, 3] (tConsA (tCallB gListOf (tConsA (tName 1) tNilA)) (tConsA (tLstD tNilA) tNilA)))
  (sSeq (sWhile (tTst (tBin gNe (tName 2) (tLstD tNilA))) t__law_turned_b1)
  (sRet (fun j => [true, false].getD j false) (tName 3))))
theorem erase_perm {ts : List T} {i : Nat} {t : T} (h : ts[i]? = some t) : (t :: ts.eraseIdx i).Perm ts := L2.erase_perm ts i t h
theorem lay_all {ts : List T} (h : ∀ t ∈ ts, PyData.canLay0 t = true) : PyData.canLayAll0 ts = true := by
  induction ts with
  | nil => rfl
  | cons t ts ih =>
    simp only [PyData.canLayAll0, Bool.and_eq_true]
    exact ⟨h t List.mem_cons_self, ih fun u m => h u (List.mem_cons_of_mem _ m)⟩
theorem turn_while {x1 : Option O} {D : AEnds} : ∀ (k n : Nat) (ds left found : List T), left.length = k → n + k ≤ 900000 → found.length + k ≤ 1000 → Dk n (.lst ds) → (∀ t ∈ left, PyData.canLay0 t = true ∧ t.depth ≤ 100) →
    (∀ ds' found', Dk (n + k) (.lst ds') → found'.Perm (left ++ found) → D.nx [some (.lst ds'), x1, some (.lst []), some (.lst found')]) →
    whileN (tTst (tBin gNe (tName 2) (tLstD tNilA))) t__law_turned_b1 D (k + 1) [some (.lst ds), x1, some (.lst left), some (.lst found)]
  | 0, n, ds, left, found, hl, hn, hf, hd, hc, nx => by
    obtain rfl := List.length_eq_zero_iff.mp hl
    unfold whileN
    simp only [sSeq, sNext, sRet, sRetN, sDrop, sIf, sSet, sFor, sPar, sAsg, bAnd, bOr, bNot, tTst, tCst, tBin, tUny, tNilA, tConsA, getAll, tCallB, tCallF, tTupD, tLstD, tChainA, tChainE, tRg, rgK.eq_1, tStripX, strip1K.eq_1, strip2K.eq_1, tAndE, tOrE, tNotE, tIfE, tComp, bYes, tDct0, tRange.eq_1, tgName, tgTup.eq_1, tgCons.eq_1, tgNil.eq_1, takeAll, back.eq_1, back.eq_2, back_nil, setO, tName_k, nameK.eq_1, nameK.eq_2, nameK.eq_3, nameK.eq_4, atK.eq_1, take1_v, take1_s, takeO_v, takeO_s, takeR_v, takeR_s, prep_n, prep_tv, prep_ts, prep_f, lstK.eq_1, lstAt_k, g2K.eq_1, g2_k, g1K.eq_1, g1_k, gNK.eq_1, gN_k, boK.eq_1, bOf_k, isiK.eq_1, tIsi_k, partK.eq_1, part_n, part_s, slcK.eq_1, slcK.eq_2, slcK.eq_3, slcK.eq_4, tSlc_k, revK.eq_1, revK.eq_2, revK.eq_3, tRev_k, strMK.eq_1, tStrM_k, itK.eq_1, tIter_k, enumK.eq_1, tEnum_k, zipK.eq_1, zipK.eq_2, tZip_k, intsK.eq_1, intsK.eq_2, intsOf_k, endK.eq_1, endO_k, extK.eq_1, tExtend_k, tAppend_k, setIxK.eq_1, sSetIx_k, popAtK.eq_1, tPopAt_k, bO.eq_1, itemsOf.eq_1, itemsOf.eq_2, itemsOf.eq_3, gAdd.eq_1, gAdd.eq_2, gAdd.eq_3, gAdd.eq_4, gAdd.eq_5, gAdd.eq_6, gSub_.eq_1, gSub_.eq_2, gMul2_s, gMul2_i, gMul2_l, gMulS.eq_1, gMul.eq_1, gMul.eq_2, gFdiv.eq_1, gMod.eq_1, gPow.eq_1, gNeg.eq_1, gNeg.eq_2, gGe.eq_1, gGt.eq_1, gLe.eq_1, gLt.eq_1, gLt.eq_2, gEq.eq_1, gNe.eq_1, gNe.eq_2, gNe.eq_3, gNe.eq_4, gInW.eq_1, gInW.eq_2, gIs.eq_1, gIsNot.eq_1, gLen.eq_1, gLen.eq_2, gAllAny.eq_1, gAbs.eq_1, gInt.eq_1, gInt.eq_2, gStr.eq_1, gStr.eq_2, gStr.eq_3, gM2.eq_1, gListOf.eq_1, gListOf.eq_2, gTupOf.eq_1, gTupOf.eq_2, gSort, gSortS.eq_1, gSortD.eq_1, gSortSet.eq_1, gRepr.eq_1, gIx.eq_1, gIx.eq_2, ati0, ati1, ati2, Option.some.injEq, exists_eq, exists_eq', false_implies, Opd.slot.injEq, forall_eq, forall_eq', Opd.get.eq_1, Opd.get.eq_2, at_join, join_some, O.frz.eq_1, O.frz.eq_2, O.frz.eq_3, O.frz.eq_4, lsO.eq_1, lsO.eq_2, tuO.eq_1, seqO_l, seqO_p, seqO_t, endsOf, outsOf, startA, wipeA, List.getElem?_cons_zero, List.getElem?_cons_succ, List.length_cons, List.length_nil, List.map_cons, List.map_nil, List.set_cons_zero, List.set_cons_succ, List.replicate_succ, List.replicate_zero, List.cons_append, List.nil_append, List.getD_cons_zero, List.getD_cons_succ, if_true, if_false, Bool.false_eq_true, reduceIte, reduceCtorEq, Bool.not_true, Bool.not_false, implies_true, true_and, and_true, Nat.sub_self, Nat.reduceAdd, Nat.reduceSub, Nat.zero_add, List.all_cons, List.all_nil, Bool.and_true, Bool.true_and]
    refine ⟨by decide, by decide, by decide, ?_⟩
    rw [if_neg (by simp [PyData.eqv, PyData.eqvAll])]
    exact nx ds found hd (by simp)
  | k + 1, n, ds, left, found, hl, hn, hf, hd, hc, nx => by
    unfold whileN
    simp only [sSeq, sNext, sRet, sRetN, sDrop, sIf, sSet, sFor, sPar, sAsg, bAnd, bOr, bNot, tTst, tCst, tBin, tUny, tNilA, tConsA, getAll, tCallB, tCallF, tTupD, tLstD, tChainA, tChainE, tRg, rgK.eq_1, tStripX, strip1K.eq_1, strip2K.eq_1, tAndE, tOrE, tNotE, tIfE, tComp, bYes, tDct0, tRange.eq_1, tgName, tgTup.eq_1, tgCons.eq_1, tgNil.eq_1, takeAll, back.eq_1, back.eq_2, back_nil, setO, tName_k, nameK.eq_1, nameK.eq_2, nameK.eq_3, nameK.eq_4, atK.eq_1, take1_v, take1_s, takeO_v, takeO_s, takeR_v, takeR_s, prep_n, prep_tv, prep_ts, prep_f, lstK.eq_1, lstAt_k, g2K.eq_1, g2_k, g1K.eq_1, g1_k, gNK.eq_1, gN_k, boK.eq_1, bOf_k, isiK.eq_1, tIsi_k, partK.eq_1, part_n, part_s, slcK.eq_1, slcK.eq_2, slcK.eq_3, slcK.eq_4, tSlc_k, revK.eq_1, revK.eq_2, revK.eq_3, tRev_k, strMK.eq_1, tStrM_k, itK.eq_1, tIter_k, enumK.eq_1, tEnum_k, zipK.eq_1, zipK.eq_2, tZip_k, intsK.eq_1, intsK.eq_2, intsOf_k, endK.eq_1, endO_k, extK.eq_1, tExtend_k, tAppend_k, setIxK.eq_1, sSetIx_k, popAtK.eq_1, tPopAt_k, bO.eq_1, itemsOf.eq_1, itemsOf.eq_2, itemsOf.eq_3, gAdd.eq_1, gAdd.eq_2, gAdd.eq_3, gAdd.eq_4, gAdd.eq_5, gAdd.eq_6, gSub_.eq_1, gSub_.eq_2, gMul2_s, gMul2_i, gMul2_l, gMulS.eq_1, gMul.eq_1, gMul.eq_2, gFdiv.eq_1, gMod.eq_1, gPow.eq_1, gNeg.eq_1, gNeg.eq_2, gGe.eq_1, gGt.eq_1, gLe.eq_1, gLt.eq_1, gLt.eq_2, gEq.eq_1, gNe.eq_1, gNe.eq_2, gNe.eq_3, gNe.eq_4, gInW.eq_1, gInW.eq_2, gIs.eq_1, gIsNot.eq_1, gLen.eq_1, gLen.eq_2, gAllAny.eq_1, gAbs.eq_1, gInt.eq_1, gInt.eq_2, gStr.eq_1, gStr.eq_2, gStr.eq_3, gM2.eq_1, gListOf.eq_1, gListOf.eq_2, gTupOf.eq_1, gTupOf.eq_2, gSort, gSortS.eq_1, gSortD.eq_1, gSortSet.eq_1, gRepr.eq_1, gIx.eq_1, gIx.eq_2, ati0, ati1, ati2, Option.some.injEq, exists_eq, exists_eq', false_implies, Opd.slot.injEq, forall_eq, forall_eq', Opd.get.eq_1, Opd.get.eq_2, at_join, join_some, O.frz.eq_1, O.frz.eq_2, O.frz.eq_3, O.frz.eq_4, lsO.eq_1, lsO.eq_2, tuO.eq_1, seqO_l, seqO_p, seqO_t, endsOf, outsOf, startA, wipeA, List.getElem?_cons_zero, List.getElem?_cons_succ, List.length_cons, List.length_nil, List.map_cons, List.map_nil, List.set_cons_zero, List.set_cons_succ, List.replicate_succ, List.replicate_zero, List.cons_append, List.nil_append, List.getD_cons_zero, List.getD_cons_succ, if_true, if_false, Bool.false_eq_true, reduceIte, reduceCtorEq, Bool.not_true, Bool.not_false, implies_true, true_and, and_true, Nat.sub_self, Nat.reduceAdd, Nat.reduceSub, Nat.zero_add, List.all_cons, List.all_nil, Bool.and_true, Bool.true_and]
    refine ⟨by simp only [PyData.canLay0]; exact lay_all fun t m => (hc t m).1, by decide, by simp [PyData.depth, PyData.depthAll], ?_⟩
    rw [if_pos (by cases left with | nil => simp at hl | cons a l => simp [PyData.eqv, PyData.eqvAll])]
    unfold t__law_turned_b1
    simp only [sSeq, sNext, sRet, sRetN, sDrop, sIf, sSet, sFor, sPar, sAsg, bAnd, bOr, bNot, tTst, tCst, tBin, tUny, tNilA, tConsA, getAll, tCallB, tCallF, tTupD, tLstD, tChainA, tChainE, tRg, rgK.eq_1, tStripX, strip1K.eq_1, strip2K.eq_1, tAndE, tOrE, tNotE, tIfE, tComp, bYes, tDct0, tRange.eq_1, tgName, tgTup.eq_1, tgCons.eq_1, tgNil.eq_1, takeAll, back.eq_1, back.eq_2, back_nil, setO, tName_k, nameK.eq_1, nameK.eq_2, nameK.eq_3, nameK.eq_4, atK.eq_1, take1_v, take1_s, takeO_v, takeO_s, takeR_v, takeR_s, prep_n, prep_tv, prep_ts, prep_f, lstK.eq_1, lstAt_k, g2K.eq_1, g2_k, g1K.eq_1, g1_k, gNK.eq_1, gN_k, boK.eq_1, bOf_k, isiK.eq_1, tIsi_k, partK.eq_1, part_n, part_s, slcK.eq_1, slcK.eq_2, slcK.eq_3, slcK.eq_4, tSlc_k, revK.eq_1, revK.eq_2, revK.eq_3, tRev_k, strMK.eq_1, tStrM_k, itK.eq_1, tIter_k, enumK.eq_1, tEnum_k, zipK.eq_1, zipK.eq_2, tZip_k, intsK.eq_1, intsK.eq_2, intsOf_k, endK.eq_1, endO_k, extK.eq_1, tExtend_k, tAppend_k, setIxK.eq_1, sSetIx_k, popAtK.eq_1, tPopAt_k, bO.eq_1, itemsOf.eq_1, itemsOf.eq_2, itemsOf.eq_3, gAdd.eq_1, gAdd.eq_2, gAdd.eq_3, gAdd.eq_4, gAdd.eq_5, gAdd.eq_6, gSub_.eq_1, gSub_.eq_2, gMul2_s, gMul2_i, gMul2_l, gMulS.eq_1, gMul.eq_1, gMul.eq_2, gFdiv.eq_1, gMod.eq_1, gPow.eq_1, gNeg.eq_1, gNeg.eq_2, gGe.eq_1, gGt.eq_1, gLe.eq_1, gLt.eq_1, gLt.eq_2, gEq.eq_1, gNe.eq_1, gNe.eq_2, gNe.eq_3, gNe.eq_4, gInW.eq_1, gInW.eq_2, gIs.eq_1, gIsNot.eq_1, gLen.eq_1, gLen.eq_2, gAllAny.eq_1, gAbs.eq_1, gInt.eq_1, gInt.eq_2, gStr.eq_1, gStr.eq_2, gStr.eq_3, gM2.eq_1, gListOf.eq_1, gListOf.eq_2, gTupOf.eq_1, gTupOf.eq_2, gSort, gSortS.eq_1, gSortD.eq_1, gSortSet.eq_1, gRepr.eq_1, gIx.eq_1, gIx.eq_2, ati0, ati1, ati2, Option.some.injEq, exists_eq, exists_eq', false_implies, Opd.slot.injEq, forall_eq, forall_eq', Opd.get.eq_1, Opd.get.eq_2, at_join, join_some, O.frz.eq_1, O.frz.eq_2, O.frz.eq_3, O.frz.eq_4, lsO.eq_1, lsO.eq_2, tuO.eq_1, seqO_l, seqO_p, seqO_t, endsOf, outsOf, startA, wipeA, List.getElem?_cons_zero, List.getElem?_cons_succ, List.length_cons, List.length_nil, List.map_cons, List.map_nil, List.set_cons_zero, List.set_cons_succ, List.replicate_succ, List.replicate_zero, List.cons_append, List.nil_append, List.getD_cons_zero, List.getD_cons_succ, if_true, if_false, Bool.false_eq_true, reduceIte, reduceCtorEq, Bool.not_true, Bool.not_false, implies_true, true_and, and_true, Nat.sub_self, Nat.reduceAdd, Nat.reduceSub, Nat.zero_add, List.all_cons, List.all_nil, Bool.and_true, Bool.true_and]
    refine ⟨n, _, _, by omega, rfl, hd, by omega, by omega, fun r d' h0 h1 hd' => ?_⟩
    obtain ⟨ds', rfl⟩ := hd'.frz
    simp only [sSeq, sNext, sRet, sRetN, sDrop, sIf, sSet, sFor, sPar, sAsg, bAnd, bOr, bNot, tTst, tCst, tBin, tUny, tNilA, tConsA, getAll, tCallB, tCallF, tTupD, tLstD, tChainA, tChainE, tRg, rgK.eq_1, tStripX, strip1K.eq_1, strip2K.eq_1, tAndE, tOrE, tNotE, tIfE, tComp, bYes, tDct0, tRange.eq_1, tgName, tgTup.eq_1, tgCons.eq_1, tgNil.eq_1, takeAll, back.eq_1, back.eq_2, back_nil, setO, tName_k, nameK.eq_1, nameK.eq_2, nameK.eq_3, nameK.eq_4, atK.eq_1, take1_v, take1_s, takeO_v, takeO_s, takeR_v, takeR_s, prep_n, prep_tv, prep_ts, prep_f, lstK.eq_1, lstAt_k, g2K.eq_1, g2_k, g1K.eq_1, g1_k, gNK.eq_1, gN_k, boK.eq_1, bOf_k, isiK.eq_1, tIsi_k, partK.eq_1, part_n, part_s, slcK.eq_1, slcK.eq_2, slcK.eq_3, slcK.eq_4, tSlc_k, revK.eq_1, revK.eq_2, revK.eq_3, tRev_k, strMK.eq_1, tStrM_k, itK.eq_1, tIter_k, enumK.eq_1, tEnum_k, zipK.eq_1, zipK.eq_2, tZip_k, intsK.eq_1, intsK.eq_2, intsOf_k, endK.eq_1, endO_k, extK.eq_1, tExtend_k, tAppend_k, setIxK.eq_1, sSetIx_k, popAtK.eq_1, tPopAt_k, bO.eq_1, itemsOf.eq_1, itemsOf.eq_2, itemsOf.eq_3, gAdd.eq_1, gAdd.eq_2, gAdd.eq_3, gAdd.eq_4, gAdd.eq_5, gAdd.eq_6, gSub_.eq_1, gSub_.eq_2, gMul2_s, gMul2_i, gMul2_l, gMulS.eq_1, gMul.eq_1, gMul.eq_2, gFdiv.eq_1, gMod.eq_1, gPow.eq_1, gNeg.eq_1, gNeg.eq_2, gGe.eq_1, gGt.eq_1, gLe.eq_1, gLt.eq_1, gLt.eq_2, gEq.eq_1, gNe.eq_1, gNe.eq_2, gNe.eq_3, gNe.eq_4, gInW.eq_1, gInW.eq_2, gIs.eq_1, gIsNot.eq_1, gLen.eq_1, gLen.eq_2, gAllAny.eq_1, gAbs.eq_1, gInt.eq_1, gInt.eq_2, gStr.eq_1, gStr.eq_2, gStr.eq_3, gM2.eq_1, gListOf.eq_1, gListOf.eq_2, gTupOf.eq_1, gTupOf.eq_2, gSort, gSortS.eq_1, gSortD.eq_1, gSortSet.eq_1, gRepr.eq_1, gIx.eq_1, gIx.eq_2, ati0, ati1, ati2, Option.some.injEq, exists_eq, exists_eq', false_implies, Opd.slot.injEq, forall_eq, forall_eq', Opd.get.eq_1, Opd.get.eq_2, at_join, join_some, O.frz.eq_1, O.frz.eq_2, O.frz.eq_3, O.frz.eq_4, lsO.eq_1, lsO.eq_2, tuO.eq_1, seqO_l, seqO_p, seqO_t, endsOf, outsOf, startA, wipeA, List.getElem?_cons_zero, List.getElem?_cons_succ, List.length_cons, List.length_nil, List.map_cons, List.map_nil, List.set_cons_zero, List.set_cons_succ, List.replicate_succ, List.replicate_zero, List.cons_append, List.nil_append, List.getD_cons_zero, List.getD_cons_succ, if_true, if_false, Bool.false_eq_true, reduceIte, reduceCtorEq, Bool.not_true, Bool.not_false, implies_true, true_and, and_true, Nat.sub_self, Nat.reduceAdd, Nat.reduceSub, Nat.zero_add, List.all_cons, List.all_nil, Bool.and_true, Bool.true_and]
    have hr : r.toNat < left.length := by omega
    have ei : ixN left.length r = some r.toNat := by
      unfold ixN
      rw [if_pos h0, if_pos h1]
    have eg : left[r.toNat]? = some left[r.toNat] := List.getElem?_eq_getElem hr
    rw [ei]
    simp only [sSeq, sNext, sRet, sRetN, sDrop, sIf, sSet, sFor, sPar, sAsg, bAnd, bOr, bNot, tTst, tCst, tBin, tUny, tNilA, tConsA, getAll, tCallB, tCallF, tTupD, tLstD, tChainA, tChainE, tRg, rgK.eq_1, tStripX, strip1K.eq_1, strip2K.eq_1, tAndE, tOrE, tNotE, tIfE, tComp, bYes, tDct0, tRange.eq_1, tgName, tgTup.eq_1, tgCons.eq_1, tgNil.eq_1, takeAll, back.eq_1, back.eq_2, back_nil, setO, tName_k, nameK.eq_1, nameK.eq_2, nameK.eq_3, nameK.eq_4, atK.eq_1, take1_v, take1_s, takeO_v, takeO_s, takeR_v, takeR_s, prep_n, prep_tv, prep_ts, prep_f, lstK.eq_1, lstAt_k, g2K.eq_1, g2_k, g1K.eq_1, g1_k, gNK.eq_1, gN_k, boK.eq_1, bOf_k, isiK.eq_1, tIsi_k, partK.eq_1, part_n, part_s, slcK.eq_1, slcK.eq_2, slcK.eq_3, slcK.eq_4, tSlc_k, revK.eq_1, revK.eq_2, revK.eq_3, tRev_k, strMK.eq_1, tStrM_k, itK.eq_1, tIter_k, enumK.eq_1, tEnum_k, zipK.eq_1, zipK.eq_2, tZip_k, intsK.eq_1, intsK.eq_2, intsOf_k, endK.eq_1, endO_k, extK.eq_1, tExtend_k, tAppend_k, setIxK.eq_1, sSetIx_k, popAtK.eq_1, tPopAt_k, bO.eq_1, itemsOf.eq_1, itemsOf.eq_2, itemsOf.eq_3, gAdd.eq_1, gAdd.eq_2, gAdd.eq_3, gAdd.eq_4, gAdd.eq_5, gAdd.eq_6, gSub_.eq_1, gSub_.eq_2, gMul2_s, gMul2_i, gMul2_l, gMulS.eq_1, gMul.eq_1, gMul.eq_2, gFdiv.eq_1, gMod.eq_1, gPow.eq_1, gNeg.eq_1, gNeg.eq_2, gGe.eq_1, gGt.eq_1, gLe.eq_1, gLt.eq_1, gLt.eq_2, gEq.eq_1, gNe.eq_1, gNe.eq_2, gNe.eq_3, gNe.eq_4, gInW.eq_1, gInW.eq_2, gIs.eq_1, gIsNot.eq_1, gLen.eq_1, gLen.eq_2, gAllAny.eq_1, gAbs.eq_1, gInt.eq_1, gInt.eq_2, gStr.eq_1, gStr.eq_2, gStr.eq_3, gM2.eq_1, gListOf.eq_1, gListOf.eq_2, gTupOf.eq_1, gTupOf.eq_2, gSort, gSortS.eq_1, gSortD.eq_1, gSortSet.eq_1, gRepr.eq_1, gIx.eq_1, gIx.eq_2, ati0, ati1, ati2, Option.some.injEq, exists_eq, exists_eq', false_implies, Opd.slot.injEq, forall_eq, forall_eq', Opd.get.eq_1, Opd.get.eq_2, at_join, join_some, O.frz.eq_1, O.frz.eq_2, O.frz.eq_3, O.frz.eq_4, lsO.eq_1, lsO.eq_2, tuO.eq_1, seqO_l, seqO_p, seqO_t, endsOf, outsOf, startA, wipeA, List.getElem?_cons_zero, List.getElem?_cons_succ, List.length_cons, List.length_nil, List.map_cons, List.map_nil, List.set_cons_zero, List.set_cons_succ, List.replicate_succ, List.replicate_zero, List.cons_append, List.nil_append, List.getD_cons_zero, List.getD_cons_succ, if_true, if_false, Bool.false_eq_true, reduceIte, reduceCtorEq, Bool.not_true, Bool.not_false, implies_true, true_and, and_true, Nat.sub_self, Nat.reduceAdd, Nat.reduceSub, Nat.zero_add, List.all_cons, List.all_nil, Bool.and_true, Bool.true_and]
    rw [eg]
    simp only [sSeq, sNext, sRet, sRetN, sDrop, sIf, sSet, sFor, sPar, sAsg, bAnd, bOr, bNot, tTst, tCst, tBin, tUny, tNilA, tConsA, getAll, tCallB, tCallF, tTupD, tLstD, tChainA, tChainE, tRg, rgK.eq_1, tStripX, strip1K.eq_1, strip2K.eq_1, tAndE, tOrE, tNotE, tIfE, tComp, bYes, tDct0, tRange.eq_1, tgName, tgTup.eq_1, tgCons.eq_1, tgNil.eq_1, takeAll, back.eq_1, back.eq_2, back_nil, setO, tName_k, nameK.eq_1, nameK.eq_2, nameK.eq_3, nameK.eq_4, atK.eq_1, take1_v, take1_s, takeO_v, takeO_s, takeR_v, takeR_s, prep_n, prep_tv, prep_ts, prep_f, lstK.eq_1, lstAt_k, g2K.eq_1, g2_k, g1K.eq_1, g1_k, gNK.eq_1, gN_k, boK.eq_1, bOf_k, isiK.eq_1, tIsi_k, partK.eq_1, part_n, part_s, slcK.eq_1, slcK.eq_2, slcK.eq_3, slcK.eq_4, tSlc_k, revK.eq_1, revK.eq_2, revK.eq_3, tRev_k, strMK.eq_1, tStrM_k, itK.eq_1, tIter_k, enumK.eq_1, tEnum_k, zipK.eq_1, zipK.eq_2, tZip_k, intsK.eq_1, intsK.eq_2, intsOf_k, endK.eq_1, endO_k, extK.eq_1, tExtend_k, tAppend_k, setIxK.eq_1, sSetIx_k, popAtK.eq_1, tPopAt_k, bO.eq_1, itemsOf.eq_1, itemsOf.eq_2, itemsOf.eq_3, gAdd.eq_1, gAdd.eq_2, gAdd.eq_3, gAdd.eq_4, gAdd.eq_5, gAdd.eq_6, gSub_.eq_1, gSub_.eq_2, gMul2_s, gMul2_i, gMul2_l, gMulS.eq_1, gMul.eq_1, gMul.eq_2, gFdiv.eq_1, gMod.eq_1, gPow.eq_1, gNeg.eq_1, gNeg.eq_2, gGe.eq_1, gGt.eq_1, gLe.eq_1, gLt.eq_1, gLt.eq_2, gEq.eq_1, gNe.eq_1, gNe.eq_2, gNe.eq_3, gNe.eq_4, gInW.eq_1, gInW.eq_2, gIs.eq_1, gIsNot.eq_1, gLen.eq_1, gLen.eq_2, gAllAny.eq_1, gAbs.eq_1, gInt.eq_1, gInt.eq_2, gStr.eq_1, gStr.eq_2, gStr.eq_3, gM2.eq_1, gListOf.eq_1, gListOf.eq_2, gTupOf.eq_1, gTupOf.eq_2, gSort, gSortS.eq_1, gSortD.eq_1, gSortSet.eq_1, gRepr.eq_1, gIx.eq_1, gIx.eq_2, ati0, ati1, ati2, Option.some.injEq, exists_eq, exists_eq', false_implies, Opd.slot.injEq, forall_eq, forall_eq', Opd.get.eq_1, Opd.get.eq_2, at_join, join_some, O.frz.eq_1, O.frz.eq_2, O.frz.eq_3, O.frz.eq_4, lsO.eq_1, lsO.eq_2, tuO.eq_1, seqO_l, seqO_p, seqO_t, endsOf, outsOf, startA, wipeA, List.getElem?_cons_zero, List.getElem?_cons_succ, List.length_cons, List.length_nil, List.map_cons, List.map_nil, List.set_cons_zero, List.set_cons_succ, List.replicate_succ, List.replicate_zero, List.cons_append, List.nil_append, List.getD_cons_zero, List.getD_cons_succ, if_true, if_false, Bool.false_eq_true, reduceIte, reduceCtorEq, Bool.not_true, Bool.not_false, implies_true, true_and, and_true, Nat.sub_self, Nat.reduceAdd, Nat.reduceSub, Nat.zero_add, List.all_cons, List.all_nil, Bool.and_true, Bool.true_and]
    refine ⟨by omega, ?_⟩
    have hp := erase_perm eg
    refine turn_while k (n + 1) _ _ _ (by rw [List.length_eraseIdx_of_lt hr]; omega) (by omega) (by simp; omega) hd' (fun t m => hc t (List.mem_of_mem_eraseIdx m)) fun ds2 f2 hd2 hp2 => nx ds2 f2 (by rw [show n + (k + 1) = n + 1 + k by omega]; exact hd2) (hp2.trans ?_)
    refine List.Perm.trans ?_ (List.Perm.append_right found hp)
    rw [List.cons_append]
    exact List.perm_append_comm.trans (by
      rw [List.append_assoc]
      exact (List.perm_append_comm (l₁ := found) (l₂ := [left[r.toNat]] ++ left.eraseIdx r.toNat)).trans (by simp))
theorem pl__law_turned (os : List O) (Qa : O → List O → Prop) (_ : os.length = 2) (h : sp__law_turned os Qa) : t__law_turned (endsOf [true, false] Qa) (startA 4 os) := by
  obtain ⟨n, d, b, ts, hn, rfl, hd, hl, hc, h⟩ := h
  obtain ⟨ds, rfl⟩ := hd.frz
  unfold t__law_turned
  cases b <;> simp only [sSeq, sNext, sRet, sRetN, sDrop, sIf, sSet, sFor, sPar, sAsg, bAnd, bOr, bNot, tTst, tCst, tBin, tUny, tNilA, tConsA, getAll, tCallB, tCallF, tTupD, tLstD, tChainA, tChainE, tRg, rgK.eq_1, tStripX, strip1K.eq_1, strip2K.eq_1, tAndE, tOrE, tNotE, tIfE, tComp, bYes, tDct0, tRange.eq_1, tgName, tgTup.eq_1, tgCons.eq_1, tgNil.eq_1, takeAll, back.eq_1, back.eq_2, back_nil, setO, tName_k, nameK.eq_1, nameK.eq_2, nameK.eq_3, nameK.eq_4, atK.eq_1, take1_v, take1_s, takeO_v, takeO_s, takeR_v, takeR_s, prep_n, prep_tv, prep_ts, prep_f, lstK.eq_1, lstAt_k, g2K.eq_1, g2_k, g1K.eq_1, g1_k, gNK.eq_1, gN_k, boK.eq_1, bOf_k, isiK.eq_1, tIsi_k, partK.eq_1, part_n, part_s, slcK.eq_1, slcK.eq_2, slcK.eq_3, slcK.eq_4, tSlc_k, revK.eq_1, revK.eq_2, revK.eq_3, tRev_k, strMK.eq_1, tStrM_k, itK.eq_1, tIter_k, enumK.eq_1, tEnum_k, zipK.eq_1, zipK.eq_2, tZip_k, intsK.eq_1, intsK.eq_2, intsOf_k, endK.eq_1, endO_k, extK.eq_1, tExtend_k, tAppend_k, setIxK.eq_1, sSetIx_k, popAtK.eq_1, tPopAt_k, bO.eq_1, itemsOf.eq_1, itemsOf.eq_2, itemsOf.eq_3, gAdd.eq_1, gAdd.eq_2, gAdd.eq_3, gAdd.eq_4, gAdd.eq_5, gAdd.eq_6, gSub_.eq_1, gSub_.eq_2, gMul2_s, gMul2_i, gMul2_l, gMulS.eq_1, gMul.eq_1, gMul.eq_2, gFdiv.eq_1, gMod.eq_1, gPow.eq_1, gNeg.eq_1, gNeg.eq_2, gGe.eq_1, gGt.eq_1, gLe.eq_1, gLt.eq_1, gLt.eq_2, gEq.eq_1, gNe.eq_1, gNe.eq_2, gNe.eq_3, gNe.eq_4, gInW.eq_1, gInW.eq_2, gIs.eq_1, gIsNot.eq_1, gLen.eq_1, gLen.eq_2, gAllAny.eq_1, gAbs.eq_1, gInt.eq_1, gInt.eq_2, gStr.eq_1, gStr.eq_2, gStr.eq_3, gM2.eq_1, gListOf.eq_1, gListOf.eq_2, gTupOf.eq_1, gTupOf.eq_2, gSort, gSortS.eq_1, gSortD.eq_1, gSortSet.eq_1, gRepr.eq_1, gIx.eq_1, gIx.eq_2, ati0, ati1, ati2, Option.some.injEq, exists_eq, exists_eq', false_implies, Opd.slot.injEq, forall_eq, forall_eq', Opd.get.eq_1, Opd.get.eq_2, at_join, join_some, O.frz.eq_1, O.frz.eq_2, O.frz.eq_3, O.frz.eq_4, lsO.eq_1, lsO.eq_2, tuO.eq_1, seqO_l, seqO_p, seqO_t, endsOf, outsOf, startA, wipeA, List.getElem?_cons_zero, List.getElem?_cons_succ, List.length_cons, List.length_nil, List.map_cons, List.map_nil, List.set_cons_zero, List.set_cons_succ, List.replicate_succ, List.replicate_zero, List.cons_append, List.nil_append, List.getD_cons_zero, List.getD_cons_succ, if_true, if_false, Bool.false_eq_true, reduceIte, reduceCtorEq, Bool.not_true, Bool.not_false, implies_true, true_and, and_true, Nat.sub_self, Nat.reduceAdd, Nat.reduceSub, Nat.zero_add, List.all_cons, List.all_nil, Bool.and_true, Bool.true_and, sWhile, seqT]
  all_goals
    refine ⟨rfl, ts.length + 1, turn_while ts.length n ds ts [] rfl hn (by simpa using hl) hd hc fun ds' f' hd' hp => ?_⟩
    simp only [sSeq, sNext, sRet, sRetN, sDrop, sIf, sSet, sFor, sPar, sAsg, bAnd, bOr, bNot, tTst, tCst, tBin, tUny, tNilA, tConsA, getAll, tCallB, tCallF, tTupD, tLstD, tChainA, tChainE, tRg, rgK.eq_1, tStripX, strip1K.eq_1, strip2K.eq_1, tAndE, tOrE, tNotE, tIfE, tComp, bYes, tDct0, tRange.eq_1, tgName, tgTup.eq_1, tgCons.eq_1, tgNil.eq_1, takeAll, back.eq_1, back.eq_2, back_nil, setO, tName_k, nameK.eq_1, nameK.eq_2, nameK.eq_3, nameK.eq_4, atK.eq_1, take1_v, take1_s, takeO_v, takeO_s, takeR_v, takeR_s, prep_n, prep_tv, prep_ts, prep_f, lstK.eq_1, lstAt_k, g2K.eq_1, g2_k, g1K.eq_1, g1_k, gNK.eq_1, gN_k, boK.eq_1, bOf_k, isiK.eq_1, tIsi_k, partK.eq_1, part_n, part_s, slcK.eq_1, slcK.eq_2, slcK.eq_3, slcK.eq_4, tSlc_k, revK.eq_1, revK.eq_2, revK.eq_3, tRev_k, strMK.eq_1, tStrM_k, itK.eq_1, tIter_k, enumK.eq_1, tEnum_k, zipK.eq_1, zipK.eq_2, tZip_k, intsK.eq_1, intsK.eq_2, intsOf_k, endK.eq_1, endO_k, extK.eq_1, tExtend_k, tAppend_k, setIxK.eq_1, sSetIx_k, popAtK.eq_1, tPopAt_k, bO.eq_1, itemsOf.eq_1, itemsOf.eq_2, itemsOf.eq_3, gAdd.eq_1, gAdd.eq_2, gAdd.eq_3, gAdd.eq_4, gAdd.eq_5, gAdd.eq_6, gSub_.eq_1, gSub_.eq_2, gMul2_s, gMul2_i, gMul2_l, gMulS.eq_1, gMul.eq_1, gMul.eq_2, gFdiv.eq_1, gMod.eq_1, gPow.eq_1, gNeg.eq_1, gNeg.eq_2, gGe.eq_1, gGt.eq_1, gLe.eq_1, gLt.eq_1, gLt.eq_2, gEq.eq_1, gNe.eq_1, gNe.eq_2, gNe.eq_3, gNe.eq_4, gInW.eq_1, gInW.eq_2, gIs.eq_1, gIsNot.eq_1, gLen.eq_1, gLen.eq_2, gAllAny.eq_1, gAbs.eq_1, gInt.eq_1, gInt.eq_2, gStr.eq_1, gStr.eq_2, gStr.eq_3, gM2.eq_1, gListOf.eq_1, gListOf.eq_2, gTupOf.eq_1, gTupOf.eq_2, gSort, gSortS.eq_1, gSortD.eq_1, gSortSet.eq_1, gRepr.eq_1, gIx.eq_1, gIx.eq_2, ati0, ati1, ati2, Option.some.injEq, exists_eq, exists_eq', false_implies, Opd.slot.injEq, forall_eq, forall_eq', Opd.get.eq_1, Opd.get.eq_2, at_join, join_some, O.frz.eq_1, O.frz.eq_2, O.frz.eq_3, O.frz.eq_4, lsO.eq_1, lsO.eq_2, tuO.eq_1, seqO_l, seqO_p, seqO_t, endsOf, outsOf, startA, wipeA, List.getElem?_cons_zero, List.getElem?_cons_succ, List.length_cons, List.length_nil, List.map_cons, List.map_nil, List.set_cons_zero, List.set_cons_succ, List.replicate_succ, List.replicate_zero, List.cons_append, List.nil_append, List.getD_cons_zero, List.getD_cons_succ, if_true, if_false, Bool.false_eq_true, reduceIte, reduceCtorEq, Bool.not_true, Bool.not_false, implies_true, true_and, and_true, Nat.sub_self, Nat.reduceAdd, Nat.reduceSub, Nat.zero_add, List.all_cons, List.all_nil, Bool.and_true, Bool.true_and]
    exact h _ _ (by simpa using hp) hd'
theorem nodup_len {α : Type} [DecidableEq α] : ∀ {ms ns : List α}, ms.Nodup → (∀ x ∈ ms, x ∈ ns) → ms.length ≤ ns.length
  | [], _, _, _ => Nat.zero_le _
  | x :: ms, ns, nd, h => by
    obtain ⟨h1, h2⟩ := List.nodup_cons.mp nd
    have hx := h x List.mem_cons_self
    have e := List.length_erase_of_mem hx
    have hp : 0 < ns.length := List.length_pos_of_mem hx
    have := nodup_len (ns := ns.erase x) h2 fun y hy => (List.mem_erase_of_ne (fun z : y = x => h1 (z ▸ hy))).mpr (h y (List.mem_cons_of_mem _ hy))
    rw [List.length_cons]
    omega
end WS

set_option Elab.async false
set_option linter.all false
set_option maxRecDepth 100000
set_option maxHeartbeats 4000000
namespace WC
open PySem PySem.Spec L2 DL WS
open PyProof.Rows hiding St
def Sz (t : T) : Prop := ∃ w d b, Gd w d b t ∧ w ≤ 1000000
theorem Sz.mem {ts : List T} {t : T} (h : Sz (.tuple ts)) (m : t ∈ ts) : Sz t := by
  obtain ⟨w, d, b, g, hw⟩ := h
  exact ⟨_, _, _, g.tupE.mem m, by omega⟩
theorem Sz.szS {t : T} (h : Sz t) : szS t := by
  obtain ⟨w, d, b, g, hw⟩ := h
  rintro x rfl
  have := g.strE.1
  omega
/-! ### strip, in -/
theorem inStr_one (c : Nat) (z : Str) : inStr ⟨#[c]⟩ z = decide (c ∈ z.cps.toList) := PySem.StrLaws.found_one z c
theorem tw_all {α : Type} {p : α → Bool} : ∀ {l : List α}, (l.takeWhile p).length = l.length ↔ l.all p = true
  | [] => by simp
  | a :: l => by
    simp only [List.takeWhile_cons, List.all_cons, Bool.and_eq_true]
    cases e : p a with
    | true => simp [tw_all (l := l)]
    | false => simp
theorem str_nil {x : Str} : x = ("" : Str) ↔ x.cps.toList = [] := by
  constructor
  · rintro rfl; rfl
  · intro h
    exact PySem.Str.ext' (Array.toList_inj.mp (by rw [h]; rfl))
theorem strip_nil {x y : Str} : Txt.stripChars x y = ("" : Str) ↔ (x.cps.toList.all fun c => y.cps.contains c) = true := by
  have hlen : x.length = x.cps.toList.length := by simp [PySem.Str.length]
  unfold Txt.stripChars Txt.stripBy
  generalize hp : (fun c => y.cps.contains c) = p
  have hp2 : y.cps.contains = p := hp
  rw [hp2]
  have key := tw_all (p := p) (l := x.cps.toList)
  generalize hl : x.cps.toList = l at *
  by_cases ha : l.all p = true
  · have e1 := key.mpr ha
    refine ⟨fun _ => ha, fun _ => ?_⟩
    by_cases hx : l = []
    · subst hx
      have hx0 : x = ("" : Str) := str_nil.mpr hl
      subst hx0
      split
      · rfl
      · exact str_nil.mpr (by rfl)
    · have hpos : 0 < l.length := List.length_pos_iff.mpr hx
      have hs : stripSame p true true x = false := by
        unfold stripSame stripLo
        simp only [if_true, hl, e1]
        have : (l.length == 0) = false := by simp; omega
        rw [this]; rfl
      rw [hs]
      simp only [Bool.false_eq_true, if_false]
      unfold stripped stripLo stripHi
      simp only [if_true, hl, e1]
      refine str_nil.mpr ?_
      unfold Builtin.Str.strSub
      simp [hlen]
  · refine ⟨fun h => absurd h ?_, fun h => absurd h ha⟩
    have h1 : (l.takeWhile p).length < l.length := by
      have := (List.takeWhile_prefix p (l := l)).length_le
      have h2 : (l.takeWhile p).length ≠ l.length := fun z => ha (key.mp z)
      omega
    have hd : l.drop (l.takeWhile p).length = l.dropWhile p := by
      have := List.takeWhile_append_dropWhile (p := p) (l := l)
      conv => lhs; arg 2; rw [← this]
      rw [List.drop_left]
    split
    · intro z
      have := str_nil.mp z
      rw [hl] at this
      subst this
      simp at h1
    · intro z
      have z := str_nil.mp z
      unfold stripped stripLo stripHi at z
      simp only [if_true, hl] at z
      unfold Builtin.Str.strSub at z
      have h3 : (((l.drop (l.takeWhile p).length).reverse).takeWhile p).length < (l.drop (l.takeWhile p).length).length := by
        have h4 := (List.takeWhile_prefix p (l := (l.drop (l.takeWhile p).length).reverse)).length_le
        have h5 : (((l.drop (l.takeWhile p).length).reverse).takeWhile p).length ≠ ((l.drop (l.takeWhile p).length).reverse).length := fun z => by
          have z := tw_all.mp z
          rw [List.all_reverse, hd] at z
          cases e : l.dropWhile p with
          | nil =>
            rw [e] at hd
            have := congrArg List.length hd
            simp at this
            omega
          | cons a r =>
            have h6 := List.head?_dropWhile_not p l
            rw [e] at h6 z
            simp at h6 z
            rw [z.1] at h6
            cases h6
        rw [List.length_reverse] at h4 h5
        omega
      rw [List.length_drop] at h3
      have z := congrArg List.length z
      simp [hlen] at z
      have hxs : x.cps.size = l.length := by rw [← hl]; simp
      omega
theorem mWord_strip (x : Str) : mWord (.str x) = (decide (1 ≤ (x.length : Int)) && decide ((x.length : Int) ≤ 8) && decide (Txt.stripChars x letters = ("" : Str))) := by
  show ((decide (1 ≤ (x.length : Int)) && decide ((x.length : Int) ≤ 8)) && ((strItems x).all fun t => match t with | .str c => inStr c letters | _ => false)) = _
  congr 1
  rw [Bool.eq_iff_iff, decide_eq_true_eq, strip_nil]
  unfold strItems
  rw [List.all_map]
  simp only [Function.comp_def, inStr_one]
  simp
end WC

set_option Elab.async false
set_option linter.all false
set_option maxRecDepth 100000
set_option maxHeartbeats 4000000
namespace WC
open PySem PySem.Spec L2 DL WS
open PyProof.Rows hiding St
def mNum (lo hi : Int) : T → Bool
  | .int i => decide (lo ≤ i) && decide (i ≤ hi)
  | _ => false
def sp_is_integer : FSpec := fun os Q => ∃ t lo hi, os = [.pure t, .pure (.int lo), .pure (.int hi)] ∧ Q (.pure (.bool (mNum lo hi t))) []
/-- is_integer: slots 0:value 1:least 2:greatest -/
def t_is_integer : ST := (sRet (fun j => [false, false, false].getD j false) (tAndE (tIsi "int" (tName 0)) (tAndE (tNotE (tIsi "bool" (tName 0))) (tChainE gLe gLe (tName 1) (tName 0) (tName 2)))))
theorem pl_is_integer (os : List O) (Qa : O → List O → Prop) (_ : os.length = 3) (h : sp_is_integer os Qa) : t_is_integer (endsOf [false, false, false] Qa) (startA 3 os) := by
  obtain ⟨t, lo, hi, rfl, h⟩ := h
  unfold t_is_integer
  cases t with
  | int i =>
    simp only [sSeq, sNext, sRet, sRetN, sDrop, sIf, sSet, sFor, sPar, sAsg, bAnd, bOr, bNot, tTst, tCst, tBin, tUny, tNilA, tConsA, getAll, tCallB, tCallF, tTupD, tLstD, tChainA, tChainE, tRg, rgK.eq_1, tStripX, strip1K.eq_1, strip2K.eq_1, tAndE, tOrE, tNotE, tIfE, tComp, bYes, tDct0, tRange.eq_1, tgName, tgTup.eq_1, tgCons.eq_1, tgNil.eq_1, takeAll, back.eq_1, back.eq_2, back_nil, setO, tName_k, nameK.eq_1, nameK.eq_2, nameK.eq_3, nameK.eq_4, atK.eq_1, take1_v, take1_s, takeO_v, takeO_s, takeR_v, takeR_s, prep_n, prep_tv, prep_ts, prep_f, lstK.eq_1, lstAt_k, g2K.eq_1, g2_k, g1K.eq_1, g1_k, gNK.eq_1, gN_k, boK.eq_1, bOf_k, isiK.eq_1, tIsi_k, partK.eq_1, part_n, part_s, slcK.eq_1, slcK.eq_2, slcK.eq_3, slcK.eq_4, tSlc_k, revK.eq_1, revK.eq_2, revK.eq_3, tRev_k, strMK.eq_1, tStrM_k, itK.eq_1, tIter_k, enumK.eq_1, tEnum_k, zipK.eq_1, zipK.eq_2, tZip_k, intsK.eq_1, intsK.eq_2, intsOf_k, endK.eq_1, endO_k, extK.eq_1, tExtend_k, tAppend_k, setIxK.eq_1, sSetIx_k, popAtK.eq_1, tPopAt_k, bO.eq_1, itemsOf.eq_1, itemsOf.eq_2, itemsOf.eq_3, gAdd.eq_1, gAdd.eq_2, gAdd.eq_3, gAdd.eq_4, gAdd.eq_5, gAdd.eq_6, gSub_.eq_1, gSub_.eq_2, gMul2_s, gMul2_i, gMul2_l, gMulS.eq_1, gMul.eq_1, gMul.eq_2, gFdiv.eq_1, gMod.eq_1, gPow.eq_1, gNeg.eq_1, gNeg.eq_2, gGe.eq_1, gGt.eq_1, gLe.eq_1, gLt.eq_1, gLt.eq_2, gEq.eq_1, gNe.eq_1, gNe.eq_2, gNe.eq_3, gNe.eq_4, gInW.eq_1, gInW.eq_2, gIs.eq_1, gIsNot.eq_1, gLen.eq_1, gLen.eq_2, gAllAny.eq_1, gAbs.eq_1, gInt.eq_1, gInt.eq_2, gStr.eq_1, gStr.eq_2, gStr.eq_3, gM2.eq_1, gListOf.eq_1, gListOf.eq_2, gTupOf.eq_1, gTupOf.eq_2, gSort, gSortS.eq_1, gSortD.eq_1, gSortSet.eq_1, gRepr.eq_1, gIx.eq_1, gIx.eq_2, ati0, ati1, ati2, Option.some.injEq, exists_eq, exists_eq', false_implies, Opd.slot.injEq, forall_eq, forall_eq', Opd.get.eq_1, Opd.get.eq_2, at_join, join_some, O.frz.eq_1, O.frz.eq_2, O.frz.eq_3, O.frz.eq_4, lsO.eq_1, lsO.eq_2, tuO.eq_1, seqO_l, seqO_p, seqO_t, endsOf, outsOf, startA, wipeA, List.getElem?_cons_zero, List.getElem?_cons_succ, List.length_cons, List.length_nil, List.map_cons, List.map_nil, List.set_cons_zero, List.set_cons_succ, List.replicate_succ, List.replicate_zero, List.cons_append, List.nil_append, List.getD_cons_zero, List.getD_cons_succ, if_true, if_false, Bool.false_eq_true, reduceIte, reduceCtorEq, Bool.not_true, Bool.not_false, implies_true, true_and, and_true, Nat.sub_self, Nat.reduceAdd, Nat.reduceSub, Nat.zero_add, List.all_cons, List.all_nil, Bool.and_true, Bool.true_and, isT_int, isT_bool]
    unfold mNum at h
    by_cases h1 : lo ≤ i
    · simp only [h1, decide_true, if_true, Bool.true_and] at h ⊢
      exact h
    · simp only [h1, decide_false, Bool.false_eq_true, if_false, Bool.false_and] at h ⊢
      exact h
  | bool b => simp only [sSeq, sNext, sRet, sRetN, sDrop, sIf, sSet, sFor, sPar, sAsg, bAnd, bOr, bNot, tTst, tCst, tBin, tUny, tNilA, tConsA, getAll, tCallB, tCallF, tTupD, tLstD, tChainA, tChainE, tRg, rgK.eq_1, tStripX, strip1K.eq_1, strip2K.eq_1, tAndE, tOrE, tNotE, tIfE, tComp, bYes, tDct0, tRange.eq_1, tgName, tgTup.eq_1, tgCons.eq_1, tgNil.eq_1, takeAll, back.eq_1, back.eq_2, back_nil, setO, tName_k, nameK.eq_1, nameK.eq_2, nameK.eq_3, nameK.eq_4, atK.eq_1, take1_v, take1_s, takeO_v, takeO_s, takeR_v, takeR_s, prep_n, prep_tv, prep_ts, prep_f, lstK.eq_1, lstAt_k, g2K.eq_1, g2_k, g1K.eq_1, g1_k, gNK.eq_1, gN_k, boK.eq_1, bOf_k, isiK.eq_1, tIsi_k, partK.eq_1, part_n, part_s, slcK.eq_1, slcK.eq_2, slcK.eq_3, slcK.eq_4, tSlc_k, revK.eq_1, revK.eq_2, revK.eq_3, tRev_k, strMK.eq_1, tStrM_k, itK.eq_1, tIter_k, enumK.eq_1, tEnum_k, zipK.eq_1, zipK.eq_2, tZip_k, intsK.eq_1, intsK.eq_2, intsOf_k, endK.eq_1, endO_k, extK.eq_1, tExtend_k, tAppend_k, setIxK.eq_1, sSetIx_k, popAtK.eq_1, tPopAt_k, bO.eq_1, itemsOf.eq_1, itemsOf.eq_2, itemsOf.eq_3, gAdd.eq_1, gAdd.eq_2, gAdd.eq_3, gAdd.eq_4, gAdd.eq_5, gAdd.eq_6, gSub_.eq_1, gSub_.eq_2, gMul2_s, gMul2_i, gMul2_l, gMulS.eq_1, gMul.eq_1, gMul.eq_2, gFdiv.eq_1, gMod.eq_1, gPow.eq_1, gNeg.eq_1, gNeg.eq_2, gGe.eq_1, gGt.eq_1, gLe.eq_1, gLt.eq_1, gLt.eq_2, gEq.eq_1, gNe.eq_1, gNe.eq_2, gNe.eq_3, gNe.eq_4, gInW.eq_1, gInW.eq_2, gIs.eq_1, gIsNot.eq_1, gLen.eq_1, gLen.eq_2, gAllAny.eq_1, gAbs.eq_1, gInt.eq_1, gInt.eq_2, gStr.eq_1, gStr.eq_2, gStr.eq_3, gM2.eq_1, gListOf.eq_1, gListOf.eq_2, gTupOf.eq_1, gTupOf.eq_2, gSort, gSortS.eq_1, gSortD.eq_1, gSortSet.eq_1, gRepr.eq_1, gIx.eq_1, gIx.eq_2, ati0, ati1, ati2, Option.some.injEq, exists_eq, exists_eq', false_implies, Opd.slot.injEq, forall_eq, forall_eq', Opd.get.eq_1, Opd.get.eq_2, at_join, join_some, O.frz.eq_1, O.frz.eq_2, O.frz.eq_3, O.frz.eq_4, lsO.eq_1, lsO.eq_2, tuO.eq_1, seqO_l, seqO_p, seqO_t, endsOf, outsOf, startA, wipeA, List.getElem?_cons_zero, List.getElem?_cons_succ, List.length_cons, List.length_nil, List.map_cons, List.map_nil, List.set_cons_zero, List.set_cons_succ, List.replicate_succ, List.replicate_zero, List.cons_append, List.nil_append, List.getD_cons_zero, List.getD_cons_succ, if_true, if_false, Bool.false_eq_true, reduceIte, reduceCtorEq, Bool.not_true, Bool.not_false, implies_true, true_and, and_true, Nat.sub_self, Nat.reduceAdd, Nat.reduceSub, Nat.zero_add, List.all_cons, List.all_nil, Bool.and_true, Bool.true_and, isT_int, isT_bool]; exact h
  | _ => simp only [sSeq, sNext, sRet, sRetN, sDrop, sIf, sSet, sFor, sPar, sAsg, bAnd, bOr, bNot, tTst, tCst, tBin, tUny, tNilA, tConsA, getAll, tCallB, tCallF, tTupD, tLstD, tChainA, tChainE, tRg, rgK.eq_1, tStripX, strip1K.eq_1, strip2K.eq_1, tAndE, tOrE, tNotE, tIfE, tComp, bYes, tDct0, tRange.eq_1, tgName, tgTup.eq_1, tgCons.eq_1, tgNil.eq_1, takeAll, back.eq_1, back.eq_2, back_nil, setO, tName_k, nameK.eq_1, nameK.eq_2, nameK.eq_3, nameK.eq_4, atK.eq_1, take1_v, take1_s, takeO_v, takeO_s, takeR_v, takeR_s, prep_n, prep_tv, prep_ts, prep_f, lstK.eq_1, lstAt_k, g2K.eq_1, g2_k, g1K.eq_1, g1_k, gNK.eq_1, gN_k, boK.eq_1, bOf_k, isiK.eq_1, tIsi_k, partK.eq_1, part_n, part_s, slcK.eq_1, slcK.eq_2, slcK.eq_3, slcK.eq_4, tSlc_k, revK.eq_1, revK.eq_2, revK.eq_3, tRev_k, strMK.eq_1, tStrM_k, itK.eq_1, tIter_k, enumK.eq_1, tEnum_k, zipK.eq_1, zipK.eq_2, tZip_k, intsK.eq_1, intsK.eq_2, intsOf_k, endK.eq_1, endO_k, extK.eq_1, tExtend_k, tAppend_k, setIxK.eq_1, sSetIx_k, popAtK.eq_1, tPopAt_k, bO.eq_1, itemsOf.eq_1, itemsOf.eq_2, itemsOf.eq_3, gAdd.eq_1, gAdd.eq_2, gAdd.eq_3, gAdd.eq_4, gAdd.eq_5, gAdd.eq_6, gSub_.eq_1, gSub_.eq_2, gMul2_s, gMul2_i, gMul2_l, gMulS.eq_1, gMul.eq_1, gMul.eq_2, gFdiv.eq_1, gMod.eq_1, gPow.eq_1, gNeg.eq_1, gNeg.eq_2, gGe.eq_1, gGt.eq_1, gLe.eq_1, gLt.eq_1, gLt.eq_2, gEq.eq_1, gNe.eq_1, gNe.eq_2, gNe.eq_3, gNe.eq_4, gInW.eq_1, gInW.eq_2, gIs.eq_1, gIsNot.eq_1, gLen.eq_1, gLen.eq_2, gAllAny.eq_1, gAbs.eq_1, gInt.eq_1, gInt.eq_2, gStr.eq_1, gStr.eq_2, gStr.eq_3, gM2.eq_1, gListOf.eq_1, gListOf.eq_2, gTupOf.eq_1, gTupOf.eq_2, gSort, gSortS.eq_1, gSortD.eq_1, gSortSet.eq_1, gRepr.eq_1, gIx.eq_1, gIx.eq_2, ati0, ati1, ati2, Option.some.injEq, exists_eq, exists_eq', false_implies, Opd.slot.injEq, forall_eq, forall_eq', Opd.get.eq_1, Opd.get.eq_2, at_join, join_some, O.frz.eq_1, O.frz.eq_2, O.frz.eq_3, O.frz.eq_4, lsO.eq_1, lsO.eq_2, tuO.eq_1, seqO_l, seqO_p, seqO_t, endsOf, outsOf, startA, wipeA, List.getElem?_cons_zero, List.getElem?_cons_succ, List.length_cons, List.length_nil, List.map_cons, List.map_nil, List.set_cons_zero, List.set_cons_succ, List.replicate_succ, List.replicate_zero, List.cons_append, List.nil_append, List.getD_cons_zero, List.getD_cons_succ, if_true, if_false, Bool.false_eq_true, reduceIte, reduceCtorEq, Bool.not_true, Bool.not_false, implies_true, true_and, and_true, Nat.sub_self, Nat.reduceAdd, Nat.reduceSub, Nat.zero_add, List.all_cons, List.all_nil, Bool.and_true, Bool.true_and, isT_int, isT_bool]; exact h
def sp__law_is_number : FSpec := sp_is_integer
/-- _law_is_number: slots 0:_law_thing 1:_law_least 2:_law_most -/
def t__law_is_number : ST := (sRet (fun j => [false, false, false].getD j false) (tAndE (tIsi "int" (tName 0)) (tAndE (tNotE (tIsi "bool" (tName 0))) (tChainE gLe gLe (tName 1) (tName 0) (tName 2)))))
theorem pl__law_is_number (os : List O) (Qa : O → List O → Prop) (ho : os.length = 3) (h : sp__law_is_number os Qa) : t__law_is_number (endsOf [false, false, false] Qa) (startA 3 os) := pl_is_integer os Qa ho h
/-- the first part -/
def hdT : T → T
  | .tuple (a :: _) => a
  | t => t
def sp_is_price : FSpec := fun os Q => ∃ t, os = [.pure t] ∧ Q (.pure (.bool (mNum 1 1000000 t))) []
/-- is_price: slots 0:value -/
def t_is_price : ST := (sRet (fun j => [false].getD j false) (tCallF [false, false, false] sp_is_integer (tConsA (tName 0) (tConsA (tCst (.int 1)) (tConsA (tCst (.int 1000000)) tNilA)))))
theorem pl_is_price (os : List O) (Qa : O → List O → Prop) (_ : os.length = 1) (h : sp_is_price os Qa) : t_is_price (endsOf [false] Qa) (startA 1 os) := by
  obtain ⟨t, rfl, h⟩ := h
  unfold t_is_price
  simp only [sSeq, sNext, sRet, sRetN, sDrop, sIf, sSet, sFor, sPar, sAsg, bAnd, bOr, bNot, tTst, tCst, tBin, tUny, tNilA, tConsA, getAll, tCallB, tCallF, tTupD, tLstD, tChainA, tChainE, tRg, rgK.eq_1, tStripX, strip1K.eq_1, strip2K.eq_1, tAndE, tOrE, tNotE, tIfE, tComp, bYes, tDct0, tRange.eq_1, tgName, tgTup.eq_1, tgCons.eq_1, tgNil.eq_1, takeAll, back.eq_1, back.eq_2, back_nil, setO, tName_k, nameK.eq_1, nameK.eq_2, nameK.eq_3, nameK.eq_4, atK.eq_1, take1_v, take1_s, takeO_v, takeO_s, takeR_v, takeR_s, prep_n, prep_tv, prep_ts, prep_f, lstK.eq_1, lstAt_k, g2K.eq_1, g2_k, g1K.eq_1, g1_k, gNK.eq_1, gN_k, boK.eq_1, bOf_k, isiK.eq_1, tIsi_k, partK.eq_1, part_n, part_s, slcK.eq_1, slcK.eq_2, slcK.eq_3, slcK.eq_4, tSlc_k, revK.eq_1, revK.eq_2, revK.eq_3, tRev_k, strMK.eq_1, tStrM_k, itK.eq_1, tIter_k, enumK.eq_1, tEnum_k, zipK.eq_1, zipK.eq_2, tZip_k, intsK.eq_1, intsK.eq_2, intsOf_k, endK.eq_1, endO_k, extK.eq_1, tExtend_k, tAppend_k, setIxK.eq_1, sSetIx_k, popAtK.eq_1, tPopAt_k, bO.eq_1, itemsOf.eq_1, itemsOf.eq_2, itemsOf.eq_3, gAdd.eq_1, gAdd.eq_2, gAdd.eq_3, gAdd.eq_4, gAdd.eq_5, gAdd.eq_6, gSub_.eq_1, gSub_.eq_2, gMul2_s, gMul2_i, gMul2_l, gMulS.eq_1, gMul.eq_1, gMul.eq_2, gFdiv.eq_1, gMod.eq_1, gPow.eq_1, gNeg.eq_1, gNeg.eq_2, gGe.eq_1, gGt.eq_1, gLe.eq_1, gLt.eq_1, gLt.eq_2, gEq.eq_1, gNe.eq_1, gNe.eq_2, gNe.eq_3, gNe.eq_4, gInW.eq_1, gInW.eq_2, gIs.eq_1, gIsNot.eq_1, gLen.eq_1, gLen.eq_2, gAllAny.eq_1, gAbs.eq_1, gInt.eq_1, gInt.eq_2, gStr.eq_1, gStr.eq_2, gStr.eq_3, gM2.eq_1, gListOf.eq_1, gListOf.eq_2, gTupOf.eq_1, gTupOf.eq_2, gSort, gSortS.eq_1, gSortD.eq_1, gSortSet.eq_1, gRepr.eq_1, gIx.eq_1, gIx.eq_2, ati0, ati1, ati2, Option.some.injEq, exists_eq, exists_eq', false_implies, Opd.slot.injEq, forall_eq, forall_eq', Opd.get.eq_1, Opd.get.eq_2, at_join, join_some, O.frz.eq_1, O.frz.eq_2, O.frz.eq_3, O.frz.eq_4, lsO.eq_1, lsO.eq_2, tuO.eq_1, seqO_l, seqO_p, seqO_t, endsOf, outsOf, startA, wipeA, List.getElem?_cons_zero, List.getElem?_cons_succ, List.length_cons, List.length_nil, List.map_cons, List.map_nil, List.set_cons_zero, List.set_cons_succ, List.replicate_succ, List.replicate_zero, List.cons_append, List.nil_append, List.getD_cons_zero, List.getD_cons_succ, if_true, if_false, Bool.false_eq_true, reduceIte, reduceCtorEq, Bool.not_true, Bool.not_false, implies_true, true_and, and_true, Nat.sub_self, Nat.reduceAdd, Nat.reduceSub, Nat.zero_add, List.all_cons, List.all_nil, Bool.and_true, Bool.true_and]
  exact ⟨t, _, _, rfl, h⟩
def mPair : T → Bool
  | .tuple [a, b] => mWord a && mNum 1 1000000 b
  | _ => false
def isPr : T → Bool
  | .tuple [_, _] => true
  | _ => false
theorem mPair_len {ts : List T} (h : ¬ (ts.length : Int) = 2) : mPair (.tuple ts) = false ∧ isPr (.tuple ts) = false := by
  match ts, h with
  | [], _ => exact ⟨rfl, rfl⟩
  | [a], _ => exact ⟨rfl, rfl⟩
  | [a, b], h => simp at h
  | a :: b :: c :: r, _ => exact ⟨rfl, rfl⟩
theorem pair_pr {t : T} (h : mPair t = true) : isPr t = true := by
  match t, h with
  | .tuple [a, b], _ => rfl
theorem pr_pair {t : T} (h : isPr t = true) : ∃ a b, t = .tuple [a, b] := by
  match t, h with
  | .tuple [a, b], _ => exact ⟨a, b, rfl⟩
def mCost : T → Bool
  | .tuple ts => ts.all mPair && mAsc (ts.map hdT)
  | _ => false
theorem hds_asc {ts : List T} (h : ts.all mPair = true) : ascOk (ts.map hdT) := by
  have e : ∀ t ∈ ts.map hdT, ∃ x, t = .str x := fun t m => by
    obtain ⟨p, hp, rfl⟩ := List.mem_map.mp m
    have q := List.all_eq_true.mp h p hp
    obtain ⟨a, b, rfl⟩ := pr_pair (pair_pr q)
    have q : (mWord a && mNum 1 1000000 b) = true := q
    rw [Bool.and_eq_true] at q
    obtain ⟨x, rfl⟩ := mWord_str q.1
    exact ⟨x, rfl⟩
  intro a ha b hb
  obtain ⟨x, rfl⟩ := e a ha
  obtain ⟨y, rfl⟩ := e b hb
  exact ⟨by simp [PySem.W.alike], by simp, by simp [PyData.depth]⟩
def sp_are_prices : FSpec := fun os Q => ∃ t, os = [.pure t] ∧ Sz t ∧ Q (.pure (.bool (mCost t))) []
/-- are_prices: slots 0:value 1:pair 2:name 3:price -/
def t_are_prices : ST := (sSeq (sIf (bOr (bNot (tTst (tIsi "tuple" (tName 0)))) (bNot (tTst (tCallB (gAllAny fun bs => bs.all id) (tConsA (tComp (tIter (tName 0)) (tgName 1) bYes (tAndE (tIsi "tuple" (tName 1)) (tBin gEq (tCallB gLen (tConsA (tName 1) tNilA)) (tCst (.int 2)))) [1]) tNilA))))) (sRet (fun j => [false].getD j false) (tCst (.bool false))) sNext)
  (sSeq (sIf (bNot (tTst (tCallB (gAllAny fun bs => bs.all id) (tConsA (tComp (tIter (tName 0)) (tgTup 2 (tgCons (tgName 2) (tgCons (tgName 3) tgNil))) bYes (tAndE (tCallF [false] sp_is_name (tConsA (tName 2) tNilA)) (tCallF [false] sp_is_price (tConsA (tName 3) tNilA))) [2, 3]) tNilA)))) (sRet (fun j => [false].getD j false) (tCst (.bool false))) sNext)
  (sRet (fun j => [false].getD j false) (tCallF [false] sp_are_ascending (tConsA (tComp (tIter (tName 0)) (tgTup 2 (tgCons (tgName 2) (tgCons (tgName 3) tgNil))) bYes (tName 2) [2, 3]) tNilA)))))
theorem all_of_all {α : Type} {p q : α → Bool} {l : List α} (h : ∀ a ∈ l, p a = true → q a = true) (e : l.all q = false) : l.all p = false := by
  cases g : l.all p with
  | false => rfl
  | true =>
    have : l.all q = true := List.all_eq_true.mpr fun a m => h a m (List.all_eq_true.mp g a m)
    rw [e] at this; cases this
theorem pl_are_prices (os : List O) (Qa : O → List O → Prop) (_ : os.length = 1) (h : sp_are_prices os Qa) : t_are_prices (endsOf [false] Qa) (startA 4 os) := by
  obtain ⟨t, rfl, hz, h⟩ := h
  unfold t_are_prices
  cases t with
  | tuple ts =>
    simp only [sSeq, sNext, sRet, sRetN, sDrop, sIf, sSet, sFor, sPar, sAsg, bAnd, bOr, bNot, tTst, tCst, tBin, tUny, tNilA, tConsA, getAll, tCallB, tCallF, tTupD, tLstD, tChainA, tChainE, tRg, rgK.eq_1, tStripX, strip1K.eq_1, strip2K.eq_1, tAndE, tOrE, tNotE, tIfE, tComp, bYes, tDct0, tRange.eq_1, tgName, tgTup.eq_1, tgCons.eq_1, tgNil.eq_1, takeAll, back.eq_1, back.eq_2, back_nil, setO, tName_k, nameK.eq_1, nameK.eq_2, nameK.eq_3, nameK.eq_4, atK.eq_1, take1_v, take1_s, takeO_v, takeO_s, takeR_v, takeR_s, prep_n, prep_tv, prep_ts, prep_f, lstK.eq_1, lstAt_k, g2K.eq_1, g2_k, g1K.eq_1, g1_k, gNK.eq_1, gN_k, boK.eq_1, bOf_k, isiK.eq_1, tIsi_k, partK.eq_1, part_n, part_s, slcK.eq_1, slcK.eq_2, slcK.eq_3, slcK.eq_4, tSlc_k, revK.eq_1, revK.eq_2, revK.eq_3, tRev_k, strMK.eq_1, tStrM_k, itK.eq_1, tIter_k, enumK.eq_1, tEnum_k, zipK.eq_1, zipK.eq_2, tZip_k, intsK.eq_1, intsK.eq_2, intsOf_k, endK.eq_1, endO_k, extK.eq_1, tExtend_k, tAppend_k, setIxK.eq_1, sSetIx_k, popAtK.eq_1, tPopAt_k, bO.eq_1, itemsOf.eq_1, itemsOf.eq_2, itemsOf.eq_3, gAdd.eq_1, gAdd.eq_2, gAdd.eq_3, gAdd.eq_4, gAdd.eq_5, gAdd.eq_6, gSub_.eq_1, gSub_.eq_2, gMul2_s, gMul2_i, gMul2_l, gMulS.eq_1, gMul.eq_1, gMul.eq_2, gFdiv.eq_1, gMod.eq_1, gPow.eq_1, gNeg.eq_1, gNeg.eq_2, gGe.eq_1, gGt.eq_1, gLe.eq_1, gLt.eq_1, gLt.eq_2, gEq.eq_1, gNe.eq_1, gNe.eq_2, gNe.eq_3, gNe.eq_4, gInW.eq_1, gInW.eq_2, gIs.eq_1, gIsNot.eq_1, gLen.eq_1, gLen.eq_2, gAllAny.eq_1, gAbs.eq_1, gInt.eq_1, gInt.eq_2, gStr.eq_1, gStr.eq_2, gStr.eq_3, gM2.eq_1, gListOf.eq_1, gListOf.eq_2, gTupOf.eq_1, gTupOf.eq_2, gSort, gSortS.eq_1, gSortD.eq_1, gSortSet.eq_1, gRepr.eq_1, gIx.eq_1, gIx.eq_2, ati0, ati1, ati2, Option.some.injEq, exists_eq, exists_eq', false_implies, Opd.slot.injEq, forall_eq, forall_eq', Opd.get.eq_1, Opd.get.eq_2, at_join, join_some, O.frz.eq_1, O.frz.eq_2, O.frz.eq_3, O.frz.eq_4, lsO.eq_1, lsO.eq_2, tuO.eq_1, seqO_l, seqO_p, seqO_t, endsOf, outsOf, startA, wipeA, List.getElem?_cons_zero, List.getElem?_cons_succ, List.length_cons, List.length_nil, List.map_cons, List.map_nil, List.set_cons_zero, List.set_cons_succ, List.replicate_succ, List.replicate_zero, List.cons_append, List.nil_append, List.getD_cons_zero, List.getD_cons_succ, if_true, if_false, Bool.false_eq_true, reduceIte, reduceCtorEq, Bool.not_true, Bool.not_false, implies_true, true_and, and_true, Nat.sub_self, Nat.reduceAdd, Nat.reduceSub, Nat.zero_add, List.all_cons, List.all_nil, Bool.and_true, Bool.true_and, isT_tuple]
    have h : Qa (.pure (.bool (ts.all mPair && mAsc (ts.map hdT)))) [] := h
    refine compW_map (fun t => .bool (isPr t)) _ _ (fun t m Q' acc ts' k => ?_) ?_
    · unfold compW
      cases t with
      | tuple us =>
        simp only [sSeq, sNext, sRet, sRetN, sDrop, sIf, sSet, sFor, sPar, sAsg, bAnd, bOr, bNot, tTst, tCst, tBin, tUny, tNilA, tConsA, getAll, tCallB, tCallF, tTupD, tLstD, tChainA, tChainE, tRg, rgK.eq_1, tStripX, strip1K.eq_1, strip2K.eq_1, tAndE, tOrE, tNotE, tIfE, tComp, bYes, tDct0, tRange.eq_1, tgName, tgTup.eq_1, tgCons.eq_1, tgNil.eq_1, takeAll, back.eq_1, back.eq_2, back_nil, setO, tName_k, nameK.eq_1, nameK.eq_2, nameK.eq_3, nameK.eq_4, atK.eq_1, take1_v, take1_s, takeO_v, takeO_s, takeR_v, takeR_s, prep_n, prep_tv, prep_ts, prep_f, lstK.eq_1, lstAt_k, g2K.eq_1, g2_k, g1K.eq_1, g1_k, gNK.eq_1, gN_k, boK.eq_1, bOf_k, isiK.eq_1, tIsi_k, partK.eq_1, part_n, part_s, slcK.eq_1, slcK.eq_2, slcK.eq_3, slcK.eq_4, tSlc_k, revK.eq_1, revK.eq_2, revK.eq_3, tRev_k, strMK.eq_1, tStrM_k, itK.eq_1, tIter_k, enumK.eq_1, tEnum_k, zipK.eq_1, zipK.eq_2, tZip_k, intsK.eq_1, intsK.eq_2, intsOf_k, endK.eq_1, endO_k, extK.eq_1, tExtend_k, tAppend_k, setIxK.eq_1, sSetIx_k, popAtK.eq_1, tPopAt_k, bO.eq_1, itemsOf.eq_1, itemsOf.eq_2, itemsOf.eq_3, gAdd.eq_1, gAdd.eq_2, gAdd.eq_3, gAdd.eq_4, gAdd.eq_5, gAdd.eq_6, gSub_.eq_1, gSub_.eq_2, gMul2_s, gMul2_i, gMul2_l, gMulS.eq_1, gMul.eq_1, gMul.eq_2, gFdiv.eq_1, gMod.eq_1, gPow.eq_1, gNeg.eq_1, gNeg.eq_2, gGe.eq_1, gGt.eq_1, gLe.eq_1, gLt.eq_1, gLt.eq_2, gEq.eq_1, gNe.eq_1, gNe.eq_2, gNe.eq_3, gNe.eq_4, gInW.eq_1, gInW.eq_2, gIs.eq_1, gIsNot.eq_1, gLen.eq_1, gLen.eq_2, gAllAny.eq_1, gAbs.eq_1, gInt.eq_1, gInt.eq_2, gStr.eq_1, gStr.eq_2, gStr.eq_3, gM2.eq_1, gListOf.eq_1, gListOf.eq_2, gTupOf.eq_1, gTupOf.eq_2, gSort, gSortS.eq_1, gSortD.eq_1, gSortSet.eq_1, gRepr.eq_1, gIx.eq_1, gIx.eq_2, ati0, ati1, ati2, Option.some.injEq, exists_eq, exists_eq', false_implies, Opd.slot.injEq, forall_eq, forall_eq', Opd.get.eq_1, Opd.get.eq_2, at_join, join_some, O.frz.eq_1, O.frz.eq_2, O.frz.eq_3, O.frz.eq_4, lsO.eq_1, lsO.eq_2, tuO.eq_1, seqO_l, seqO_p, seqO_t, endsOf, outsOf, startA, wipeA, List.getElem?_cons_zero, List.getElem?_cons_succ, List.length_cons, List.length_nil, List.map_cons, List.map_nil, List.set_cons_zero, List.set_cons_succ, List.replicate_succ, List.replicate_zero, List.cons_append, List.nil_append, List.getD_cons_zero, List.getD_cons_succ, if_true, if_false, Bool.false_eq_true, reduceIte, reduceCtorEq, Bool.not_true, Bool.not_false, implies_true, true_and, and_true, Nat.sub_self, Nat.reduceAdd, Nat.reduceSub, Nat.zero_add, List.all_cons, List.all_nil, Bool.and_true, Bool.true_and, isT_tuple]
        refine ⟨rfl, by simp [cmpOk], by simp [PyData.depth], ?_⟩
        have e : isPr (.tuple us) = (PyData.int us.length).eqv (.int 2) := by
          by_cases g : (us.length : Int) = 2
          · match us, g with
            | [a, b], _ => simp [isPr, PyData.eqv]
          · rw [(mPair_len g).2]
            simp [PyData.eqv, g]
        rw [← e]
        exact k
      | _ => simp only [sSeq, sNext, sRet, sRetN, sDrop, sIf, sSet, sFor, sPar, sAsg, bAnd, bOr, bNot, tTst, tCst, tBin, tUny, tNilA, tConsA, getAll, tCallB, tCallF, tTupD, tLstD, tChainA, tChainE, tRg, rgK.eq_1, tStripX, strip1K.eq_1, strip2K.eq_1, tAndE, tOrE, tNotE, tIfE, tComp, bYes, tDct0, tRange.eq_1, tgName, tgTup.eq_1, tgCons.eq_1, tgNil.eq_1, takeAll, back.eq_1, back.eq_2, back_nil, setO, tName_k, nameK.eq_1, nameK.eq_2, nameK.eq_3, nameK.eq_4, atK.eq_1, take1_v, take1_s, takeO_v, takeO_s, takeR_v, takeR_s, prep_n, prep_tv, prep_ts, prep_f, lstK.eq_1, lstAt_k, g2K.eq_1, g2_k, g1K.eq_1, g1_k, gNK.eq_1, gN_k, boK.eq_1, bOf_k, isiK.eq_1, tIsi_k, partK.eq_1, part_n, part_s, slcK.eq_1, slcK.eq_2, slcK.eq_3, slcK.eq_4, tSlc_k, revK.eq_1, revK.eq_2, revK.eq_3, tRev_k, strMK.eq_1, tStrM_k, itK.eq_1, tIter_k, enumK.eq_1, tEnum_k, zipK.eq_1, zipK.eq_2, tZip_k, intsK.eq_1, intsK.eq_2, intsOf_k, endK.eq_1, endO_k, extK.eq_1, tExtend_k, tAppend_k, setIxK.eq_1, sSetIx_k, popAtK.eq_1, tPopAt_k, bO.eq_1, itemsOf.eq_1, itemsOf.eq_2, itemsOf.eq_3, gAdd.eq_1, gAdd.eq_2, gAdd.eq_3, gAdd.eq_4, gAdd.eq_5, gAdd.eq_6, gSub_.eq_1, gSub_.eq_2, gMul2_s, gMul2_i, gMul2_l, gMulS.eq_1, gMul.eq_1, gMul.eq_2, gFdiv.eq_1, gMod.eq_1, gPow.eq_1, gNeg.eq_1, gNeg.eq_2, gGe.eq_1, gGt.eq_1, gLe.eq_1, gLt.eq_1, gLt.eq_2, gEq.eq_1, gNe.eq_1, gNe.eq_2, gNe.eq_3, gNe.eq_4, gInW.eq_1, gInW.eq_2, gIs.eq_1, gIsNot.eq_1, gLen.eq_1, gLen.eq_2, gAllAny.eq_1, gAbs.eq_1, gInt.eq_1, gInt.eq_2, gStr.eq_1, gStr.eq_2, gStr.eq_3, gM2.eq_1, gListOf.eq_1, gListOf.eq_2, gTupOf.eq_1, gTupOf.eq_2, gSort, gSortS.eq_1, gSortD.eq_1, gSortSet.eq_1, gRepr.eq_1, gIx.eq_1, gIx.eq_2, ati0, ati1, ati2, Option.some.injEq, exists_eq, exists_eq', false_implies, Opd.slot.injEq, forall_eq, forall_eq', Opd.get.eq_1, Opd.get.eq_2, at_join, join_some, O.frz.eq_1, O.frz.eq_2, O.frz.eq_3, O.frz.eq_4, lsO.eq_1, lsO.eq_2, tuO.eq_1, seqO_l, seqO_p, seqO_t, endsOf, outsOf, startA, wipeA, List.getElem?_cons_zero, List.getElem?_cons_succ, List.length_cons, List.length_nil, List.map_cons, List.map_nil, List.set_cons_zero, List.set_cons_succ, List.replicate_succ, List.replicate_zero, List.cons_append, List.nil_append, List.getD_cons_zero, List.getD_cons_succ, if_true, if_false, Bool.false_eq_true, reduceIte, reduceCtorEq, Bool.not_true, Bool.not_false, implies_true, true_and, and_true, Nat.sub_self, Nat.reduceAdd, Nat.reduceSub, Nat.zero_add, List.all_cons, List.all_nil, Bool.and_true, Bool.true_and, isT_tuple]; exact ⟨rfl, k⟩
    · rw [List.nil_append, boolsOf_map]
      simp only [all_map]
      cases e : ts.all isPr with
      | false =>
        rw [all_of_all (fun a _ => pair_pr) e] at h
        simpa using h
      | true =>
        simp only [sSeq, sNext, sRet, sRetN, sDrop, sIf, sSet, sFor, sPar, sAsg, bAnd, bOr, bNot, tTst, tCst, tBin, tUny, tNilA, tConsA, getAll, tCallB, tCallF, tTupD, tLstD, tChainA, tChainE, tRg, rgK.eq_1, tStripX, strip1K.eq_1, strip2K.eq_1, tAndE, tOrE, tNotE, tIfE, tComp, bYes, tDct0, tRange.eq_1, tgName, tgTup.eq_1, tgCons.eq_1, tgNil.eq_1, takeAll, back.eq_1, back.eq_2, back_nil, setO, tName_k, nameK.eq_1, nameK.eq_2, nameK.eq_3, nameK.eq_4, atK.eq_1, take1_v, take1_s, takeO_v, takeO_s, takeR_v, takeR_s, prep_n, prep_tv, prep_ts, prep_f, lstK.eq_1, lstAt_k, g2K.eq_1, g2_k, g1K.eq_1, g1_k, gNK.eq_1, gN_k, boK.eq_1, bOf_k, isiK.eq_1, tIsi_k, partK.eq_1, part_n, part_s, slcK.eq_1, slcK.eq_2, slcK.eq_3, slcK.eq_4, tSlc_k, revK.eq_1, revK.eq_2, revK.eq_3, tRev_k, strMK.eq_1, tStrM_k, itK.eq_1, tIter_k, enumK.eq_1, tEnum_k, zipK.eq_1, zipK.eq_2, tZip_k, intsK.eq_1, intsK.eq_2, intsOf_k, endK.eq_1, endO_k, extK.eq_1, tExtend_k, tAppend_k, setIxK.eq_1, sSetIx_k, popAtK.eq_1, tPopAt_k, bO.eq_1, itemsOf.eq_1, itemsOf.eq_2, itemsOf.eq_3, gAdd.eq_1, gAdd.eq_2, gAdd.eq_3, gAdd.eq_4, gAdd.eq_5, gAdd.eq_6, gSub_.eq_1, gSub_.eq_2, gMul2_s, gMul2_i, gMul2_l, gMulS.eq_1, gMul.eq_1, gMul.eq_2, gFdiv.eq_1, gMod.eq_1, gPow.eq_1, gNeg.eq_1, gNeg.eq_2, gGe.eq_1, gGt.eq_1, gLe.eq_1, gLt.eq_1, gLt.eq_2, gEq.eq_1, gNe.eq_1, gNe.eq_2, gNe.eq_3, gNe.eq_4, gInW.eq_1, gInW.eq_2, gIs.eq_1, gIsNot.eq_1, gLen.eq_1, gLen.eq_2, gAllAny.eq_1, gAbs.eq_1, gInt.eq_1, gInt.eq_2, gStr.eq_1, gStr.eq_2, gStr.eq_3, gM2.eq_1, gListOf.eq_1, gListOf.eq_2, gTupOf.eq_1, gTupOf.eq_2, gSort, gSortS.eq_1, gSortD.eq_1, gSortSet.eq_1, gRepr.eq_1, gIx.eq_1, gIx.eq_2, ati0, ati1, ati2, Option.some.injEq, exists_eq, exists_eq', false_implies, Opd.slot.injEq, forall_eq, forall_eq', Opd.get.eq_1, Opd.get.eq_2, at_join, join_some, O.frz.eq_1, O.frz.eq_2, O.frz.eq_3, O.frz.eq_4, lsO.eq_1, lsO.eq_2, tuO.eq_1, seqO_l, seqO_p, seqO_t, endsOf, outsOf, startA, wipeA, List.getElem?_cons_zero, List.getElem?_cons_succ, List.length_cons, List.length_nil, List.map_cons, List.map_nil, List.set_cons_zero, List.set_cons_succ, List.replicate_succ, List.replicate_zero, List.cons_append, List.nil_append, List.getD_cons_zero, List.getD_cons_succ, if_true, if_false, Bool.false_eq_true, reduceIte, reduceCtorEq, Bool.not_true, Bool.not_false, implies_true, true_and, and_true, Nat.sub_self, Nat.reduceAdd, Nat.reduceSub, Nat.zero_add, List.all_cons, List.all_nil, Bool.and_true, Bool.true_and]
        refine compW_map (fun t => .bool (mPair t)) _ _ (fun t m Q' acc ts' k => ?_) ?_
        · obtain ⟨a, b, rfl⟩ := pr_pair (List.all_eq_true.mp e t m)
          unfold compW
          simp only [sSeq, sNext, sRet, sRetN, sDrop, sIf, sSet, sFor, sPar, sAsg, bAnd, bOr, bNot, tTst, tCst, tBin, tUny, tNilA, tConsA, getAll, tCallB, tCallF, tTupD, tLstD, tChainA, tChainE, tRg, rgK.eq_1, tStripX, strip1K.eq_1, strip2K.eq_1, tAndE, tOrE, tNotE, tIfE, tComp, bYes, tDct0, tRange.eq_1, tgName, tgTup.eq_1, tgCons.eq_1, tgNil.eq_1, takeAll, back.eq_1, back.eq_2, back_nil, setO, tName_k, nameK.eq_1, nameK.eq_2, nameK.eq_3, nameK.eq_4, atK.eq_1, take1_v, take1_s, takeO_v, takeO_s, takeR_v, takeR_s, prep_n, prep_tv, prep_ts, prep_f, lstK.eq_1, lstAt_k, g2K.eq_1, g2_k, g1K.eq_1, g1_k, gNK.eq_1, gN_k, boK.eq_1, bOf_k, isiK.eq_1, tIsi_k, partK.eq_1, part_n, part_s, slcK.eq_1, slcK.eq_2, slcK.eq_3, slcK.eq_4, tSlc_k, revK.eq_1, revK.eq_2, revK.eq_3, tRev_k, strMK.eq_1, tStrM_k, itK.eq_1, tIter_k, enumK.eq_1, tEnum_k, zipK.eq_1, zipK.eq_2, tZip_k, intsK.eq_1, intsK.eq_2, intsOf_k, endK.eq_1, endO_k, extK.eq_1, tExtend_k, tAppend_k, setIxK.eq_1, sSetIx_k, popAtK.eq_1, tPopAt_k, bO.eq_1, itemsOf.eq_1, itemsOf.eq_2, itemsOf.eq_3, gAdd.eq_1, gAdd.eq_2, gAdd.eq_3, gAdd.eq_4, gAdd.eq_5, gAdd.eq_6, gSub_.eq_1, gSub_.eq_2, gMul2_s, gMul2_i, gMul2_l, gMulS.eq_1, gMul.eq_1, gMul.eq_2, gFdiv.eq_1, gMod.eq_1, gPow.eq_1, gNeg.eq_1, gNeg.eq_2, gGe.eq_1, gGt.eq_1, gLe.eq_1, gLt.eq_1, gLt.eq_2, gEq.eq_1, gNe.eq_1, gNe.eq_2, gNe.eq_3, gNe.eq_4, gInW.eq_1, gInW.eq_2, gIs.eq_1, gIsNot.eq_1, gLen.eq_1, gLen.eq_2, gAllAny.eq_1, gAbs.eq_1, gInt.eq_1, gInt.eq_2, gStr.eq_1, gStr.eq_2, gStr.eq_3, gM2.eq_1, gListOf.eq_1, gListOf.eq_2, gTupOf.eq_1, gTupOf.eq_2, gSort, gSortS.eq_1, gSortD.eq_1, gSortSet.eq_1, gRepr.eq_1, gIx.eq_1, gIx.eq_2, ati0, ati1, ati2, Option.some.injEq, exists_eq, exists_eq', false_implies, Opd.slot.injEq, forall_eq, forall_eq', Opd.get.eq_1, Opd.get.eq_2, at_join, join_some, O.frz.eq_1, O.frz.eq_2, O.frz.eq_3, O.frz.eq_4, lsO.eq_1, lsO.eq_2, tuO.eq_1, seqO_l, seqO_p, seqO_t, endsOf, outsOf, startA, wipeA, List.getElem?_cons_zero, List.getElem?_cons_succ, List.length_cons, List.length_nil, List.map_cons, List.map_nil, List.set_cons_zero, List.set_cons_succ, List.replicate_succ, List.replicate_zero, List.cons_append, List.nil_append, List.getD_cons_zero, List.getD_cons_succ, if_true, if_false, Bool.false_eq_true, reduceIte, reduceCtorEq, Bool.not_true, Bool.not_false, implies_true, true_and, and_true, Nat.sub_self, Nat.reduceAdd, Nat.reduceSub, Nat.zero_add, List.all_cons, List.all_nil, Bool.and_true, Bool.true_and]
          refine ⟨rfl, rfl, a, rfl, ((hz.mem m).mem (t := a) (by simp)).szS, ?_⟩
          simp only [sSeq, sNext, sRet, sRetN, sDrop, sIf, sSet, sFor, sPar, sAsg, bAnd, bOr, bNot, tTst, tCst, tBin, tUny, tNilA, tConsA, getAll, tCallB, tCallF, tTupD, tLstD, tChainA, tChainE, tRg, rgK.eq_1, tStripX, strip1K.eq_1, strip2K.eq_1, tAndE, tOrE, tNotE, tIfE, tComp, bYes, tDct0, tRange.eq_1, tgName, tgTup.eq_1, tgCons.eq_1, tgNil.eq_1, takeAll, back.eq_1, back.eq_2, back_nil, setO, tName_k, nameK.eq_1, nameK.eq_2, nameK.eq_3, nameK.eq_4, atK.eq_1, take1_v, take1_s, takeO_v, takeO_s, takeR_v, takeR_s, prep_n, prep_tv, prep_ts, prep_f, lstK.eq_1, lstAt_k, g2K.eq_1, g2_k, g1K.eq_1, g1_k, gNK.eq_1, gN_k, boK.eq_1, bOf_k, isiK.eq_1, tIsi_k, partK.eq_1, part_n, part_s, slcK.eq_1, slcK.eq_2, slcK.eq_3, slcK.eq_4, tSlc_k, revK.eq_1, revK.eq_2, revK.eq_3, tRev_k, strMK.eq_1, tStrM_k, itK.eq_1, tIter_k, enumK.eq_1, tEnum_k, zipK.eq_1, zipK.eq_2, tZip_k, intsK.eq_1, intsK.eq_2, intsOf_k, endK.eq_1, endO_k, extK.eq_1, tExtend_k, tAppend_k, setIxK.eq_1, sSetIx_k, popAtK.eq_1, tPopAt_k, bO.eq_1, itemsOf.eq_1, itemsOf.eq_2, itemsOf.eq_3, gAdd.eq_1, gAdd.eq_2, gAdd.eq_3, gAdd.eq_4, gAdd.eq_5, gAdd.eq_6, gSub_.eq_1, gSub_.eq_2, gMul2_s, gMul2_i, gMul2_l, gMulS.eq_1, gMul.eq_1, gMul.eq_2, gFdiv.eq_1, gMod.eq_1, gPow.eq_1, gNeg.eq_1, gNeg.eq_2, gGe.eq_1, gGt.eq_1, gLe.eq_1, gLt.eq_1, gLt.eq_2, gEq.eq_1, gNe.eq_1, gNe.eq_2, gNe.eq_3, gNe.eq_4, gInW.eq_1, gInW.eq_2, gIs.eq_1, gIsNot.eq_1, gLen.eq_1, gLen.eq_2, gAllAny.eq_1, gAbs.eq_1, gInt.eq_1, gInt.eq_2, gStr.eq_1, gStr.eq_2, gStr.eq_3, gM2.eq_1, gListOf.eq_1, gListOf.eq_2, gTupOf.eq_1, gTupOf.eq_2, gSort, gSortS.eq_1, gSortD.eq_1, gSortSet.eq_1, gRepr.eq_1, gIx.eq_1, gIx.eq_2, ati0, ati1, ati2, Option.some.injEq, exists_eq, exists_eq', false_implies, Opd.slot.injEq, forall_eq, forall_eq', Opd.get.eq_1, Opd.get.eq_2, at_join, join_some, O.frz.eq_1, O.frz.eq_2, O.frz.eq_3, O.frz.eq_4, lsO.eq_1, lsO.eq_2, tuO.eq_1, seqO_l, seqO_p, seqO_t, endsOf, outsOf, startA, wipeA, List.getElem?_cons_zero, List.getElem?_cons_succ, List.length_cons, List.length_nil, List.map_cons, List.map_nil, List.set_cons_zero, List.set_cons_succ, List.replicate_succ, List.replicate_zero, List.cons_append, List.nil_append, List.getD_cons_zero, List.getD_cons_succ, if_true, if_false, Bool.false_eq_true, reduceIte, reduceCtorEq, Bool.not_true, Bool.not_false, implies_true, true_and, and_true, Nat.sub_self, Nat.reduceAdd, Nat.reduceSub, Nat.zero_add, List.all_cons, List.all_nil, Bool.and_true, Bool.true_and]
          have k : compW _ _ _ _ ts' (acc ++ [.bool (mWord a && mNum 1 1000000 b)]) _ _ := k
          cases e2 : mWord a with
          | false => rw [e2] at k; simp only [sSeq, sNext, sRet, sRetN, sDrop, sIf, sSet, sFor, sPar, sAsg, bAnd, bOr, bNot, tTst, tCst, tBin, tUny, tNilA, tConsA, getAll, tCallB, tCallF, tTupD, tLstD, tChainA, tChainE, tRg, rgK.eq_1, tStripX, strip1K.eq_1, strip2K.eq_1, tAndE, tOrE, tNotE, tIfE, tComp, bYes, tDct0, tRange.eq_1, tgName, tgTup.eq_1, tgCons.eq_1, tgNil.eq_1, takeAll, back.eq_1, back.eq_2, back_nil, setO, tName_k, nameK.eq_1, nameK.eq_2, nameK.eq_3, nameK.eq_4, atK.eq_1, take1_v, take1_s, takeO_v, takeO_s, takeR_v, takeR_s, prep_n, prep_tv, prep_ts, prep_f, lstK.eq_1, lstAt_k, g2K.eq_1, g2_k, g1K.eq_1, g1_k, gNK.eq_1, gN_k, boK.eq_1, bOf_k, isiK.eq_1, tIsi_k, partK.eq_1, part_n, part_s, slcK.eq_1, slcK.eq_2, slcK.eq_3, slcK.eq_4, tSlc_k, revK.eq_1, revK.eq_2, revK.eq_3, tRev_k, strMK.eq_1, tStrM_k, itK.eq_1, tIter_k, enumK.eq_1, tEnum_k, zipK.eq_1, zipK.eq_2, tZip_k, intsK.eq_1, intsK.eq_2, intsOf_k, endK.eq_1, endO_k, extK.eq_1, tExtend_k, tAppend_k, setIxK.eq_1, sSetIx_k, popAtK.eq_1, tPopAt_k, bO.eq_1, itemsOf.eq_1, itemsOf.eq_2, itemsOf.eq_3, gAdd.eq_1, gAdd.eq_2, gAdd.eq_3, gAdd.eq_4, gAdd.eq_5, gAdd.eq_6, gSub_.eq_1, gSub_.eq_2, gMul2_s, gMul2_i, gMul2_l, gMulS.eq_1, gMul.eq_1, gMul.eq_2, gFdiv.eq_1, gMod.eq_1, gPow.eq_1, gNeg.eq_1, gNeg.eq_2, gGe.eq_1, gGt.eq_1, gLe.eq_1, gLt.eq_1, gLt.eq_2, gEq.eq_1, gNe.eq_1, gNe.eq_2, gNe.eq_3, gNe.eq_4, gInW.eq_1, gInW.eq_2, gIs.eq_1, gIsNot.eq_1, gLen.eq_1, gLen.eq_2, gAllAny.eq_1, gAbs.eq_1, gInt.eq_1, gInt.eq_2, gStr.eq_1, gStr.eq_2, gStr.eq_3, gM2.eq_1, gListOf.eq_1, gListOf.eq_2, gTupOf.eq_1, gTupOf.eq_2, gSort, gSortS.eq_1, gSortD.eq_1, gSortSet.eq_1, gRepr.eq_1, gIx.eq_1, gIx.eq_2, ati0, ati1, ati2, Option.some.injEq, exists_eq, exists_eq', false_implies, Opd.slot.injEq, forall_eq, forall_eq', Opd.get.eq_1, Opd.get.eq_2, at_join, join_some, O.frz.eq_1, O.frz.eq_2, O.frz.eq_3, O.frz.eq_4, lsO.eq_1, lsO.eq_2, tuO.eq_1, seqO_l, seqO_p, seqO_t, endsOf, outsOf, startA, wipeA, List.getElem?_cons_zero, List.getElem?_cons_succ, List.length_cons, List.length_nil, List.map_cons, List.map_nil, List.set_cons_zero, List.set_cons_succ, List.replicate_succ, List.replicate_zero, List.cons_append, List.nil_append, List.getD_cons_zero, List.getD_cons_succ, if_true, if_false, Bool.false_eq_true, reduceIte, reduceCtorEq, Bool.not_true, Bool.not_false, implies_true, true_and, and_true, Nat.sub_self, Nat.reduceAdd, Nat.reduceSub, Nat.zero_add, List.all_cons, List.all_nil, Bool.and_true, Bool.true_and]; exact k
          | true =>
            rw [e2, Bool.true_and] at k
            simp only [sSeq, sNext, sRet, sRetN, sDrop, sIf, sSet, sFor, sPar, sAsg, bAnd, bOr, bNot, tTst, tCst, tBin, tUny, tNilA, tConsA, getAll, tCallB, tCallF, tTupD, tLstD, tChainA, tChainE, tRg, rgK.eq_1, tStripX, strip1K.eq_1, strip2K.eq_1, tAndE, tOrE, tNotE, tIfE, tComp, bYes, tDct0, tRange.eq_1, tgName, tgTup.eq_1, tgCons.eq_1, tgNil.eq_1, takeAll, back.eq_1, back.eq_2, back_nil, setO, tName_k, nameK.eq_1, nameK.eq_2, nameK.eq_3, nameK.eq_4, atK.eq_1, take1_v, take1_s, takeO_v, takeO_s, takeR_v, takeR_s, prep_n, prep_tv, prep_ts, prep_f, lstK.eq_1, lstAt_k, g2K.eq_1, g2_k, g1K.eq_1, g1_k, gNK.eq_1, gN_k, boK.eq_1, bOf_k, isiK.eq_1, tIsi_k, partK.eq_1, part_n, part_s, slcK.eq_1, slcK.eq_2, slcK.eq_3, slcK.eq_4, tSlc_k, revK.eq_1, revK.eq_2, revK.eq_3, tRev_k, strMK.eq_1, tStrM_k, itK.eq_1, tIter_k, enumK.eq_1, tEnum_k, zipK.eq_1, zipK.eq_2, tZip_k, intsK.eq_1, intsK.eq_2, intsOf_k, endK.eq_1, endO_k, extK.eq_1, tExtend_k, tAppend_k, setIxK.eq_1, sSetIx_k, popAtK.eq_1, tPopAt_k, bO.eq_1, itemsOf.eq_1, itemsOf.eq_2, itemsOf.eq_3, gAdd.eq_1, gAdd.eq_2, gAdd.eq_3, gAdd.eq_4, gAdd.eq_5, gAdd.eq_6, gSub_.eq_1, gSub_.eq_2, gMul2_s, gMul2_i, gMul2_l, gMulS.eq_1, gMul.eq_1, gMul.eq_2, gFdiv.eq_1, gMod.eq_1, gPow.eq_1, gNeg.eq_1, gNeg.eq_2, gGe.eq_1, gGt.eq_1, gLe.eq_1, gLt.eq_1, gLt.eq_2, gEq.eq_1, gNe.eq_1, gNe.eq_2, gNe.eq_3, gNe.eq_4, gInW.eq_1, gInW.eq_2, gIs.eq_1, gIsNot.eq_1, gLen.eq_1, gLen.eq_2, gAllAny.eq_1, gAbs.eq_1, gInt.eq_1, gInt.eq_2, gStr.eq_1, gStr.eq_2, gStr.eq_3, gM2.eq_1, gListOf.eq_1, gListOf.eq_2, gTupOf.eq_1, gTupOf.eq_2, gSort, gSortS.eq_1, gSortD.eq_1, gSortSet.eq_1, gRepr.eq_1, gIx.eq_1, gIx.eq_2, ati0, ati1, ati2, Option.some.injEq, exists_eq, exists_eq', false_implies, Opd.slot.injEq, forall_eq, forall_eq', Opd.get.eq_1, Opd.get.eq_2, at_join, join_some, O.frz.eq_1, O.frz.eq_2, O.frz.eq_3, O.frz.eq_4, lsO.eq_1, lsO.eq_2, tuO.eq_1, seqO_l, seqO_p, seqO_t, endsOf, outsOf, startA, wipeA, List.getElem?_cons_zero, List.getElem?_cons_succ, List.length_cons, List.length_nil, List.map_cons, List.map_nil, List.set_cons_zero, List.set_cons_succ, List.replicate_succ, List.replicate_zero, List.cons_append, List.nil_append, List.getD_cons_zero, List.getD_cons_succ, if_true, if_false, Bool.false_eq_true, reduceIte, reduceCtorEq, Bool.not_true, Bool.not_false, implies_true, true_and, and_true, Nat.sub_self, Nat.reduceAdd, Nat.reduceSub, Nat.zero_add, List.all_cons, List.all_nil, Bool.and_true, Bool.true_and]
            exact ⟨b, rfl, k⟩
        · rw [List.nil_append, boolsOf_map]
          simp only [all_map]
          cases e2 : ts.all mPair with
          | false =>
            rw [e2] at h
            simpa using h
          | true =>
            rw [e2] at h
            simp only [sSeq, sNext, sRet, sRetN, sDrop, sIf, sSet, sFor, sPar, sAsg, bAnd, bOr, bNot, tTst, tCst, tBin, tUny, tNilA, tConsA, getAll, tCallB, tCallF, tTupD, tLstD, tChainA, tChainE, tRg, rgK.eq_1, tStripX, strip1K.eq_1, strip2K.eq_1, tAndE, tOrE, tNotE, tIfE, tComp, bYes, tDct0, tRange.eq_1, tgName, tgTup.eq_1, tgCons.eq_1, tgNil.eq_1, takeAll, back.eq_1, back.eq_2, back_nil, setO, tName_k, nameK.eq_1, nameK.eq_2, nameK.eq_3, nameK.eq_4, atK.eq_1, take1_v, take1_s, takeO_v, takeO_s, takeR_v, takeR_s, prep_n, prep_tv, prep_ts, prep_f, lstK.eq_1, lstAt_k, g2K.eq_1, g2_k, g1K.eq_1, g1_k, gNK.eq_1, gN_k, boK.eq_1, bOf_k, isiK.eq_1, tIsi_k, partK.eq_1, part_n, part_s, slcK.eq_1, slcK.eq_2, slcK.eq_3, slcK.eq_4, tSlc_k, revK.eq_1, revK.eq_2, revK.eq_3, tRev_k, strMK.eq_1, tStrM_k, itK.eq_1, tIter_k, enumK.eq_1, tEnum_k, zipK.eq_1, zipK.eq_2, tZip_k, intsK.eq_1, intsK.eq_2, intsOf_k, endK.eq_1, endO_k, extK.eq_1, tExtend_k, tAppend_k, setIxK.eq_1, sSetIx_k, popAtK.eq_1, tPopAt_k, bO.eq_1, itemsOf.eq_1, itemsOf.eq_2, itemsOf.eq_3, gAdd.eq_1, gAdd.eq_2, gAdd.eq_3, gAdd.eq_4, gAdd.eq_5, gAdd.eq_6, gSub_.eq_1, gSub_.eq_2, gMul2_s, gMul2_i, gMul2_l, gMulS.eq_1, gMul.eq_1, gMul.eq_2, gFdiv.eq_1, gMod.eq_1, gPow.eq_1, gNeg.eq_1, gNeg.eq_2, gGe.eq_1, gGt.eq_1, gLe.eq_1, gLt.eq_1, gLt.eq_2, gEq.eq_1, gNe.eq_1, gNe.eq_2, gNe.eq_3, gNe.eq_4, gInW.eq_1, gInW.eq_2, gIs.eq_1, gIsNot.eq_1, gLen.eq_1, gLen.eq_2, gAllAny.eq_1, gAbs.eq_1, gInt.eq_1, gInt.eq_2, gStr.eq_1, gStr.eq_2, gStr.eq_3, gM2.eq_1, gListOf.eq_1, gListOf.eq_2, gTupOf.eq_1, gTupOf.eq_2, gSort, gSortS.eq_1, gSortD.eq_1, gSortSet.eq_1, gRepr.eq_1, gIx.eq_1, gIx.eq_2, ati0, ati1, ati2, Option.some.injEq, exists_eq, exists_eq', false_implies, Opd.slot.injEq, forall_eq, forall_eq', Opd.get.eq_1, Opd.get.eq_2, at_join, join_some, O.frz.eq_1, O.frz.eq_2, O.frz.eq_3, O.frz.eq_4, lsO.eq_1, lsO.eq_2, tuO.eq_1, seqO_l, seqO_p, seqO_t, endsOf, outsOf, startA, wipeA, List.getElem?_cons_zero, List.getElem?_cons_succ, List.length_cons, List.length_nil, List.map_cons, List.map_nil, List.set_cons_zero, List.set_cons_succ, List.replicate_succ, List.replicate_zero, List.cons_append, List.nil_append, List.getD_cons_zero, List.getD_cons_succ, if_true, if_false, Bool.false_eq_true, reduceIte, reduceCtorEq, Bool.not_true, Bool.not_false, implies_true, true_and, and_true, Nat.sub_self, Nat.reduceAdd, Nat.reduceSub, Nat.zero_add, List.all_cons, List.all_nil, Bool.and_true, Bool.true_and]
            refine compW_map hdT _ _ (fun t m Q' acc ts' k => ?_) ?_
            · obtain ⟨a, b, rfl⟩ := pr_pair (List.all_eq_true.mp e t m)
              unfold compW
              simp only [sSeq, sNext, sRet, sRetN, sDrop, sIf, sSet, sFor, sPar, sAsg, bAnd, bOr, bNot, tTst, tCst, tBin, tUny, tNilA, tConsA, getAll, tCallB, tCallF, tTupD, tLstD, tChainA, tChainE, tRg, rgK.eq_1, tStripX, strip1K.eq_1, strip2K.eq_1, tAndE, tOrE, tNotE, tIfE, tComp, bYes, tDct0, tRange.eq_1, tgName, tgTup.eq_1, tgCons.eq_1, tgNil.eq_1, takeAll, back.eq_1, back.eq_2, back_nil, setO, tName_k, nameK.eq_1, nameK.eq_2, nameK.eq_3, nameK.eq_4, atK.eq_1, take1_v, take1_s, takeO_v, takeO_s, takeR_v, takeR_s, prep_n, prep_tv, prep_ts, prep_f, lstK.eq_1, lstAt_k, g2K.eq_1, g2_k, g1K.eq_1, g1_k, gNK.eq_1, gN_k, boK.eq_1, bOf_k, isiK.eq_1, tIsi_k, partK.eq_1, part_n, part_s, slcK.eq_1, slcK.eq_2, slcK.eq_3, slcK.eq_4, tSlc_k, revK.eq_1, revK.eq_2, revK.eq_3, tRev_k, strMK.eq_1, tStrM_k, itK.eq_1, tIter_k, enumK.eq_1, tEnum_k, zipK.eq_1, zipK.eq_2, tZip_k, intsK.eq_1, intsK.eq_2, intsOf_k, endK.eq_1, endO_k, extK.eq_1, tExtend_k, tAppend_k, setIxK.eq_1, sSetIx_k, popAtK.eq_1, tPopAt_k, bO.eq_1, itemsOf.eq_1, itemsOf.eq_2, itemsOf.eq_3, gAdd.eq_1, gAdd.eq_2, gAdd.eq_3, gAdd.eq_4, gAdd.eq_5, gAdd.eq_6, gSub_.eq_1, gSub_.eq_2, gMul2_s, gMul2_i, gMul2_l, gMulS.eq_1, gMul.eq_1, gMul.eq_2, gFdiv.eq_1, gMod.eq_1, gPow.eq_1, gNeg.eq_1, gNeg.eq_2, gGe.eq_1, gGt.eq_1, gLe.eq_1, gLt.eq_1, gLt.eq_2, gEq.eq_1, gNe.eq_1, gNe.eq_2, gNe.eq_3, gNe.eq_4, gInW.eq_1, gInW.eq_2, gIs.eq_1, gIsNot.eq_1, gLen.eq_1, gLen.eq_2, gAllAny.eq_1, gAbs.eq_1, gInt.eq_1, gInt.eq_2, gStr.eq_1, gStr.eq_2, gStr.eq_3, gM2.eq_1, gListOf.eq_1, gListOf.eq_2, gTupOf.eq_1, gTupOf.eq_2, gSort, gSortS.eq_1, gSortD.eq_1, gSortSet.eq_1, gRepr.eq_1, gIx.eq_1, gIx.eq_2, ati0, ati1, ati2, Option.some.injEq, exists_eq, exists_eq', false_implies, Opd.slot.injEq, forall_eq, forall_eq', Opd.get.eq_1, Opd.get.eq_2, at_join, join_some, O.frz.eq_1, O.frz.eq_2, O.frz.eq_3, O.frz.eq_4, lsO.eq_1, lsO.eq_2, tuO.eq_1, seqO_l, seqO_p, seqO_t, endsOf, outsOf, startA, wipeA, List.getElem?_cons_zero, List.getElem?_cons_succ, List.length_cons, List.length_nil, List.map_cons, List.map_nil, List.set_cons_zero, List.set_cons_succ, List.replicate_succ, List.replicate_zero, List.cons_append, List.nil_append, List.getD_cons_zero, List.getD_cons_succ, if_true, if_false, Bool.false_eq_true, reduceIte, reduceCtorEq, Bool.not_true, Bool.not_false, implies_true, true_and, and_true, Nat.sub_self, Nat.reduceAdd, Nat.reduceSub, Nat.zero_add, List.all_cons, List.all_nil, Bool.and_true, Bool.true_and]
              exact ⟨rfl, rfl, k⟩
            · rw [List.nil_append]
              exact ⟨false, ts.map hdT, rfl, hds_asc e2, by simpa using h⟩
  | _ => simp only [sSeq, sNext, sRet, sRetN, sDrop, sIf, sSet, sFor, sPar, sAsg, bAnd, bOr, bNot, tTst, tCst, tBin, tUny, tNilA, tConsA, getAll, tCallB, tCallF, tTupD, tLstD, tChainA, tChainE, tRg, rgK.eq_1, tStripX, strip1K.eq_1, strip2K.eq_1, tAndE, tOrE, tNotE, tIfE, tComp, bYes, tDct0, tRange.eq_1, tgName, tgTup.eq_1, tgCons.eq_1, tgNil.eq_1, takeAll, back.eq_1, back.eq_2, back_nil, setO, tName_k, nameK.eq_1, nameK.eq_2, nameK.eq_3, nameK.eq_4, atK.eq_1, take1_v, take1_s, takeO_v, takeO_s, takeR_v, takeR_s, prep_n, prep_tv, prep_ts, prep_f, lstK.eq_1, lstAt_k, g2K.eq_1, g2_k, g1K.eq_1, g1_k, gNK.eq_1, gN_k, boK.eq_1, bOf_k, isiK.eq_1, tIsi_k, partK.eq_1, part_n, part_s, slcK.eq_1, slcK.eq_2, slcK.eq_3, slcK.eq_4, tSlc_k, revK.eq_1, revK.eq_2, revK.eq_3, tRev_k, strMK.eq_1, tStrM_k, itK.eq_1, tIter_k, enumK.eq_1, tEnum_k, zipK.eq_1, zipK.eq_2, tZip_k, intsK.eq_1, intsK.eq_2, intsOf_k, endK.eq_1, endO_k, extK.eq_1, tExtend_k, tAppend_k, setIxK.eq_1, sSetIx_k, popAtK.eq_1, tPopAt_k, bO.eq_1, itemsOf.eq_1, itemsOf.eq_2, itemsOf.eq_3, gAdd.eq_1, gAdd.eq_2, gAdd.eq_3, gAdd.eq_4, gAdd.eq_5, gAdd.eq_6, gSub_.eq_1, gSub_.eq_2, gMul2_s, gMul2_i, gMul2_l, gMulS.eq_1, gMul.eq_1, gMul.eq_2, gFdiv.eq_1, gMod.eq_1, gPow.eq_1, gNeg.eq_1, gNeg.eq_2, gGe.eq_1, gGt.eq_1, gLe.eq_1, gLt.eq_1, gLt.eq_2, gEq.eq_1, gNe.eq_1, gNe.eq_2, gNe.eq_3, gNe.eq_4, gInW.eq_1, gInW.eq_2, gIs.eq_1, gIsNot.eq_1, gLen.eq_1, gLen.eq_2, gAllAny.eq_1, gAbs.eq_1, gInt.eq_1, gInt.eq_2, gStr.eq_1, gStr.eq_2, gStr.eq_3, gM2.eq_1, gListOf.eq_1, gListOf.eq_2, gTupOf.eq_1, gTupOf.eq_2, gSort, gSortS.eq_1, gSortD.eq_1, gSortSet.eq_1, gRepr.eq_1, gIx.eq_1, gIx.eq_2, ati0, ati1, ati2, Option.some.injEq, exists_eq, exists_eq', false_implies, Opd.slot.injEq, forall_eq, forall_eq', Opd.get.eq_1, Opd.get.eq_2, at_join, join_some, O.frz.eq_1, O.frz.eq_2, O.frz.eq_3, O.frz.eq_4, lsO.eq_1, lsO.eq_2, tuO.eq_1, seqO_l, seqO_p, seqO_t, endsOf, outsOf, startA, wipeA, List.getElem?_cons_zero, List.getElem?_cons_succ, List.length_cons, List.length_nil, List.map_cons, List.map_nil, List.set_cons_zero, List.set_cons_succ, List.replicate_succ, List.replicate_zero, List.cons_append, List.nil_append, List.getD_cons_zero, List.getD_cons_succ, if_true, if_false, Bool.false_eq_true, reduceIte, reduceCtorEq, Bool.not_true, Bool.not_false, implies_true, true_and, and_true, Nat.sub_self, Nat.reduceAdd, Nat.reduceSub, Nat.zero_add, List.all_cons, List.all_nil, Bool.and_true, Bool.true_and, isT_tuple]; exact h
def sp__law_is_name : FSpec := sp_is_name
/-- _law_is_name: slots 0:_law_thing -/
def t__law_is_name : ST := (sRet (fun j => [false].getD j false) (tAndE (tIsi "str" (tName 0)) (tAndE (tChainE gLt gLt (tCst (.int 0)) (tCallB gLen (tConsA (tName 0) tNilA)) (tCst (.int 9))) (tBin gEq (tStripX (tName 0) (tCst (.str "abcdefghijklmnopqrstuvwxyz"))) (tCst (.str ""))))))
theorem pl__law_is_name (os : List O) (Qa : O → List O → Prop) (_ : os.length = 1) (h : sp__law_is_name os Qa) : t__law_is_name (endsOf [false] Qa) (startA 1 os) := by
  obtain ⟨t, rfl, hz, h⟩ := h
  unfold t__law_is_name
  cases t with
  | str x =>
    rw [mWord_strip] at h
    simp only [sSeq, sNext, sRet, sRetN, sDrop, sIf, sSet, sFor, sPar, sAsg, bAnd, bOr, bNot, tTst, tCst, tBin, tUny, tNilA, tConsA, getAll, tCallB, tCallF, tTupD, tLstD, tChainA, tChainE, tRg, rgK.eq_1, tStripX, strip1K.eq_1, strip2K.eq_1, tAndE, tOrE, tNotE, tIfE, tComp, bYes, tDct0, tRange.eq_1, tgName, tgTup.eq_1, tgCons.eq_1, tgNil.eq_1, takeAll, back.eq_1, back.eq_2, back_nil, setO, tName_k, nameK.eq_1, nameK.eq_2, nameK.eq_3, nameK.eq_4, atK.eq_1, take1_v, take1_s, takeO_v, takeO_s, takeR_v, takeR_s, prep_n, prep_tv, prep_ts, prep_f, lstK.eq_1, lstAt_k, g2K.eq_1, g2_k, g1K.eq_1, g1_k, gNK.eq_1, gN_k, boK.eq_1, bOf_k, isiK.eq_1, tIsi_k, partK.eq_1, part_n, part_s, slcK.eq_1, slcK.eq_2, slcK.eq_3, slcK.eq_4, tSlc_k, revK.eq_1, revK.eq_2, revK.eq_3, tRev_k, strMK.eq_1, tStrM_k, itK.eq_1, tIter_k, enumK.eq_1, tEnum_k, zipK.eq_1, zipK.eq_2, tZip_k, intsK.eq_1, intsK.eq_2, intsOf_k, endK.eq_1, endO_k, extK.eq_1, tExtend_k, tAppend_k, setIxK.eq_1, sSetIx_k, popAtK.eq_1, tPopAt_k, bO.eq_1, itemsOf.eq_1, itemsOf.eq_2, itemsOf.eq_3, gAdd.eq_1, gAdd.eq_2, gAdd.eq_3, gAdd.eq_4, gAdd.eq_5, gAdd.eq_6, gSub_.eq_1, gSub_.eq_2, gMul2_s, gMul2_i, gMul2_l, gMulS.eq_1, gMul.eq_1, gMul.eq_2, gFdiv.eq_1, gMod.eq_1, gPow.eq_1, gNeg.eq_1, gNeg.eq_2, gGe.eq_1, gGt.eq_1, gLe.eq_1, gLt.eq_1, gLt.eq_2, gEq.eq_1, gNe.eq_1, gNe.eq_2, gNe.eq_3, gNe.eq_4, gInW.eq_1, gInW.eq_2, gIs.eq_1, gIsNot.eq_1, gLen.eq_1, gLen.eq_2, gAllAny.eq_1, gAbs.eq_1, gInt.eq_1, gInt.eq_2, gStr.eq_1, gStr.eq_2, gStr.eq_3, gM2.eq_1, gListOf.eq_1, gListOf.eq_2, gTupOf.eq_1, gTupOf.eq_2, gSort, gSortS.eq_1, gSortD.eq_1, gSortSet.eq_1, gRepr.eq_1, gIx.eq_1, gIx.eq_2, ati0, ati1, ati2, Option.some.injEq, exists_eq, exists_eq', false_implies, Opd.slot.injEq, forall_eq, forall_eq', Opd.get.eq_1, Opd.get.eq_2, at_join, join_some, O.frz.eq_1, O.frz.eq_2, O.frz.eq_3, O.frz.eq_4, lsO.eq_1, lsO.eq_2, tuO.eq_1, seqO_l, seqO_p, seqO_t, endsOf, outsOf, startA, wipeA, List.getElem?_cons_zero, List.getElem?_cons_succ, List.length_cons, List.length_nil, List.map_cons, List.map_nil, List.set_cons_zero, List.set_cons_succ, List.replicate_succ, List.replicate_zero, List.cons_append, List.nil_append, List.getD_cons_zero, List.getD_cons_succ, if_true, if_false, Bool.false_eq_true, reduceIte, reduceCtorEq, Bool.not_true, Bool.not_false, implies_true, true_and, and_true, Nat.sub_self, Nat.reduceAdd, Nat.reduceSub, Nat.zero_add, List.all_cons, List.all_nil, Bool.and_true, Bool.true_and, isT_str]
    refine ⟨hz x rfl, ?_⟩
    by_cases h1 : 0 < (x.length : Int)
    · by_cases h2 : (x.length : Int) < 9
      · rw [decide_eq_true (by omega : 1 ≤ (x.length : Int)), decide_eq_true (by omega : (x.length : Int) ≤ 8)] at h
        rw [decide_eq_true h1, decide_eq_true h2]
        simp only [sSeq, sNext, sRet, sRetN, sDrop, sIf, sSet, sFor, sPar, sAsg, bAnd, bOr, bNot, tTst, tCst, tBin, tUny, tNilA, tConsA, getAll, tCallB, tCallF, tTupD, tLstD, tChainA, tChainE, tRg, rgK.eq_1, tStripX, strip1K.eq_1, strip2K.eq_1, tAndE, tOrE, tNotE, tIfE, tComp, bYes, tDct0, tRange.eq_1, tgName, tgTup.eq_1, tgCons.eq_1, tgNil.eq_1, takeAll, back.eq_1, back.eq_2, back_nil, setO, tName_k, nameK.eq_1, nameK.eq_2, nameK.eq_3, nameK.eq_4, atK.eq_1, take1_v, take1_s, takeO_v, takeO_s, takeR_v, takeR_s, prep_n, prep_tv, prep_ts, prep_f, lstK.eq_1, lstAt_k, g2K.eq_1, g2_k, g1K.eq_1, g1_k, gNK.eq_1, gN_k, boK.eq_1, bOf_k, isiK.eq_1, tIsi_k, partK.eq_1, part_n, part_s, slcK.eq_1, slcK.eq_2, slcK.eq_3, slcK.eq_4, tSlc_k, revK.eq_1, revK.eq_2, revK.eq_3, tRev_k, strMK.eq_1, tStrM_k, itK.eq_1, tIter_k, enumK.eq_1, tEnum_k, zipK.eq_1, zipK.eq_2, tZip_k, intsK.eq_1, intsK.eq_2, intsOf_k, endK.eq_1, endO_k, extK.eq_1, tExtend_k, tAppend_k, setIxK.eq_1, sSetIx_k, popAtK.eq_1, tPopAt_k, bO.eq_1, itemsOf.eq_1, itemsOf.eq_2, itemsOf.eq_3, gAdd.eq_1, gAdd.eq_2, gAdd.eq_3, gAdd.eq_4, gAdd.eq_5, gAdd.eq_6, gSub_.eq_1, gSub_.eq_2, gMul2_s, gMul2_i, gMul2_l, gMulS.eq_1, gMul.eq_1, gMul.eq_2, gFdiv.eq_1, gMod.eq_1, gPow.eq_1, gNeg.eq_1, gNeg.eq_2, gGe.eq_1, gGt.eq_1, gLe.eq_1, gLt.eq_1, gLt.eq_2, gEq.eq_1, gNe.eq_1, gNe.eq_2, gNe.eq_3, gNe.eq_4, gInW.eq_1, gInW.eq_2, gIs.eq_1, gIsNot.eq_1, gLen.eq_1, gLen.eq_2, gAllAny.eq_1, gAbs.eq_1, gInt.eq_1, gInt.eq_2, gStr.eq_1, gStr.eq_2, gStr.eq_3, gM2.eq_1, gListOf.eq_1, gListOf.eq_2, gTupOf.eq_1, gTupOf.eq_2, gSort, gSortS.eq_1, gSortD.eq_1, gSortSet.eq_1, gRepr.eq_1, gIx.eq_1, gIx.eq_2, ati0, ati1, ati2, Option.some.injEq, exists_eq, exists_eq', false_implies, Opd.slot.injEq, forall_eq, forall_eq', Opd.get.eq_1, Opd.get.eq_2, at_join, join_some, O.frz.eq_1, O.frz.eq_2, O.frz.eq_3, O.frz.eq_4, lsO.eq_1, lsO.eq_2, tuO.eq_1, seqO_l, seqO_p, seqO_t, endsOf, outsOf, startA, wipeA, List.getElem?_cons_zero, List.getElem?_cons_succ, List.length_cons, List.length_nil, List.map_cons, List.map_nil, List.set_cons_zero, List.set_cons_succ, List.replicate_succ, List.replicate_zero, List.cons_append, List.nil_append, List.getD_cons_zero, List.getD_cons_succ, if_true, if_false, Bool.false_eq_true, reduceIte, reduceCtorEq, Bool.not_true, Bool.not_false, implies_true, true_and, and_true, Nat.sub_self, Nat.reduceAdd, Nat.reduceSub, Nat.zero_add, List.all_cons, List.all_nil, Bool.and_true, Bool.true_and]
        refine ⟨by omega, by simp [cmpOk], by simp [PyData.depth], ?_⟩
        have e : (PyData.str (Txt.stripChars x (Str.ofString "abcdefghijklmnopqrstuvwxyz"))).eqv (.str (Str.ofString "")) = decide (Txt.stripChars x letters = ("" : Str)) := by
          simp only [PyData.eqv]
          rw [Bool.eq_iff_iff, decide_eq_true_eq]
          exact beq_iff_eq
        rw [e]
        simpa using h
      · rw [decide_eq_false (by omega : ¬ (x.length : Int) ≤ 8)] at h
        rw [decide_eq_true h1, decide_eq_false h2]
        simp only [sSeq, sNext, sRet, sRetN, sDrop, sIf, sSet, sFor, sPar, sAsg, bAnd, bOr, bNot, tTst, tCst, tBin, tUny, tNilA, tConsA, getAll, tCallB, tCallF, tTupD, tLstD, tChainA, tChainE, tRg, rgK.eq_1, tStripX, strip1K.eq_1, strip2K.eq_1, tAndE, tOrE, tNotE, tIfE, tComp, bYes, tDct0, tRange.eq_1, tgName, tgTup.eq_1, tgCons.eq_1, tgNil.eq_1, takeAll, back.eq_1, back.eq_2, back_nil, setO, tName_k, nameK.eq_1, nameK.eq_2, nameK.eq_3, nameK.eq_4, atK.eq_1, take1_v, take1_s, takeO_v, takeO_s, takeR_v, takeR_s, prep_n, prep_tv, prep_ts, prep_f, lstK.eq_1, lstAt_k, g2K.eq_1, g2_k, g1K.eq_1, g1_k, gNK.eq_1, gN_k, boK.eq_1, bOf_k, isiK.eq_1, tIsi_k, partK.eq_1, part_n, part_s, slcK.eq_1, slcK.eq_2, slcK.eq_3, slcK.eq_4, tSlc_k, revK.eq_1, revK.eq_2, revK.eq_3, tRev_k, strMK.eq_1, tStrM_k, itK.eq_1, tIter_k, enumK.eq_1, tEnum_k, zipK.eq_1, zipK.eq_2, tZip_k, intsK.eq_1, intsK.eq_2, intsOf_k, endK.eq_1, endO_k, extK.eq_1, tExtend_k, tAppend_k, setIxK.eq_1, sSetIx_k, popAtK.eq_1, tPopAt_k, bO.eq_1, itemsOf.eq_1, itemsOf.eq_2, itemsOf.eq_3, gAdd.eq_1, gAdd.eq_2, gAdd.eq_3, gAdd.eq_4, gAdd.eq_5, gAdd.eq_6, gSub_.eq_1, gSub_.eq_2, gMul2_s, gMul2_i, gMul2_l, gMulS.eq_1, gMul.eq_1, gMul.eq_2, gFdiv.eq_1, gMod.eq_1, gPow.eq_1, gNeg.eq_1, gNeg.eq_2, gGe.eq_1, gGt.eq_1, gLe.eq_1, gLt.eq_1, gLt.eq_2, gEq.eq_1, gNe.eq_1, gNe.eq_2, gNe.eq_3, gNe.eq_4, gInW.eq_1, gInW.eq_2, gIs.eq_1, gIsNot.eq_1, gLen.eq_1, gLen.eq_2, gAllAny.eq_1, gAbs.eq_1, gInt.eq_1, gInt.eq_2, gStr.eq_1, gStr.eq_2, gStr.eq_3, gM2.eq_1, gListOf.eq_1, gListOf.eq_2, gTupOf.eq_1, gTupOf.eq_2, gSort, gSortS.eq_1, gSortD.eq_1, gSortSet.eq_1, gRepr.eq_1, gIx.eq_1, gIx.eq_2, ati0, ati1, ati2, Option.some.injEq, exists_eq, exists_eq', false_implies, Opd.slot.injEq, forall_eq, forall_eq', Opd.get.eq_1, Opd.get.eq_2, at_join, join_some, O.frz.eq_1, O.frz.eq_2, O.frz.eq_3, O.frz.eq_4, lsO.eq_1, lsO.eq_2, tuO.eq_1, seqO_l, seqO_p, seqO_t, endsOf, outsOf, startA, wipeA, List.getElem?_cons_zero, List.getElem?_cons_succ, List.length_cons, List.length_nil, List.map_cons, List.map_nil, List.set_cons_zero, List.set_cons_succ, List.replicate_succ, List.replicate_zero, List.cons_append, List.nil_append, List.getD_cons_zero, List.getD_cons_succ, if_true, if_false, Bool.false_eq_true, reduceIte, reduceCtorEq, Bool.not_true, Bool.not_false, implies_true, true_and, and_true, Nat.sub_self, Nat.reduceAdd, Nat.reduceSub, Nat.zero_add, List.all_cons, List.all_nil, Bool.and_true, Bool.true_and]
        simpa using h
    · rw [decide_eq_false (by omega : ¬ 1 ≤ (x.length : Int))] at h
      rw [decide_eq_false h1]
      simp only [sSeq, sNext, sRet, sRetN, sDrop, sIf, sSet, sFor, sPar, sAsg, bAnd, bOr, bNot, tTst, tCst, tBin, tUny, tNilA, tConsA, getAll, tCallB, tCallF, tTupD, tLstD, tChainA, tChainE, tRg, rgK.eq_1, tStripX, strip1K.eq_1, strip2K.eq_1, tAndE, tOrE, tNotE, tIfE, tComp, bYes, tDct0, tRange.eq_1, tgName, tgTup.eq_1, tgCons.eq_1, tgNil.eq_1, takeAll, back.eq_1, back.eq_2, back_nil, setO, tName_k, nameK.eq_1, nameK.eq_2, nameK.eq_3, nameK.eq_4, atK.eq_1, take1_v, take1_s, takeO_v, takeO_s, takeR_v, takeR_s, prep_n, prep_tv, prep_ts, prep_f, lstK.eq_1, lstAt_k, g2K.eq_1, g2_k, g1K.eq_1, g1_k, gNK.eq_1, gN_k, boK.eq_1, bOf_k, isiK.eq_1, tIsi_k, partK.eq_1, part_n, part_s, slcK.eq_1, slcK.eq_2, slcK.eq_3, slcK.eq_4, tSlc_k, revK.eq_1, revK.eq_2, revK.eq_3, tRev_k, strMK.eq_1, tStrM_k, itK.eq_1, tIter_k, enumK.eq_1, tEnum_k, zipK.eq_1, zipK.eq_2, tZip_k, intsK.eq_1, intsK.eq_2, intsOf_k, endK.eq_1, endO_k, extK.eq_1, tExtend_k, tAppend_k, setIxK.eq_1, sSetIx_k, popAtK.eq_1, tPopAt_k, bO.eq_1, itemsOf.eq_1, itemsOf.eq_2, itemsOf.eq_3, gAdd.eq_1, gAdd.eq_2, gAdd.eq_3, gAdd.eq_4, gAdd.eq_5, gAdd.eq_6, gSub_.eq_1, gSub_.eq_2, gMul2_s, gMul2_i, gMul2_l, gMulS.eq_1, gMul.eq_1, gMul.eq_2, gFdiv.eq_1, gMod.eq_1, gPow.eq_1, gNeg.eq_1, gNeg.eq_2, gGe.eq_1, gGt.eq_1, gLe.eq_1, gLt.eq_1, gLt.eq_2, gEq.eq_1, gNe.eq_1, gNe.eq_2, gNe.eq_3, gNe.eq_4, gInW.eq_1, gInW.eq_2, gIs.eq_1, gIsNot.eq_1, gLen.eq_1, gLen.eq_2, gAllAny.eq_1, gAbs.eq_1, gInt.eq_1, gInt.eq_2, gStr.eq_1, gStr.eq_2, gStr.eq_3, gM2.eq_1, gListOf.eq_1, gListOf.eq_2, gTupOf.eq_1, gTupOf.eq_2, gSort, gSortS.eq_1, gSortD.eq_1, gSortSet.eq_1, gRepr.eq_1, gIx.eq_1, gIx.eq_2, ati0, ati1, ati2, Option.some.injEq, exists_eq, exists_eq', false_implies, Opd.slot.injEq, forall_eq, forall_eq', Opd.get.eq_1, Opd.get.eq_2, at_join, join_some, O.frz.eq_1, O.frz.eq_2, O.frz.eq_3, O.frz.eq_4, lsO.eq_1, lsO.eq_2, tuO.eq_1, seqO_l, seqO_p, seqO_t, endsOf, outsOf, startA, wipeA, List.getElem?_cons_zero, List.getElem?_cons_succ, List.length_cons, List.length_nil, List.map_cons, List.map_nil, List.set_cons_zero, List.set_cons_succ, List.replicate_succ, List.replicate_zero, List.cons_append, List.nil_append, List.getD_cons_zero, List.getD_cons_succ, if_true, if_false, Bool.false_eq_true, reduceIte, reduceCtorEq, Bool.not_true, Bool.not_false, implies_true, true_and, and_true, Nat.sub_self, Nat.reduceAdd, Nat.reduceSub, Nat.zero_add, List.all_cons, List.all_nil, Bool.and_true, Bool.true_and]
      simpa using h
  | _ => simp only [sSeq, sNext, sRet, sRetN, sDrop, sIf, sSet, sFor, sPar, sAsg, bAnd, bOr, bNot, tTst, tCst, tBin, tUny, tNilA, tConsA, getAll, tCallB, tCallF, tTupD, tLstD, tChainA, tChainE, tRg, rgK.eq_1, tStripX, strip1K.eq_1, strip2K.eq_1, tAndE, tOrE, tNotE, tIfE, tComp, bYes, tDct0, tRange.eq_1, tgName, tgTup.eq_1, tgCons.eq_1, tgNil.eq_1, takeAll, back.eq_1, back.eq_2, back_nil, setO, tName_k, nameK.eq_1, nameK.eq_2, nameK.eq_3, nameK.eq_4, atK.eq_1, take1_v, take1_s, takeO_v, takeO_s, takeR_v, takeR_s, prep_n, prep_tv, prep_ts, prep_f, lstK.eq_1, lstAt_k, g2K.eq_1, g2_k, g1K.eq_1, g1_k, gNK.eq_1, gN_k, boK.eq_1, bOf_k, isiK.eq_1, tIsi_k, partK.eq_1, part_n, part_s, slcK.eq_1, slcK.eq_2, slcK.eq_3, slcK.eq_4, tSlc_k, revK.eq_1, revK.eq_2, revK.eq_3, tRev_k, strMK.eq_1, tStrM_k, itK.eq_1, tIter_k, enumK.eq_1, tEnum_k, zipK.eq_1, zipK.eq_2, tZip_k, intsK.eq_1, intsK.eq_2, intsOf_k, endK.eq_1, endO_k, extK.eq_1, tExtend_k, tAppend_k, setIxK.eq_1, sSetIx_k, popAtK.eq_1, tPopAt_k, bO.eq_1, itemsOf.eq_1, itemsOf.eq_2, itemsOf.eq_3, gAdd.eq_1, gAdd.eq_2, gAdd.eq_3, gAdd.eq_4, gAdd.eq_5, gAdd.eq_6, gSub_.eq_1, gSub_.eq_2, gMul2_s, gMul2_i, gMul2_l, gMulS.eq_1, gMul.eq_1, gMul.eq_2, gFdiv.eq_1, gMod.eq_1, gPow.eq_1, gNeg.eq_1, gNeg.eq_2, gGe.eq_1, gGt.eq_1, gLe.eq_1, gLt.eq_1, gLt.eq_2, gEq.eq_1, gNe.eq_1, gNe.eq_2, gNe.eq_3, gNe.eq_4, gInW.eq_1, gInW.eq_2, gIs.eq_1, gIsNot.eq_1, gLen.eq_1, gLen.eq_2, gAllAny.eq_1, gAbs.eq_1, gInt.eq_1, gInt.eq_2, gStr.eq_1, gStr.eq_2, gStr.eq_3, gM2.eq_1, gListOf.eq_1, gListOf.eq_2, gTupOf.eq_1, gTupOf.eq_2, gSort, gSortS.eq_1, gSortD.eq_1, gSortSet.eq_1, gRepr.eq_1, gIx.eq_1, gIx.eq_2, ati0, ati1, ati2, Option.some.injEq, exists_eq, exists_eq', false_implies, Opd.slot.injEq, forall_eq, forall_eq', Opd.get.eq_1, Opd.get.eq_2, at_join, join_some, O.frz.eq_1, O.frz.eq_2, O.frz.eq_3, O.frz.eq_4, lsO.eq_1, lsO.eq_2, tuO.eq_1, seqO_l, seqO_p, seqO_t, endsOf, outsOf, startA, wipeA, List.getElem?_cons_zero, List.getElem?_cons_succ, List.length_cons, List.length_nil, List.map_cons, List.map_nil, List.set_cons_zero, List.set_cons_succ, List.replicate_succ, List.replicate_zero, List.cons_append, List.nil_append, List.getD_cons_zero, List.getD_cons_succ, if_true, if_false, Bool.false_eq_true, reduceIte, reduceCtorEq, Bool.not_true, Bool.not_false, implies_true, true_and, and_true, Nat.sub_self, Nat.reduceAdd, Nat.reduceSub, Nat.zero_add, List.all_cons, List.all_nil, Bool.and_true, Bool.true_and, isT_str]; exact h
end WC

set_option Elab.async false
set_option linter.all false
set_option maxRecDepth 100000
set_option maxHeartbeats 4000000
namespace WC
open PySem PySem.Spec L2 DL WS
open PyProof.Rows hiding St
/-! ### a list of texts is what sorted(set(..)) gives of it -/
abbrev sLt (a b : Str) : Prop := a.cps.toList < b.cps.toList
theorem sLt_trans {a b c : Str} (h : sLt a b) (k : sLt b c) : sLt a c := List.lt_trans h k
theorem sLt_irr {a : Str} : ¬ sLt a a := List.lt_irrefl _
theorem sLt_of {a b : Str} (h : ¬ sLt b a) (n : a ≠ b) : sLt a b := by
  have h1 : a.cps.toList ≤ b.cps.toList := List.not_lt.mp h
  have h2 : a.cps.toList ≠ b.cps.toList := fun z => n (PySem.Str.ext' (Array.toList_inj.mp z))
  exact Std.lt_of_le_of_ne h1 h2
theorem asc_cons (x y : Str) (r : List Str) : mAsc ((x :: y :: r).map .str) = (decide (sLt x y) && mAsc ((y :: r).map .str)) := by
  unfold mAsc
  rw [cut_drop (by omega), cut_drop (by omega)]
  show ((zipItems (.str x :: .str y :: r.map .str) (.str y :: r.map .str)).all _) = _
  unfold zipItems
  rw [List.zipWith_cons_cons, List.all_cons]
  congr 1
  exact PySem.W.dataLt_str x y
theorem zip_asc : ∀ (ns : List Str), mAsc (ns.map .str) = true ↔ ns.Pairwise sLt
  | [] => by simp [mAsc, zipItems]
  | [x] => by
    have : mAsc ([x].map .str) = true := by
      unfold mAsc
      rw [cut_drop (by omega)]
      rfl
    exact ⟨fun _ => by simp, fun _ => this⟩
  | x :: y :: r => by
    rw [asc_cons, Bool.and_eq_true, decide_eq_true_eq, zip_asc (y :: r)]
    constructor
    · rintro ⟨h1, h2⟩
      refine List.pairwise_cons.mpr ⟨fun z hz => ?_, h2⟩
      rcases List.mem_cons.mp hz with rfl | hz
      · exact h1
      · exact sLt_trans h1 ((List.pairwise_cons.mp h2).1 z hz)
    · intro h
      obtain ⟨h1, h2⟩ := List.pairwise_cons.mp h
      exact ⟨h1 y List.mem_cons_self, h2⟩
theorem rising_pw : ∀ (p : Str) (ms : List Str), risingS p ms = true → (p :: ms).Nodup → (p :: ms).Pairwise sLt
  | p, [], _, _ => by simp
  | p, x :: ms, h, nd => by
    unfold risingS at h
    rw [Bool.and_eq_true, Bool.not_eq_true', PyProof.Rows.ltCps_eq, decide_eq_false_iff_not] at h
    obtain ⟨n1, n2⟩ := List.nodup_cons.mp nd
    have ih := rising_pw x ms h.2 n2
    have hx : sLt p x := sLt_of h.1 fun z => n1 (z ▸ List.mem_cons_self)
    refine List.pairwise_cons.mpr ⟨fun z hz => ?_, ih⟩
    rcases List.mem_cons.mp hz with rfl | hz
    · exact hx
    · exact sLt_trans hx ((List.pairwise_cons.mp ih).1 z hz)
theorem sorted_pw {ms : List Str} (h : sortedS ms = true) (nd : ms.Nodup) : ms.Pairwise sLt := by
  cases ms with
  | nil => simp
  | cons p ms => exact rising_pw p ms h nd
theorem pw_uniq : ∀ {ns ms : List Str}, ns.Pairwise sLt → ms.Pairwise sLt → (∀ x, x ∈ ms ↔ x ∈ ns) → ns = ms
  | [], [], _, _, _ => rfl
  | [], y :: ms, _, _, h => by have := (h y).mp List.mem_cons_self; cases this
  | x :: ns, [], _, _, h => by have := (h x).mpr List.mem_cons_self; cases this
  | x :: ns, y :: ms, h1, h2, h => by
    obtain ⟨a1, a2⟩ := List.pairwise_cons.mp h1
    obtain ⟨b1, b2⟩ := List.pairwise_cons.mp h2
    have e : x = y := by
      rcases List.mem_cons.mp ((h x).mpr List.mem_cons_self) with e | m
      · exact e
      · rcases List.mem_cons.mp ((h y).mp List.mem_cons_self) with e | k
        · exact e.symm
        · exact absurd (sLt_trans (a1 y k) (b1 x m)) sLt_irr
    subst e
    rw [pw_uniq a2 b2 fun z => ?_]
    constructor
    · intro m
      rcases List.mem_cons.mp ((h z).mp (List.mem_cons_of_mem _ m)) with e | k
      · subst e; exact absurd (b1 z m) sLt_irr
      · exact k
    · intro m
      rcases List.mem_cons.mp ((h z).mpr (List.mem_cons_of_mem _ m)) with e | k
      · subst e; exact absurd (a1 z m) sLt_irr
      · exact k
/-- a loop by an invariant, the items by their places -/
theorem forW_at {g : GT} {tb : ST} {D : AEnds} (Inv : Nat → AEnv → Prop) (ts : List T)
    (st : ∀ i t ρ (D' : AEnds), ts[i]? = some t → Inv i ρ → (∀ ρ', Inv (i + 1) ρ' → D'.nx ρ') → (∀ ρ', Inv (i + 1) ρ' → D'.ct ρ') → D'.rt = D.rt → D'.bk = D.nx → g t ρ fun ρ1 => tb D' ρ1)
    (fin : ∀ ρ', Inv ts.length ρ' → D.nx ρ') : ∀ (rest : List T) (i : Nat) (ρ : AEnv), ts.drop i = rest → i ≤ ts.length → Inv i ρ → forW g tb D rest ρ
  | [], i, ρ, e, hi, h => by
    unfold forW
    have : i = ts.length := by
      have := List.drop_eq_nil_iff.mp e
      omega
    subst this
    exact fin _ h
  | t :: rest, i, ρ, e, hi, h => by
    obtain ⟨h1, h2, h3⟩ := DL.drop_at e
    have nxt : ∀ ρ', Inv (i + 1) ρ' → forW g tb D rest ρ' := fun ρ' h' => forW_at Inv ts st fin rest (i + 1) ρ' h2 h3 h'
    unfold forW
    exact st i t ρ _ h1 h nxt nxt rfl rfl
theorem names_eq {ns ms : List Str} (nd : ms.Nodup) (h : ∀ x, x ∈ ms ↔ x ∈ ns) (so : sortedS ms = true) : decide (ns = ms) = mAsc (ns.map .str) := by
  rw [Bool.eq_iff_iff, decide_eq_true_eq, zip_asc]
  have hm := sorted_pw so nd
  exact ⟨fun e => e ▸ hm, fun hn => pw_uniq hn hm h⟩
theorem eqv_strs : ∀ xs ys : List Str, PyData.eqvAll (xs.map .str) (ys.map .str) = decide (xs = ys)
  | [], [] => by simp [PyData.eqvAll]
  | [], y :: ys => by simp [PyData.eqvAll]
  | x :: xs, [] => by simp [PyData.eqvAll]
  | x :: xs, y :: ys => by
    simp only [List.map_cons, PyData.eqvAll, PyData.eqv, eqv_strs xs ys]
    rw [Bool.eq_iff_iff]
    simp
theorem cmp_strs : ∀ xs ys : List Str, cmpOks (xs.map .str) (ys.map .str) = true
  | [], [] => by simp [cmpOks]
  | [], y :: ys => by simp [cmpOks]
  | x :: xs, [] => by simp [cmpOks]
  | x :: xs, y :: ys => by
    simp only [List.map_cons, cmpOks, cmpOk, Bool.true_and]
    exact cmp_strs xs ys
theorem dep_strs (xs : List Str) : PyData.depthAll (xs.map .str) = 0 := by
  have : PyData.depthAll (xs.map .str) ≤ 0 := dep_all.mpr fun t m => by
    obtain ⟨x, _, rfl⟩ := List.mem_map.mp m
    simp [PyData.depth]
  omega
def sp__law_are_costs : FSpec := fun os Q => ∃ t, os = [.pure t] ∧ Sz t ∧ (∀ ts, t = .tuple ts → ts.length < 4000) ∧ Q (.pure (.bool (mCost t))) []
/-- _law_are_costs: slots 0:_law_thing 1:_law_names_here 2:_law_pair -/
def t__law_are_costs_b1 : ST := (sSeq (sIf (bOr (bNot (tTst (tIsi "tuple" (tName 2)))) (bOr (tTst (tBin gNe (tCallB gLen (tConsA (tName 2) tNilA)) (tCst (.int 2)))) (bNot (tTst (tCallF [false] sp__law_is_name (tConsA (tBin gIx (tName 2) (tCst (.int 0))) tNilA)))))) (sRet (fun j => [false].getD j false) (tCst (.bool false))) sNext)
  (sSeq (sIf (bNot (tTst (tCallF [false, false, false] sp__law_is_number (tConsA (tBin gIx (tName 2) (tCst (.int 1))) (tConsA (tCst (.int 1)) (tConsA (tBin gPow (tCst (.int 10)) (tCst (.int 6))) tNilA)))))) (sRet (fun j => [false].getD j false) (tCst (.bool false))) sNext)
  (sDrop (tAppend 1 (tBin gIx (tName 2) (tCst (.int 0)))))))
def t__law_are_costs : ST := (sSeq (sIf (bNot (tTst (tIsi "tuple" (tName 0)))) (sRet (fun j => [false].getD j false) (tCst (.bool false))) sNext)
  (sSeq (sSet 1 (tLstD tNilA))
  (sSeq (sFor (tIter (tName 0)) (tgName 2) t__law_are_costs_b1)
  (sRet (fun j => [false].getD j false) (tBin gEq (tName 1) (tCallB gSortSet (tConsA (tName 1) tNilA)))))))
theorem pl__law_are_costs (os : List O) (Qa : O → List O → Prop) (_ : os.length = 1) (h : sp__law_are_costs os Qa) : t__law_are_costs (endsOf [false] Qa) (startA 3 os) := by
  obtain ⟨t, rfl, hz, hlen, h⟩ := h
  unfold t__law_are_costs
  cases t with
  | tuple ts =>
    have hlen := hlen ts rfl
    simp only [sSeq, sNext, sRet, sRetN, sDrop, sIf, sSet, sFor, sPar, sAsg, bAnd, bOr, bNot, tTst, tCst, tBin, tUny, tNilA, tConsA, getAll, tCallB, tCallF, tTupD, tLstD, tChainA, tChainE, tRg, rgK.eq_1, tStripX, strip1K.eq_1, strip2K.eq_1, tAndE, tOrE, tNotE, tIfE, tComp, bYes, tDct0, tRange.eq_1, tgName, tgTup.eq_1, tgCons.eq_1, tgNil.eq_1, takeAll, back.eq_1, back.eq_2, back_nil, setO, tName_k, nameK.eq_1, nameK.eq_2, nameK.eq_3, nameK.eq_4, atK.eq_1, take1_v, take1_s, takeO_v, takeO_s, takeR_v, takeR_s, prep_n, prep_tv, prep_ts, prep_f, lstK.eq_1, lstAt_k, g2K.eq_1, g2_k, g1K.eq_1, g1_k, gNK.eq_1, gN_k, boK.eq_1, bOf_k, isiK.eq_1, tIsi_k, partK.eq_1, part_n, part_s, slcK.eq_1, slcK.eq_2, slcK.eq_3, slcK.eq_4, tSlc_k, revK.eq_1, revK.eq_2, revK.eq_3, tRev_k, strMK.eq_1, tStrM_k, itK.eq_1, tIter_k, enumK.eq_1, tEnum_k, zipK.eq_1, zipK.eq_2, tZip_k, intsK.eq_1, intsK.eq_2, intsOf_k, endK.eq_1, endO_k, extK.eq_1, tExtend_k, tAppend_k, setIxK.eq_1, sSetIx_k, popAtK.eq_1, tPopAt_k, bO.eq_1, itemsOf.eq_1, itemsOf.eq_2, itemsOf.eq_3, gAdd.eq_1, gAdd.eq_2, gAdd.eq_3, gAdd.eq_4, gAdd.eq_5, gAdd.eq_6, gSub_.eq_1, gSub_.eq_2, gMul2_s, gMul2_i, gMul2_l, gMulS.eq_1, gMul.eq_1, gMul.eq_2, gFdiv.eq_1, gMod.eq_1, gPow.eq_1, gNeg.eq_1, gNeg.eq_2, gGe.eq_1, gGt.eq_1, gLe.eq_1, gLt.eq_1, gLt.eq_2, gEq.eq_1, gNe.eq_1, gNe.eq_2, gNe.eq_3, gNe.eq_4, gInW.eq_1, gInW.eq_2, gIs.eq_1, gIsNot.eq_1, gLen.eq_1, gLen.eq_2, gAllAny.eq_1, gAbs.eq_1, gInt.eq_1, gInt.eq_2, gStr.eq_1, gStr.eq_2, gStr.eq_3, gM2.eq_1, gListOf.eq_1, gListOf.eq_2, gTupOf.eq_1, gTupOf.eq_2, gSort, gSortS.eq_1, gSortD.eq_1, gSortSet.eq_1, gRepr.eq_1, gIx.eq_1, gIx.eq_2, ati0, ati1, ati2, Option.some.injEq, exists_eq, exists_eq', false_implies, Opd.slot.injEq, forall_eq, forall_eq', Opd.get.eq_1, Opd.get.eq_2, at_join, join_some, O.frz.eq_1, O.frz.eq_2, O.frz.eq_3, O.frz.eq_4, lsO.eq_1, lsO.eq_2, tuO.eq_1, seqO_l, seqO_p, seqO_t, endsOf, outsOf, startA, wipeA, List.getElem?_cons_zero, List.getElem?_cons_succ, List.length_cons, List.length_nil, List.map_cons, List.map_nil, List.set_cons_zero, List.set_cons_succ, List.replicate_succ, List.replicate_zero, List.cons_append, List.nil_append, List.getD_cons_zero, List.getD_cons_succ, if_true, if_false, Bool.false_eq_true, reduceIte, reduceCtorEq, Bool.not_true, Bool.not_false, implies_true, true_and, and_true, Nat.sub_self, Nat.reduceAdd, Nat.reduceSub, Nat.zero_add, List.all_cons, List.all_nil, Bool.and_true, Bool.true_and, isT_tuple]
    refine ⟨rfl, forW_at (fun c ρ => ∃ ns : List Str, ∃ x2, (ns.map PyData.str) = (ts.take c).map hdT ∧ (ts.take c).all mPair = true ∧ ρ = [some (.pure (.tuple ts)), some (.lst (ns.map .str)), x2]) ts (fun c t ρ D' mt hinv n1 _ er _ => ?_) (fun ρ hinv => ?_) ts 0 _ rfl (Nat.zero_le _) ⟨[], none, by simp, by simp, rfl⟩⟩
    · obtain ⟨ns, x2, e1, e2, rfl⟩ := hinv
      have hmem : t ∈ ts := List.mem_of_getElem? mt
      have hc : c < ts.length := (List.getElem?_eq_some_iff.mp mt).1
      have bad : mPair t = false → ∀ ρ, D'.rt (.pure (.bool false)) ρ := fun hb ρ => by
        rw [er]
        have h : Qa (.pure (.bool (ts.all mPair && mAsc (ts.map hdT)))) [] := h
        have e : ts.all mPair = false := by
          cases g : ts.all mPair with
          | false => rfl
          | true => rw [List.all_eq_true.mp g t hmem] at hb; cases hb
        rw [e] at h
        exact h
      have good : mPair t = true → ∀ x b, t = .tuple [.str x, b] → D'.nx [some (.pure (.tuple ts)), some (.lst (ns.map PyData.str ++ [.str x])), some (.pure t)] := fun hg x b et => by
        refine n1 _ ⟨ns ++ [x], _, ?_, ?_, by rw [List.map_append]; rfl⟩
        · rw [List.take_add_one, mt, List.map_append, List.map_append, e1, et]; rfl
        · rw [List.take_add_one, mt, List.all_append, e2]; simp [hg]
      have hnl : ns.length ≤ ts.length := by
        have := congrArg List.length e1
        simp at this
        omega
      refine ⟨rfl, ?_⟩
      unfold t__law_are_costs_b1
      cases t with
      | tuple us =>
        simp only [sSeq, sNext, sRet, sRetN, sDrop, sIf, sSet, sFor, sPar, sAsg, bAnd, bOr, bNot, tTst, tCst, tBin, tUny, tNilA, tConsA, getAll, tCallB, tCallF, tTupD, tLstD, tChainA, tChainE, tRg, rgK.eq_1, tStripX, strip1K.eq_1, strip2K.eq_1, tAndE, tOrE, tNotE, tIfE, tComp, bYes, tDct0, tRange.eq_1, tgName, tgTup.eq_1, tgCons.eq_1, tgNil.eq_1, takeAll, back.eq_1, back.eq_2, back_nil, setO, tName_k, nameK.eq_1, nameK.eq_2, nameK.eq_3, nameK.eq_4, atK.eq_1, take1_v, take1_s, takeO_v, takeO_s, takeR_v, takeR_s, prep_n, prep_tv, prep_ts, prep_f, lstK.eq_1, lstAt_k, g2K.eq_1, g2_k, g1K.eq_1, g1_k, gNK.eq_1, gN_k, boK.eq_1, bOf_k, isiK.eq_1, tIsi_k, partK.eq_1, part_n, part_s, slcK.eq_1, slcK.eq_2, slcK.eq_3, slcK.eq_4, tSlc_k, revK.eq_1, revK.eq_2, revK.eq_3, tRev_k, strMK.eq_1, tStrM_k, itK.eq_1, tIter_k, enumK.eq_1, tEnum_k, zipK.eq_1, zipK.eq_2, tZip_k, intsK.eq_1, intsK.eq_2, intsOf_k, endK.eq_1, endO_k, extK.eq_1, tExtend_k, tAppend_k, setIxK.eq_1, sSetIx_k, popAtK.eq_1, tPopAt_k, bO.eq_1, itemsOf.eq_1, itemsOf.eq_2, itemsOf.eq_3, gAdd.eq_1, gAdd.eq_2, gAdd.eq_3, gAdd.eq_4, gAdd.eq_5, gAdd.eq_6, gSub_.eq_1, gSub_.eq_2, gMul2_s, gMul2_i, gMul2_l, gMulS.eq_1, gMul.eq_1, gMul.eq_2, gFdiv.eq_1, gMod.eq_1, gPow.eq_1, gNeg.eq_1, gNeg.eq_2, gGe.eq_1, gGt.eq_1, gLe.eq_1, gLt.eq_1, gLt.eq_2, gEq.eq_1, gNe.eq_1, gNe.eq_2, gNe.eq_3, gNe.eq_4, gInW.eq_1, gInW.eq_2, gIs.eq_1, gIsNot.eq_1, gLen.eq_1, gLen.eq_2, gAllAny.eq_1, gAbs.eq_1, gInt.eq_1, gInt.eq_2, gStr.eq_1, gStr.eq_2, gStr.eq_3, gM2.eq_1, gListOf.eq_1, gListOf.eq_2, gTupOf.eq_1, gTupOf.eq_2, gSort, gSortS.eq_1, gSortD.eq_1, gSortSet.eq_1, gRepr.eq_1, gIx.eq_1, gIx.eq_2, ati0, ati1, ati2, Option.some.injEq, exists_eq, exists_eq', false_implies, Opd.slot.injEq, forall_eq, forall_eq', Opd.get.eq_1, Opd.get.eq_2, at_join, join_some, O.frz.eq_1, O.frz.eq_2, O.frz.eq_3, O.frz.eq_4, lsO.eq_1, lsO.eq_2, tuO.eq_1, seqO_l, seqO_p, seqO_t, endsOf, outsOf, startA, wipeA, List.getElem?_cons_zero, List.getElem?_cons_succ, List.length_cons, List.length_nil, List.map_cons, List.map_nil, List.set_cons_zero, List.set_cons_succ, List.replicate_succ, List.replicate_zero, List.cons_append, List.nil_append, List.getD_cons_zero, List.getD_cons_succ, if_true, if_false, Bool.false_eq_true, reduceIte, reduceCtorEq, Bool.not_true, Bool.not_false, implies_true, true_and, and_true, Nat.sub_self, Nat.reduceAdd, Nat.reduceSub, Nat.zero_add, List.all_cons, List.all_nil, Bool.and_true, Bool.true_and, isT_tuple]
        by_cases g : (us.length : Int) = 2
        · rw [if_neg (by simp [g])]
          match us, g, bad, good, hmem with
          | [a, b], _, bad, good, hmem =>
            simp only [sSeq, sNext, sRet, sRetN, sDrop, sIf, sSet, sFor, sPar, sAsg, bAnd, bOr, bNot, tTst, tCst, tBin, tUny, tNilA, tConsA, getAll, tCallB, tCallF, tTupD, tLstD, tChainA, tChainE, tRg, rgK.eq_1, tStripX, strip1K.eq_1, strip2K.eq_1, tAndE, tOrE, tNotE, tIfE, tComp, bYes, tDct0, tRange.eq_1, tgName, tgTup.eq_1, tgCons.eq_1, tgNil.eq_1, takeAll, back.eq_1, back.eq_2, back_nil, setO, tName_k, nameK.eq_1, nameK.eq_2, nameK.eq_3, nameK.eq_4, atK.eq_1, take1_v, take1_s, takeO_v, takeO_s, takeR_v, takeR_s, prep_n, prep_tv, prep_ts, prep_f, lstK.eq_1, lstAt_k, g2K.eq_1, g2_k, g1K.eq_1, g1_k, gNK.eq_1, gN_k, boK.eq_1, bOf_k, isiK.eq_1, tIsi_k, partK.eq_1, part_n, part_s, slcK.eq_1, slcK.eq_2, slcK.eq_3, slcK.eq_4, tSlc_k, revK.eq_1, revK.eq_2, revK.eq_3, tRev_k, strMK.eq_1, tStrM_k, itK.eq_1, tIter_k, enumK.eq_1, tEnum_k, zipK.eq_1, zipK.eq_2, tZip_k, intsK.eq_1, intsK.eq_2, intsOf_k, endK.eq_1, endO_k, extK.eq_1, tExtend_k, tAppend_k, setIxK.eq_1, sSetIx_k, popAtK.eq_1, tPopAt_k, bO.eq_1, itemsOf.eq_1, itemsOf.eq_2, itemsOf.eq_3, gAdd.eq_1, gAdd.eq_2, gAdd.eq_3, gAdd.eq_4, gAdd.eq_5, gAdd.eq_6, gSub_.eq_1, gSub_.eq_2, gMul2_s, gMul2_i, gMul2_l, gMulS.eq_1, gMul.eq_1, gMul.eq_2, gFdiv.eq_1, gMod.eq_1, gPow.eq_1, gNeg.eq_1, gNeg.eq_2, gGe.eq_1, gGt.eq_1, gLe.eq_1, gLt.eq_1, gLt.eq_2, gEq.eq_1, gNe.eq_1, gNe.eq_2, gNe.eq_3, gNe.eq_4, gInW.eq_1, gInW.eq_2, gIs.eq_1, gIsNot.eq_1, gLen.eq_1, gLen.eq_2, gAllAny.eq_1, gAbs.eq_1, gInt.eq_1, gInt.eq_2, gStr.eq_1, gStr.eq_2, gStr.eq_3, gM2.eq_1, gListOf.eq_1, gListOf.eq_2, gTupOf.eq_1, gTupOf.eq_2, gSort, gSortS.eq_1, gSortD.eq_1, gSortSet.eq_1, gRepr.eq_1, gIx.eq_1, gIx.eq_2, ati0, ati1, ati2, Option.some.injEq, exists_eq, exists_eq', false_implies, Opd.slot.injEq, forall_eq, forall_eq', Opd.get.eq_1, Opd.get.eq_2, at_join, join_some, O.frz.eq_1, O.frz.eq_2, O.frz.eq_3, O.frz.eq_4, lsO.eq_1, lsO.eq_2, tuO.eq_1, seqO_l, seqO_p, seqO_t, endsOf, outsOf, startA, wipeA, List.getElem?_cons_zero, List.getElem?_cons_succ, List.length_cons, List.length_nil, List.map_cons, List.map_nil, List.set_cons_zero, List.set_cons_succ, List.replicate_succ, List.replicate_zero, List.cons_append, List.nil_append, List.getD_cons_zero, List.getD_cons_succ, if_true, if_false, Bool.false_eq_true, reduceIte, reduceCtorEq, Bool.not_true, Bool.not_false, implies_true, true_and, and_true, Nat.sub_self, Nat.reduceAdd, Nat.reduceSub, Nat.zero_add, List.all_cons, List.all_nil, Bool.and_true, Bool.true_and]
            refine ⟨a, rfl, ((hz.mem hmem).mem (t := a) (by simp)).szS, ?_⟩
            simp only [sSeq, sNext, sRet, sRetN, sDrop, sIf, sSet, sFor, sPar, sAsg, bAnd, bOr, bNot, tTst, tCst, tBin, tUny, tNilA, tConsA, getAll, tCallB, tCallF, tTupD, tLstD, tChainA, tChainE, tRg, rgK.eq_1, tStripX, strip1K.eq_1, strip2K.eq_1, tAndE, tOrE, tNotE, tIfE, tComp, bYes, tDct0, tRange.eq_1, tgName, tgTup.eq_1, tgCons.eq_1, tgNil.eq_1, takeAll, back.eq_1, back.eq_2, back_nil, setO, tName_k, nameK.eq_1, nameK.eq_2, nameK.eq_3, nameK.eq_4, atK.eq_1, take1_v, take1_s, takeO_v, takeO_s, takeR_v, takeR_s, prep_n, prep_tv, prep_ts, prep_f, lstK.eq_1, lstAt_k, g2K.eq_1, g2_k, g1K.eq_1, g1_k, gNK.eq_1, gN_k, boK.eq_1, bOf_k, isiK.eq_1, tIsi_k, partK.eq_1, part_n, part_s, slcK.eq_1, slcK.eq_2, slcK.eq_3, slcK.eq_4, tSlc_k, revK.eq_1, revK.eq_2, revK.eq_3, tRev_k, strMK.eq_1, tStrM_k, itK.eq_1, tIter_k, enumK.eq_1, tEnum_k, zipK.eq_1, zipK.eq_2, tZip_k, intsK.eq_1, intsK.eq_2, intsOf_k, endK.eq_1, endO_k, extK.eq_1, tExtend_k, tAppend_k, setIxK.eq_1, sSetIx_k, popAtK.eq_1, tPopAt_k, bO.eq_1, itemsOf.eq_1, itemsOf.eq_2, itemsOf.eq_3, gAdd.eq_1, gAdd.eq_2, gAdd.eq_3, gAdd.eq_4, gAdd.eq_5, gAdd.eq_6, gSub_.eq_1, gSub_.eq_2, gMul2_s, gMul2_i, gMul2_l, gMulS.eq_1, gMul.eq_1, gMul.eq_2, gFdiv.eq_1, gMod.eq_1, gPow.eq_1, gNeg.eq_1, gNeg.eq_2, gGe.eq_1, gGt.eq_1, gLe.eq_1, gLt.eq_1, gLt.eq_2, gEq.eq_1, gNe.eq_1, gNe.eq_2, gNe.eq_3, gNe.eq_4, gInW.eq_1, gInW.eq_2, gIs.eq_1, gIsNot.eq_1, gLen.eq_1, gLen.eq_2, gAllAny.eq_1, gAbs.eq_1, gInt.eq_1, gInt.eq_2, gStr.eq_1, gStr.eq_2, gStr.eq_3, gM2.eq_1, gListOf.eq_1, gListOf.eq_2, gTupOf.eq_1, gTupOf.eq_2, gSort, gSortS.eq_1, gSortD.eq_1, gSortSet.eq_1, gRepr.eq_1, gIx.eq_1, gIx.eq_2, ati0, ati1, ati2, Option.some.injEq, exists_eq, exists_eq', false_implies, Opd.slot.injEq, forall_eq, forall_eq', Opd.get.eq_1, Opd.get.eq_2, at_join, join_some, O.frz.eq_1, O.frz.eq_2, O.frz.eq_3, O.frz.eq_4, lsO.eq_1, lsO.eq_2, tuO.eq_1, seqO_l, seqO_p, seqO_t, endsOf, outsOf, startA, wipeA, List.getElem?_cons_zero, List.getElem?_cons_succ, List.length_cons, List.length_nil, List.map_cons, List.map_nil, List.set_cons_zero, List.set_cons_succ, List.replicate_succ, List.replicate_zero, List.cons_append, List.nil_append, List.getD_cons_zero, List.getD_cons_succ, if_true, if_false, Bool.false_eq_true, reduceIte, reduceCtorEq, Bool.not_true, Bool.not_false, implies_true, true_and, and_true, Nat.sub_self, Nat.reduceAdd, Nat.reduceSub, Nat.zero_add, List.all_cons, List.all_nil, Bool.and_true, Bool.true_and]
            have em : mPair (.tuple [a, b]) = (mWord a && mNum 1 1000000 b) := rfl
            cases e3 : mWord a with
            | false =>
              simp only [sSeq, sNext, sRet, sRetN, sDrop, sIf, sSet, sFor, sPar, sAsg, bAnd, bOr, bNot, tTst, tCst, tBin, tUny, tNilA, tConsA, getAll, tCallB, tCallF, tTupD, tLstD, tChainA, tChainE, tRg, rgK.eq_1, tStripX, strip1K.eq_1, strip2K.eq_1, tAndE, tOrE, tNotE, tIfE, tComp, bYes, tDct0, tRange.eq_1, tgName, tgTup.eq_1, tgCons.eq_1, tgNil.eq_1, takeAll, back.eq_1, back.eq_2, back_nil, setO, tName_k, nameK.eq_1, nameK.eq_2, nameK.eq_3, nameK.eq_4, atK.eq_1, take1_v, take1_s, takeO_v, takeO_s, takeR_v, takeR_s, prep_n, prep_tv, prep_ts, prep_f, lstK.eq_1, lstAt_k, g2K.eq_1, g2_k, g1K.eq_1, g1_k, gNK.eq_1, gN_k, boK.eq_1, bOf_k, isiK.eq_1, tIsi_k, partK.eq_1, part_n, part_s, slcK.eq_1, slcK.eq_2, slcK.eq_3, slcK.eq_4, tSlc_k, revK.eq_1, revK.eq_2, revK.eq_3, tRev_k, strMK.eq_1, tStrM_k, itK.eq_1, tIter_k, enumK.eq_1, tEnum_k, zipK.eq_1, zipK.eq_2, tZip_k, intsK.eq_1, intsK.eq_2, intsOf_k, endK.eq_1, endO_k, extK.eq_1, tExtend_k, tAppend_k, setIxK.eq_1, sSetIx_k, popAtK.eq_1, tPopAt_k, bO.eq_1, itemsOf.eq_1, itemsOf.eq_2, itemsOf.eq_3, gAdd.eq_1, gAdd.eq_2, gAdd.eq_3, gAdd.eq_4, gAdd.eq_5, gAdd.eq_6, gSub_.eq_1, gSub_.eq_2, gMul2_s, gMul2_i, gMul2_l, gMulS.eq_1, gMul.eq_1, gMul.eq_2, gFdiv.eq_1, gMod.eq_1, gPow.eq_1, gNeg.eq_1, gNeg.eq_2, gGe.eq_1, gGt.eq_1, gLe.eq_1, gLt.eq_1, gLt.eq_2, gEq.eq_1, gNe.eq_1, gNe.eq_2, gNe.eq_3, gNe.eq_4, gInW.eq_1, gInW.eq_2, gIs.eq_1, gIsNot.eq_1, gLen.eq_1, gLen.eq_2, gAllAny.eq_1, gAbs.eq_1, gInt.eq_1, gInt.eq_2, gStr.eq_1, gStr.eq_2, gStr.eq_3, gM2.eq_1, gListOf.eq_1, gListOf.eq_2, gTupOf.eq_1, gTupOf.eq_2, gSort, gSortS.eq_1, gSortD.eq_1, gSortSet.eq_1, gRepr.eq_1, gIx.eq_1, gIx.eq_2, ati0, ati1, ati2, Option.some.injEq, exists_eq, exists_eq', false_implies, Opd.slot.injEq, forall_eq, forall_eq', Opd.get.eq_1, Opd.get.eq_2, at_join, join_some, O.frz.eq_1, O.frz.eq_2, O.frz.eq_3, O.frz.eq_4, lsO.eq_1, lsO.eq_2, tuO.eq_1, seqO_l, seqO_p, seqO_t, endsOf, outsOf, startA, wipeA, List.getElem?_cons_zero, List.getElem?_cons_succ, List.length_cons, List.length_nil, List.map_cons, List.map_nil, List.set_cons_zero, List.set_cons_succ, List.replicate_succ, List.replicate_zero, List.cons_append, List.nil_append, List.getD_cons_zero, List.getD_cons_succ, if_true, if_false, Bool.false_eq_true, reduceIte, reduceCtorEq, Bool.not_true, Bool.not_false, implies_true, true_and, and_true, Nat.sub_self, Nat.reduceAdd, Nat.reduceSub, Nat.zero_add, List.all_cons, List.all_nil, Bool.and_true, Bool.true_and]
              exact bad (by rw [em, e3]; rfl) _
            | true =>
              obtain ⟨x, rfl⟩ := mWord_str e3
              simp only [sSeq, sNext, sRet, sRetN, sDrop, sIf, sSet, sFor, sPar, sAsg, bAnd, bOr, bNot, tTst, tCst, tBin, tUny, tNilA, tConsA, getAll, tCallB, tCallF, tTupD, tLstD, tChainA, tChainE, tRg, rgK.eq_1, tStripX, strip1K.eq_1, strip2K.eq_1, tAndE, tOrE, tNotE, tIfE, tComp, bYes, tDct0, tRange.eq_1, tgName, tgTup.eq_1, tgCons.eq_1, tgNil.eq_1, takeAll, back.eq_1, back.eq_2, back_nil, setO, tName_k, nameK.eq_1, nameK.eq_2, nameK.eq_3, nameK.eq_4, atK.eq_1, take1_v, take1_s, takeO_v, takeO_s, takeR_v, takeR_s, prep_n, prep_tv, prep_ts, prep_f, lstK.eq_1, lstAt_k, g2K.eq_1, g2_k, g1K.eq_1, g1_k, gNK.eq_1, gN_k, boK.eq_1, bOf_k, isiK.eq_1, tIsi_k, partK.eq_1, part_n, part_s, slcK.eq_1, slcK.eq_2, slcK.eq_3, slcK.eq_4, tSlc_k, revK.eq_1, revK.eq_2, revK.eq_3, tRev_k, strMK.eq_1, tStrM_k, itK.eq_1, tIter_k, enumK.eq_1, tEnum_k, zipK.eq_1, zipK.eq_2, tZip_k, intsK.eq_1, intsK.eq_2, intsOf_k, endK.eq_1, endO_k, extK.eq_1, tExtend_k, tAppend_k, setIxK.eq_1, sSetIx_k, popAtK.eq_1, tPopAt_k, bO.eq_1, itemsOf.eq_1, itemsOf.eq_2, itemsOf.eq_3, gAdd.eq_1, gAdd.eq_2, gAdd.eq_3, gAdd.eq_4, gAdd.eq_5, gAdd.eq_6, gSub_.eq_1, gSub_.eq_2, gMul2_s, gMul2_i, gMul2_l, gMulS.eq_1, gMul.eq_1, gMul.eq_2, gFdiv.eq_1, gMod.eq_1, gPow.eq_1, gNeg.eq_1, gNeg.eq_2, gGe.eq_1, gGt.eq_1, gLe.eq_1, gLt.eq_1, gLt.eq_2, gEq.eq_1, gNe.eq_1, gNe.eq_2, gNe.eq_3, gNe.eq_4, gInW.eq_1, gInW.eq_2, gIs.eq_1, gIsNot.eq_1, gLen.eq_1, gLen.eq_2, gAllAny.eq_1, gAbs.eq_1, gInt.eq_1, gInt.eq_2, gStr.eq_1, gStr.eq_2, gStr.eq_3, gM2.eq_1, gListOf.eq_1, gListOf.eq_2, gTupOf.eq_1, gTupOf.eq_2, gSort, gSortS.eq_1, gSortD.eq_1, gSortSet.eq_1, gRepr.eq_1, gIx.eq_1, gIx.eq_2, ati0, ati1, ati2, Option.some.injEq, exists_eq, exists_eq', false_implies, Opd.slot.injEq, forall_eq, forall_eq', Opd.get.eq_1, Opd.get.eq_2, at_join, join_some, O.frz.eq_1, O.frz.eq_2, O.frz.eq_3, O.frz.eq_4, lsO.eq_1, lsO.eq_2, tuO.eq_1, seqO_l, seqO_p, seqO_t, endsOf, outsOf, startA, wipeA, List.getElem?_cons_zero, List.getElem?_cons_succ, List.length_cons, List.length_nil, List.map_cons, List.map_nil, List.set_cons_zero, List.set_cons_succ, List.replicate_succ, List.replicate_zero, List.cons_append, List.nil_append, List.getD_cons_zero, List.getD_cons_succ, if_true, if_false, Bool.false_eq_true, reduceIte, reduceCtorEq, Bool.not_true, Bool.not_false, implies_true, true_and, and_true, Nat.sub_self, Nat.reduceAdd, Nat.reduceSub, Nat.zero_add, List.all_cons, List.all_nil, Bool.and_true, Bool.true_and]
              refine ⟨by decide, by decide, by decide, b, _, _, rfl, ?_⟩
              have e10 : (10 : Int) ^ Int.toNat 6 = 1000000 := by decide
              rw [e10]
              cases e4 : mNum 1 1000000 b with
              | false =>
                simp only [sSeq, sNext, sRet, sRetN, sDrop, sIf, sSet, sFor, sPar, sAsg, bAnd, bOr, bNot, tTst, tCst, tBin, tUny, tNilA, tConsA, getAll, tCallB, tCallF, tTupD, tLstD, tChainA, tChainE, tRg, rgK.eq_1, tStripX, strip1K.eq_1, strip2K.eq_1, tAndE, tOrE, tNotE, tIfE, tComp, bYes, tDct0, tRange.eq_1, tgName, tgTup.eq_1, tgCons.eq_1, tgNil.eq_1, takeAll, back.eq_1, back.eq_2, back_nil, setO, tName_k, nameK.eq_1, nameK.eq_2, nameK.eq_3, nameK.eq_4, atK.eq_1, take1_v, take1_s, takeO_v, takeO_s, takeR_v, takeR_s, prep_n, prep_tv, prep_ts, prep_f, lstK.eq_1, lstAt_k, g2K.eq_1, g2_k, g1K.eq_1, g1_k, gNK.eq_1, gN_k, boK.eq_1, bOf_k, isiK.eq_1, tIsi_k, partK.eq_1, part_n, part_s, slcK.eq_1, slcK.eq_2, slcK.eq_3, slcK.eq_4, tSlc_k, revK.eq_1, revK.eq_2, revK.eq_3, tRev_k, strMK.eq_1, tStrM_k, itK.eq_1, tIter_k, enumK.eq_1, tEnum_k, zipK.eq_1, zipK.eq_2, tZip_k, intsK.eq_1, intsK.eq_2, intsOf_k, endK.eq_1, endO_k, extK.eq_1, tExtend_k, tAppend_k, setIxK.eq_1, sSetIx_k, popAtK.eq_1, tPopAt_k, bO.eq_1, itemsOf.eq_1, itemsOf.eq_2, itemsOf.eq_3, gAdd.eq_1, gAdd.eq_2, gAdd.eq_3, gAdd.eq_4, gAdd.eq_5, gAdd.eq_6, gSub_.eq_1, gSub_.eq_2, gMul2_s, gMul2_i, gMul2_l, gMulS.eq_1, gMul.eq_1, gMul.eq_2, gFdiv.eq_1, gMod.eq_1, gPow.eq_1, gNeg.eq_1, gNeg.eq_2, gGe.eq_1, gGt.eq_1, gLe.eq_1, gLt.eq_1, gLt.eq_2, gEq.eq_1, gNe.eq_1, gNe.eq_2, gNe.eq_3, gNe.eq_4, gInW.eq_1, gInW.eq_2, gIs.eq_1, gIsNot.eq_1, gLen.eq_1, gLen.eq_2, gAllAny.eq_1, gAbs.eq_1, gInt.eq_1, gInt.eq_2, gStr.eq_1, gStr.eq_2, gStr.eq_3, gM2.eq_1, gListOf.eq_1, gListOf.eq_2, gTupOf.eq_1, gTupOf.eq_2, gSort, gSortS.eq_1, gSortD.eq_1, gSortSet.eq_1, gRepr.eq_1, gIx.eq_1, gIx.eq_2, ati0, ati1, ati2, Option.some.injEq, exists_eq, exists_eq', false_implies, Opd.slot.injEq, forall_eq, forall_eq', Opd.get.eq_1, Opd.get.eq_2, at_join, join_some, O.frz.eq_1, O.frz.eq_2, O.frz.eq_3, O.frz.eq_4, lsO.eq_1, lsO.eq_2, tuO.eq_1, seqO_l, seqO_p, seqO_t, endsOf, outsOf, startA, wipeA, List.getElem?_cons_zero, List.getElem?_cons_succ, List.length_cons, List.length_nil, List.map_cons, List.map_nil, List.set_cons_zero, List.set_cons_succ, List.replicate_succ, List.replicate_zero, List.cons_append, List.nil_append, List.getD_cons_zero, List.getD_cons_succ, if_true, if_false, Bool.false_eq_true, reduceIte, reduceCtorEq, Bool.not_true, Bool.not_false, implies_true, true_and, and_true, Nat.sub_self, Nat.reduceAdd, Nat.reduceSub, Nat.zero_add, List.all_cons, List.all_nil, Bool.and_true, Bool.true_and]
                exact bad (by rw [em, e4]; exact Bool.and_false _) _
              | true =>
                simp only [sSeq, sNext, sRet, sRetN, sDrop, sIf, sSet, sFor, sPar, sAsg, bAnd, bOr, bNot, tTst, tCst, tBin, tUny, tNilA, tConsA, getAll, tCallB, tCallF, tTupD, tLstD, tChainA, tChainE, tRg, rgK.eq_1, tStripX, strip1K.eq_1, strip2K.eq_1, tAndE, tOrE, tNotE, tIfE, tComp, bYes, tDct0, tRange.eq_1, tgName, tgTup.eq_1, tgCons.eq_1, tgNil.eq_1, takeAll, back.eq_1, back.eq_2, back_nil, setO, tName_k, nameK.eq_1, nameK.eq_2, nameK.eq_3, nameK.eq_4, atK.eq_1, take1_v, take1_s, takeO_v, takeO_s, takeR_v, takeR_s, prep_n, prep_tv, prep_ts, prep_f, lstK.eq_1, lstAt_k, g2K.eq_1, g2_k, g1K.eq_1, g1_k, gNK.eq_1, gN_k, boK.eq_1, bOf_k, isiK.eq_1, tIsi_k, partK.eq_1, part_n, part_s, slcK.eq_1, slcK.eq_2, slcK.eq_3, slcK.eq_4, tSlc_k, revK.eq_1, revK.eq_2, revK.eq_3, tRev_k, strMK.eq_1, tStrM_k, itK.eq_1, tIter_k, enumK.eq_1, tEnum_k, zipK.eq_1, zipK.eq_2, tZip_k, intsK.eq_1, intsK.eq_2, intsOf_k, endK.eq_1, endO_k, extK.eq_1, tExtend_k, tAppend_k, setIxK.eq_1, sSetIx_k, popAtK.eq_1, tPopAt_k, bO.eq_1, itemsOf.eq_1, itemsOf.eq_2, itemsOf.eq_3, gAdd.eq_1, gAdd.eq_2, gAdd.eq_3, gAdd.eq_4, gAdd.eq_5, gAdd.eq_6, gSub_.eq_1, gSub_.eq_2, gMul2_s, gMul2_i, gMul2_l, gMulS.eq_1, gMul.eq_1, gMul.eq_2, gFdiv.eq_1, gMod.eq_1, gPow.eq_1, gNeg.eq_1, gNeg.eq_2, gGe.eq_1, gGt.eq_1, gLe.eq_1, gLt.eq_1, gLt.eq_2, gEq.eq_1, gNe.eq_1, gNe.eq_2, gNe.eq_3, gNe.eq_4, gInW.eq_1, gInW.eq_2, gIs.eq_1, gIsNot.eq_1, gLen.eq_1, gLen.eq_2, gAllAny.eq_1, gAbs.eq_1, gInt.eq_1, gInt.eq_2, gStr.eq_1, gStr.eq_2, gStr.eq_3, gM2.eq_1, gListOf.eq_1, gListOf.eq_2, gTupOf.eq_1, gTupOf.eq_2, gSort, gSortS.eq_1, gSortD.eq_1, gSortSet.eq_1, gRepr.eq_1, gIx.eq_1, gIx.eq_2, ati0, ati1, ati2, Option.some.injEq, exists_eq, exists_eq', false_implies, Opd.slot.injEq, forall_eq, forall_eq', Opd.get.eq_1, Opd.get.eq_2, at_join, join_some, O.frz.eq_1, O.frz.eq_2, O.frz.eq_3, O.frz.eq_4, lsO.eq_1, lsO.eq_2, tuO.eq_1, seqO_l, seqO_p, seqO_t, endsOf, outsOf, startA, wipeA, List.getElem?_cons_zero, List.getElem?_cons_succ, List.length_cons, List.length_nil, List.map_cons, List.map_nil, List.set_cons_zero, List.set_cons_succ, List.replicate_succ, List.replicate_zero, List.cons_append, List.nil_append, List.getD_cons_zero, List.getD_cons_succ, if_true, if_false, Bool.false_eq_true, reduceIte, reduceCtorEq, Bool.not_true, Bool.not_false, implies_true, true_and, and_true, Nat.sub_self, Nat.reduceAdd, Nat.reduceSub, Nat.zero_add, List.all_cons, List.all_nil, Bool.and_true, Bool.true_and]
                exact ⟨by simp; omega, good (by rw [em, e3, e4]; rfl) x b rfl⟩
        · rw [if_pos (by simp [g])]
          exact bad (mPair_len g).1 _
      | _ => simp only [sSeq, sNext, sRet, sRetN, sDrop, sIf, sSet, sFor, sPar, sAsg, bAnd, bOr, bNot, tTst, tCst, tBin, tUny, tNilA, tConsA, getAll, tCallB, tCallF, tTupD, tLstD, tChainA, tChainE, tRg, rgK.eq_1, tStripX, strip1K.eq_1, strip2K.eq_1, tAndE, tOrE, tNotE, tIfE, tComp, bYes, tDct0, tRange.eq_1, tgName, tgTup.eq_1, tgCons.eq_1, tgNil.eq_1, takeAll, back.eq_1, back.eq_2, back_nil, setO, tName_k, nameK.eq_1, nameK.eq_2, nameK.eq_3, nameK.eq_4, atK.eq_1, take1_v, take1_s, takeO_v, takeO_s, takeR_v, takeR_s, prep_n, prep_tv, prep_ts, prep_f, lstK.eq_1, lstAt_k, g2K.eq_1, g2_k, g1K.eq_1, g1_k, gNK.eq_1, gN_k, boK.eq_1, bOf_k, isiK.eq_1, tIsi_k, partK.eq_1, part_n, part_s, slcK.eq_1, slcK.eq_2, slcK.eq_3, slcK.eq_4, tSlc_k, revK.eq_1, revK.eq_2, revK.eq_3, tRev_k, strMK.eq_1, tStrM_k, itK.eq_1, tIter_k, enumK.eq_1, tEnum_k, zipK.eq_1, zipK.eq_2, tZip_k, intsK.eq_1, intsK.eq_2, intsOf_k, endK.eq_1, endO_k, extK.eq_1, tExtend_k, tAppend_k, setIxK.eq_1, sSetIx_k, popAtK.eq_1, tPopAt_k, bO.eq_1, itemsOf.eq_1, itemsOf.eq_2, itemsOf.eq_3, gAdd.eq_1, gAdd.eq_2, gAdd.eq_3, gAdd.eq_4, gAdd.eq_5, gAdd.eq_6, gSub_.eq_1, gSub_.eq_2, gMul2_s, gMul2_i, gMul2_l, gMulS.eq_1, gMul.eq_1, gMul.eq_2, gFdiv.eq_1, gMod.eq_1, gPow.eq_1, gNeg.eq_1, gNeg.eq_2, gGe.eq_1, gGt.eq_1, gLe.eq_1, gLt.eq_1, gLt.eq_2, gEq.eq_1, gNe.eq_1, gNe.eq_2, gNe.eq_3, gNe.eq_4, gInW.eq_1, gInW.eq_2, gIs.eq_1, gIsNot.eq_1, gLen.eq_1, gLen.eq_2, gAllAny.eq_1, gAbs.eq_1, gInt.eq_1, gInt.eq_2, gStr.eq_1, gStr.eq_2, gStr.eq_3, gM2.eq_1, gListOf.eq_1, gListOf.eq_2, gTupOf.eq_1, gTupOf.eq_2, gSort, gSortS.eq_1, gSortD.eq_1, gSortSet.eq_1, gRepr.eq_1, gIx.eq_1, gIx.eq_2, ati0, ati1, ati2, Option.some.injEq, exists_eq, exists_eq', false_implies, Opd.slot.injEq, forall_eq, forall_eq', Opd.get.eq_1, Opd.get.eq_2, at_join, join_some, O.frz.eq_1, O.frz.eq_2, O.frz.eq_3, O.frz.eq_4, lsO.eq_1, lsO.eq_2, tuO.eq_1, seqO_l, seqO_p, seqO_t, endsOf, outsOf, startA, wipeA, List.getElem?_cons_zero, List.getElem?_cons_succ, List.length_cons, List.length_nil, List.map_cons, List.map_nil, List.set_cons_zero, List.set_cons_succ, List.replicate_succ, List.replicate_zero, List.cons_append, List.nil_append, List.getD_cons_zero, List.getD_cons_succ, if_true, if_false, Bool.false_eq_true, reduceIte, reduceCtorEq, Bool.not_true, Bool.not_false, implies_true, true_and, and_true, Nat.sub_self, Nat.reduceAdd, Nat.reduceSub, Nat.zero_add, List.all_cons, List.all_nil, Bool.and_true, Bool.true_and, isT_tuple]; exact bad rfl _
    · obtain ⟨ns, x2, e1, e2, rfl⟩ := hinv
      rw [List.take_length] at e1 e2
      simp only [sSeq, sNext, sRet, sRetN, sDrop, sIf, sSet, sFor, sPar, sAsg, bAnd, bOr, bNot, tTst, tCst, tBin, tUny, tNilA, tConsA, getAll, tCallB, tCallF, tTupD, tLstD, tChainA, tChainE, tRg, rgK.eq_1, tStripX, strip1K.eq_1, strip2K.eq_1, tAndE, tOrE, tNotE, tIfE, tComp, bYes, tDct0, tRange.eq_1, tgName, tgTup.eq_1, tgCons.eq_1, tgNil.eq_1, takeAll, back.eq_1, back.eq_2, back_nil, setO, tName_k, nameK.eq_1, nameK.eq_2, nameK.eq_3, nameK.eq_4, atK.eq_1, take1_v, take1_s, takeO_v, takeO_s, takeR_v, takeR_s, prep_n, prep_tv, prep_ts, prep_f, lstK.eq_1, lstAt_k, g2K.eq_1, g2_k, g1K.eq_1, g1_k, gNK.eq_1, gN_k, boK.eq_1, bOf_k, isiK.eq_1, tIsi_k, partK.eq_1, part_n, part_s, slcK.eq_1, slcK.eq_2, slcK.eq_3, slcK.eq_4, tSlc_k, revK.eq_1, revK.eq_2, revK.eq_3, tRev_k, strMK.eq_1, tStrM_k, itK.eq_1, tIter_k, enumK.eq_1, tEnum_k, zipK.eq_1, zipK.eq_2, tZip_k, intsK.eq_1, intsK.eq_2, intsOf_k, endK.eq_1, endO_k, extK.eq_1, tExtend_k, tAppend_k, setIxK.eq_1, sSetIx_k, popAtK.eq_1, tPopAt_k, bO.eq_1, itemsOf.eq_1, itemsOf.eq_2, itemsOf.eq_3, gAdd.eq_1, gAdd.eq_2, gAdd.eq_3, gAdd.eq_4, gAdd.eq_5, gAdd.eq_6, gSub_.eq_1, gSub_.eq_2, gMul2_s, gMul2_i, gMul2_l, gMulS.eq_1, gMul.eq_1, gMul.eq_2, gFdiv.eq_1, gMod.eq_1, gPow.eq_1, gNeg.eq_1, gNeg.eq_2, gGe.eq_1, gGt.eq_1, gLe.eq_1, gLt.eq_1, gLt.eq_2, gEq.eq_1, gNe.eq_1, gNe.eq_2, gNe.eq_3, gNe.eq_4, gInW.eq_1, gInW.eq_2, gIs.eq_1, gIsNot.eq_1, gLen.eq_1, gLen.eq_2, gAllAny.eq_1, gAbs.eq_1, gInt.eq_1, gInt.eq_2, gStr.eq_1, gStr.eq_2, gStr.eq_3, gM2.eq_1, gListOf.eq_1, gListOf.eq_2, gTupOf.eq_1, gTupOf.eq_2, gSort, gSortS.eq_1, gSortD.eq_1, gSortSet.eq_1, gRepr.eq_1, gIx.eq_1, gIx.eq_2, ati0, ati1, ati2, Option.some.injEq, exists_eq, exists_eq', false_implies, Opd.slot.injEq, forall_eq, forall_eq', Opd.get.eq_1, Opd.get.eq_2, at_join, join_some, O.frz.eq_1, O.frz.eq_2, O.frz.eq_3, O.frz.eq_4, lsO.eq_1, lsO.eq_2, tuO.eq_1, seqO_l, seqO_p, seqO_t, endsOf, outsOf, startA, wipeA, List.getElem?_cons_zero, List.getElem?_cons_succ, List.length_cons, List.length_nil, List.map_cons, List.map_nil, List.set_cons_zero, List.set_cons_succ, List.replicate_succ, List.replicate_zero, List.cons_append, List.nil_append, List.getD_cons_zero, List.getD_cons_succ, if_true, if_false, Bool.false_eq_true, reduceIte, reduceCtorEq, Bool.not_true, Bool.not_false, implies_true, true_and, and_true, Nat.sub_self, Nat.reduceAdd, Nat.reduceSub, Nat.zero_add, List.all_cons, List.all_nil, Bool.and_true, Bool.true_and]
      have hnl : ns.length = ts.length := by
        have := congrArg List.length e1
        simpa using this
      refine ⟨by simp; omega, .inr ⟨ns, rfl, fun ms nd hm so => ?_⟩⟩
      have h : Qa (.pure (.bool (ts.all mPair && mAsc (ts.map hdT)))) [] := h
      rw [e2, ← e1, Bool.true_and, ← names_eq nd hm so, ← eqv_strs] at h
      refine ⟨by simp only [O.frz.eq_2, cmpOk, cmp_strs, Bool.or_true], by simp only [O.frz.eq_2, PyData.depth, dep_strs]; omega, ?_⟩
      simp only [O.frz.eq_2, PyData.eqv]
      exact h
  | _ => simp only [sSeq, sNext, sRet, sRetN, sDrop, sIf, sSet, sFor, sPar, sAsg, bAnd, bOr, bNot, tTst, tCst, tBin, tUny, tNilA, tConsA, getAll, tCallB, tCallF, tTupD, tLstD, tChainA, tChainE, tRg, rgK.eq_1, tStripX, strip1K.eq_1, strip2K.eq_1, tAndE, tOrE, tNotE, tIfE, tComp, bYes, tDct0, tRange.eq_1, tgName, tgTup.eq_1, tgCons.eq_1, tgNil.eq_1, takeAll, back.eq_1, back.eq_2, back_nil, setO, tName_k, nameK.eq_1, nameK.eq_2, nameK.eq_3, nameK.eq_4, atK.eq_1, take1_v, take1_s, takeO_v, takeO_s, takeR_v, takeR_s, prep_n, prep_tv, prep_ts, prep_f, lstK.eq_1, lstAt_k, g2K.eq_1, g2_k, g1K.eq_1, g1_k, gNK.eq_1, gN_k, boK.eq_1, bOf_k, isiK.eq_1, tIsi_k, partK.eq_1, part_n, part_s, slcK.eq_1, slcK.eq_2, slcK.eq_3, slcK.eq_4, tSlc_k, revK.eq_1, revK.eq_2, revK.eq_3, tRev_k, strMK.eq_1, tStrM_k, itK.eq_1, tIter_k, enumK.eq_1, tEnum_k, zipK.eq_1, zipK.eq_2, tZip_k, intsK.eq_1, intsK.eq_2, intsOf_k, endK.eq_1, endO_k, extK.eq_1, tExtend_k, tAppend_k, setIxK.eq_1, sSetIx_k, popAtK.eq_1, tPopAt_k, bO.eq_1, itemsOf.eq_1, itemsOf.eq_2, itemsOf.eq_3, gAdd.eq_1, gAdd.eq_2, gAdd.eq_3, gAdd.eq_4, gAdd.eq_5, gAdd.eq_6, gSub_.eq_1, gSub_.eq_2, gMul2_s, gMul2_i, gMul2_l, gMulS.eq_1, gMul.eq_1, gMul.eq_2, gFdiv.eq_1, gMod.eq_1, gPow.eq_1, gNeg.eq_1, gNeg.eq_2, gGe.eq_1, gGt.eq_1, gLe.eq_1, gLt.eq_1, gLt.eq_2, gEq.eq_1, gNe.eq_1, gNe.eq_2, gNe.eq_3, gNe.eq_4, gInW.eq_1, gInW.eq_2, gIs.eq_1, gIsNot.eq_1, gLen.eq_1, gLen.eq_2, gAllAny.eq_1, gAbs.eq_1, gInt.eq_1, gInt.eq_2, gStr.eq_1, gStr.eq_2, gStr.eq_3, gM2.eq_1, gListOf.eq_1, gListOf.eq_2, gTupOf.eq_1, gTupOf.eq_2, gSort, gSortS.eq_1, gSortD.eq_1, gSortSet.eq_1, gRepr.eq_1, gIx.eq_1, gIx.eq_2, ati0, ati1, ati2, Option.some.injEq, exists_eq, exists_eq', false_implies, Opd.slot.injEq, forall_eq, forall_eq', Opd.get.eq_1, Opd.get.eq_2, at_join, join_some, O.frz.eq_1, O.frz.eq_2, O.frz.eq_3, O.frz.eq_4, lsO.eq_1, lsO.eq_2, tuO.eq_1, seqO_l, seqO_p, seqO_t, endsOf, outsOf, startA, wipeA, List.getElem?_cons_zero, List.getElem?_cons_succ, List.length_cons, List.length_nil, List.map_cons, List.map_nil, List.set_cons_zero, List.set_cons_succ, List.replicate_succ, List.replicate_zero, List.cons_append, List.nil_append, List.getD_cons_zero, List.getD_cons_succ, if_true, if_false, Bool.false_eq_true, reduceIte, reduceCtorEq, Bool.not_true, Bool.not_false, implies_true, true_and, and_true, Nat.sub_self, Nat.reduceAdd, Nat.reduceSub, Nat.zero_add, List.all_cons, List.all_nil, Bool.and_true, Bool.true_and, isT_tuple]; exact h
end WC

set_option Elab.async false
set_option linter.all false
set_option maxRecDepth 100000
set_option maxHeartbeats 4000000
namespace WC
open PySem PySem.Spec L2 DL WS
open PyProof.Rows hiding St
abbrev B0 : Nat := 10 ^ 20 + 2
abbrev Fine (t : T) : Prop := Gd 3900 20 B0 t
theorem Fine.sz {t : T} (g : Fine t) : Sz t := ⟨_, _, _, g, by decide⟩
theorem Fine.rp {t : T} (g : Fine t) : t.showable = true ∧ t.depth ≤ 150 ∧ t.shown.length ≤ 16777216 := by
  have := shown_sz (b := B0) (by decide) t g.l
  have := g.w
  have := g.d
  exact ⟨lf_showable (b := B0) (by decide) t g.l, by omega, by omega⟩
theorem Fine.len {t : T} (g : Fine t) : ∀ ts, t = .tuple ts → ts.length < 4000 := fun ts e => by
  subst e
  have := g.tupE.len
  omega
def rE (ds : List T) (nm : O) (go : T) (so x4 x5 x6 x7 x8 : Option O) : AEnv :=
  [some (.lst ds), some nm, some (.pure go), so, x4, x5, x6, x7, x8]
def sp__law_right : FSpec := fun os Q => ∃ n d, n ≤ 10000 ∧ os = [d] ∧ Dk n d ∧ ∀ d', Dk (n + 120) d' → Q (.pure (.bool true)) [d']
/-- _law_right: slots 0:_law_deck_here 1:_law_names_here 2:_law_good 3:_law_some 4:_law_turn 5:_law_bent_here 6:_law_thing 7:_law_kept 8:_law_name -/
def t__law_right_b1 : ST := (sSeq (sSet 5 (tCallF [true, false, false] sp__law_bent (tConsA (tName 0) (tConsA (tName 2) (tConsA (tCst (.int 3)) tNilA)))))
  (sDrop (tExtend 3 (tLstD (tConsA (tName 5) (tConsA (tCallF [true, false, false] sp__law_bent (tConsA (tName 0) (tConsA (tName 5) (tConsA (tCst (.int 3)) tNilA)))) tNilA))))))
def t__law_right_b2 : ST := (sSeq (sSet 7 (tCallB gRepr (tConsA (tName 6) tNilA)))
  (sIf (bOr (tTst (tBin gNe (tCallB gRepr (tConsA (tCallF [false] sp_are_prices (tConsA (tName 6) tNilA)) tNilA)) (tCallB gRepr (tConsA (tCallF [false] sp__law_are_costs (tConsA (tName 6) tNilA)) tNilA)))) (tTst (tBin gNe (tCallB gRepr (tConsA (tName 6) tNilA)) (tName 7)))) (sRet (fun j => [true].getD j false) (tCst (.bool false))) sNext))
def t__law_right : ST := (sSeq (sSet 1 (tCallF [true, false] sp__law_names (tConsA (tName 0) (tConsA (tCallF [true, false] sp__law_draw (tConsA (tName 0) (tConsA (tCst (.int 15)) tNilA))) tNilA))))
  (sSeq (sSet 2 (tCallB gTupOf (tConsA (tComp (tIter (tName 1)) (tgName 8) bYes (tTupD (tConsA (tName 8) (tConsA (tCallF [true, false] sp__law_any (tConsA (tName 0) (tConsA (tLstD (tConsA (tCst (.int 1)) (tConsA (tBin gPow (tCst (.int 10)) (tCst (.int 6))) (tConsA (tBin gAdd (tCst (.int 1)) (tCallF [true, false] sp__law_draw (tConsA (tName 0) (tConsA (tBin gPow (tCst (.int 10)) (tCst (.int 6))) tNilA)))) tNilA)))) tNilA))) tNilA))) [8]) tNilA)))
  (sSeq (sSet 3 (tLstD (tConsA (tName 2) (tConsA (tRev (tName 2)) (tConsA (tBin gAdd (tName 2) (tSlc (tName 2) none (some (tCst (.int 1))))) (tConsA (tCallB gTupOf (tConsA (tCallF [true, false] sp__law_turned (tConsA (tName 0) (tConsA (tName 2) tNilA))) tNilA)) (tConsA (tCst .none) (tConsA (tCst (.int 0)) (tConsA (tCst (.str "")) (tConsA (tTupD tNilA) (tConsA (tLstD tNilA) (tConsA tDct0 (tConsA (tTupD (tConsA (tTupD tNilA) tNilA)) tNilA)))))))))))))
  (sSeq (sSet 3 (tBin gAdd (tName 3) (tLstD (tConsA (tTupD (tConsA (tTupD (tConsA (tCst (.str "a")) (tConsA (tBin gPow (tCst (.int 10)) (tCst (.int 6))) tNilA))) tNilA)) (tConsA (tTupD (tConsA (tTupD (tConsA (tCst (.str "a")) (tConsA (tBin gAdd (tBin gPow (tCst (.int 10)) (tCst (.int 6))) (tCst (.int 1))) tNilA))) tNilA)) (tConsA (tTupD (tConsA (tTupD (tConsA (tCst (.str "a")) (tConsA (tCst (.bool true)) tNilA))) tNilA)) (tConsA (tTupD (tConsA (tTupD (tConsA (tCst (.str "a")) (tConsA (tCst (.int 1)) tNilA))) (tConsA (tTupD (tConsA (tCst (.str "a")) (tConsA (tCst (.int 2)) tNilA))) tNilA))) (tConsA (tTupD (tConsA (tTupD (tConsA (tCst (.str "A")) (tConsA (tCst (.int 1)) tNilA))) tNilA)) tNilA))))))))
  (sSeq (sSet 3 (tBin gAdd (tName 3) (tLstD (tConsA (tTupD (tConsA (tCst (.str "a")) (tConsA (tCst (.int 1)) tNilA))) (tConsA (tTupD (tConsA (tTupD (tConsA (tCst (.str "a")) (tConsA (tCst (.int 0)) tNilA))) tNilA)) tNilA)))))
  (sSeq (sFor (tRange (tConsA (tCst (.int 3)) tNilA)) (tgName 4) t__law_right_b1)
  (sSeq (sFor (tIter (tName 3)) (tgName 6) t__law_right_b2)
  (sRet (fun j => [true].getD j false) (tCst (.bool true))))))))))
theorem right_b1 {n : Nat} {ds L : List T} {nm : O} {go : T} {x4 x5 x6 x7 x8 : Option O} {D : AEnds} (hn : n ≤ 700000) (hd : Dk n (.lst ds)) (g1 : Gd 350 3 (10 ^ 20) go) (hL : ∀ t ∈ L, Fine t) (hl : L.length ≤ 1000)
    (nx : ∀ ds' L' x5', Dk (n + 16) (.lst ds') → (∀ t ∈ L', Fine t) → L'.length = L.length + 2 → D.nx (rE ds' nm go (some (.lst L')) x4 x5' x6 x7 x8)) :
    t__law_right_b1 D (rE ds nm go (some (.lst L)) x4 x5 x6 x7 x8) := by
  unfold t__law_right_b1 rE
  unfold rE at nx
  simp only [sSeq, sNext, sRet, sRetN, sDrop, sIf, sSet, sFor, sPar, sAsg, bAnd, bOr, bNot, tTst, tCst, tBin, tUny, tNilA, tConsA, getAll, tCallB, tCallF, tTupD, tLstD, tChainA, tChainE, tRg, rgK.eq_1, tStripX, strip1K.eq_1, strip2K.eq_1, tAndE, tOrE, tNotE, tIfE, tComp, bYes, tDct0, tRange.eq_1, tgName, tgTup.eq_1, tgCons.eq_1, tgNil.eq_1, takeAll, back.eq_1, back.eq_2, back_nil, setO, tName_k, nameK.eq_1, nameK.eq_2, nameK.eq_3, nameK.eq_4, atK.eq_1, take1_v, take1_s, takeO_v, takeO_s, takeR_v, takeR_s, prep_n, prep_tv, prep_ts, prep_f, lstK.eq_1, lstAt_k, g2K.eq_1, g2_k, g1K.eq_1, g1_k, gNK.eq_1, gN_k, boK.eq_1, bOf_k, isiK.eq_1, tIsi_k, partK.eq_1, part_n, part_s, slcK.eq_1, slcK.eq_2, slcK.eq_3, slcK.eq_4, tSlc_k, revK.eq_1, revK.eq_2, revK.eq_3, tRev_k, strMK.eq_1, tStrM_k, itK.eq_1, tIter_k, enumK.eq_1, tEnum_k, zipK.eq_1, zipK.eq_2, tZip_k, intsK.eq_1, intsK.eq_2, intsOf_k, endK.eq_1, endO_k, extK.eq_1, tExtend_k, tAppend_k, setIxK.eq_1, sSetIx_k, popAtK.eq_1, tPopAt_k, bO.eq_1, itemsOf.eq_1, itemsOf.eq_2, itemsOf.eq_3, gAdd.eq_1, gAdd.eq_2, gAdd.eq_3, gAdd.eq_4, gAdd.eq_5, gAdd.eq_6, gSub_.eq_1, gSub_.eq_2, gMul2_s, gMul2_i, gMul2_l, gMulS.eq_1, gMul.eq_1, gMul.eq_2, gFdiv.eq_1, gMod.eq_1, gPow.eq_1, gNeg.eq_1, gNeg.eq_2, gGe.eq_1, gGt.eq_1, gLe.eq_1, gLt.eq_1, gLt.eq_2, gEq.eq_1, gNe.eq_1, gNe.eq_2, gNe.eq_3, gNe.eq_4, gInW.eq_1, gInW.eq_2, gIs.eq_1, gIsNot.eq_1, gLen.eq_1, gLen.eq_2, gAllAny.eq_1, gAbs.eq_1, gInt.eq_1, gInt.eq_2, gStr.eq_1, gStr.eq_2, gStr.eq_3, gM2.eq_1, gListOf.eq_1, gListOf.eq_2, gTupOf.eq_1, gTupOf.eq_2, gSort, gSortS.eq_1, gSortD.eq_1, gSortSet.eq_1, gRepr.eq_1, gIx.eq_1, gIx.eq_2, ati0, ati1, ati2, Option.some.injEq, exists_eq, exists_eq', false_implies, Opd.slot.injEq, forall_eq, forall_eq', Opd.get.eq_1, Opd.get.eq_2, at_join, join_some, O.frz.eq_1, O.frz.eq_2, O.frz.eq_3, O.frz.eq_4, lsO.eq_1, lsO.eq_2, tuO.eq_1, seqO_l, seqO_p, seqO_t, endsOf, outsOf, startA, wipeA, List.getElem?_cons_zero, List.getElem?_cons_succ, List.length_cons, List.length_nil, List.map_cons, List.map_nil, List.set_cons_zero, List.set_cons_succ, List.replicate_succ, List.replicate_zero, List.cons_append, List.nil_append, List.getD_cons_zero, List.getD_cons_succ, if_true, if_false, Bool.false_eq_true, reduceIte, reduceCtorEq, Bool.not_true, Bool.not_false, implies_true, true_and, and_true, Nat.sub_self, Nat.reduceAdd, Nat.reduceSub, Nat.zero_add, List.all_cons, List.all_nil, Bool.and_true, Bool.true_and]
  refine ⟨n, _, _, 350, 3, 10 ^ 20, 3, by omega, by omega, rfl, hd, g1, by decide, Nat.le_refl _, by decide, fun t' d' g' hd' => ?_⟩
  obtain ⟨ds', rfl⟩ := hd'.frz
  simp only [sSeq, sNext, sRet, sRetN, sDrop, sIf, sSet, sFor, sPar, sAsg, bAnd, bOr, bNot, tTst, tCst, tBin, tUny, tNilA, tConsA, getAll, tCallB, tCallF, tTupD, tLstD, tChainA, tChainE, tRg, rgK.eq_1, tStripX, strip1K.eq_1, strip2K.eq_1, tAndE, tOrE, tNotE, tIfE, tComp, bYes, tDct0, tRange.eq_1, tgName, tgTup.eq_1, tgCons.eq_1, tgNil.eq_1, takeAll, back.eq_1, back.eq_2, back_nil, setO, tName_k, nameK.eq_1, nameK.eq_2, nameK.eq_3, nameK.eq_4, atK.eq_1, take1_v, take1_s, takeO_v, takeO_s, takeR_v, takeR_s, prep_n, prep_tv, prep_ts, prep_f, lstK.eq_1, lstAt_k, g2K.eq_1, g2_k, g1K.eq_1, g1_k, gNK.eq_1, gN_k, boK.eq_1, bOf_k, isiK.eq_1, tIsi_k, partK.eq_1, part_n, part_s, slcK.eq_1, slcK.eq_2, slcK.eq_3, slcK.eq_4, tSlc_k, revK.eq_1, revK.eq_2, revK.eq_3, tRev_k, strMK.eq_1, tStrM_k, itK.eq_1, tIter_k, enumK.eq_1, tEnum_k, zipK.eq_1, zipK.eq_2, tZip_k, intsK.eq_1, intsK.eq_2, intsOf_k, endK.eq_1, endO_k, extK.eq_1, tExtend_k, tAppend_k, setIxK.eq_1, sSetIx_k, popAtK.eq_1, tPopAt_k, bO.eq_1, itemsOf.eq_1, itemsOf.eq_2, itemsOf.eq_3, gAdd.eq_1, gAdd.eq_2, gAdd.eq_3, gAdd.eq_4, gAdd.eq_5, gAdd.eq_6, gSub_.eq_1, gSub_.eq_2, gMul2_s, gMul2_i, gMul2_l, gMulS.eq_1, gMul.eq_1, gMul.eq_2, gFdiv.eq_1, gMod.eq_1, gPow.eq_1, gNeg.eq_1, gNeg.eq_2, gGe.eq_1, gGt.eq_1, gLe.eq_1, gLt.eq_1, gLt.eq_2, gEq.eq_1, gNe.eq_1, gNe.eq_2, gNe.eq_3, gNe.eq_4, gInW.eq_1, gInW.eq_2, gIs.eq_1, gIsNot.eq_1, gLen.eq_1, gLen.eq_2, gAllAny.eq_1, gAbs.eq_1, gInt.eq_1, gInt.eq_2, gStr.eq_1, gStr.eq_2, gStr.eq_3, gM2.eq_1, gListOf.eq_1, gListOf.eq_2, gTupOf.eq_1, gTupOf.eq_2, gSort, gSortS.eq_1, gSortD.eq_1, gSortSet.eq_1, gRepr.eq_1, gIx.eq_1, gIx.eq_2, ati0, ati1, ati2, Option.some.injEq, exists_eq, exists_eq', false_implies, Opd.slot.injEq, forall_eq, forall_eq', Opd.get.eq_1, Opd.get.eq_2, at_join, join_some, O.frz.eq_1, O.frz.eq_2, O.frz.eq_3, O.frz.eq_4, lsO.eq_1, lsO.eq_2, tuO.eq_1, seqO_l, seqO_p, seqO_t, endsOf, outsOf, startA, wipeA, List.getElem?_cons_zero, List.getElem?_cons_succ, List.length_cons, List.length_nil, List.map_cons, List.map_nil, List.set_cons_zero, List.set_cons_succ, List.replicate_succ, List.replicate_zero, List.cons_append, List.nil_append, List.getD_cons_zero, List.getD_cons_succ, if_true, if_false, Bool.false_eq_true, reduceIte, reduceCtorEq, Bool.not_true, Bool.not_false, implies_true, true_and, and_true, Nat.sub_self, Nat.reduceAdd, Nat.reduceSub, Nat.zero_add, List.all_cons, List.all_nil, Bool.and_true, Bool.true_and]
  refine ⟨rfl, n + 8, _, _, 1090, 8, 10 ^ 20 + 1, 3, by omega, by omega, rfl, hd', g', by decide, by decide, by decide, fun t2 d' g2 hd' => ?_⟩
  obtain ⟨ds', rfl⟩ := hd'.frz
  simp only [sSeq, sNext, sRet, sRetN, sDrop, sIf, sSet, sFor, sPar, sAsg, bAnd, bOr, bNot, tTst, tCst, tBin, tUny, tNilA, tConsA, getAll, tCallB, tCallF, tTupD, tLstD, tChainA, tChainE, tRg, rgK.eq_1, tStripX, strip1K.eq_1, strip2K.eq_1, tAndE, tOrE, tNotE, tIfE, tComp, bYes, tDct0, tRange.eq_1, tgName, tgTup.eq_1, tgCons.eq_1, tgNil.eq_1, takeAll, back.eq_1, back.eq_2, back_nil, setO, tName_k, nameK.eq_1, nameK.eq_2, nameK.eq_3, nameK.eq_4, atK.eq_1, take1_v, take1_s, takeO_v, takeO_s, takeR_v, takeR_s, prep_n, prep_tv, prep_ts, prep_f, lstK.eq_1, lstAt_k, g2K.eq_1, g2_k, g1K.eq_1, g1_k, gNK.eq_1, gN_k, boK.eq_1, bOf_k, isiK.eq_1, tIsi_k, partK.eq_1, part_n, part_s, slcK.eq_1, slcK.eq_2, slcK.eq_3, slcK.eq_4, tSlc_k, revK.eq_1, revK.eq_2, revK.eq_3, tRev_k, strMK.eq_1, tStrM_k, itK.eq_1, tIter_k, enumK.eq_1, tEnum_k, zipK.eq_1, zipK.eq_2, tZip_k, intsK.eq_1, intsK.eq_2, intsOf_k, endK.eq_1, endO_k, extK.eq_1, tExtend_k, tAppend_k, setIxK.eq_1, sSetIx_k, popAtK.eq_1, tPopAt_k, bO.eq_1, itemsOf.eq_1, itemsOf.eq_2, itemsOf.eq_3, gAdd.eq_1, gAdd.eq_2, gAdd.eq_3, gAdd.eq_4, gAdd.eq_5, gAdd.eq_6, gSub_.eq_1, gSub_.eq_2, gMul2_s, gMul2_i, gMul2_l, gMulS.eq_1, gMul.eq_1, gMul.eq_2, gFdiv.eq_1, gMod.eq_1, gPow.eq_1, gNeg.eq_1, gNeg.eq_2, gGe.eq_1, gGt.eq_1, gLe.eq_1, gLt.eq_1, gLt.eq_2, gEq.eq_1, gNe.eq_1, gNe.eq_2, gNe.eq_3, gNe.eq_4, gInW.eq_1, gInW.eq_2, gIs.eq_1, gIsNot.eq_1, gLen.eq_1, gLen.eq_2, gAllAny.eq_1, gAbs.eq_1, gInt.eq_1, gInt.eq_2, gStr.eq_1, gStr.eq_2, gStr.eq_3, gM2.eq_1, gListOf.eq_1, gListOf.eq_2, gTupOf.eq_1, gTupOf.eq_2, gSort, gSortS.eq_1, gSortD.eq_1, gSortSet.eq_1, gRepr.eq_1, gIx.eq_1, gIx.eq_2, ati0, ati1, ati2, Option.some.injEq, exists_eq, exists_eq', false_implies, Opd.slot.injEq, forall_eq, forall_eq', Opd.get.eq_1, Opd.get.eq_2, at_join, join_some, O.frz.eq_1, O.frz.eq_2, O.frz.eq_3, O.frz.eq_4, lsO.eq_1, lsO.eq_2, tuO.eq_1, seqO_l, seqO_p, seqO_t, endsOf, outsOf, startA, wipeA, List.getElem?_cons_zero, List.getElem?_cons_succ, List.length_cons, List.length_nil, List.map_cons, List.map_nil, List.set_cons_zero, List.set_cons_succ, List.replicate_succ, List.replicate_zero, List.cons_append, List.nil_append, List.getD_cons_zero, List.getD_cons_succ, if_true, if_false, Bool.false_eq_true, reduceIte, reduceCtorEq, Bool.not_true, Bool.not_false, implies_true, true_and, and_true, Nat.sub_self, Nat.reduceAdd, Nat.reduceSub, Nat.zero_add, List.all_cons, List.all_nil, Bool.and_true, Bool.true_and]
  refine ⟨by omega, nx _ _ _ hd' (fun t m => ?_) (by simp)⟩
  rcases List.mem_append.mp m with m | m
  · exact hL t m
  · simp only [List.mem_cons, List.not_mem_nil, or_false] at m
    rcases m with rfl | rfl
    · exact g'.mono (by omega) (by omega) (by decide)
    · exact g2.mono (by omega) (by omega) (by decide)
theorem right_b2 {ds L : List T} {nm : O} {go t : T} {x4 x5 x7 x8 : Option O} {D : AEnds} (g : Fine t)
    (nx : ∀ x7', D.nx (rE ds nm go (some (.pure (.list L))) x4 x5 (some (.pure t)) x7' x8)) :
    t__law_right_b2 D (rE ds nm go (some (.pure (.list L))) x4 x5 (some (.pure t)) x7 x8) := by
  unfold t__law_right_b2 rE
  unfold rE at nx
  obtain ⟨r1, r2, r3⟩ := g.rp
  simp only [sSeq, sNext, sRet, sRetN, sDrop, sIf, sSet, sFor, sPar, sAsg, bAnd, bOr, bNot, tTst, tCst, tBin, tUny, tNilA, tConsA, getAll, tCallB, tCallF, tTupD, tLstD, tChainA, tChainE, tRg, rgK.eq_1, tStripX, strip1K.eq_1, strip2K.eq_1, tAndE, tOrE, tNotE, tIfE, tComp, bYes, tDct0, tRange.eq_1, tgName, tgTup.eq_1, tgCons.eq_1, tgNil.eq_1, takeAll, back.eq_1, back.eq_2, back_nil, setO, tName_k, nameK.eq_1, nameK.eq_2, nameK.eq_3, nameK.eq_4, atK.eq_1, take1_v, take1_s, takeO_v, takeO_s, takeR_v, takeR_s, prep_n, prep_tv, prep_ts, prep_f, lstK.eq_1, lstAt_k, g2K.eq_1, g2_k, g1K.eq_1, g1_k, gNK.eq_1, gN_k, boK.eq_1, bOf_k, isiK.eq_1, tIsi_k, partK.eq_1, part_n, part_s, slcK.eq_1, slcK.eq_2, slcK.eq_3, slcK.eq_4, tSlc_k, revK.eq_1, revK.eq_2, revK.eq_3, tRev_k, strMK.eq_1, tStrM_k, itK.eq_1, tIter_k, enumK.eq_1, tEnum_k, zipK.eq_1, zipK.eq_2, tZip_k, intsK.eq_1, intsK.eq_2, intsOf_k, endK.eq_1, endO_k, extK.eq_1, tExtend_k, tAppend_k, setIxK.eq_1, sSetIx_k, popAtK.eq_1, tPopAt_k, bO.eq_1, itemsOf.eq_1, itemsOf.eq_2, itemsOf.eq_3, gAdd.eq_1, gAdd.eq_2, gAdd.eq_3, gAdd.eq_4, gAdd.eq_5, gAdd.eq_6, gSub_.eq_1, gSub_.eq_2, gMul2_s, gMul2_i, gMul2_l, gMulS.eq_1, gMul.eq_1, gMul.eq_2, gFdiv.eq_1, gMod.eq_1, gPow.eq_1, gNeg.eq_1, gNeg.eq_2, gGe.eq_1, gGt.eq_1, gLe.eq_1, gLt.eq_1, gLt.eq_2, gEq.eq_1, gNe.eq_1, gNe.eq_2, gNe.eq_3, gNe.eq_4, gInW.eq_1, gInW.eq_2, gIs.eq_1, gIsNot.eq_1, gLen.eq_1, gLen.eq_2, gAllAny.eq_1, gAbs.eq_1, gInt.eq_1, gInt.eq_2, gStr.eq_1, gStr.eq_2, gStr.eq_3, gM2.eq_1, gListOf.eq_1, gListOf.eq_2, gTupOf.eq_1, gTupOf.eq_2, gSort, gSortS.eq_1, gSortD.eq_1, gSortSet.eq_1, gRepr.eq_1, gIx.eq_1, gIx.eq_2, ati0, ati1, ati2, Option.some.injEq, exists_eq, exists_eq', false_implies, Opd.slot.injEq, forall_eq, forall_eq', Opd.get.eq_1, Opd.get.eq_2, at_join, join_some, O.frz.eq_1, O.frz.eq_2, O.frz.eq_3, O.frz.eq_4, lsO.eq_1, lsO.eq_2, tuO.eq_1, seqO_l, seqO_p, seqO_t, endsOf, outsOf, startA, wipeA, List.getElem?_cons_zero, List.getElem?_cons_succ, List.length_cons, List.length_nil, List.map_cons, List.map_nil, List.set_cons_zero, List.set_cons_succ, List.replicate_succ, List.replicate_zero, List.cons_append, List.nil_append, List.getD_cons_zero, List.getD_cons_succ, if_true, if_false, Bool.false_eq_true, reduceIte, reduceCtorEq, Bool.not_true, Bool.not_false, implies_true, true_and, and_true, Nat.sub_self, Nat.reduceAdd, Nat.reduceSub, Nat.zero_add, List.all_cons, List.all_nil, Bool.and_true, Bool.true_and]
  have rb : ∀ b : Bool, (PyData.bool b).showable = true ∧ (PyData.bool b).depth ≤ 150 ∧ (PyData.bool b).shown.length ≤ 16777216 := fun b => by cases b <;> exact ⟨rfl, by decide, by decide⟩
  refine ⟨r1, r2, r3, rfl, t, rfl, g.sz, ?_⟩
  simp only [sSeq, sNext, sRet, sRetN, sDrop, sIf, sSet, sFor, sPar, sAsg, bAnd, bOr, bNot, tTst, tCst, tBin, tUny, tNilA, tConsA, getAll, tCallB, tCallF, tTupD, tLstD, tChainA, tChainE, tRg, rgK.eq_1, tStripX, strip1K.eq_1, strip2K.eq_1, tAndE, tOrE, tNotE, tIfE, tComp, bYes, tDct0, tRange.eq_1, tgName, tgTup.eq_1, tgCons.eq_1, tgNil.eq_1, takeAll, back.eq_1, back.eq_2, back_nil, setO, tName_k, nameK.eq_1, nameK.eq_2, nameK.eq_3, nameK.eq_4, atK.eq_1, take1_v, take1_s, takeO_v, takeO_s, takeR_v, takeR_s, prep_n, prep_tv, prep_ts, prep_f, lstK.eq_1, lstAt_k, g2K.eq_1, g2_k, g1K.eq_1, g1_k, gNK.eq_1, gN_k, boK.eq_1, bOf_k, isiK.eq_1, tIsi_k, partK.eq_1, part_n, part_s, slcK.eq_1, slcK.eq_2, slcK.eq_3, slcK.eq_4, tSlc_k, revK.eq_1, revK.eq_2, revK.eq_3, tRev_k, strMK.eq_1, tStrM_k, itK.eq_1, tIter_k, enumK.eq_1, tEnum_k, zipK.eq_1, zipK.eq_2, tZip_k, intsK.eq_1, intsK.eq_2, intsOf_k, endK.eq_1, endO_k, extK.eq_1, tExtend_k, tAppend_k, setIxK.eq_1, sSetIx_k, popAtK.eq_1, tPopAt_k, bO.eq_1, itemsOf.eq_1, itemsOf.eq_2, itemsOf.eq_3, gAdd.eq_1, gAdd.eq_2, gAdd.eq_3, gAdd.eq_4, gAdd.eq_5, gAdd.eq_6, gSub_.eq_1, gSub_.eq_2, gMul2_s, gMul2_i, gMul2_l, gMulS.eq_1, gMul.eq_1, gMul.eq_2, gFdiv.eq_1, gMod.eq_1, gPow.eq_1, gNeg.eq_1, gNeg.eq_2, gGe.eq_1, gGt.eq_1, gLe.eq_1, gLt.eq_1, gLt.eq_2, gEq.eq_1, gNe.eq_1, gNe.eq_2, gNe.eq_3, gNe.eq_4, gInW.eq_1, gInW.eq_2, gIs.eq_1, gIsNot.eq_1, gLen.eq_1, gLen.eq_2, gAllAny.eq_1, gAbs.eq_1, gInt.eq_1, gInt.eq_2, gStr.eq_1, gStr.eq_2, gStr.eq_3, gM2.eq_1, gListOf.eq_1, gListOf.eq_2, gTupOf.eq_1, gTupOf.eq_2, gSort, gSortS.eq_1, gSortD.eq_1, gSortSet.eq_1, gRepr.eq_1, gIx.eq_1, gIx.eq_2, ati0, ati1, ati2, Option.some.injEq, exists_eq, exists_eq', false_implies, Opd.slot.injEq, forall_eq, forall_eq', Opd.get.eq_1, Opd.get.eq_2, at_join, join_some, O.frz.eq_1, O.frz.eq_2, O.frz.eq_3, O.frz.eq_4, lsO.eq_1, lsO.eq_2, tuO.eq_1, seqO_l, seqO_p, seqO_t, endsOf, outsOf, startA, wipeA, List.getElem?_cons_zero, List.getElem?_cons_succ, List.length_cons, List.length_nil, List.map_cons, List.map_nil, List.set_cons_zero, List.set_cons_succ, List.replicate_succ, List.replicate_zero, List.cons_append, List.nil_append, List.getD_cons_zero, List.getD_cons_succ, if_true, if_false, Bool.false_eq_true, reduceIte, reduceCtorEq, Bool.not_true, Bool.not_false, implies_true, true_and, and_true, Nat.sub_self, Nat.reduceAdd, Nat.reduceSub, Nat.zero_add, List.all_cons, List.all_nil, Bool.and_true, Bool.true_and]
  refine ⟨(rb _).1, (rb _).2.1, (rb _).2.2, t, rfl, g.sz, g.len, ?_⟩
  simp only [sSeq, sNext, sRet, sRetN, sDrop, sIf, sSet, sFor, sPar, sAsg, bAnd, bOr, bNot, tTst, tCst, tBin, tUny, tNilA, tConsA, getAll, tCallB, tCallF, tTupD, tLstD, tChainA, tChainE, tRg, rgK.eq_1, tStripX, strip1K.eq_1, strip2K.eq_1, tAndE, tOrE, tNotE, tIfE, tComp, bYes, tDct0, tRange.eq_1, tgName, tgTup.eq_1, tgCons.eq_1, tgNil.eq_1, takeAll, back.eq_1, back.eq_2, back_nil, setO, tName_k, nameK.eq_1, nameK.eq_2, nameK.eq_3, nameK.eq_4, atK.eq_1, take1_v, take1_s, takeO_v, takeO_s, takeR_v, takeR_s, prep_n, prep_tv, prep_ts, prep_f, lstK.eq_1, lstAt_k, g2K.eq_1, g2_k, g1K.eq_1, g1_k, gNK.eq_1, gN_k, boK.eq_1, bOf_k, isiK.eq_1, tIsi_k, partK.eq_1, part_n, part_s, slcK.eq_1, slcK.eq_2, slcK.eq_3, slcK.eq_4, tSlc_k, revK.eq_1, revK.eq_2, revK.eq_3, tRev_k, strMK.eq_1, tStrM_k, itK.eq_1, tIter_k, enumK.eq_1, tEnum_k, zipK.eq_1, zipK.eq_2, tZip_k, intsK.eq_1, intsK.eq_2, intsOf_k, endK.eq_1, endO_k, extK.eq_1, tExtend_k, tAppend_k, setIxK.eq_1, sSetIx_k, popAtK.eq_1, tPopAt_k, bO.eq_1, itemsOf.eq_1, itemsOf.eq_2, itemsOf.eq_3, gAdd.eq_1, gAdd.eq_2, gAdd.eq_3, gAdd.eq_4, gAdd.eq_5, gAdd.eq_6, gSub_.eq_1, gSub_.eq_2, gMul2_s, gMul2_i, gMul2_l, gMulS.eq_1, gMul.eq_1, gMul.eq_2, gFdiv.eq_1, gMod.eq_1, gPow.eq_1, gNeg.eq_1, gNeg.eq_2, gGe.eq_1, gGt.eq_1, gLe.eq_1, gLt.eq_1, gLt.eq_2, gEq.eq_1, gNe.eq_1, gNe.eq_2, gNe.eq_3, gNe.eq_4, gInW.eq_1, gInW.eq_2, gIs.eq_1, gIsNot.eq_1, gLen.eq_1, gLen.eq_2, gAllAny.eq_1, gAbs.eq_1, gInt.eq_1, gInt.eq_2, gStr.eq_1, gStr.eq_2, gStr.eq_3, gM2.eq_1, gListOf.eq_1, gListOf.eq_2, gTupOf.eq_1, gTupOf.eq_2, gSort, gSortS.eq_1, gSortD.eq_1, gSortSet.eq_1, gRepr.eq_1, gIx.eq_1, gIx.eq_2, ati0, ati1, ati2, Option.some.injEq, exists_eq, exists_eq', false_implies, Opd.slot.injEq, forall_eq, forall_eq', Opd.get.eq_1, Opd.get.eq_2, at_join, join_some, O.frz.eq_1, O.frz.eq_2, O.frz.eq_3, O.frz.eq_4, lsO.eq_1, lsO.eq_2, tuO.eq_1, seqO_l, seqO_p, seqO_t, endsOf, outsOf, startA, wipeA, List.getElem?_cons_zero, List.getElem?_cons_succ, List.length_cons, List.length_nil, List.map_cons, List.map_nil, List.set_cons_zero, List.set_cons_succ, List.replicate_succ, List.replicate_zero, List.cons_append, List.nil_append, List.getD_cons_zero, List.getD_cons_succ, if_true, if_false, Bool.false_eq_true, reduceIte, reduceCtorEq, Bool.not_true, Bool.not_false, implies_true, true_and, and_true, Nat.sub_self, Nat.reduceAdd, Nat.reduceSub, Nat.zero_add, List.all_cons, List.all_nil, Bool.and_true, Bool.true_and]
  refine ⟨(rb _).1, (rb _).2.1, (rb _).2.2, ?_⟩
  simp only [sSeq, sNext, sRet, sRetN, sDrop, sIf, sSet, sFor, sPar, sAsg, bAnd, bOr, bNot, tTst, tCst, tBin, tUny, tNilA, tConsA, getAll, tCallB, tCallF, tTupD, tLstD, tChainA, tChainE, tRg, rgK.eq_1, tStripX, strip1K.eq_1, strip2K.eq_1, tAndE, tOrE, tNotE, tIfE, tComp, bYes, tDct0, tRange.eq_1, tgName, tgTup.eq_1, tgCons.eq_1, tgNil.eq_1, takeAll, back.eq_1, back.eq_2, back_nil, setO, tName_k, nameK.eq_1, nameK.eq_2, nameK.eq_3, nameK.eq_4, atK.eq_1, take1_v, take1_s, takeO_v, takeO_s, takeR_v, takeR_s, prep_n, prep_tv, prep_ts, prep_f, lstK.eq_1, lstAt_k, g2K.eq_1, g2_k, g1K.eq_1, g1_k, gNK.eq_1, gN_k, boK.eq_1, bOf_k, isiK.eq_1, tIsi_k, partK.eq_1, part_n, part_s, slcK.eq_1, slcK.eq_2, slcK.eq_3, slcK.eq_4, tSlc_k, revK.eq_1, revK.eq_2, revK.eq_3, tRev_k, strMK.eq_1, tStrM_k, itK.eq_1, tIter_k, enumK.eq_1, tEnum_k, zipK.eq_1, zipK.eq_2, tZip_k, intsK.eq_1, intsK.eq_2, intsOf_k, endK.eq_1, endO_k, extK.eq_1, tExtend_k, tAppend_k, setIxK.eq_1, sSetIx_k, popAtK.eq_1, tPopAt_k, bO.eq_1, itemsOf.eq_1, itemsOf.eq_2, itemsOf.eq_3, gAdd.eq_1, gAdd.eq_2, gAdd.eq_3, gAdd.eq_4, gAdd.eq_5, gAdd.eq_6, gSub_.eq_1, gSub_.eq_2, gMul2_s, gMul2_i, gMul2_l, gMulS.eq_1, gMul.eq_1, gMul.eq_2, gFdiv.eq_1, gMod.eq_1, gPow.eq_1, gNeg.eq_1, gNeg.eq_2, gGe.eq_1, gGt.eq_1, gLe.eq_1, gLt.eq_1, gLt.eq_2, gEq.eq_1, gNe.eq_1, gNe.eq_2, gNe.eq_3, gNe.eq_4, gInW.eq_1, gInW.eq_2, gIs.eq_1, gIsNot.eq_1, gLen.eq_1, gLen.eq_2, gAllAny.eq_1, gAbs.eq_1, gInt.eq_1, gInt.eq_2, gStr.eq_1, gStr.eq_2, gStr.eq_3, gM2.eq_1, gListOf.eq_1, gListOf.eq_2, gTupOf.eq_1, gTupOf.eq_2, gSort, gSortS.eq_1, gSortD.eq_1, gSortSet.eq_1, gRepr.eq_1, gIx.eq_1, gIx.eq_2, ati0, ati1, ati2, Option.some.injEq, exists_eq, exists_eq', false_implies, Opd.slot.injEq, forall_eq, forall_eq', Opd.get.eq_1, Opd.get.eq_2, at_join, join_some, O.frz.eq_1, O.frz.eq_2, O.frz.eq_3, O.frz.eq_4, lsO.eq_1, lsO.eq_2, tuO.eq_1, seqO_l, seqO_p, seqO_t, endsOf, outsOf, startA, wipeA, List.getElem?_cons_zero, List.getElem?_cons_succ, List.length_cons, List.length_nil, List.map_cons, List.map_nil, List.set_cons_zero, List.set_cons_succ, List.replicate_succ, List.replicate_zero, List.cons_append, List.nil_append, List.getD_cons_zero, List.getD_cons_succ, if_true, if_false, Bool.false_eq_true, reduceIte, reduceCtorEq, Bool.not_true, Bool.not_false, implies_true, true_and, and_true, Nat.sub_self, Nat.reduceAdd, Nat.reduceSub, Nat.zero_add, List.all_cons, List.all_nil, Bool.and_true, Bool.true_and, decide_true]
  exact ⟨r1, r2, r3, nx _⟩
theorem pl__law_right (os : List O) (Qa : O → List O → Prop) (_ : os.length = 1) (h : sp__law_right os Qa) : t__law_right (endsOf [true] Qa) (startA 9 os) := by
  obtain ⟨n, d, hn, rfl, hd, h⟩ := h
  obtain ⟨ds, rfl⟩ := hd.frz
  unfold t__law_right
  simp only [sSeq, sNext, sRet, sRetN, sDrop, sIf, sSet, sFor, sPar, sAsg, bAnd, bOr, bNot, tTst, tCst, tBin, tUny, tNilA, tConsA, getAll, tCallB, tCallF, tTupD, tLstD, tChainA, tChainE, tRg, rgK.eq_1, tStripX, strip1K.eq_1, strip2K.eq_1, tAndE, tOrE, tNotE, tIfE, tComp, bYes, tDct0, tRange.eq_1, tgName, tgTup.eq_1, tgCons.eq_1, tgNil.eq_1, takeAll, back.eq_1, back.eq_2, back_nil, setO, tName_k, nameK.eq_1, nameK.eq_2, nameK.eq_3, nameK.eq_4, atK.eq_1, take1_v, take1_s, takeO_v, takeO_s, takeR_v, takeR_s, prep_n, prep_tv, prep_ts, prep_f, lstK.eq_1, lstAt_k, g2K.eq_1, g2_k, g1K.eq_1, g1_k, gNK.eq_1, gN_k, boK.eq_1, bOf_k, isiK.eq_1, tIsi_k, partK.eq_1, part_n, part_s, slcK.eq_1, slcK.eq_2, slcK.eq_3, slcK.eq_4, tSlc_k, revK.eq_1, revK.eq_2, revK.eq_3, tRev_k, strMK.eq_1, tStrM_k, itK.eq_1, tIter_k, enumK.eq_1, tEnum_k, zipK.eq_1, zipK.eq_2, tZip_k, intsK.eq_1, intsK.eq_2, intsOf_k, endK.eq_1, endO_k, extK.eq_1, tExtend_k, tAppend_k, setIxK.eq_1, sSetIx_k, popAtK.eq_1, tPopAt_k, bO.eq_1, itemsOf.eq_1, itemsOf.eq_2, itemsOf.eq_3, gAdd.eq_1, gAdd.eq_2, gAdd.eq_3, gAdd.eq_4, gAdd.eq_5, gAdd.eq_6, gSub_.eq_1, gSub_.eq_2, gMul2_s, gMul2_i, gMul2_l, gMulS.eq_1, gMul.eq_1, gMul.eq_2, gFdiv.eq_1, gMod.eq_1, gPow.eq_1, gNeg.eq_1, gNeg.eq_2, gGe.eq_1, gGt.eq_1, gLe.eq_1, gLt.eq_1, gLt.eq_2, gEq.eq_1, gNe.eq_1, gNe.eq_2, gNe.eq_3, gNe.eq_4, gInW.eq_1, gInW.eq_2, gIs.eq_1, gIsNot.eq_1, gLen.eq_1, gLen.eq_2, gAllAny.eq_1, gAbs.eq_1, gInt.eq_1, gInt.eq_2, gStr.eq_1, gStr.eq_2, gStr.eq_3, gM2.eq_1, gListOf.eq_1, gListOf.eq_2, gTupOf.eq_1, gTupOf.eq_2, gSort, gSortS.eq_1, gSortD.eq_1, gSortSet.eq_1, gRepr.eq_1, gIx.eq_1, gIx.eq_2, ati0, ati1, ati2, Option.some.injEq, exists_eq, exists_eq', false_implies, Opd.slot.injEq, forall_eq, forall_eq', Opd.get.eq_1, Opd.get.eq_2, at_join, join_some, O.frz.eq_1, O.frz.eq_2, O.frz.eq_3, O.frz.eq_4, lsO.eq_1, lsO.eq_2, tuO.eq_1, seqO_l, seqO_p, seqO_t, endsOf, outsOf, startA, wipeA, List.getElem?_cons_zero, List.getElem?_cons_succ, List.length_cons, List.length_nil, List.map_cons, List.map_nil, List.set_cons_zero, List.set_cons_succ, List.replicate_succ, List.replicate_zero, List.cons_append, List.nil_append, List.getD_cons_zero, List.getD_cons_succ, if_true, if_false, Bool.false_eq_true, reduceIte, reduceCtorEq, Bool.not_true, Bool.not_false, implies_true, true_and, and_true, Nat.sub_self, Nat.reduceAdd, Nat.reduceSub, Nat.zero_add, List.all_cons, List.all_nil, Bool.and_true, Bool.true_and]
  refine ⟨n, _, _, by omega, rfl, hd, by decide, by decide, fun r d' h0 h1 hd' => ?_⟩
  obtain ⟨ds', rfl⟩ := hd'.frz
  simp only [sSeq, sNext, sRet, sRetN, sDrop, sIf, sSet, sFor, sPar, sAsg, bAnd, bOr, bNot, tTst, tCst, tBin, tUny, tNilA, tConsA, getAll, tCallB, tCallF, tTupD, tLstD, tChainA, tChainE, tRg, rgK.eq_1, tStripX, strip1K.eq_1, strip2K.eq_1, tAndE, tOrE, tNotE, tIfE, tComp, bYes, tDct0, tRange.eq_1, tgName, tgTup.eq_1, tgCons.eq_1, tgNil.eq_1, takeAll, back.eq_1, back.eq_2, back_nil, setO, tName_k, nameK.eq_1, nameK.eq_2, nameK.eq_3, nameK.eq_4, atK.eq_1, take1_v, take1_s, takeO_v, takeO_s, takeR_v, takeR_s, prep_n, prep_tv, prep_ts, prep_f, lstK.eq_1, lstAt_k, g2K.eq_1, g2_k, g1K.eq_1, g1_k, gNK.eq_1, gN_k, boK.eq_1, bOf_k, isiK.eq_1, tIsi_k, partK.eq_1, part_n, part_s, slcK.eq_1, slcK.eq_2, slcK.eq_3, slcK.eq_4, tSlc_k, revK.eq_1, revK.eq_2, revK.eq_3, tRev_k, strMK.eq_1, tStrM_k, itK.eq_1, tIter_k, enumK.eq_1, tEnum_k, zipK.eq_1, zipK.eq_2, tZip_k, intsK.eq_1, intsK.eq_2, intsOf_k, endK.eq_1, endO_k, extK.eq_1, tExtend_k, tAppend_k, setIxK.eq_1, sSetIx_k, popAtK.eq_1, tPopAt_k, bO.eq_1, itemsOf.eq_1, itemsOf.eq_2, itemsOf.eq_3, gAdd.eq_1, gAdd.eq_2, gAdd.eq_3, gAdd.eq_4, gAdd.eq_5, gAdd.eq_6, gSub_.eq_1, gSub_.eq_2, gMul2_s, gMul2_i, gMul2_l, gMulS.eq_1, gMul.eq_1, gMul.eq_2, gFdiv.eq_1, gMod.eq_1, gPow.eq_1, gNeg.eq_1, gNeg.eq_2, gGe.eq_1, gGt.eq_1, gLe.eq_1, gLt.eq_1, gLt.eq_2, gEq.eq_1, gNe.eq_1, gNe.eq_2, gNe.eq_3, gNe.eq_4, gInW.eq_1, gInW.eq_2, gIs.eq_1, gIsNot.eq_1, gLen.eq_1, gLen.eq_2, gAllAny.eq_1, gAbs.eq_1, gInt.eq_1, gInt.eq_2, gStr.eq_1, gStr.eq_2, gStr.eq_3, gM2.eq_1, gListOf.eq_1, gListOf.eq_2, gTupOf.eq_1, gTupOf.eq_2, gSort, gSortS.eq_1, gSortD.eq_1, gSortSet.eq_1, gRepr.eq_1, gIx.eq_1, gIx.eq_2, ati0, ati1, ati2, Option.some.injEq, exists_eq, exists_eq', false_implies, Opd.slot.injEq, forall_eq, forall_eq', Opd.get.eq_1, Opd.get.eq_2, at_join, join_some, O.frz.eq_1, O.frz.eq_2, O.frz.eq_3, O.frz.eq_4, lsO.eq_1, lsO.eq_2, tuO.eq_1, seqO_l, seqO_p, seqO_t, endsOf, outsOf, startA, wipeA, List.getElem?_cons_zero, List.getElem?_cons_succ, List.length_cons, List.length_nil, List.map_cons, List.map_nil, List.set_cons_zero, List.set_cons_succ, List.replicate_succ, List.replicate_zero, List.cons_append, List.nil_append, List.getD_cons_zero, List.getD_cons_succ, if_true, if_false, Bool.false_eq_true, reduceIte, reduceCtorEq, Bool.not_true, Bool.not_false, implies_true, true_and, and_true, Nat.sub_self, Nat.reduceAdd, Nat.reduceSub, Nat.zero_add, List.all_cons, List.all_nil, Bool.and_true, Bool.true_and]
  refine ⟨n + 1, _, r.toNat, by omega, by rw [Int.toNat_of_nonneg h0], hd', by omega, fun ss d' hl hs hd' => ?_⟩
  obtain ⟨ds', rfl⟩ := hd'.frz
  simp only [sSeq, sNext, sRet, sRetN, sDrop, sIf, sSet, sFor, sPar, sAsg, bAnd, bOr, bNot, tTst, tCst, tBin, tUny, tNilA, tConsA, getAll, tCallB, tCallF, tTupD, tLstD, tChainA, tChainE, tRg, rgK.eq_1, tStripX, strip1K.eq_1, strip2K.eq_1, tAndE, tOrE, tNotE, tIfE, tComp, bYes, tDct0, tRange.eq_1, tgName, tgTup.eq_1, tgCons.eq_1, tgNil.eq_1, takeAll, back.eq_1, back.eq_2, back_nil, setO, tName_k, nameK.eq_1, nameK.eq_2, nameK.eq_3, nameK.eq_4, atK.eq_1, take1_v, take1_s, takeO_v, takeO_s, takeR_v, takeR_s, prep_n, prep_tv, prep_ts, prep_f, lstK.eq_1, lstAt_k, g2K.eq_1, g2_k, g1K.eq_1, g1_k, gNK.eq_1, gN_k, boK.eq_1, bOf_k, isiK.eq_1, tIsi_k, partK.eq_1, part_n, part_s, slcK.eq_1, slcK.eq_2, slcK.eq_3, slcK.eq_4, tSlc_k, revK.eq_1, revK.eq_2, revK.eq_3, tRev_k, strMK.eq_1, tStrM_k, itK.eq_1, tIter_k, enumK.eq_1, tEnum_k, zipK.eq_1, zipK.eq_2, tZip_k, intsK.eq_1, intsK.eq_2, intsOf_k, endK.eq_1, endO_k, extK.eq_1, tExtend_k, tAppend_k, setIxK.eq_1, sSetIx_k, popAtK.eq_1, tPopAt_k, bO.eq_1, itemsOf.eq_1, itemsOf.eq_2, itemsOf.eq_3, gAdd.eq_1, gAdd.eq_2, gAdd.eq_3, gAdd.eq_4, gAdd.eq_5, gAdd.eq_6, gSub_.eq_1, gSub_.eq_2, gMul2_s, gMul2_i, gMul2_l, gMulS.eq_1, gMul.eq_1, gMul.eq_2, gFdiv.eq_1, gMod.eq_1, gPow.eq_1, gNeg.eq_1, gNeg.eq_2, gGe.eq_1, gGt.eq_1, gLe.eq_1, gLt.eq_1, gLt.eq_2, gEq.eq_1, gNe.eq_1, gNe.eq_2, gNe.eq_3, gNe.eq_4, gInW.eq_1, gInW.eq_2, gIs.eq_1, gIsNot.eq_1, gLen.eq_1, gLen.eq_2, gAllAny.eq_1, gAbs.eq_1, gInt.eq_1, gInt.eq_2, gStr.eq_1, gStr.eq_2, gStr.eq_3, gM2.eq_1, gListOf.eq_1, gListOf.eq_2, gTupOf.eq_1, gTupOf.eq_2, gSort, gSortS.eq_1, gSortD.eq_1, gSortSet.eq_1, gRepr.eq_1, gIx.eq_1, gIx.eq_2, ati0, ati1, ati2, Option.some.injEq, exists_eq, exists_eq', false_implies, Opd.slot.injEq, forall_eq, forall_eq', Opd.get.eq_1, Opd.get.eq_2, at_join, join_some, O.frz.eq_1, O.frz.eq_2, O.frz.eq_3, O.frz.eq_4, lsO.eq_1, lsO.eq_2, tuO.eq_1, seqO_l, seqO_p, seqO_t, endsOf, outsOf, startA, wipeA, List.getElem?_cons_zero, List.getElem?_cons_succ, List.length_cons, List.length_nil, List.map_cons, List.map_nil, List.set_cons_zero, List.set_cons_succ, List.replicate_succ, List.replicate_zero, List.cons_append, List.nil_append, List.getD_cons_zero, List.getD_cons_succ, if_true, if_false, Bool.false_eq_true, reduceIte, reduceCtorEq, Bool.not_true, Bool.not_false, implies_true, true_and, and_true, Nat.sub_self, Nat.reduceAdd, Nat.reduceSub, Nat.zero_add, List.all_cons, List.all_nil, Bool.and_true, Bool.true_and, tComp]
  refine ⟨rfl, compW_inv (fun i acc ρ => ∃ ds x8, Dk (n + 3 + 2 * i) (.lst ds) ∧ acc.length = i ∧ (∀ t ∈ acc, ∃ a, ∃ z : Int, t = .tuple [a, .int z] ∧ nameT a ∧ 0 ≤ z ∧ z ≤ 1000001) ∧
    ρ = [some (.lst ds), some (.pure (.list ss)), none, none, none, none, none, none, x8]) ss.length _ 0 _ _ (by omega) (fun i t acc ρ ts' Q' m hik hi nx => ?_) ⟨_, none, hd', rfl, by simp, rfl⟩ fun acc ρ hi => ?_⟩
  · obtain ⟨ds, x8, hd, hl, ha, rfl⟩ := hi
    unfold compW
    simp only [sSeq, sNext, sRet, sRetN, sDrop, sIf, sSet, sFor, sPar, sAsg, bAnd, bOr, bNot, tTst, tCst, tBin, tUny, tNilA, tConsA, getAll, tCallB, tCallF, tTupD, tLstD, tChainA, tChainE, tRg, rgK.eq_1, tStripX, strip1K.eq_1, strip2K.eq_1, tAndE, tOrE, tNotE, tIfE, tComp, bYes, tDct0, tRange.eq_1, tgName, tgTup.eq_1, tgCons.eq_1, tgNil.eq_1, takeAll, back.eq_1, back.eq_2, back_nil, setO, tName_k, nameK.eq_1, nameK.eq_2, nameK.eq_3, nameK.eq_4, atK.eq_1, take1_v, take1_s, takeO_v, takeO_s, takeR_v, takeR_s, prep_n, prep_tv, prep_ts, prep_f, lstK.eq_1, lstAt_k, g2K.eq_1, g2_k, g1K.eq_1, g1_k, gNK.eq_1, gN_k, boK.eq_1, bOf_k, isiK.eq_1, tIsi_k, partK.eq_1, part_n, part_s, slcK.eq_1, slcK.eq_2, slcK.eq_3, slcK.eq_4, tSlc_k, revK.eq_1, revK.eq_2, revK.eq_3, tRev_k, strMK.eq_1, tStrM_k, itK.eq_1, tIter_k, enumK.eq_1, tEnum_k, zipK.eq_1, zipK.eq_2, tZip_k, intsK.eq_1, intsK.eq_2, intsOf_k, endK.eq_1, endO_k, extK.eq_1, tExtend_k, tAppend_k, setIxK.eq_1, sSetIx_k, popAtK.eq_1, tPopAt_k, bO.eq_1, itemsOf.eq_1, itemsOf.eq_2, itemsOf.eq_3, gAdd.eq_1, gAdd.eq_2, gAdd.eq_3, gAdd.eq_4, gAdd.eq_5, gAdd.eq_6, gSub_.eq_1, gSub_.eq_2, gMul2_s, gMul2_i, gMul2_l, gMulS.eq_1, gMul.eq_1, gMul.eq_2, gFdiv.eq_1, gMod.eq_1, gPow.eq_1, gNeg.eq_1, gNeg.eq_2, gGe.eq_1, gGt.eq_1, gLe.eq_1, gLt.eq_1, gLt.eq_2, gEq.eq_1, gNe.eq_1, gNe.eq_2, gNe.eq_3, gNe.eq_4, gInW.eq_1, gInW.eq_2, gIs.eq_1, gIsNot.eq_1, gLen.eq_1, gLen.eq_2, gAllAny.eq_1, gAbs.eq_1, gInt.eq_1, gInt.eq_2, gStr.eq_1, gStr.eq_2, gStr.eq_3, gM2.eq_1, gListOf.eq_1, gListOf.eq_2, gTupOf.eq_1, gTupOf.eq_2, gSort, gSortS.eq_1, gSortD.eq_1, gSortSet.eq_1, gRepr.eq_1, gIx.eq_1, gIx.eq_2, ati0, ati1, ati2, Option.some.injEq, exists_eq, exists_eq', false_implies, Opd.slot.injEq, forall_eq, forall_eq', Opd.get.eq_1, Opd.get.eq_2, at_join, join_some, O.frz.eq_1, O.frz.eq_2, O.frz.eq_3, O.frz.eq_4, lsO.eq_1, lsO.eq_2, tuO.eq_1, seqO_l, seqO_p, seqO_t, endsOf, outsOf, startA, wipeA, List.getElem?_cons_zero, List.getElem?_cons_succ, List.length_cons, List.length_nil, List.map_cons, List.map_nil, List.set_cons_zero, List.set_cons_succ, List.replicate_succ, List.replicate_zero, List.cons_append, List.nil_append, List.getD_cons_zero, List.getD_cons_succ, if_true, if_false, Bool.false_eq_true, reduceIte, reduceCtorEq, Bool.not_true, Bool.not_false, implies_true, true_and, and_true, Nat.sub_self, Nat.reduceAdd, Nat.reduceSub, Nat.zero_add, List.all_cons, List.all_nil, Bool.and_true, Bool.true_and]
    refine ⟨rfl, by decide, by decide, by decide, by decide, by decide, by decide, n + 3 + 2 * i, _, _, by omega, rfl, hd, by decide, by decide, fun r d' h0 h1 hd' => ?_⟩
    obtain ⟨ds', rfl⟩ := hd'.frz
    have e6 : (10 : Int) ^ Int.toNat 6 = 1000000 := by decide
    rw [e6] at h1
    simp only [sSeq, sNext, sRet, sRetN, sDrop, sIf, sSet, sFor, sPar, sAsg, bAnd, bOr, bNot, tTst, tCst, tBin, tUny, tNilA, tConsA, getAll, tCallB, tCallF, tTupD, tLstD, tChainA, tChainE, tRg, rgK.eq_1, tStripX, strip1K.eq_1, strip2K.eq_1, tAndE, tOrE, tNotE, tIfE, tComp, bYes, tDct0, tRange.eq_1, tgName, tgTup.eq_1, tgCons.eq_1, tgNil.eq_1, takeAll, back.eq_1, back.eq_2, back_nil, setO, tName_k, nameK.eq_1, nameK.eq_2, nameK.eq_3, nameK.eq_4, atK.eq_1, take1_v, take1_s, takeO_v, takeO_s, takeR_v, takeR_s, prep_n, prep_tv, prep_ts, prep_f, lstK.eq_1, lstAt_k, g2K.eq_1, g2_k, g1K.eq_1, g1_k, gNK.eq_1, gN_k, boK.eq_1, bOf_k, isiK.eq_1, tIsi_k, partK.eq_1, part_n, part_s, slcK.eq_1, slcK.eq_2, slcK.eq_3, slcK.eq_4, tSlc_k, revK.eq_1, revK.eq_2, revK.eq_3, tRev_k, strMK.eq_1, tStrM_k, itK.eq_1, tIter_k, enumK.eq_1, tEnum_k, zipK.eq_1, zipK.eq_2, tZip_k, intsK.eq_1, intsK.eq_2, intsOf_k, endK.eq_1, endO_k, extK.eq_1, tExtend_k, tAppend_k, setIxK.eq_1, sSetIx_k, popAtK.eq_1, tPopAt_k, bO.eq_1, itemsOf.eq_1, itemsOf.eq_2, itemsOf.eq_3, gAdd.eq_1, gAdd.eq_2, gAdd.eq_3, gAdd.eq_4, gAdd.eq_5, gAdd.eq_6, gSub_.eq_1, gSub_.eq_2, gMul2_s, gMul2_i, gMul2_l, gMulS.eq_1, gMul.eq_1, gMul.eq_2, gFdiv.eq_1, gMod.eq_1, gPow.eq_1, gNeg.eq_1, gNeg.eq_2, gGe.eq_1, gGt.eq_1, gLe.eq_1, gLt.eq_1, gLt.eq_2, gEq.eq_1, gNe.eq_1, gNe.eq_2, gNe.eq_3, gNe.eq_4, gInW.eq_1, gInW.eq_2, gIs.eq_1, gIsNot.eq_1, gLen.eq_1, gLen.eq_2, gAllAny.eq_1, gAbs.eq_1, gInt.eq_1, gInt.eq_2, gStr.eq_1, gStr.eq_2, gStr.eq_3, gM2.eq_1, gListOf.eq_1, gListOf.eq_2, gTupOf.eq_1, gTupOf.eq_2, gSort, gSortS.eq_1, gSortD.eq_1, gSortSet.eq_1, gRepr.eq_1, gIx.eq_1, gIx.eq_2, ati0, ati1, ati2, Option.some.injEq, exists_eq, exists_eq', false_implies, Opd.slot.injEq, forall_eq, forall_eq', Opd.get.eq_1, Opd.get.eq_2, at_join, join_some, O.frz.eq_1, O.frz.eq_2, O.frz.eq_3, O.frz.eq_4, lsO.eq_1, lsO.eq_2, tuO.eq_1, seqO_l, seqO_p, seqO_t, endsOf, outsOf, startA, wipeA, List.getElem?_cons_zero, List.getElem?_cons_succ, List.length_cons, List.length_nil, List.map_cons, List.map_nil, List.set_cons_zero, List.set_cons_succ, List.replicate_succ, List.replicate_zero, List.cons_append, List.nil_append, List.getD_cons_zero, List.getD_cons_succ, if_true, if_false, Bool.false_eq_true, reduceIte, reduceCtorEq, Bool.not_true, Bool.not_false, implies_true, true_and, and_true, Nat.sub_self, Nat.reduceAdd, Nat.reduceSub, Nat.zero_add, List.all_cons, List.all_nil, Bool.and_true, Bool.true_and]
    refine any_ok (by omega) hd' (by simp) (by simp) fun th d' mm hd' => ?_
    obtain ⟨ds', rfl⟩ := hd'.frz
    obtain ⟨z, rfl, hz1, hz2⟩ : ∃ z : Int, th = .int z ∧ 0 ≤ z ∧ z ≤ 1000001 := by
      simp only [List.mem_cons, List.not_mem_nil, or_false] at mm
      rcases mm with rfl | rfl | rfl
      · exact ⟨_, rfl, by decide, by decide⟩
      · exact ⟨_, rfl, by decide, by decide⟩
      · exact ⟨_, rfl, by omega, by omega⟩
    simp only [sSeq, sNext, sRet, sRetN, sDrop, sIf, sSet, sFor, sPar, sAsg, bAnd, bOr, bNot, tTst, tCst, tBin, tUny, tNilA, tConsA, getAll, tCallB, tCallF, tTupD, tLstD, tChainA, tChainE, tRg, rgK.eq_1, tStripX, strip1K.eq_1, strip2K.eq_1, tAndE, tOrE, tNotE, tIfE, tComp, bYes, tDct0, tRange.eq_1, tgName, tgTup.eq_1, tgCons.eq_1, tgNil.eq_1, takeAll, back.eq_1, back.eq_2, back_nil, setO, tName_k, nameK.eq_1, nameK.eq_2, nameK.eq_3, nameK.eq_4, atK.eq_1, take1_v, take1_s, takeO_v, takeO_s, takeR_v, takeR_s, prep_n, prep_tv, prep_ts, prep_f, lstK.eq_1, lstAt_k, g2K.eq_1, g2_k, g1K.eq_1, g1_k, gNK.eq_1, gN_k, boK.eq_1, bOf_k, isiK.eq_1, tIsi_k, partK.eq_1, part_n, part_s, slcK.eq_1, slcK.eq_2, slcK.eq_3, slcK.eq_4, tSlc_k, revK.eq_1, revK.eq_2, revK.eq_3, tRev_k, strMK.eq_1, tStrM_k, itK.eq_1, tIter_k, enumK.eq_1, tEnum_k, zipK.eq_1, zipK.eq_2, tZip_k, intsK.eq_1, intsK.eq_2, intsOf_k, endK.eq_1, endO_k, extK.eq_1, tExtend_k, tAppend_k, setIxK.eq_1, sSetIx_k, popAtK.eq_1, tPopAt_k, bO.eq_1, itemsOf.eq_1, itemsOf.eq_2, itemsOf.eq_3, gAdd.eq_1, gAdd.eq_2, gAdd.eq_3, gAdd.eq_4, gAdd.eq_5, gAdd.eq_6, gSub_.eq_1, gSub_.eq_2, gMul2_s, gMul2_i, gMul2_l, gMulS.eq_1, gMul.eq_1, gMul.eq_2, gFdiv.eq_1, gMod.eq_1, gPow.eq_1, gNeg.eq_1, gNeg.eq_2, gGe.eq_1, gGt.eq_1, gLe.eq_1, gLt.eq_1, gLt.eq_2, gEq.eq_1, gNe.eq_1, gNe.eq_2, gNe.eq_3, gNe.eq_4, gInW.eq_1, gInW.eq_2, gIs.eq_1, gIsNot.eq_1, gLen.eq_1, gLen.eq_2, gAllAny.eq_1, gAbs.eq_1, gInt.eq_1, gInt.eq_2, gStr.eq_1, gStr.eq_2, gStr.eq_3, gM2.eq_1, gListOf.eq_1, gListOf.eq_2, gTupOf.eq_1, gTupOf.eq_2, gSort, gSortS.eq_1, gSortD.eq_1, gSortSet.eq_1, gRepr.eq_1, gIx.eq_1, gIx.eq_2, ati0, ati1, ati2, Option.some.injEq, exists_eq, exists_eq', false_implies, Opd.slot.injEq, forall_eq, forall_eq', Opd.get.eq_1, Opd.get.eq_2, at_join, join_some, O.frz.eq_1, O.frz.eq_2, O.frz.eq_3, O.frz.eq_4, lsO.eq_1, lsO.eq_2, tuO.eq_1, seqO_l, seqO_p, seqO_t, endsOf, outsOf, startA, wipeA, List.getElem?_cons_zero, List.getElem?_cons_succ, List.length_cons, List.length_nil, List.map_cons, List.map_nil, List.set_cons_zero, List.set_cons_succ, List.replicate_succ, List.replicate_zero, List.cons_append, List.nil_append, List.getD_cons_zero, List.getD_cons_succ, if_true, if_false, Bool.false_eq_true, reduceIte, reduceCtorEq, Bool.not_true, Bool.not_false, implies_true, true_and, and_true, Nat.sub_self, Nat.reduceAdd, Nat.reduceSub, Nat.zero_add, List.all_cons, List.all_nil, Bool.and_true, Bool.true_and]
    refine nx _ _ ⟨_, _, hd'.mono (by omega), by simp [hl], fun t mt => ?_, rfl⟩
    rcases List.mem_append.mp mt with mt | mt
    · exact ha t mt
    · exact ⟨_, _, List.mem_singleton.mp mt, hs _ m, hz1, hz2⟩
  · obtain ⟨ds, x8, hd, hl2, ha, rfl⟩ := hi
    have gi : ∀ t ∈ acc, Gd 11 1 (10 ^ 10) t := fun t m => by
      obtain ⟨a, z, rfl, h1, h2, h3⟩ := ha t m
      exact (Gd.tup (((name_gd h1).mono (Nat.le_refl _) (Nat.le_refl _) (Nat.zero_le _)).one'.app (Gd.int (i := z) (by omega)).one')).mono (by omega) (by omega) (Nat.le_refl _)
    have ga : Gds 160 1 (10 ^ 10) acc := gds_of gi (by omega)
    have la : ∀ t ∈ acc, PyData.canLay0 t = true ∧ t.depth ≤ 100 := fun t m => by
      obtain ⟨a, z, rfl, ⟨x, rfl, _, hx⟩, _⟩ := ha t m
      refine ⟨?_, Nat.le_trans (gi _ m).d (by omega)⟩
      simp only [PyData.canLay0, PyData.canLayAll0, Bool.and_true]
      exact canLay_asc hx
    simp only [sSeq, sNext, sRet, sRetN, sDrop, sIf, sSet, sFor, sPar, sAsg, bAnd, bOr, bNot, tTst, tCst, tBin, tUny, tNilA, tConsA, getAll, tCallB, tCallF, tTupD, tLstD, tChainA, tChainE, tRg, rgK.eq_1, tStripX, strip1K.eq_1, strip2K.eq_1, tAndE, tOrE, tNotE, tIfE, tComp, bYes, tDct0, tRange.eq_1, tgName, tgTup.eq_1, tgCons.eq_1, tgNil.eq_1, takeAll, back.eq_1, back.eq_2, back_nil, setO, tName_k, nameK.eq_1, nameK.eq_2, nameK.eq_3, nameK.eq_4, atK.eq_1, take1_v, take1_s, takeO_v, takeO_s, takeR_v, takeR_s, prep_n, prep_tv, prep_ts, prep_f, lstK.eq_1, lstAt_k, g2K.eq_1, g2_k, g1K.eq_1, g1_k, gNK.eq_1, gN_k, boK.eq_1, bOf_k, isiK.eq_1, tIsi_k, partK.eq_1, part_n, part_s, slcK.eq_1, slcK.eq_2, slcK.eq_3, slcK.eq_4, tSlc_k, revK.eq_1, revK.eq_2, revK.eq_3, tRev_k, strMK.eq_1, tStrM_k, itK.eq_1, tIter_k, enumK.eq_1, tEnum_k, zipK.eq_1, zipK.eq_2, tZip_k, intsK.eq_1, intsK.eq_2, intsOf_k, endK.eq_1, endO_k, extK.eq_1, tExtend_k, tAppend_k, setIxK.eq_1, sSetIx_k, popAtK.eq_1, tPopAt_k, bO.eq_1, itemsOf.eq_1, itemsOf.eq_2, itemsOf.eq_3, gAdd.eq_1, gAdd.eq_2, gAdd.eq_3, gAdd.eq_4, gAdd.eq_5, gAdd.eq_6, gSub_.eq_1, gSub_.eq_2, gMul2_s, gMul2_i, gMul2_l, gMulS.eq_1, gMul.eq_1, gMul.eq_2, gFdiv.eq_1, gMod.eq_1, gPow.eq_1, gNeg.eq_1, gNeg.eq_2, gGe.eq_1, gGt.eq_1, gLe.eq_1, gLt.eq_1, gLt.eq_2, gEq.eq_1, gNe.eq_1, gNe.eq_2, gNe.eq_3, gNe.eq_4, gInW.eq_1, gInW.eq_2, gIs.eq_1, gIsNot.eq_1, gLen.eq_1, gLen.eq_2, gAllAny.eq_1, gAbs.eq_1, gInt.eq_1, gInt.eq_2, gStr.eq_1, gStr.eq_2, gStr.eq_3, gM2.eq_1, gListOf.eq_1, gListOf.eq_2, gTupOf.eq_1, gTupOf.eq_2, gSort, gSortS.eq_1, gSortD.eq_1, gSortSet.eq_1, gRepr.eq_1, gIx.eq_1, gIx.eq_2, ati0, ati1, ati2, Option.some.injEq, exists_eq, exists_eq', false_implies, Opd.slot.injEq, forall_eq, forall_eq', Opd.get.eq_1, Opd.get.eq_2, at_join, join_some, O.frz.eq_1, O.frz.eq_2, O.frz.eq_3, O.frz.eq_4, lsO.eq_1, lsO.eq_2, tuO.eq_1, seqO_l, seqO_p, seqO_t, endsOf, outsOf, startA, wipeA, List.getElem?_cons_zero, List.getElem?_cons_succ, List.length_cons, List.length_nil, List.map_cons, List.map_nil, List.set_cons_zero, List.set_cons_succ, List.replicate_succ, List.replicate_zero, List.cons_append, List.nil_append, List.getD_cons_zero, List.getD_cons_succ, if_true, if_false, Bool.false_eq_true, reduceIte, reduceCtorEq, Bool.not_true, Bool.not_false, implies_true, true_and, and_true, Nat.sub_self, Nat.reduceAdd, Nat.reduceSub, Nat.zero_add, List.all_cons, List.all_nil, Bool.and_true, Bool.true_and]
    have cl := cut_len (ts := acc) (lo := none) (hi := some 1)
    refine ⟨rfl, by omega, n + 3 + 2 * ss.length, _, true, acc, by omega, rfl, hd, by omega, la, fun ts' d' hp hd' => ?_⟩
    obtain ⟨ds', rfl⟩ := hd'.frz
    have gp : Gds 160 1 (10 ^ 10) ts' := gds_of (fun t m => gi t (hp.mem_iff.mp m)) (by rw [hp.length_eq]; omega)
    simp only [sSeq, sNext, sRet, sRetN, sDrop, sIf, sSet, sFor, sPar, sAsg, bAnd, bOr, bNot, tTst, tCst, tBin, tUny, tNilA, tConsA, getAll, tCallB, tCallF, tTupD, tLstD, tChainA, tChainE, tRg, rgK.eq_1, tStripX, strip1K.eq_1, strip2K.eq_1, tAndE, tOrE, tNotE, tIfE, tComp, bYes, tDct0, tRange.eq_1, tgName, tgTup.eq_1, tgCons.eq_1, tgNil.eq_1, takeAll, back.eq_1, back.eq_2, back_nil, setO, tName_k, nameK.eq_1, nameK.eq_2, nameK.eq_3, nameK.eq_4, atK.eq_1, take1_v, take1_s, takeO_v, takeO_s, takeR_v, takeR_s, prep_n, prep_tv, prep_ts, prep_f, lstK.eq_1, lstAt_k, g2K.eq_1, g2_k, g1K.eq_1, g1_k, gNK.eq_1, gN_k, boK.eq_1, bOf_k, isiK.eq_1, tIsi_k, partK.eq_1, part_n, part_s, slcK.eq_1, slcK.eq_2, slcK.eq_3, slcK.eq_4, tSlc_k, revK.eq_1, revK.eq_2, revK.eq_3, tRev_k, strMK.eq_1, tStrM_k, itK.eq_1, tIter_k, enumK.eq_1, tEnum_k, zipK.eq_1, zipK.eq_2, tZip_k, intsK.eq_1, intsK.eq_2, intsOf_k, endK.eq_1, endO_k, extK.eq_1, tExtend_k, tAppend_k, setIxK.eq_1, sSetIx_k, popAtK.eq_1, tPopAt_k, bO.eq_1, itemsOf.eq_1, itemsOf.eq_2, itemsOf.eq_3, gAdd.eq_1, gAdd.eq_2, gAdd.eq_3, gAdd.eq_4, gAdd.eq_5, gAdd.eq_6, gSub_.eq_1, gSub_.eq_2, gMul2_s, gMul2_i, gMul2_l, gMulS.eq_1, gMul.eq_1, gMul.eq_2, gFdiv.eq_1, gMod.eq_1, gPow.eq_1, gNeg.eq_1, gNeg.eq_2, gGe.eq_1, gGt.eq_1, gLe.eq_1, gLt.eq_1, gLt.eq_2, gEq.eq_1, gNe.eq_1, gNe.eq_2, gNe.eq_3, gNe.eq_4, gInW.eq_1, gInW.eq_2, gIs.eq_1, gIsNot.eq_1, gLen.eq_1, gLen.eq_2, gAllAny.eq_1, gAbs.eq_1, gInt.eq_1, gInt.eq_2, gStr.eq_1, gStr.eq_2, gStr.eq_3, gM2.eq_1, gListOf.eq_1, gListOf.eq_2, gTupOf.eq_1, gTupOf.eq_2, gSort, gSortS.eq_1, gSortD.eq_1, gSortSet.eq_1, gRepr.eq_1, gIx.eq_1, gIx.eq_2, ati0, ati1, ati2, Option.some.injEq, exists_eq, exists_eq', false_implies, Opd.slot.injEq, forall_eq, forall_eq', Opd.get.eq_1, Opd.get.eq_2, at_join, join_some, O.frz.eq_1, O.frz.eq_2, O.frz.eq_3, O.frz.eq_4, lsO.eq_1, lsO.eq_2, tuO.eq_1, seqO_l, seqO_p, seqO_t, endsOf, outsOf, startA, wipeA, List.getElem?_cons_zero, List.getElem?_cons_succ, List.length_cons, List.length_nil, List.map_cons, List.map_nil, List.set_cons_zero, List.set_cons_succ, List.replicate_succ, List.replicate_zero, List.cons_append, List.nil_append, List.getD_cons_zero, List.getD_cons_succ, if_true, if_false, Bool.false_eq_true, reduceIte, reduceCtorEq, Bool.not_true, Bool.not_false, implies_true, true_and, and_true, Nat.sub_self, Nat.reduceAdd, Nat.reduceSub, Nat.zero_add, List.all_cons, List.all_nil, Bool.and_true, Bool.true_and]
    refine ⟨rfl, by decide, by decide, by decide, by decide, by decide, by decide, by decide, rfl, by decide, rfl, by decide, by decide, ?_⟩
    generalize hL : ([_, _, _, _, _, _, _, _, _, _, _, _, _, _, _, _, _, _] : List T) = L
    have fL : ∀ t ∈ L, Fine t := by
      rw [← hL]
      intro t m
      simp only [List.mem_cons, List.not_mem_nil, or_false] at m
      rcases m with rfl | rfl | rfl | rfl | rfl | rfl | rfl | rfl | rfl | rfl | rfl | rfl | rfl | rfl | rfl | rfl | rfl | rfl
      · exact (Gd.tup ga).mono (by omega) (by omega) (by decide)
      · exact (Gd.tup ga.rev).mono (by omega) (by omega) (by decide)
      · exact (Gd.tup (ga.app (ga.cut none (some 1)))).mono (by omega) (by omega) (by decide)
      · exact (Gd.tup gp).mono (by omega) (by omega) (by decide)
      all_goals exact ⟨by decide +kernel, by decide +kernel, by decide +kernel⟩
    have lL : L.length = 18 := by rw [← hL]; rfl
    clear hL
    refine forW_inv (fun c ρ => ∃ ds L x4 x5, Dk (n + 3 + 2 * ss.length + acc.length + 16 * c) (.lst ds) ∧ (∀ t ∈ L, Fine t) ∧ L.length = 18 + 2 * c ∧ ρ = rE ds (.pure (.list ss)) (.tuple acc) (some (.lst L)) x4 x5 none none x8) 3 _ 0 _ (by simp [rngItems]) (fun c t ρ D' mt hc2 hinv n1 _ _ _ => ?_) ⟨ds', L, none, none, hd', fL, lL, rfl⟩ fun ρ hinv => ?_
    · obtain ⟨j, hj, rfl⟩ := rng_mem mt
      obtain ⟨ds, L, x4, x5, hd, fL, lL, rfl⟩ := hinv
      refine ⟨rfl, ?_⟩
      exact right_b1 (n := n + 3 + 2 * ss.length + acc.length + 16 * c) (by omega) hd ((Gd.tup ga).mono (by omega) (by omega) (by decide)) fL (by omega) fun ds' L' x5' h1 h2 h3 => n1 _ ⟨ds', L', _, _, h1, h2, by omega, rfl⟩
    obtain ⟨ds, L, x4, x5, hd, fL, lL, rfl⟩ := hinv
    unfold rE
    simp only [sSeq, sNext, sRet, sRetN, sDrop, sIf, sSet, sFor, sPar, sAsg, bAnd, bOr, bNot, tTst, tCst, tBin, tUny, tNilA, tConsA, getAll, tCallB, tCallF, tTupD, tLstD, tChainA, tChainE, tRg, rgK.eq_1, tStripX, strip1K.eq_1, strip2K.eq_1, tAndE, tOrE, tNotE, tIfE, tComp, bYes, tDct0, tRange.eq_1, tgName, tgTup.eq_1, tgCons.eq_1, tgNil.eq_1, takeAll, back.eq_1, back.eq_2, back_nil, setO, tName_k, nameK.eq_1, nameK.eq_2, nameK.eq_3, nameK.eq_4, atK.eq_1, take1_v, take1_s, takeO_v, takeO_s, takeR_v, takeR_s, prep_n, prep_tv, prep_ts, prep_f, lstK.eq_1, lstAt_k, g2K.eq_1, g2_k, g1K.eq_1, g1_k, gNK.eq_1, gN_k, boK.eq_1, bOf_k, isiK.eq_1, tIsi_k, partK.eq_1, part_n, part_s, slcK.eq_1, slcK.eq_2, slcK.eq_3, slcK.eq_4, tSlc_k, revK.eq_1, revK.eq_2, revK.eq_3, tRev_k, strMK.eq_1, tStrM_k, itK.eq_1, tIter_k, enumK.eq_1, tEnum_k, zipK.eq_1, zipK.eq_2, tZip_k, intsK.eq_1, intsK.eq_2, intsOf_k, endK.eq_1, endO_k, extK.eq_1, tExtend_k, tAppend_k, setIxK.eq_1, sSetIx_k, popAtK.eq_1, tPopAt_k, bO.eq_1, itemsOf.eq_1, itemsOf.eq_2, itemsOf.eq_3, gAdd.eq_1, gAdd.eq_2, gAdd.eq_3, gAdd.eq_4, gAdd.eq_5, gAdd.eq_6, gSub_.eq_1, gSub_.eq_2, gMul2_s, gMul2_i, gMul2_l, gMulS.eq_1, gMul.eq_1, gMul.eq_2, gFdiv.eq_1, gMod.eq_1, gPow.eq_1, gNeg.eq_1, gNeg.eq_2, gGe.eq_1, gGt.eq_1, gLe.eq_1, gLt.eq_1, gLt.eq_2, gEq.eq_1, gNe.eq_1, gNe.eq_2, gNe.eq_3, gNe.eq_4, gInW.eq_1, gInW.eq_2, gIs.eq_1, gIsNot.eq_1, gLen.eq_1, gLen.eq_2, gAllAny.eq_1, gAbs.eq_1, gInt.eq_1, gInt.eq_2, gStr.eq_1, gStr.eq_2, gStr.eq_3, gM2.eq_1, gListOf.eq_1, gListOf.eq_2, gTupOf.eq_1, gTupOf.eq_2, gSort, gSortS.eq_1, gSortD.eq_1, gSortSet.eq_1, gRepr.eq_1, gIx.eq_1, gIx.eq_2, ati0, ati1, ati2, Option.some.injEq, exists_eq, exists_eq', false_implies, Opd.slot.injEq, forall_eq, forall_eq', Opd.get.eq_1, Opd.get.eq_2, at_join, join_some, O.frz.eq_1, O.frz.eq_2, O.frz.eq_3, O.frz.eq_4, lsO.eq_1, lsO.eq_2, tuO.eq_1, seqO_l, seqO_p, seqO_t, endsOf, outsOf, startA, wipeA, List.getElem?_cons_zero, List.getElem?_cons_succ, List.length_cons, List.length_nil, List.map_cons, List.map_nil, List.set_cons_zero, List.set_cons_succ, List.replicate_succ, List.replicate_zero, List.cons_append, List.nil_append, List.getD_cons_zero, List.getD_cons_succ, if_true, if_false, Bool.false_eq_true, reduceIte, reduceCtorEq, Bool.not_true, Bool.not_false, implies_true, true_and, and_true, Nat.sub_self, Nat.reduceAdd, Nat.reduceSub, Nat.zero_add, List.all_cons, List.all_nil, Bool.and_true, Bool.true_and]
    refine forW_inv (fun c ρ => ∃ x6 x7, ρ = rE ds (.pure (.list ss)) (.tuple acc) (some (.pure (.list L))) x4 x5 x6 x7 x8) L.length _ 0 _ (by omega) (fun c t ρ D' mt hc2 hinv n1 _ _ _ => ?_) ⟨none, none, rfl⟩ fun ρ hinv => ?_
    · obtain ⟨x6, x7, rfl⟩ := hinv
      refine ⟨rfl, ?_⟩
      exact right_b2 (fL t mt) fun x7' => n1 _ ⟨_, _, rfl⟩
    obtain ⟨x6, x7, rfl⟩ := hinv
    unfold rE
    simp only [sSeq, sNext, sRet, sRetN, sDrop, sIf, sSet, sFor, sPar, sAsg, bAnd, bOr, bNot, tTst, tCst, tBin, tUny, tNilA, tConsA, getAll, tCallB, tCallF, tTupD, tLstD, tChainA, tChainE, tRg, rgK.eq_1, tStripX, strip1K.eq_1, strip2K.eq_1, tAndE, tOrE, tNotE, tIfE, tComp, bYes, tDct0, tRange.eq_1, tgName, tgTup.eq_1, tgCons.eq_1, tgNil.eq_1, takeAll, back.eq_1, back.eq_2, back_nil, setO, tName_k, nameK.eq_1, nameK.eq_2, nameK.eq_3, nameK.eq_4, atK.eq_1, take1_v, take1_s, takeO_v, takeO_s, takeR_v, takeR_s, prep_n, prep_tv, prep_ts, prep_f, lstK.eq_1, lstAt_k, g2K.eq_1, g2_k, g1K.eq_1, g1_k, gNK.eq_1, gN_k, boK.eq_1, bOf_k, isiK.eq_1, tIsi_k, partK.eq_1, part_n, part_s, slcK.eq_1, slcK.eq_2, slcK.eq_3, slcK.eq_4, tSlc_k, revK.eq_1, revK.eq_2, revK.eq_3, tRev_k, strMK.eq_1, tStrM_k, itK.eq_1, tIter_k, enumK.eq_1, tEnum_k, zipK.eq_1, zipK.eq_2, tZip_k, intsK.eq_1, intsK.eq_2, intsOf_k, endK.eq_1, endO_k, extK.eq_1, tExtend_k, tAppend_k, setIxK.eq_1, sSetIx_k, popAtK.eq_1, tPopAt_k, bO.eq_1, itemsOf.eq_1, itemsOf.eq_2, itemsOf.eq_3, gAdd.eq_1, gAdd.eq_2, gAdd.eq_3, gAdd.eq_4, gAdd.eq_5, gAdd.eq_6, gSub_.eq_1, gSub_.eq_2, gMul2_s, gMul2_i, gMul2_l, gMulS.eq_1, gMul.eq_1, gMul.eq_2, gFdiv.eq_1, gMod.eq_1, gPow.eq_1, gNeg.eq_1, gNeg.eq_2, gGe.eq_1, gGt.eq_1, gLe.eq_1, gLt.eq_1, gLt.eq_2, gEq.eq_1, gNe.eq_1, gNe.eq_2, gNe.eq_3, gNe.eq_4, gInW.eq_1, gInW.eq_2, gIs.eq_1, gIsNot.eq_1, gLen.eq_1, gLen.eq_2, gAllAny.eq_1, gAbs.eq_1, gInt.eq_1, gInt.eq_2, gStr.eq_1, gStr.eq_2, gStr.eq_3, gM2.eq_1, gListOf.eq_1, gListOf.eq_2, gTupOf.eq_1, gTupOf.eq_2, gSort, gSortS.eq_1, gSortD.eq_1, gSortSet.eq_1, gRepr.eq_1, gIx.eq_1, gIx.eq_2, ati0, ati1, ati2, Option.some.injEq, exists_eq, exists_eq', false_implies, Opd.slot.injEq, forall_eq, forall_eq', Opd.get.eq_1, Opd.get.eq_2, at_join, join_some, O.frz.eq_1, O.frz.eq_2, O.frz.eq_3, O.frz.eq_4, lsO.eq_1, lsO.eq_2, tuO.eq_1, seqO_l, seqO_p, seqO_t, endsOf, outsOf, startA, wipeA, List.getElem?_cons_zero, List.getElem?_cons_succ, List.length_cons, List.length_nil, List.map_cons, List.map_nil, List.set_cons_zero, List.set_cons_succ, List.replicate_succ, List.replicate_zero, List.cons_append, List.nil_append, List.getD_cons_zero, List.getD_cons_succ, if_true, if_false, Bool.false_eq_true, reduceIte, reduceCtorEq, Bool.not_true, Bool.not_false, implies_true, true_and, and_true, Nat.sub_self, Nat.reduceAdd, Nat.reduceSub, Nat.zero_add, List.all_cons, List.all_nil, Bool.and_true, Bool.true_and]
    exact h _ (hd.mono (by omega))
def sp_law : FSpec := fun os Q => ∃ ts, os = [.pure (.list ts)] ∧ (∀ t ∈ ts, ∃ i : Int, t = .int i) ∧ Q (.pure (.bool true)) []
/-- law: slots 0:_law_script 1:_law_k 2:_law_deck_here 3:_law_turn -/
def t_law_b1 : ST := (sSeq (sSet 2 (tCallF [false, false] sp__law_deck (tConsA (tName 0) (tConsA (tName 1) tNilA))))
  (sIf (bNot (tTst (tCallB (gAllAny fun bs => bs.all id) (tConsA (tComp (tRange (tConsA (tCst (.int 8)) tNilA)) (tgName 3) bYes (tCallF [true] sp__law_right (tConsA (tName 2) tNilA)) [3]) tNilA)))) (sRet (fun j => [false].getD j false) (tCst (.bool false))) sNext))
def t_law : ST := (sSeq (sFor (tRange (tConsA (tCallB (gM2 fun i j => if j > i then j else i) (tConsA (tCst (.int 1)) (tConsA (tCallB (gM2 fun i j => if j < i then j else i) (tConsA (tCst (.int 3)) (tConsA (tCallB gLen (tConsA (tName 0) tNilA)) tNilA))) tNilA))) tNilA)) (tgName 1) t_law_b1)
  (sRet (fun j => [false].getD j false) (tCst (.bool true))))
theorem pl_law (os : List O) (Qa : O → List O → Prop) (_ : os.length = 1) (h : sp_law os Qa) : t_law (endsOf [false] Qa) (startA 4 os) := by
  obtain ⟨ts, rfl, hi, h⟩ := h
  unfold t_law
  simp only [sSeq, sNext, sRet, sRetN, sDrop, sIf, sSet, sFor, sPar, sAsg, bAnd, bOr, bNot, tTst, tCst, tBin, tUny, tNilA, tConsA, getAll, tCallB, tCallF, tTupD, tLstD, tChainA, tChainE, tRg, rgK.eq_1, tStripX, strip1K.eq_1, strip2K.eq_1, tAndE, tOrE, tNotE, tIfE, tComp, bYes, tDct0, tRange.eq_1, tgName, tgTup.eq_1, tgCons.eq_1, tgNil.eq_1, takeAll, back.eq_1, back.eq_2, back_nil, setO, tName_k, nameK.eq_1, nameK.eq_2, nameK.eq_3, nameK.eq_4, atK.eq_1, take1_v, take1_s, takeO_v, takeO_s, takeR_v, takeR_s, prep_n, prep_tv, prep_ts, prep_f, lstK.eq_1, lstAt_k, g2K.eq_1, g2_k, g1K.eq_1, g1_k, gNK.eq_1, gN_k, boK.eq_1, bOf_k, isiK.eq_1, tIsi_k, partK.eq_1, part_n, part_s, slcK.eq_1, slcK.eq_2, slcK.eq_3, slcK.eq_4, tSlc_k, revK.eq_1, revK.eq_2, revK.eq_3, tRev_k, strMK.eq_1, tStrM_k, itK.eq_1, tIter_k, enumK.eq_1, tEnum_k, zipK.eq_1, zipK.eq_2, tZip_k, intsK.eq_1, intsK.eq_2, intsOf_k, endK.eq_1, endO_k, extK.eq_1, tExtend_k, tAppend_k, setIxK.eq_1, sSetIx_k, popAtK.eq_1, tPopAt_k, bO.eq_1, itemsOf.eq_1, itemsOf.eq_2, itemsOf.eq_3, gAdd.eq_1, gAdd.eq_2, gAdd.eq_3, gAdd.eq_4, gAdd.eq_5, gAdd.eq_6, gSub_.eq_1, gSub_.eq_2, gMul2_s, gMul2_i, gMul2_l, gMulS.eq_1, gMul.eq_1, gMul.eq_2, gFdiv.eq_1, gMod.eq_1, gPow.eq_1, gNeg.eq_1, gNeg.eq_2, gGe.eq_1, gGt.eq_1, gLe.eq_1, gLt.eq_1, gLt.eq_2, gEq.eq_1, gNe.eq_1, gNe.eq_2, gNe.eq_3, gNe.eq_4, gInW.eq_1, gInW.eq_2, gIs.eq_1, gIsNot.eq_1, gLen.eq_1, gLen.eq_2, gAllAny.eq_1, gAbs.eq_1, gInt.eq_1, gInt.eq_2, gStr.eq_1, gStr.eq_2, gStr.eq_3, gM2.eq_1, gListOf.eq_1, gListOf.eq_2, gTupOf.eq_1, gTupOf.eq_2, gSort, gSortS.eq_1, gSortD.eq_1, gSortSet.eq_1, gRepr.eq_1, gIx.eq_1, gIx.eq_2, ati0, ati1, ati2, Option.some.injEq, exists_eq, exists_eq', false_implies, Opd.slot.injEq, forall_eq, forall_eq', Opd.get.eq_1, Opd.get.eq_2, at_join, join_some, O.frz.eq_1, O.frz.eq_2, O.frz.eq_3, O.frz.eq_4, lsO.eq_1, lsO.eq_2, tuO.eq_1, seqO_l, seqO_p, seqO_t, endsOf, outsOf, startA, wipeA, List.getElem?_cons_zero, List.getElem?_cons_succ, List.length_cons, List.length_nil, List.map_cons, List.map_nil, List.set_cons_zero, List.set_cons_succ, List.replicate_succ, List.replicate_zero, List.cons_append, List.nil_append, List.getD_cons_zero, List.getD_cons_succ, if_true, if_false, Bool.false_eq_true, reduceIte, reduceCtorEq, Bool.not_true, Bool.not_false, implies_true, true_and, and_true, Nat.sub_self, Nat.reduceAdd, Nat.reduceSub, Nat.zero_add, List.all_cons, List.all_nil, Bool.and_true, Bool.true_and]
  obtain ⟨m, e, h1, h2⟩ : ∃ m : Int, (if (if (ts.length : Int) < 3 then (ts.length : Int) else 3) > 1 then (if (ts.length : Int) < 3 then (ts.length : Int) else 3) else 1) = m ∧ 1 ≤ m ∧ m ≤ 3 := ⟨_, rfl, by split <;> split <;> omega, by split <;> split <;> omega⟩
  rw [e]
  refine ⟨by omega, by omega, forW_inv (fun c ρ => ∃ x1 x2 x3, ρ = [some (.pure (.list ts)), x1, x2, x3]) m.toNat _ 0 _ (by simp [rngItems]) (fun c t ρ D' mt hc hinv n1 _ _ _ => ?_) ⟨none, none, none, rfl⟩ fun ρ hinv => ?_⟩
  · obtain ⟨x1, x2, x3, rfl⟩ := hinv
    obtain ⟨j, hj, rfl⟩ := rng_mem mt
    refine ⟨rfl, ?_⟩
    unfold t_law_b1
    simp only [sSeq, sNext, sRet, sRetN, sDrop, sIf, sSet, sFor, sPar, sAsg, bAnd, bOr, bNot, tTst, tCst, tBin, tUny, tNilA, tConsA, getAll, tCallB, tCallF, tTupD, tLstD, tChainA, tChainE, tRg, rgK.eq_1, tStripX, strip1K.eq_1, strip2K.eq_1, tAndE, tOrE, tNotE, tIfE, tComp, bYes, tDct0, tRange.eq_1, tgName, tgTup.eq_1, tgCons.eq_1, tgNil.eq_1, takeAll, back.eq_1, back.eq_2, back_nil, setO, tName_k, nameK.eq_1, nameK.eq_2, nameK.eq_3, nameK.eq_4, atK.eq_1, take1_v, take1_s, takeO_v, takeO_s, takeR_v, takeR_s, prep_n, prep_tv, prep_ts, prep_f, lstK.eq_1, lstAt_k, g2K.eq_1, g2_k, g1K.eq_1, g1_k, gNK.eq_1, gN_k, boK.eq_1, bOf_k, isiK.eq_1, tIsi_k, partK.eq_1, part_n, part_s, slcK.eq_1, slcK.eq_2, slcK.eq_3, slcK.eq_4, tSlc_k, revK.eq_1, revK.eq_2, revK.eq_3, tRev_k, strMK.eq_1, tStrM_k, itK.eq_1, tIter_k, enumK.eq_1, tEnum_k, zipK.eq_1, zipK.eq_2, tZip_k, intsK.eq_1, intsK.eq_2, intsOf_k, endK.eq_1, endO_k, extK.eq_1, tExtend_k, tAppend_k, setIxK.eq_1, sSetIx_k, popAtK.eq_1, tPopAt_k, bO.eq_1, itemsOf.eq_1, itemsOf.eq_2, itemsOf.eq_3, gAdd.eq_1, gAdd.eq_2, gAdd.eq_3, gAdd.eq_4, gAdd.eq_5, gAdd.eq_6, gSub_.eq_1, gSub_.eq_2, gMul2_s, gMul2_i, gMul2_l, gMulS.eq_1, gMul.eq_1, gMul.eq_2, gFdiv.eq_1, gMod.eq_1, gPow.eq_1, gNeg.eq_1, gNeg.eq_2, gGe.eq_1, gGt.eq_1, gLe.eq_1, gLt.eq_1, gLt.eq_2, gEq.eq_1, gNe.eq_1, gNe.eq_2, gNe.eq_3, gNe.eq_4, gInW.eq_1, gInW.eq_2, gIs.eq_1, gIsNot.eq_1, gLen.eq_1, gLen.eq_2, gAllAny.eq_1, gAbs.eq_1, gInt.eq_1, gInt.eq_2, gStr.eq_1, gStr.eq_2, gStr.eq_3, gM2.eq_1, gListOf.eq_1, gListOf.eq_2, gTupOf.eq_1, gTupOf.eq_2, gSort, gSortS.eq_1, gSortD.eq_1, gSortSet.eq_1, gRepr.eq_1, gIx.eq_1, gIx.eq_2, ati0, ati1, ati2, Option.some.injEq, exists_eq, exists_eq', false_implies, Opd.slot.injEq, forall_eq, forall_eq', Opd.get.eq_1, Opd.get.eq_2, at_join, join_some, O.frz.eq_1, O.frz.eq_2, O.frz.eq_3, O.frz.eq_4, lsO.eq_1, lsO.eq_2, tuO.eq_1, seqO_l, seqO_p, seqO_t, endsOf, outsOf, startA, wipeA, List.getElem?_cons_zero, List.getElem?_cons_succ, List.length_cons, List.length_nil, List.map_cons, List.map_nil, List.set_cons_zero, List.set_cons_succ, List.replicate_succ, List.replicate_zero, List.cons_append, List.nil_append, List.getD_cons_zero, List.getD_cons_succ, if_true, if_false, Bool.false_eq_true, reduceIte, reduceCtorEq, Bool.not_true, Bool.not_false, implies_true, true_and, and_true, Nat.sub_self, Nat.reduceAdd, Nat.reduceSub, Nat.zero_add, List.all_cons, List.all_nil, Bool.and_true, Bool.true_and, tComp]
    refine ⟨ts, j, rfl, hi, by omega, by omega, fun d hd => ?_⟩
    obtain ⟨ds, rfl⟩ := hd.frz
    refine ⟨rfl, by decide, by decide, compW_inv (fun i acc ρ => ∃ ds x3, Dk (120 * i) (.lst ds) ∧ acc = List.replicate i (.bool true) ∧ ρ = [some (.pure (.list ts)), some (.pure (.int j)), some (.lst ds), x3]) 8 _ 0 _ _ (by simp [rngItems]) (fun i t acc ρ ts' Q' mt hik hinv nx => ?_) ⟨ds, none, hd, rfl, rfl⟩ fun acc ρ hinv => ?_⟩
    · obtain ⟨ds, x3, hd, rfl, rfl⟩ := hinv
      unfold compW
      simp only [sSeq, sNext, sRet, sRetN, sDrop, sIf, sSet, sFor, sPar, sAsg, bAnd, bOr, bNot, tTst, tCst, tBin, tUny, tNilA, tConsA, getAll, tCallB, tCallF, tTupD, tLstD, tChainA, tChainE, tRg, rgK.eq_1, tStripX, strip1K.eq_1, strip2K.eq_1, tAndE, tOrE, tNotE, tIfE, tComp, bYes, tDct0, tRange.eq_1, tgName, tgTup.eq_1, tgCons.eq_1, tgNil.eq_1, takeAll, back.eq_1, back.eq_2, back_nil, setO, tName_k, nameK.eq_1, nameK.eq_2, nameK.eq_3, nameK.eq_4, atK.eq_1, take1_v, take1_s, takeO_v, takeO_s, takeR_v, takeR_s, prep_n, prep_tv, prep_ts, prep_f, lstK.eq_1, lstAt_k, g2K.eq_1, g2_k, g1K.eq_1, g1_k, gNK.eq_1, gN_k, boK.eq_1, bOf_k, isiK.eq_1, tIsi_k, partK.eq_1, part_n, part_s, slcK.eq_1, slcK.eq_2, slcK.eq_3, slcK.eq_4, tSlc_k, revK.eq_1, revK.eq_2, revK.eq_3, tRev_k, strMK.eq_1, tStrM_k, itK.eq_1, tIter_k, enumK.eq_1, tEnum_k, zipK.eq_1, zipK.eq_2, tZip_k, intsK.eq_1, intsK.eq_2, intsOf_k, endK.eq_1, endO_k, extK.eq_1, tExtend_k, tAppend_k, setIxK.eq_1, sSetIx_k, popAtK.eq_1, tPopAt_k, bO.eq_1, itemsOf.eq_1, itemsOf.eq_2, itemsOf.eq_3, gAdd.eq_1, gAdd.eq_2, gAdd.eq_3, gAdd.eq_4, gAdd.eq_5, gAdd.eq_6, gSub_.eq_1, gSub_.eq_2, gMul2_s, gMul2_i, gMul2_l, gMulS.eq_1, gMul.eq_1, gMul.eq_2, gFdiv.eq_1, gMod.eq_1, gPow.eq_1, gNeg.eq_1, gNeg.eq_2, gGe.eq_1, gGt.eq_1, gLe.eq_1, gLt.eq_1, gLt.eq_2, gEq.eq_1, gNe.eq_1, gNe.eq_2, gNe.eq_3, gNe.eq_4, gInW.eq_1, gInW.eq_2, gIs.eq_1, gIsNot.eq_1, gLen.eq_1, gLen.eq_2, gAllAny.eq_1, gAbs.eq_1, gInt.eq_1, gInt.eq_2, gStr.eq_1, gStr.eq_2, gStr.eq_3, gM2.eq_1, gListOf.eq_1, gListOf.eq_2, gTupOf.eq_1, gTupOf.eq_2, gSort, gSortS.eq_1, gSortD.eq_1, gSortSet.eq_1, gRepr.eq_1, gIx.eq_1, gIx.eq_2, ati0, ati1, ati2, Option.some.injEq, exists_eq, exists_eq', false_implies, Opd.slot.injEq, forall_eq, forall_eq', Opd.get.eq_1, Opd.get.eq_2, at_join, join_some, O.frz.eq_1, O.frz.eq_2, O.frz.eq_3, O.frz.eq_4, lsO.eq_1, lsO.eq_2, tuO.eq_1, seqO_l, seqO_p, seqO_t, endsOf, outsOf, startA, wipeA, List.getElem?_cons_zero, List.getElem?_cons_succ, List.length_cons, List.length_nil, List.map_cons, List.map_nil, List.set_cons_zero, List.set_cons_succ, List.replicate_succ, List.replicate_zero, List.cons_append, List.nil_append, List.getD_cons_zero, List.getD_cons_succ, if_true, if_false, Bool.false_eq_true, reduceIte, reduceCtorEq, Bool.not_true, Bool.not_false, implies_true, true_and, and_true, Nat.sub_self, Nat.reduceAdd, Nat.reduceSub, Nat.zero_add, List.all_cons, List.all_nil, Bool.and_true, Bool.true_and]
      refine ⟨rfl, 120 * i, _, by omega, rfl, hd, fun d' hd' => ?_⟩
      obtain ⟨ds', rfl⟩ := hd'.frz
      simp only [sSeq, sNext, sRet, sRetN, sDrop, sIf, sSet, sFor, sPar, sAsg, bAnd, bOr, bNot, tTst, tCst, tBin, tUny, tNilA, tConsA, getAll, tCallB, tCallF, tTupD, tLstD, tChainA, tChainE, tRg, rgK.eq_1, tStripX, strip1K.eq_1, strip2K.eq_1, tAndE, tOrE, tNotE, tIfE, tComp, bYes, tDct0, tRange.eq_1, tgName, tgTup.eq_1, tgCons.eq_1, tgNil.eq_1, takeAll, back.eq_1, back.eq_2, back_nil, setO, tName_k, nameK.eq_1, nameK.eq_2, nameK.eq_3, nameK.eq_4, atK.eq_1, take1_v, take1_s, takeO_v, takeO_s, takeR_v, takeR_s, prep_n, prep_tv, prep_ts, prep_f, lstK.eq_1, lstAt_k, g2K.eq_1, g2_k, g1K.eq_1, g1_k, gNK.eq_1, gN_k, boK.eq_1, bOf_k, isiK.eq_1, tIsi_k, partK.eq_1, part_n, part_s, slcK.eq_1, slcK.eq_2, slcK.eq_3, slcK.eq_4, tSlc_k, revK.eq_1, revK.eq_2, revK.eq_3, tRev_k, strMK.eq_1, tStrM_k, itK.eq_1, tIter_k, enumK.eq_1, tEnum_k, zipK.eq_1, zipK.eq_2, tZip_k, intsK.eq_1, intsK.eq_2, intsOf_k, endK.eq_1, endO_k, extK.eq_1, tExtend_k, tAppend_k, setIxK.eq_1, sSetIx_k, popAtK.eq_1, tPopAt_k, bO.eq_1, itemsOf.eq_1, itemsOf.eq_2, itemsOf.eq_3, gAdd.eq_1, gAdd.eq_2, gAdd.eq_3, gAdd.eq_4, gAdd.eq_5, gAdd.eq_6, gSub_.eq_1, gSub_.eq_2, gMul2_s, gMul2_i, gMul2_l, gMulS.eq_1, gMul.eq_1, gMul.eq_2, gFdiv.eq_1, gMod.eq_1, gPow.eq_1, gNeg.eq_1, gNeg.eq_2, gGe.eq_1, gGt.eq_1, gLe.eq_1, gLt.eq_1, gLt.eq_2, gEq.eq_1, gNe.eq_1, gNe.eq_2, gNe.eq_3, gNe.eq_4, gInW.eq_1, gInW.eq_2, gIs.eq_1, gIsNot.eq_1, gLen.eq_1, gLen.eq_2, gAllAny.eq_1, gAbs.eq_1, gInt.eq_1, gInt.eq_2, gStr.eq_1, gStr.eq_2, gStr.eq_3, gM2.eq_1, gListOf.eq_1, gListOf.eq_2, gTupOf.eq_1, gTupOf.eq_2, gSort, gSortS.eq_1, gSortD.eq_1, gSortSet.eq_1, gRepr.eq_1, gIx.eq_1, gIx.eq_2, ati0, ati1, ati2, Option.some.injEq, exists_eq, exists_eq', false_implies, Opd.slot.injEq, forall_eq, forall_eq', Opd.get.eq_1, Opd.get.eq_2, at_join, join_some, O.frz.eq_1, O.frz.eq_2, O.frz.eq_3, O.frz.eq_4, lsO.eq_1, lsO.eq_2, tuO.eq_1, seqO_l, seqO_p, seqO_t, endsOf, outsOf, startA, wipeA, List.getElem?_cons_zero, List.getElem?_cons_succ, List.length_cons, List.length_nil, List.map_cons, List.map_nil, List.set_cons_zero, List.set_cons_succ, List.replicate_succ, List.replicate_zero, List.cons_append, List.nil_append, List.getD_cons_zero, List.getD_cons_succ, if_true, if_false, Bool.false_eq_true, reduceIte, reduceCtorEq, Bool.not_true, Bool.not_false, implies_true, true_and, and_true, Nat.sub_self, Nat.reduceAdd, Nat.reduceSub, Nat.zero_add, List.all_cons, List.all_nil, Bool.and_true, Bool.true_and]
      exact nx _ _ ⟨ds', _, hd', by rw [List.replicate_succ'], rfl⟩
    · obtain ⟨ds, x3, hd, rfl, rfl⟩ := hinv
      have e1 : boolsOf (List.replicate 8 (PyData.bool true)) = some (List.replicate 8 true) := rfl
      rw [e1]
      exact n1 _ ⟨_, _, _, rfl⟩
  · obtain ⟨x1, x2, x3, rfl⟩ := hinv
    simp only [sSeq, sNext, sRet, sRetN, sDrop, sIf, sSet, sFor, sPar, sAsg, bAnd, bOr, bNot, tTst, tCst, tBin, tUny, tNilA, tConsA, getAll, tCallB, tCallF, tTupD, tLstD, tChainA, tChainE, tRg, rgK.eq_1, tStripX, strip1K.eq_1, strip2K.eq_1, tAndE, tOrE, tNotE, tIfE, tComp, bYes, tDct0, tRange.eq_1, tgName, tgTup.eq_1, tgCons.eq_1, tgNil.eq_1, takeAll, back.eq_1, back.eq_2, back_nil, setO, tName_k, nameK.eq_1, nameK.eq_2, nameK.eq_3, nameK.eq_4, atK.eq_1, take1_v, take1_s, takeO_v, takeO_s, takeR_v, takeR_s, prep_n, prep_tv, prep_ts, prep_f, lstK.eq_1, lstAt_k, g2K.eq_1, g2_k, g1K.eq_1, g1_k, gNK.eq_1, gN_k, boK.eq_1, bOf_k, isiK.eq_1, tIsi_k, partK.eq_1, part_n, part_s, slcK.eq_1, slcK.eq_2, slcK.eq_3, slcK.eq_4, tSlc_k, revK.eq_1, revK.eq_2, revK.eq_3, tRev_k, strMK.eq_1, tStrM_k, itK.eq_1, tIter_k, enumK.eq_1, tEnum_k, zipK.eq_1, zipK.eq_2, tZip_k, intsK.eq_1, intsK.eq_2, intsOf_k, endK.eq_1, endO_k, extK.eq_1, tExtend_k, tAppend_k, setIxK.eq_1, sSetIx_k, popAtK.eq_1, tPopAt_k, bO.eq_1, itemsOf.eq_1, itemsOf.eq_2, itemsOf.eq_3, gAdd.eq_1, gAdd.eq_2, gAdd.eq_3, gAdd.eq_4, gAdd.eq_5, gAdd.eq_6, gSub_.eq_1, gSub_.eq_2, gMul2_s, gMul2_i, gMul2_l, gMulS.eq_1, gMul.eq_1, gMul.eq_2, gFdiv.eq_1, gMod.eq_1, gPow.eq_1, gNeg.eq_1, gNeg.eq_2, gGe.eq_1, gGt.eq_1, gLe.eq_1, gLt.eq_1, gLt.eq_2, gEq.eq_1, gNe.eq_1, gNe.eq_2, gNe.eq_3, gNe.eq_4, gInW.eq_1, gInW.eq_2, gIs.eq_1, gIsNot.eq_1, gLen.eq_1, gLen.eq_2, gAllAny.eq_1, gAbs.eq_1, gInt.eq_1, gInt.eq_2, gStr.eq_1, gStr.eq_2, gStr.eq_3, gM2.eq_1, gListOf.eq_1, gListOf.eq_2, gTupOf.eq_1, gTupOf.eq_2, gSort, gSortS.eq_1, gSortD.eq_1, gSortSet.eq_1, gRepr.eq_1, gIx.eq_1, gIx.eq_2, ati0, ati1, ati2, Option.some.injEq, exists_eq, exists_eq', false_implies, Opd.slot.injEq, forall_eq, forall_eq', Opd.get.eq_1, Opd.get.eq_2, at_join, join_some, O.frz.eq_1, O.frz.eq_2, O.frz.eq_3, O.frz.eq_4, lsO.eq_1, lsO.eq_2, tuO.eq_1, seqO_l, seqO_p, seqO_t, endsOf, outsOf, startA, wipeA, List.getElem?_cons_zero, List.getElem?_cons_succ, List.length_cons, List.length_nil, List.map_cons, List.map_nil, List.set_cons_zero, List.set_cons_succ, List.replicate_succ, List.replicate_zero, List.cons_append, List.nil_append, List.getD_cons_zero, List.getD_cons_succ, if_true, if_false, Bool.false_eq_true, reduceIte, reduceCtorEq, Bool.not_true, Bool.not_false, implies_true, true_and, and_true, Nat.sub_self, Nat.reduceAdd, Nat.reduceSub, Nat.zero_add, List.all_cons, List.all_nil, Bool.and_true, Bool.true_and]
    exact h
end WC

set_option Elab.async false
set_option linter.all false
set_option maxRecDepth 100000
set_option maxHeartbeats 4000000
namespace WC
open PySem PySem.Spec L2 DL WS
open PyProof.Rows hiding St
def top (i : Nat) : Stmt := PySem.Challenge.pw_gridupgrade_k37_prices_of_any_value.main.body.getD i (.Pass ⟨0, 0, 0, 0⟩)
abbrev FnP (K : PySem.W.Frag) (x : Str) (st : Stmt) (f : Addr) (fd : FuncData) : Prop := FunD K x x (defArgs st) (defBody st) (defScope st) [] [] f fd
theorem sc_is_integer : FnScope ["value", "least", "greatest"] ["value", "least", "greatest"] (defScope (top 4)) := ⟨rfl, rfl, rfl, by decide +kernel, rfl, by decide +kernel, by decide +kernel⟩
theorem ok_is_integer {P : Program} {w : World} {K : PySem.W.Frag} {mg : Str → Option Value} {base : Heap} {f : Addr} {fd : FuncData} (F : FnP K "is_integer" (top 4) f fd)
    (m_isinstance : mg "isinstance" = none)
    (m_int : mg "int" = none)
    (m_bool : mg "bool" = none)
    {spec : FSpec} (rd : ∀ os Qa, os.length = 3 → spec os Qa → t_is_integer (endsOf [false, false, false] Qa) (startA 3 os)) : FnG P w K mg base CX0 (0 + 1) f fd ["value", "least", "greatest"] (ASp K [false, false, false] spec) := by
  refine fng_ok (N := ["value", "least", "greatest"]) [false, false, false] t_is_integer F sc_is_integer rfl (fun cdv A outer s H E hr => ?_) rd
  have hr0 := hr.mono (Nat.zero_le _)
  have hu := hr0.room.un
  have nd := sc_is_integer.nd
  exact by_t (sxs_one (sx_ret (ex_and (ex_isi tyOk_int (by rfl) m_isinstance (by rfl) m_int bn_int (ex_name 0)) (ex_and (ex_not (ex_isi tyOk_bool (by rfl) m_isinstance (by rfl) m_bool bn_bool (ex_name 0))) (ex_one (ex_chainE opA_le opA_le (ex_name 1) (ex_name 0) (ex_name 2))))))) (by rfl)
theorem sc_is_name : FnScope ["value", "letter"] ["value"] (defScope (top 5)) := ⟨rfl, rfl, rfl, by decide +kernel, rfl, by decide +kernel, by decide +kernel⟩
theorem ok_is_name {P : Program} {w : World} {K : PySem.W.Frag} {mg : Str → Option Value} {base : Heap} {f : Addr} {fd : FuncData} (F : FnP K "is_name" (top 5) f fd)
    (m_isinstance : mg "isinstance" = none)
    (m_str : mg "str" = none)
    (m_len : mg "len" = none)
    (m_MOST_LETTERS : ∃ t, mg "MOST_LETTERS" = some (.int 8 t))
    (m_LETTERS : ∃ t, mg "LETTERS" = some (.str "abcdefghijklmnopqrstuvwxyz" t))
    (m_all : mg "all" = none)
    {spec : FSpec} (rd : ∀ os Qa, os.length = 1 → spec os Qa → t_is_name (endsOf [false] Qa) (startA 2 os)) : FnG P w K mg base CX0 (0 + 1) f fd ["value"] (ASp K [false] spec) := by
  refine fng_ok (N := ["value", "letter"]) [false] t_is_name F sc_is_name rfl (fun cdv A outer s H E hr => ?_) rd
  have hr0 := hr.mono (Nat.zero_le _)
  have hu := hr0.room.un
  have nd := sc_is_name.nd
  exact by_t (sxs_cons (sx_if (wx_or (tx_not (tx_val (ex_isi tyOk_str (by rfl) m_isinstance (by rfl) m_str bn_str (ex_name 0)))) (wx_or1 (tx_not (ex_chain opA_le opA_le ex_int (ex_callB callA_len (by rfl) m_len bn_len (exs_cons (ex_name 0) exs_nil)) (ex_gint (by rfl) m_MOST_LETTERS))))).tx (sxs_one (sx_ret ex_bl)) sxs_nil)
    (sxs_one (sx_ret (ex_callB (callA_all rfl) (by rfl) m_all bn_all (exs_cons (ex_lc rfl nd (ix_any (ex_name 0)) (blkOk_by (own := [("letter", 1)]) (by rfl)) (fun _ _ _ _ _ => (gx_name 1 nd rfl (by first | exact Or.inl rfl | exact Or.inr rfl))) (fun _ _ _ _ _ => bxs_nil) (fun _ _ _ _ _ => (ex_cmp (opA_in hu) (ex_name 1) (ex_gstr (by rfl) m_LETTERS) (by rfl)))) exs_nil))))) (by rfl)
theorem sc_are_ascending : FnScope ["some", "one", "other"] ["some"] (defScope (top 7)) := ⟨rfl, rfl, rfl, by decide +kernel, rfl, by decide +kernel, by decide +kernel⟩
theorem ok_are_ascending {P : Program} {w : World} {K : PySem.W.Frag} {mg : Str → Option Value} {base : Heap} {f : Addr} {fd : FuncData} (F : FnP K "are_ascending" (top 7) f fd)
    (m_zip : mg "zip" = none)
    (m_all : mg "all" = none)
    {spec : FSpec} (rd : ∀ os Qa, os.length = 1 → spec os Qa → t_are_ascending (endsOf [false] Qa) (startA 3 os)) : FnG P w K mg base CX0 (0 + 1) f fd ["some"] (ASp K [false] spec) := by
  refine fng_ok (N := ["some", "one", "other"]) [false] t_are_ascending F sc_are_ascending rfl (fun cdv A outer s H E hr => ?_) rd
  have hr0 := hr.mono (Nat.zero_le _)
  have hu := hr0.room.un
  have nd := sc_are_ascending.nd
  exact by_t (sxs_one (sx_ret (ex_callB (callA_all rfl) (by rfl) m_all bn_all (exs_cons (ex_lc rfl nd (ix_zip (by rfl) m_zip (exs_cons (ex_name 0) (exs_cons (ex_slice (ex_name 0) (ox_some ex_int) ox_none) exs_nil))) (blkOk_by (own := [("one", 1), ("other", 2)]) (by rfl)) (fun _ _ _ _ _ => (gx_tup (n := 2) rfl (gxs_cons (gx_name 1 nd rfl (by first | exact Or.inl rfl | exact Or.inr rfl)) (gxs_cons (gx_name 2 nd rfl (by first | exact Or.inl rfl | exact Or.inr rfl)) gxs_nil)))) (fun _ _ _ _ _ => bxs_nil) (fun _ _ _ _ _ => (ex_cmp (opA_lt hu) (ex_name 1) (ex_name 2) (nomark _)))) exs_nil)))) (by rfl)
theorem sc_is_price : FnScope ["value"] ["value"] (defScope (top 10)) := ⟨rfl, rfl, rfl, by decide +kernel, rfl, by decide +kernel, by decide +kernel⟩
theorem ok_is_price {P : Program} {w : World} {K : PySem.W.Frag} {mg : Str → Option Value} {base : Heap} {f : Addr} {fd : FuncData} (F : FnP K "is_price" (top 10) f fd)
    (m_GREATEST_PRICE : ∃ t, mg "GREATEST_PRICE" = some (.int 1000000 t))
    {f_is_integer : Addr} {d_is_integer : FuncData} (F_is_integer : FnG P w K mg base CX0 1 f_is_integer d_is_integer ["value", "least", "greatest"] (ASp K [false, false, false] sp_is_integer)) (g_is_integer : mg "is_integer" = some (.ref f_is_integer)) (k_is_integer : PySem.W.keepIn K (.ref f_is_integer) = true) (b_is_integer : Binds K d_is_integer ["value", "least", "greatest"] [])
    {spec : FSpec} (rd : ∀ os Qa, os.length = 1 → spec os Qa → t_is_price (endsOf [false] Qa) (startA 1 os)) : FnG P w K mg base CX0 (1 + 1) f fd ["value"] (ASp K [false] spec) := by
  refine fng_ok (N := ["value"]) [false] t_is_price F sc_is_price rfl (fun cdv A outer s H E hr => ?_) rd
  have hr0 := hr.mono (Nat.zero_le _)
  have hu := hr0.room.un
  have nd := sc_is_price.nd
  exact by_t (sxs_one (sx_ret (ex_callG F_is_integer (hr.mono (by omega)) (by rfl) g_is_integer k_is_integer b_is_integer (exs_cons (ex_name 0) (exs_cons ex_int (exs_cons (ex_gint (by rfl) m_GREATEST_PRICE) exs_nil)))))) (by rfl)
theorem sc_are_prices : FnScope ["value", "pair", "name", "price"] ["value"] (defScope (top 11)) := ⟨rfl, rfl, rfl, by decide +kernel, rfl, by decide +kernel, by decide +kernel⟩
theorem ok_are_prices {P : Program} {w : World} {K : PySem.W.Frag} {mg : Str → Option Value} {base : Heap} {f : Addr} {fd : FuncData} (F : FnP K "are_prices" (top 11) f fd)
    (m_isinstance : mg "isinstance" = none)
    (m_tuple : mg "tuple" = none)
    (m_len : mg "len" = none)
    (m_PAIR : ∃ t, mg "PAIR" = some (.int 2 t))
    (m_all : mg "all" = none)
    {f_is_name : Addr} {d_is_name : FuncData} (F_is_name : FnG P w K mg base CX0 1 f_is_name d_is_name ["value"] (ASp K [false] sp_is_name)) (g_is_name : mg "is_name" = some (.ref f_is_name)) (k_is_name : PySem.W.keepIn K (.ref f_is_name) = true) (b_is_name : Binds K d_is_name ["value"] [])
    {f_is_price : Addr} {d_is_price : FuncData} (F_is_price : FnG P w K mg base CX0 2 f_is_price d_is_price ["value"] (ASp K [false] sp_is_price)) (g_is_price : mg "is_price" = some (.ref f_is_price)) (k_is_price : PySem.W.keepIn K (.ref f_is_price) = true) (b_is_price : Binds K d_is_price ["value"] [])
    {f_are_ascending : Addr} {d_are_ascending : FuncData} (F_are_ascending : FnG P w K mg base CX0 1 f_are_ascending d_are_ascending ["some"] (ASp K [false] sp_are_ascending)) (g_are_ascending : mg "are_ascending" = some (.ref f_are_ascending)) (k_are_ascending : PySem.W.keepIn K (.ref f_are_ascending) = true) (b_are_ascending : Binds K d_are_ascending ["some"] [])
    {spec : FSpec} (rd : ∀ os Qa, os.length = 1 → spec os Qa → t_are_prices (endsOf [false] Qa) (startA 4 os)) : FnG P w K mg base CX0 (2 + 1) f fd ["value"] (ASp K [false] spec) := by
  refine fng_ok (N := ["value", "pair", "name", "price"]) [false] t_are_prices F sc_are_prices rfl (fun cdv A outer s H E hr => ?_) rd
  have hr0 := hr.mono (Nat.zero_le _)
  have hu := hr0.room.un
  have nd := sc_are_prices.nd
  exact by_t (sxs_cons (sx_if (wx_or (tx_not (tx_val (ex_isi tyOk_tuple (by rfl) m_isinstance (by rfl) m_tuple bn_tuple (ex_name 0)))) (wx_or1 (tx_not (tx_val (ex_callB (callA_all rfl) (by rfl) m_all bn_all (exs_cons (ex_lc rfl nd (ix_any (ex_name 0)) (blkOk_by (own := [("pair", 1)]) (by rfl)) (fun _ _ _ _ _ => (gx_name 1 nd rfl (by first | exact Or.inl rfl | exact Or.inr rfl))) (fun _ _ _ _ _ => bxs_nil) (fun _ _ _ _ _ => (ex_and (ex_isi tyOk_tuple (by rfl) m_isinstance (by rfl) m_tuple bn_tuple (ex_name 1)) (ex_one (ex_cmp (opA_eq hu) (ex_callB callA_len (by rfl) m_len bn_len (exs_cons (ex_name 1) exs_nil)) (ex_gint (by rfl) m_PAIR) (nomark _)))))) exs_nil)))))).tx (sxs_one (sx_ret ex_bl)) sxs_nil)
    (sxs_cons (sx_if (tx_not (tx_val (ex_callB (callA_all rfl) (by rfl) m_all bn_all (exs_cons (ex_lc rfl nd (ix_any (ex_name 0)) (blkOk_by (own := [("name", 2), ("price", 3)]) (by rfl)) (fun _ _ _ _ _ => (gx_tup (n := 2) rfl (gxs_cons (gx_name 2 nd rfl (by first | exact Or.inl rfl | exact Or.inr rfl)) (gxs_cons (gx_name 3 nd rfl (by first | exact Or.inl rfl | exact Or.inr rfl)) gxs_nil)))) (fun _ _ _ _ _ => bxs_nil) (fun _ _ _ _ _ => (ex_and (ex_callG F_is_name (hr.mono (by omega)) (by rfl) g_is_name k_is_name b_is_name (exs_cons (ex_name 2) exs_nil)) (ex_one (ex_callG F_is_price (hr.mono (by omega)) (by rfl) g_is_price k_is_price b_is_price (exs_cons (ex_name 3) exs_nil)))))) exs_nil)))) (sxs_one (sx_ret ex_bl)) sxs_nil)
    (sxs_one (sx_ret (ex_callG F_are_ascending (hr.mono (by omega)) (by rfl) g_are_ascending k_are_ascending b_are_ascending (exs_cons (ex_lc rfl nd (ix_any (ex_name 0)) (blkOk_by (own := [("name", 2), ("price", 3)]) (by rfl)) (fun _ _ _ _ _ => (gx_tup (n := 2) rfl (gxs_cons (gx_name 2 nd rfl (by first | exact Or.inl rfl | exact Or.inr rfl)) (gxs_cons (gx_name 3 nd rfl (by first | exact Or.inl rfl | exact Or.inr rfl)) gxs_nil)))) (fun _ _ _ _ _ => bxs_nil) (fun _ _ _ _ _ => (ex_name 2))) exs_nil)))))) (by rfl)
theorem sc__law_deck : FnScope ["_law_script", "_law_k", "_law_cell", "_law_own"] ["_law_script", "_law_k"] (defScope (top 13)) := ⟨rfl, rfl, rfl, by decide +kernel, rfl, by decide +kernel, by decide +kernel⟩
theorem ok__law_deck {P : Program} {w : World} {K : PySem.W.Frag} {mg : Str → Option Value} {base : Heap} {f : Addr} {fd : FuncData} (F : FnP K "_law_deck" (top 13) f fd)
    (m_len : mg "len" = none)
    (m_abs : mg "abs" = none)
    (m_int : mg "int" = none)
    {spec : FSpec} (rd : ∀ os Qa, os.length = 2 → spec os Qa → t__law_deck (endsOf [false, false] Qa) (startA 4 os)) : FnG P w K mg base CX0 (0 + 1) f fd ["_law_script", "_law_k"] (ASp K [false, false] spec) := by
  refine fng_ok (N := ["_law_script", "_law_k", "_law_cell", "_law_own"]) [false, false] t__law_deck F sc__law_deck rfl (fun cdv A outer s H E hr => ?_) rd
  have hr0 := hr.mono (Nat.zero_le _)
  have hu := hr0.room.un
  have nd := sc__law_deck.nd
  exact by_t (sxs_cons (sx_set 2 nd rfl (Or.inl rfl) (ex_bin opA_add (ex_bin opA_mul2 ex_int (ex_name 1)) ex_int))
    (sxs_cons (sx_if (tx_cmp (opA_lt hu) (ex_name 1) (ex_callB callA_len (by rfl) m_len bn_len (exs_cons (ex_name 0) exs_nil)) (nomark _)) (sxs_one (sx_set 2 nd rfl (Or.inl rfl) (ex_ix ixA_seq (ex_name 0) (ex_name 1) (fun _ _ => rfl)))) sxs_nil)
    (sxs_cons (sx_set 3 nd rfl (Or.inl rfl) (ex_bin opA_mul2 (ex_bin opA_mod (ex_callB callA_abs (by rfl) m_abs bn_abs (exs_cons (ex_name 2) exs_nil)) (ex_bin opA_pow (ex_bin opA_pow ex_int ex_int) ex_int)) (ex_callTy callA_int (by rfl) m_int bn_int (exs_cons (ex_cmp opA_ge (ex_callB callA_abs (by rfl) m_abs bn_abs (exs_cons (ex_name 2) exs_nil)) (ex_bin opA_pow ex_int ex_int) (nomark _)) exs_nil))))
    (sxs_one (sx_ret (ex_lst (exs_cons (ex_name 3) (exs_cons (ex_bin opA_mod (ex_bin opA_add (ex_bin opA_add (ex_bin opA_mul2 (ex_bin opA_mod (ex_name 2) ex_int) ex_int) (ex_bin opA_mul2 (ex_bin opA_mul2 ex_int (ex_name 1)) (ex_name 1))) ex_int) ex_int) (exs_cons ex_int exs_nil))))))))) (by rfl)
theorem sc__law_draw : FnScope ["_law_deck_here", "_law_many", "_law_digit", "_law_prime", "_law_mixed"] ["_law_deck_here", "_law_many"] (defScope (top 14)) := ⟨rfl, rfl, rfl, by decide +kernel, rfl, by decide +kernel, by decide +kernel⟩
theorem ok__law_draw {P : Program} {w : World} {K : PySem.W.Frag} {mg : Str → Option Value} {base : Heap} {f : Addr} {fd : FuncData} (F : FnP K "_law_draw" (top 14) f fd)
    {spec : FSpec} (rd : ∀ os Qa, os.length = 2 → spec os Qa → t__law_draw (endsOf [true, false] Qa) (startA 5 os)) : FnG P w K mg base CX0 (0 + 1) f fd ["_law_deck_here", "_law_many"] (ASp K [true, false] spec) := by
  refine fng_ok (N := ["_law_deck_here", "_law_many", "_law_digit", "_law_prime", "_law_mixed"]) [true, false] t__law_draw F sc__law_draw rfl (fun cdv A outer s H E hr => ?_) rd
  have hr0 := hr.mono (Nat.zero_le _)
  have hu := hr0.room.un
  have nd := sc__law_draw.nd
  exact by_t (sxs_cons (sx_if (tx_cmp opA_gt (ex_ix ixA_seq (ex_name 0) ex_int (fun _ _ => rfl)) ex_int (nomark _)) (sxs_cons (sx_set 2 nd rfl (Or.inl rfl) (ex_bin opA_mod (ex_ix ixA_seq (ex_name 0) ex_int (fun _ _ => rfl)) (ex_name 1)))
    (sxs_cons (sx_setIx 0 rfl (ex_bin opA_fdiv (ex_ix ixA_seq (ex_name 0) ex_int (fun _ _ => rfl)) (ex_name 1)) ex_int)
    (sxs_one (sx_ret (ex_name 2))))) sxs_nil)
    (sxs_cons (sx_setIx 0 rfl (ex_bin opA_add (ex_ix ixA_seq (ex_name 0) ex_int (fun _ _ => rfl)) ex_int) ex_int)
    (sxs_cons (sx_set 3 nd rfl (Or.inl rfl) (ex_ix ixA_seq (ex_lst (exs_cons ex_int (exs_cons ex_int (exs_cons ex_int (exs_cons ex_int (exs_cons ex_int exs_nil)))))) (ex_bin opA_mod (ex_ix ixA_seq (ex_name 0) ex_int (fun _ _ => rfl)) ex_int) (fun _ _ => rfl)))
    (sxs_cons (sx_set 4 nd rfl (Or.inl rfl) (ex_bin opA_mod (ex_bin opA_pow (ex_bin opA_add (ex_bin opA_add (ex_ix ixA_seq (ex_name 0) ex_int (fun _ _ => rfl)) (ex_bin opA_mul2 (ex_bin opA_mul2 ex_int (ex_ix ixA_seq (ex_name 0) ex_int (fun _ _ => rfl))) (ex_ix ixA_seq (ex_name 0) ex_int (fun _ _ => rfl)))) ex_int) ex_int) (ex_name 3)))
    (sxs_one (sx_ret (ex_bin opA_mod (ex_bin opA_fdiv (ex_bin opA_mod (ex_bin opA_mul2 (ex_name 4) (ex_bin opA_add (ex_bin opA_mod (ex_name 4) ex_int) (ex_bin opA_mul2 ex_int (ex_ix ixA_seq (ex_name 0) ex_int (fun _ _ => rfl))))) ex_int) ex_int) (ex_name 1)))))))) (by rfl)
theorem sc__law_any : FnScope ["_law_deck_here", "_law_items"] ["_law_deck_here", "_law_items"] (defScope (top 15)) := ⟨rfl, rfl, rfl, by decide +kernel, rfl, by decide +kernel, by decide +kernel⟩
theorem ok__law_any {P : Program} {w : World} {K : PySem.W.Frag} {mg : Str → Option Value} {base : Heap} {f : Addr} {fd : FuncData} (F : FnP K "_law_any" (top 15) f fd)
    (m_len : mg "len" = none)
    {f__law_draw : Addr} {d__law_draw : FuncData} (F__law_draw : FnG P w K mg base CX0 1 f__law_draw d__law_draw ["_law_deck_here", "_law_many"] (ASp K [true, false] sp__law_draw)) (g__law_draw : mg "_law_draw" = some (.ref f__law_draw)) (k__law_draw : PySem.W.keepIn K (.ref f__law_draw) = true) (b__law_draw : Binds K d__law_draw ["_law_deck_here", "_law_many"] [])
    {spec : FSpec} (rd : ∀ os Qa, os.length = 2 → spec os Qa → t__law_any (endsOf [true, false] Qa) (startA 2 os)) : FnG P w K mg base CX0 (1 + 1) f fd ["_law_deck_here", "_law_items"] (ASp K [true, false] spec) := by
  refine fng_ok (N := ["_law_deck_here", "_law_items"]) [true, false] t__law_any F sc__law_any rfl (fun cdv A outer s H E hr => ?_) rd
  have hr0 := hr.mono (Nat.zero_le _)
  have hu := hr0.room.un
  have nd := sc__law_any.nd
  exact by_t (sxs_one (sx_ret (ex_ix ixA_seq (ex_name 1) (ex_callG F__law_draw (hr.mono (by omega)) (by rfl) g__law_draw k__law_draw b__law_draw (exs_cons (ex_name 0) (exs_cons (ex_callB callA_len (by rfl) m_len bn_len (exs_cons (ex_name 1) exs_nil)) exs_nil))) (fun _ _ => rfl)))) (by rfl)
theorem sc__law_turned : FnScope ["_law_deck_here", "_law_items", "_law_left", "_law_found"] ["_law_deck_here", "_law_items"] (defScope (top 16)) := ⟨rfl, rfl, rfl, by decide +kernel, rfl, by decide +kernel, by decide +kernel⟩
theorem ok__law_turned {P : Program} {w : World} {K : PySem.W.Frag} {mg : Str → Option Value} {base : Heap} {f : Addr} {fd : FuncData} (F : FnP K "_law_turned" (top 16) f fd)
    (m_list : mg "list" = none)
    (m_len : mg "len" = none)
    {f__law_draw : Addr} {d__law_draw : FuncData} (F__law_draw : FnG P w K mg base CX0 1 f__law_draw d__law_draw ["_law_deck_here", "_law_many"] (ASp K [true, false] sp__law_draw)) (g__law_draw : mg "_law_draw" = some (.ref f__law_draw)) (k__law_draw : PySem.W.keepIn K (.ref f__law_draw) = true) (b__law_draw : Binds K d__law_draw ["_law_deck_here", "_law_many"] [])
    {spec : FSpec} (rd : ∀ os Qa, os.length = 2 → spec os Qa → t__law_turned (endsOf [true, false] Qa) (startA 4 os)) : FnG P w K mg base CX0 (1 + 1) f fd ["_law_deck_here", "_law_items"] (ASp K [true, false] spec) := by
  refine fng_ok (N := ["_law_deck_here", "_law_items", "_law_left", "_law_found"]) [true, false] t__law_turned F sc__law_turned rfl (fun cdv A outer s H E hr => ?_) rd
  have hr0 := hr.mono (Nat.zero_le _)
  have hu := hr0.room.un
  have nd := sc__law_turned.nd
  exact by_t (sxs_cons (sx_par2 2 3 rfl nd rfl rfl rfl rfl (exs_cons (ex_callTy (callA_list rfl) (by rfl) m_list bn_list (exs_cons (ex_name 1) exs_nil)) (exs_cons (ex_lst exs_nil) exs_nil)) rfl)
    (sxs_cons (sx_while PassesOwn.never (tx_cmp (opA_ne hu) (ex_name 2) (ex_lst exs_nil) (nomark _)) (sxs_one (sx_expr (ex_append 3 rfl (ex_popAt 2 rfl (ex_callG F__law_draw (hr.mono (by omega)) (by rfl) g__law_draw k__law_draw b__law_draw (exs_cons (ex_name 0) (exs_cons (ex_callB callA_len (by rfl) m_len bn_len (exs_cons (ex_name 2) exs_nil)) exs_nil))))))))
    (sxs_one (sx_ret (ex_name 3))))) (by rfl)
theorem sc__law_names : FnScope ["_law_deck_here", "_law_many", "_law_stem", "_law_first", "_law_letters", "_law_at"] ["_law_deck_here", "_law_many"] (defScope (top 17)) := ⟨rfl, rfl, rfl, by decide +kernel, rfl, by decide +kernel, by decide +kernel⟩
theorem ok__law_names {P : Program} {w : World} {K : PySem.W.Frag} {mg : Str → Option Value} {base : Heap} {f : Addr} {fd : FuncData} (F : FnP K "_law_names" (top 17) f fd)
    {f__law_any : Addr} {d__law_any : FuncData} (F__law_any : FnG P w K mg base CX0 2 f__law_any d__law_any ["_law_deck_here", "_law_items"] (ASp K [true, false] sp__law_any)) (g__law_any : mg "_law_any" = some (.ref f__law_any)) (k__law_any : PySem.W.keepIn K (.ref f__law_any) = true) (b__law_any : Binds K d__law_any ["_law_deck_here", "_law_items"] [])
    {f__law_draw : Addr} {d__law_draw : FuncData} (F__law_draw : FnG P w K mg base CX0 1 f__law_draw d__law_draw ["_law_deck_here", "_law_many"] (ASp K [true, false] sp__law_draw)) (g__law_draw : mg "_law_draw" = some (.ref f__law_draw)) (k__law_draw : PySem.W.keepIn K (.ref f__law_draw) = true) (b__law_draw : Binds K d__law_draw ["_law_deck_here", "_law_many"] [])
    (m_range : mg "range" = none)
    (m_sorted : mg "sorted" = none)
    {spec : FSpec} (rd : ∀ os Qa, os.length = 2 → spec os Qa → t__law_names (endsOf [true, false] Qa) (startA 6 os)) : FnG P w K mg base CX0 (2 + 1) f fd ["_law_deck_here", "_law_many"] (ASp K [true, false] spec) := by
  refine fng_ok (N := ["_law_deck_here", "_law_many", "_law_stem", "_law_first", "_law_letters", "_law_at"]) [true, false] t__law_names F sc__law_names rfl (fun cdv A outer s H E hr => ?_) rd
  have hr0 := hr.mono (Nat.zero_le _)
  have hu := hr0.room.un
  have nd := sc__law_names.nd
  exact by_t (sxs_cons (sx_parC2 2 3 rfl nd rfl rfl (Or.inr rfl) (Or.inr rfl) (exs_cons (ex_callG F__law_any (hr.mono (by omega)) (by rfl) g__law_any k__law_any b__law_any (exs_cons (ex_name 0) (exs_cons (ex_lst (exs_cons ex_str (exs_cons ex_str (exs_cons ex_str (exs_cons ex_str (exs_cons ex_str exs_nil)))))) exs_nil))) (exs_cons (ex_callG F__law_draw (hr.mono (by omega)) (by rfl) g__law_draw k__law_draw b__law_draw (exs_cons (ex_name 0) (exs_cons ex_int exs_nil))) exs_nil)))
    (sxs_cons (sx_set 4 nd rfl (Or.inr rfl) ex_str)
    (sxs_one (sx_ret (ex_callB (callA_sort hu) (by rfl) m_sorted bn_sorted (exs_cons (ex_lc rfl nd (ix_range1 (by rfl) m_range (exs_cons (ex_name 1) exs_nil)) (blkOk_by (own := [("_law_at", 5)]) (by rfl)) (fun _ _ _ _ _ => (gx_name 5 nd rfl (by first | exact Or.inl rfl | exact Or.inr rfl))) (fun _ _ _ _ _ => bxs_nil) (fun _ _ _ _ _ => (ex_bin opA_add (ex_name 2) (ex_ix ixA_seq (ex_name 4) (ex_bin opA_mod (ex_bin opA_add (ex_name 3) (ex_bin opA_mul2 ex_int (ex_name 5))) ex_int) (fun _ _ => rfl))))) exs_nil)))))) (by rfl)
theorem sc__law_odd : FnScope ["_law_deck_here", "_law_thing", "_law_some"] ["_law_deck_here", "_law_thing"] (defScope (top 18)) := ⟨rfl, rfl, rfl, by decide +kernel, rfl, by decide +kernel, by decide +kernel⟩
theorem ok__law_odd {P : Program} {w : World} {K : PySem.W.Frag} {mg : Str → Option Value} {base : Heap} {f : Addr} {fd : FuncData} (F : FnP K "_law_odd" (top 18) f fd)
    (m_isinstance : mg "isinstance" = none)
    (m_tuple : mg "tuple" = none)
    (m_list : mg "list" = none)
    (m_str : mg "str" = none)
    (m_int : mg "int" = none)
    {f__law_any : Addr} {d__law_any : FuncData} (F__law_any : FnG P w K mg base CX0 2 f__law_any d__law_any ["_law_deck_here", "_law_items"] (ASp K [true, false] sp__law_any)) (g__law_any : mg "_law_any" = some (.ref f__law_any)) (k__law_any : PySem.W.keepIn K (.ref f__law_any) = true) (b__law_any : Binds K d__law_any ["_law_deck_here", "_law_items"] [])
    {spec : FSpec} (rd : ∀ os Qa, os.length = 2 → spec os Qa → t__law_odd (endsOf [true, false] Qa) (startA 3 os)) : FnG P w K mg base CX0 (2 + 1) f fd ["_law_deck_here", "_law_thing"] (ASp K [true, false] spec) := by
  refine fng_ok (N := ["_law_deck_here", "_law_thing", "_law_some"]) [true, false] t__law_odd F sc__law_odd rfl (fun cdv A outer s H E hr => ?_) rd
  have hr0 := hr.mono (Nat.zero_le _)
  have hu := hr0.room.un
  have nd := sc__law_odd.nd
  exact by_t (sxs_cons (sx_set 2 nd rfl (Or.inl rfl) (ex_lst (exs_cons ex_non (exs_cons ex_bl (exs_cons ex_bl (exs_cons ex_int (exs_cons ex_int (exs_cons (ex_un unA_neg ex_int) (exs_cons ex_int (exs_cons (ex_bin opA_pow ex_int ex_int) (exs_cons ex_str (exs_cons ex_str (exs_cons ex_str (exs_cons ex_str (exs_cons (ex_tup exs_nil) (exs_cons (ex_lst exs_nil) (exs_cons ex_dct0 (exs_cons (ex_tup (exs_cons ex_int exs_nil)) (exs_cons (ex_tup (exs_cons ex_str exs_nil)) (exs_cons (ex_tup (exs_cons (ex_tup (exs_cons ex_str (exs_cons ex_int exs_nil))) exs_nil)) (exs_cons (ex_lst (exs_cons ex_int exs_nil)) exs_nil)))))))))))))))))))))
    (sxs_cons (sx_if (tx_val (ex_isi tyOk_tuple (by rfl) m_isinstance (by rfl) m_tuple bn_tuple (ex_name 1))) (sxs_one (sx_set 2 nd rfl (Or.inl rfl) (ex_bin opA_add (ex_name 2) (ex_bin opA_mul2 (ex_lst (exs_cons (ex_callTy (callA_list rfl) (by rfl) m_list bn_list (exs_cons (ex_name 1) exs_nil)) (exs_cons (ex_slice (ex_name 1) ox_none (ox_some (ex_un unA_neg ex_int))) (exs_cons (ex_bin opA_add (ex_name 1) (ex_slice (ex_name 1) (ox_some (ex_un unA_neg ex_int)) ox_none)) (exs_cons (ex_rev (ex_name 1)) (exs_cons (ex_tup (exs_cons (ex_name 1) exs_nil)) (exs_cons (ex_slice (ex_name 1) (ox_some ex_int) ox_none) exs_nil))))))) ex_int)))) (sxs_one (sx_if (tx_val (ex_isi tyOk_str (by rfl) m_isinstance (by rfl) m_str bn_str (ex_name 1))) (sxs_one (sx_set 2 nd rfl (Or.inl rfl) (ex_bin opA_add (ex_name 2) (ex_bin opA_mul2 (ex_lst (exs_cons (ex_bin opA_add (ex_name 1) ex_str) (exs_cons (ex_slice (ex_name 1) ox_none (ox_some (ex_un unA_neg ex_int))) (exs_cons (ex_upper (ex_name 1)) (exs_cons (ex_bin opA_add (ex_name 1) ex_str) (exs_cons (ex_tup (exs_cons (ex_name 1) exs_nil)) (exs_cons (ex_lst (exs_cons (ex_name 1) exs_nil)) exs_nil))))))) ex_int)))) (sxs_one (sx_if (tx_val (ex_isi tyOk_int (by rfl) m_isinstance (by rfl) m_int bn_int (ex_name 1))) (sxs_one (sx_set 2 nd rfl (Or.inl rfl) (ex_bin opA_add (ex_name 2) (ex_bin opA_mul2 (ex_lst (exs_cons (ex_bin opA_add (ex_name 1) ex_int) (exs_cons (ex_bin opA_sub (ex_name 1) ex_int) (exs_cons (ex_callTy callA_str (by rfl) m_str bn_str (exs_cons (ex_name 1) exs_nil)) (exs_cons (ex_cmp (opA_eq hu) (ex_name 1) ex_int (nomark _)) (exs_cons (ex_un unA_neg (ex_name 1)) exs_nil)))))) ex_int)))) sxs_nil)))))
    (sxs_one (sx_ret (ex_callG F__law_any (hr.mono (by omega)) (by rfl) g__law_any k__law_any b__law_any (exs_cons (ex_name 0) (exs_cons (ex_name 2) exs_nil))))))) (by rfl)
theorem sc__law_bent : FnScope ["_law_deck_here", "_law_thing", "_law_deep", "_law_at"] ["_law_deck_here", "_law_thing", "_law_deep"] (defScope (top 19)) := ⟨rfl, rfl, rfl, by decide +kernel, rfl, by decide +kernel, by decide +kernel⟩
theorem ok__law_bent {k0 : Nat} (hk0 : 3 ≤ k0) {sp__law_bent : FSpec} {P : Program} {w : World} {K : PySem.W.Frag} {mg : Str → Option Value} {base : Heap} {f : Addr} {fd : FuncData} (F : FnP K "_law_bent" (top 19) f fd)
    (m_isinstance : mg "isinstance" = none)
    (m_tuple : mg "tuple" = none)
    {f__law_draw : Addr} {d__law_draw : FuncData} (F__law_draw : FnG P w K mg base CX0 1 f__law_draw d__law_draw ["_law_deck_here", "_law_many"] (ASp K [true, false] sp__law_draw)) (g__law_draw : mg "_law_draw" = some (.ref f__law_draw)) (k__law_draw : PySem.W.keepIn K (.ref f__law_draw) = true) (b__law_draw : Binds K d__law_draw ["_law_deck_here", "_law_many"] [])
    {f__law_odd : Addr} {d__law_odd : FuncData} (F__law_odd : FnG P w K mg base CX0 3 f__law_odd d__law_odd ["_law_deck_here", "_law_thing"] (ASp K [true, false] sp__law_odd)) (g__law_odd : mg "_law_odd" = some (.ref f__law_odd)) (k__law_odd : PySem.W.keepIn K (.ref f__law_odd) = true) (b__law_odd : Binds K d__law_odd ["_law_deck_here", "_law_thing"] [])
    (m_len : mg "len" = none)
    {f__law_bent : Addr} {d__law_bent : FuncData} (F__law_bent : FnG P w K mg base CX0 k0 f__law_bent d__law_bent ["_law_deck_here", "_law_thing", "_law_deep"] (ASp K [true, false, false] sp__law_bent)) (g__law_bent : mg "_law_bent" = some (.ref f__law_bent)) (k__law_bent : PySem.W.keepIn K (.ref f__law_bent) = true) (b__law_bent : Binds K d__law_bent ["_law_deck_here", "_law_thing", "_law_deep"] [])
    {spec : FSpec} (rd : ∀ os Qa, os.length = 3 → spec os Qa → (t__law_bent sp__law_bent) (endsOf [true, false, false] Qa) (startA 4 os)) : FnG P w K mg base CX0 (k0 + 1) f fd ["_law_deck_here", "_law_thing", "_law_deep"] (ASp K [true, false, false] spec) := by
  refine fng_ok (N := ["_law_deck_here", "_law_thing", "_law_deep", "_law_at"]) [true, false, false] (t__law_bent sp__law_bent) F sc__law_bent rfl (fun cdv A outer s H E hr => ?_) rd
  have hr0 := hr.mono (Nat.zero_le _)
  have hu := hr0.room.un
  have nd := sc__law_bent.nd
  exact by_t (sxs_cons (sx_if (wx_or (tx_cmp (opA_eq hu) (ex_name 2) ex_int (nomark _)) (wx_or (tx_not (tx_val (ex_isi tyOk_tuple (by rfl) m_isinstance (by rfl) m_tuple bn_tuple (ex_name 1)))) (wx_or (tx_cmp (opA_eq hu) (ex_name 1) (ex_tup exs_nil) (nomark _)) (wx_or1 (tx_cmp (opA_eq hu) (ex_callG F__law_draw (hr.mono (by omega)) (by rfl) g__law_draw k__law_draw b__law_draw (exs_cons (ex_name 0) (exs_cons ex_int exs_nil))) ex_int (nomark _)))))).tx (sxs_one (sx_ret (ex_callG F__law_odd (hr.mono (by omega)) (by rfl) g__law_odd k__law_odd b__law_odd (exs_cons (ex_name 0) (exs_cons (ex_name 1) exs_nil))))) sxs_nil)
    (sxs_cons (sx_set 3 nd rfl (Or.inl rfl) (ex_callG F__law_draw (hr.mono (by omega)) (by rfl) g__law_draw k__law_draw b__law_draw (exs_cons (ex_name 0) (exs_cons (ex_callB callA_len (by rfl) m_len bn_len (exs_cons (ex_name 1) exs_nil)) exs_nil))))
    (sxs_one (sx_ret (ex_bin opA_add (ex_bin opA_add (ex_slice (ex_name 1) ox_none (ox_some (ex_name 3))) (ex_tup (exs_cons (ex_callG F__law_bent (hr.mono (by omega)) (by rfl) g__law_bent k__law_bent b__law_bent (exs_cons (ex_name 0) (exs_cons (ex_ix ixA_seq (ex_name 1) (ex_name 3) (fun _ _ => rfl)) (exs_cons (ex_bin opA_sub (ex_name 2) ex_int) exs_nil)))) exs_nil))) (ex_slice (ex_name 1) (ox_some (ex_bin opA_add (ex_name 3) ex_int)) ox_none)))))) (by rfl)
theorem sc__law_is_number : FnScope ["_law_thing", "_law_least", "_law_most"] ["_law_thing", "_law_least", "_law_most"] (defScope (top 20)) := ⟨rfl, rfl, rfl, by decide +kernel, rfl, by decide +kernel, by decide +kernel⟩
theorem ok__law_is_number {P : Program} {w : World} {K : PySem.W.Frag} {mg : Str → Option Value} {base : Heap} {f : Addr} {fd : FuncData} (F : FnP K "_law_is_number" (top 20) f fd)
    (m_isinstance : mg "isinstance" = none)
    (m_int : mg "int" = none)
    (m_bool : mg "bool" = none)
    {spec : FSpec} (rd : ∀ os Qa, os.length = 3 → spec os Qa → t__law_is_number (endsOf [false, false, false] Qa) (startA 3 os)) : FnG P w K mg base CX0 (0 + 1) f fd ["_law_thing", "_law_least", "_law_most"] (ASp K [false, false, false] spec) := by
  refine fng_ok (N := ["_law_thing", "_law_least", "_law_most"]) [false, false, false] t__law_is_number F sc__law_is_number rfl (fun cdv A outer s H E hr => ?_) rd
  have hr0 := hr.mono (Nat.zero_le _)
  have hu := hr0.room.un
  have nd := sc__law_is_number.nd
  exact by_t (sxs_one (sx_ret (ex_and (ex_isi tyOk_int (by rfl) m_isinstance (by rfl) m_int bn_int (ex_name 0)) (ex_and (ex_not (ex_isi tyOk_bool (by rfl) m_isinstance (by rfl) m_bool bn_bool (ex_name 0))) (ex_one (ex_chainE opA_le opA_le (ex_name 1) (ex_name 0) (ex_name 2))))))) (by rfl)
theorem sc__law_is_name : FnScope ["_law_thing"] ["_law_thing"] (defScope (top 21)) := ⟨rfl, rfl, rfl, by decide +kernel, rfl, by decide +kernel, by decide +kernel⟩
theorem ok__law_is_name {P : Program} {w : World} {K : PySem.W.Frag} {mg : Str → Option Value} {base : Heap} {f : Addr} {fd : FuncData} (F : FnP K "_law_is_name" (top 21) f fd)
    (m_isinstance : mg "isinstance" = none)
    (m_str : mg "str" = none)
    (m_len : mg "len" = none)
    {spec : FSpec} (rd : ∀ os Qa, os.length = 1 → spec os Qa → t__law_is_name (endsOf [false] Qa) (startA 1 os)) : FnG P w K mg base CX0 (0 + 1) f fd ["_law_thing"] (ASp K [false] spec) := by
  refine fng_ok (N := ["_law_thing"]) [false] t__law_is_name F sc__law_is_name rfl (fun cdv A outer s H E hr => ?_) rd
  have hr0 := hr.mono (Nat.zero_le _)
  have hu := hr0.room.un
  have nd := sc__law_is_name.nd
  exact by_t (sxs_one (sx_ret (ex_and (ex_isi tyOk_str (by rfl) m_isinstance (by rfl) m_str bn_str (ex_name 0)) (ex_and (ex_chainE (opA_lt hu) (opA_lt hu) ex_int (ex_callB callA_len (by rfl) m_len bn_len (exs_cons (ex_name 0) exs_nil)) ex_int) (ex_one (ex_cmp (opA_eq hu) (ex_stripC (ex_name 0) ex_str) ex_str (nomark _))))))) (by rfl)
theorem sc__law_are_costs : FnScope ["_law_thing", "_law_names_here", "_law_pair"] ["_law_thing"] (defScope (top 22)) := ⟨rfl, rfl, rfl, by decide +kernel, rfl, by decide +kernel, by decide +kernel⟩
theorem ok__law_are_costs {P : Program} {w : World} {K : PySem.W.Frag} {mg : Str → Option Value} {base : Heap} {f : Addr} {fd : FuncData} (F : FnP K "_law_are_costs" (top 22) f fd)
    (m_isinstance : mg "isinstance" = none)
    (m_tuple : mg "tuple" = none)
    (m_len : mg "len" = none)
    {f__law_is_name : Addr} {d__law_is_name : FuncData} (F__law_is_name : FnG P w K mg base CX0 1 f__law_is_name d__law_is_name ["_law_thing"] (ASp K [false] sp__law_is_name)) (g__law_is_name : mg "_law_is_name" = some (.ref f__law_is_name)) (k__law_is_name : PySem.W.keepIn K (.ref f__law_is_name) = true) (b__law_is_name : Binds K d__law_is_name ["_law_thing"] [])
    {f__law_is_number : Addr} {d__law_is_number : FuncData} (F__law_is_number : FnG P w K mg base CX0 1 f__law_is_number d__law_is_number ["_law_thing", "_law_least", "_law_most"] (ASp K [false, false, false] sp__law_is_number)) (g__law_is_number : mg "_law_is_number" = some (.ref f__law_is_number)) (k__law_is_number : PySem.W.keepIn K (.ref f__law_is_number) = true) (b__law_is_number : Binds K d__law_is_number ["_law_thing", "_law_least", "_law_most"] [])
    (m_sorted : mg "sorted" = none)
    (m_set : mg "set" = none)
    {spec : FSpec} (rd : ∀ os Qa, os.length = 1 → spec os Qa → t__law_are_costs (endsOf [false] Qa) (startA 3 os)) : FnG P w K mg base CX0 (1 + 1) f fd ["_law_thing"] (ASp K [false] spec) := by
  refine fng_ok (N := ["_law_thing", "_law_names_here", "_law_pair"]) [false] t__law_are_costs F sc__law_are_costs rfl (fun cdv A outer s H E hr => ?_) rd
  have hr0 := hr.mono (Nat.zero_le _)
  have hu := hr0.room.un
  have nd := sc__law_are_costs.nd
  exact by_t (sxs_cons (sx_if (tx_not (tx_val (ex_isi tyOk_tuple (by rfl) m_isinstance (by rfl) m_tuple bn_tuple (ex_name 0)))) (sxs_one (sx_ret ex_bl)) sxs_nil)
    (sxs_cons (sx_set 1 nd rfl (Or.inl rfl) (ex_lst exs_nil))
    (sxs_cons (sx_for PassesOwn.never rfl (ix_any (ex_name 0)) (gx_name 2 nd rfl (Or.inl rfl)) (sxs_cons (sx_if (wx_or (tx_not (tx_val (ex_isi tyOk_tuple (by rfl) m_isinstance (by rfl) m_tuple bn_tuple (ex_name 2)))) (wx_or (tx_cmp (opA_ne hu) (ex_callB callA_len (by rfl) m_len bn_len (exs_cons (ex_name 2) exs_nil)) ex_int (nomark _)) (wx_or1 (tx_not (tx_val (ex_callG F__law_is_name (hr.mono (by omega)) (by rfl) g__law_is_name k__law_is_name b__law_is_name (exs_cons (ex_ix ixA_seq (ex_name 2) ex_int (fun _ _ => rfl)) exs_nil))))))).tx (sxs_one (sx_ret ex_bl)) sxs_nil)
    (sxs_cons (sx_if (tx_not (tx_val (ex_callG F__law_is_number (hr.mono (by omega)) (by rfl) g__law_is_number k__law_is_number b__law_is_number (exs_cons (ex_ix ixA_seq (ex_name 2) ex_int (fun _ _ => rfl)) (exs_cons ex_int (exs_cons (ex_bin opA_pow ex_int ex_int) exs_nil)))))) (sxs_one (sx_ret ex_bl)) sxs_nil)
    (sxs_one (sx_expr (ex_append 1 rfl (ex_ix ixA_seq (ex_name 2) ex_int (fun _ _ => rfl))))))))
    (sxs_one (sx_ret (ex_cmp (opA_eq hu) (ex_name 1) (ex_sortSet rfl (by rfl) m_sorted (by rfl) m_set bn_sorted bn_set (exs_cons (ex_name 1) exs_nil)) (nomark _))))))) (by rfl)
theorem sc__law_right : FnScope ["_law_deck_here", "_law_names_here", "_law_good", "_law_some", "_law_turn", "_law_bent_here", "_law_thing", "_law_kept", "_law_name"] ["_law_deck_here"] (defScope (top 23)) := ⟨rfl, rfl, rfl, by decide +kernel, rfl, by decide +kernel, by decide +kernel⟩
theorem ok__law_right {P : Program} {w : World} {K : PySem.W.Frag} {mg : Str → Option Value} {base : Heap} {f : Addr} {fd : FuncData} (F : FnP K "_law_right" (top 23) f fd)
    {f__law_draw : Addr} {d__law_draw : FuncData} (F__law_draw : FnG P w K mg base CX0 1 f__law_draw d__law_draw ["_law_deck_here", "_law_many"] (ASp K [true, false] sp__law_draw)) (g__law_draw : mg "_law_draw" = some (.ref f__law_draw)) (k__law_draw : PySem.W.keepIn K (.ref f__law_draw) = true) (b__law_draw : Binds K d__law_draw ["_law_deck_here", "_law_many"] [])
    {f__law_names : Addr} {d__law_names : FuncData} (F__law_names : FnG P w K mg base CX0 3 f__law_names d__law_names ["_law_deck_here", "_law_many"] (ASp K [true, false] sp__law_names)) (g__law_names : mg "_law_names" = some (.ref f__law_names)) (k__law_names : PySem.W.keepIn K (.ref f__law_names) = true) (b__law_names : Binds K d__law_names ["_law_deck_here", "_law_many"] [])
    {f__law_any : Addr} {d__law_any : FuncData} (F__law_any : FnG P w K mg base CX0 2 f__law_any d__law_any ["_law_deck_here", "_law_items"] (ASp K [true, false] sp__law_any)) (g__law_any : mg "_law_any" = some (.ref f__law_any)) (k__law_any : PySem.W.keepIn K (.ref f__law_any) = true) (b__law_any : Binds K d__law_any ["_law_deck_here", "_law_items"] [])
    (m_tuple : mg "tuple" = none)
    {f__law_turned : Addr} {d__law_turned : FuncData} (F__law_turned : FnG P w K mg base CX0 2 f__law_turned d__law_turned ["_law_deck_here", "_law_items"] (ASp K [true, false] sp__law_turned)) (g__law_turned : mg "_law_turned" = some (.ref f__law_turned)) (k__law_turned : PySem.W.keepIn K (.ref f__law_turned) = true) (b__law_turned : Binds K d__law_turned ["_law_deck_here", "_law_items"] [])
    (m_range : mg "range" = none)
    {f__law_bent : Addr} {d__law_bent : FuncData} (F__law_bent : FnG P w K mg base CX0 7 f__law_bent d__law_bent ["_law_deck_here", "_law_thing", "_law_deep"] (ASp K [true, false, false] sp__law_bent)) (g__law_bent : mg "_law_bent" = some (.ref f__law_bent)) (k__law_bent : PySem.W.keepIn K (.ref f__law_bent) = true) (b__law_bent : Binds K d__law_bent ["_law_deck_here", "_law_thing", "_law_deep"] [])
    (m_repr : mg "repr" = none)
    {f_are_prices : Addr} {d_are_prices : FuncData} (F_are_prices : FnG P w K mg base CX0 3 f_are_prices d_are_prices ["value"] (ASp K [false] sp_are_prices)) (g_are_prices : mg "are_prices" = some (.ref f_are_prices)) (k_are_prices : PySem.W.keepIn K (.ref f_are_prices) = true) (b_are_prices : Binds K d_are_prices ["value"] [])
    {f__law_are_costs : Addr} {d__law_are_costs : FuncData} (F__law_are_costs : FnG P w K mg base CX0 2 f__law_are_costs d__law_are_costs ["_law_thing"] (ASp K [false] sp__law_are_costs)) (g__law_are_costs : mg "_law_are_costs" = some (.ref f__law_are_costs)) (k__law_are_costs : PySem.W.keepIn K (.ref f__law_are_costs) = true) (b__law_are_costs : Binds K d__law_are_costs ["_law_thing"] [])
    {spec : FSpec} (rd : ∀ os Qa, os.length = 1 → spec os Qa → t__law_right (endsOf [true] Qa) (startA 9 os)) : FnG P w K mg base CX0 (7 + 1) f fd ["_law_deck_here"] (ASp K [true] spec) := by
  refine fng_ok (N := ["_law_deck_here", "_law_names_here", "_law_good", "_law_some", "_law_turn", "_law_bent_here", "_law_thing", "_law_kept", "_law_name"]) [true] t__law_right F sc__law_right rfl (fun cdv A outer s H E hr => ?_) rd
  have hr0 := hr.mono (Nat.zero_le _)
  have hu := hr0.room.un
  have nd := sc__law_right.nd
  exact by_t (sxs_cons (sx_set 1 nd rfl (Or.inl rfl) (ex_callG F__law_names (hr.mono (by omega)) (by rfl) g__law_names k__law_names b__law_names (exs_cons (ex_name 0) (exs_cons (ex_callG F__law_draw (hr.mono (by omega)) (by rfl) g__law_draw k__law_draw b__law_draw (exs_cons (ex_name 0) (exs_cons ex_int exs_nil))) exs_nil))))
    (sxs_cons (sx_set 2 nd rfl (Or.inl rfl) (ex_callTy (callA_tuple rfl) (by rfl) m_tuple bn_tuple (exs_cons (ex_lc rfl nd (ix_any (ex_name 1)) (blkOk_by (own := [("_law_name", 8)]) (by rfl)) (fun _ _ _ _ _ => (gx_name 8 nd rfl (by first | exact Or.inl rfl | exact Or.inr rfl))) (fun _ _ _ _ _ => bxs_nil) (fun _ _ _ _ _ => (ex_tup (exs_cons (ex_name 8) (exs_cons (ex_callG F__law_any (hr.mono (by omega)) (by rfl) g__law_any k__law_any b__law_any (exs_cons (ex_name 0) (exs_cons (ex_lst (exs_cons ex_int (exs_cons (ex_bin opA_pow ex_int ex_int) (exs_cons (ex_bin opA_add ex_int (ex_callG F__law_draw (hr.mono (by omega)) (by rfl) g__law_draw k__law_draw b__law_draw (exs_cons (ex_name 0) (exs_cons (ex_bin opA_pow ex_int ex_int) exs_nil)))) exs_nil)))) exs_nil))) exs_nil))))) exs_nil)))
    (sxs_cons (sx_set 3 nd rfl (Or.inl rfl) (ex_lst (exs_cons (ex_name 2) (exs_cons (ex_rev (ex_name 2)) (exs_cons (ex_bin opA_add (ex_name 2) (ex_slice (ex_name 2) ox_none (ox_some ex_int))) (exs_cons (ex_callTy (callA_tuple rfl) (by rfl) m_tuple bn_tuple (exs_cons (ex_callG F__law_turned (hr.mono (by omega)) (by rfl) g__law_turned k__law_turned b__law_turned (exs_cons (ex_name 0) (exs_cons (ex_name 2) exs_nil))) exs_nil)) (exs_cons ex_non (exs_cons ex_int (exs_cons ex_str (exs_cons (ex_tup exs_nil) (exs_cons (ex_lst exs_nil) (exs_cons ex_dct0 (exs_cons (ex_tup (exs_cons (ex_tup exs_nil) exs_nil)) exs_nil)))))))))))))
    (sxs_cons (sx_set 3 nd rfl (Or.inl rfl) (ex_bin opA_add (ex_name 3) (ex_lst (exs_cons (ex_tup (exs_cons (ex_tup (exs_cons ex_str (exs_cons (ex_bin opA_pow ex_int ex_int) exs_nil))) exs_nil)) (exs_cons (ex_tup (exs_cons (ex_tup (exs_cons ex_str (exs_cons (ex_bin opA_add (ex_bin opA_pow ex_int ex_int) ex_int) exs_nil))) exs_nil)) (exs_cons (ex_tup (exs_cons (ex_tup (exs_cons ex_str (exs_cons ex_bl exs_nil))) exs_nil)) (exs_cons (ex_tup (exs_cons (ex_tup (exs_cons ex_str (exs_cons ex_int exs_nil))) (exs_cons (ex_tup (exs_cons ex_str (exs_cons ex_int exs_nil))) exs_nil))) (exs_cons (ex_tup (exs_cons (ex_tup (exs_cons ex_str (exs_cons ex_int exs_nil))) exs_nil)) exs_nil))))))))
    (sxs_cons (sx_set 3 nd rfl (Or.inl rfl) (ex_bin opA_add (ex_name 3) (ex_lst (exs_cons (ex_tup (exs_cons ex_str (exs_cons ex_int exs_nil))) (exs_cons (ex_tup (exs_cons (ex_tup (exs_cons ex_str (exs_cons ex_int exs_nil))) exs_nil)) exs_nil)))))
    (sxs_cons (sx_for PassesOwn.never rfl (ix_range1 (by rfl) m_range (exs_cons ex_int exs_nil)) (gx_name 4 nd rfl (Or.inl rfl)) (sxs_cons (sx_set 5 nd rfl (Or.inl rfl) (ex_callG F__law_bent (hr.mono (by omega)) (by rfl) g__law_bent k__law_bent b__law_bent (exs_cons (ex_name 0) (exs_cons (ex_name 2) (exs_cons ex_int exs_nil)))))
    (sxs_one (sx_expr (ex_extend 3 rfl (ex_lst (exs_cons (ex_name 5) (exs_cons (ex_callG F__law_bent (hr.mono (by omega)) (by rfl) g__law_bent k__law_bent b__law_bent (exs_cons (ex_name 0) (exs_cons (ex_name 5) (exs_cons ex_int exs_nil)))) exs_nil))))))))
    (sxs_cons (sx_for PassesOwn.never rfl (ix_any (ex_name 3)) (gx_name 6 nd rfl (Or.inl rfl)) (sxs_cons (sx_set 7 nd rfl (Or.inl rfl) (ex_callB (callA_repr hr0) (by rfl) m_repr bn_repr (exs_cons (ex_name 6) exs_nil)))
    (sxs_one (sx_if (wx_or (tx_cmp (opA_ne hu) (ex_callB (callA_repr hr0) (by rfl) m_repr bn_repr (exs_cons (ex_callG F_are_prices (hr.mono (by omega)) (by rfl) g_are_prices k_are_prices b_are_prices (exs_cons (ex_name 6) exs_nil)) exs_nil)) (ex_callB (callA_repr hr0) (by rfl) m_repr bn_repr (exs_cons (ex_callG F__law_are_costs (hr.mono (by omega)) (by rfl) g__law_are_costs k__law_are_costs b__law_are_costs (exs_cons (ex_name 6) exs_nil)) exs_nil)) (nomark _)) (wx_or1 (tx_cmp (opA_ne hu) (ex_callB (callA_repr hr0) (by rfl) m_repr bn_repr (exs_cons (ex_name 6) exs_nil)) (ex_name 7) (nomark _)))).tx (sxs_one (sx_ret ex_bl)) sxs_nil))))
    (sxs_one (sx_ret ex_bl))))))))) (by rfl)
theorem sc_law : FnScope ["_law_script", "_law_k", "_law_deck_here", "_law_turn"] ["_law_script"] (defScope (top 24)) := ⟨rfl, rfl, rfl, by decide +kernel, rfl, by decide +kernel, by decide +kernel⟩
theorem ok_law {P : Program} {w : World} {K : PySem.W.Frag} {mg : Str → Option Value} {base : Heap} {f : Addr} {fd : FuncData} (F : FnP K "law" (top 24) f fd)
    (m_len : mg "len" = none)
    (m_min : mg "min" = none)
    (m_max : mg "max" = none)
    (m_range : mg "range" = none)
    {f__law_deck : Addr} {d__law_deck : FuncData} (F__law_deck : FnG P w K mg base CX0 1 f__law_deck d__law_deck ["_law_script", "_law_k"] (ASp K [false, false] sp__law_deck)) (g__law_deck : mg "_law_deck" = some (.ref f__law_deck)) (k__law_deck : PySem.W.keepIn K (.ref f__law_deck) = true) (b__law_deck : Binds K d__law_deck ["_law_script", "_law_k"] [])
    {f__law_right : Addr} {d__law_right : FuncData} (F__law_right : FnG P w K mg base CX0 8 f__law_right d__law_right ["_law_deck_here"] (ASp K [true] sp__law_right)) (g__law_right : mg "_law_right" = some (.ref f__law_right)) (k__law_right : PySem.W.keepIn K (.ref f__law_right) = true) (b__law_right : Binds K d__law_right ["_law_deck_here"] [])
    (m_all : mg "all" = none)
    {spec : FSpec} (rd : ∀ os Qa, os.length = 1 → spec os Qa → t_law (endsOf [false] Qa) (startA 4 os)) : FnG P w K mg base CX0 (8 + 1) f fd ["_law_script"] (ASp K [false] spec) := by
  refine fng_ok (N := ["_law_script", "_law_k", "_law_deck_here", "_law_turn"]) [false] t_law F sc_law rfl (fun cdv A outer s H E hr => ?_) rd
  have hr0 := hr.mono (Nat.zero_le _)
  have hu := hr0.room.un
  have nd := sc_law.nd
  exact by_t (sxs_cons (sx_for PassesOwn.never rfl (ix_range1 (by rfl) m_range (exs_cons (ex_callB (callA_max2 rfl) (by rfl) m_max bn_max (exs_cons ex_int (exs_cons (ex_callB (callA_min2 rfl) (by rfl) m_min bn_min (exs_cons ex_int (exs_cons (ex_callB callA_len (by rfl) m_len bn_len (exs_cons (ex_name 0) exs_nil)) exs_nil))) exs_nil))) exs_nil)) (gx_name 1 nd rfl (Or.inl rfl)) (sxs_cons (sx_set 2 nd rfl (Or.inr rfl) (ex_callG F__law_deck (hr.mono (by omega)) (by rfl) g__law_deck k__law_deck b__law_deck (exs_cons (ex_name 0) (exs_cons (ex_name 1) exs_nil))))
    (sxs_one (sx_if (tx_not (tx_val (ex_callB (callA_all rfl) (by rfl) m_all bn_all (exs_cons (ex_lc rfl nd (ix_range1 (by rfl) m_range (exs_cons ex_int exs_nil)) (blkOk_by (own := [("_law_turn", 3)]) (by rfl)) (fun _ _ _ _ _ => (gx_name 3 nd rfl (by first | exact Or.inl rfl | exact Or.inr rfl))) (fun _ _ _ _ _ => bxs_nil) (fun _ _ _ _ _ => (ex_callG F__law_right (hr.mono (by omega)) (by rfl) g__law_right k__law_right b__law_right (exs_cons (ex_name 2) exs_nil)))) exs_nil)))) (sxs_one (sx_ret ex_bl)) sxs_nil))))
    (sxs_one (sx_ret ex_bl))) (by rfl)
end WC
namespace Hd
open PySem PySem.Spec PyProof.Rows L2
def top (i : Nat) : Stmt := PySem.Challenge.pw_gridupgrade_k37_prices_of_any_value.main.body.getD i (.Pass ⟨0, 0, 0, 0⟩)
abbrev FnP (K : PySem.W.Frag) (x : Str) (st : Stmt) (f : Addr) (fd : FuncData) : Prop := FunD K x x (defArgs st) (defBody st) (defScope st) [] [] f fd
def mkD (x : Str) (st : Stmt) : He.DefD := ⟨(x, none), x, x, defArgs st, defBody st, defScope st, [], []⟩
def fn : List He.DefD := [mkD "is_integer" (top 4), mkD "is_name" (top 5), mkD "are_ascending" (top 7), mkD "is_price" (top 10), mkD "are_prices" (top 11), mkD "_law_deck" (top 13), mkD "_law_draw" (top 14), mkD "_law_any" (top 15), mkD "_law_turned" (top 16), mkD "_law_names" (top 17), mkD "_law_odd" (top 18), mkD "_law_bent" (top 19), mkD "_law_is_number" (top 20), mkD "_law_is_name" (top 21), mkD "_law_are_costs" (top 22), mkD "_law_right" (top 23), mkD "law" (top 24)]
def fa : List He.Fa := [.glo "is_integer", .glo "is_name", .glo "are_ascending", .glo "is_price", .glo "are_prices", .glo "_law_deck", .glo "_law_draw", .glo "_law_any", .glo "_law_turned", .glo "_law_names", .glo "_law_odd", .glo "_law_bent", .glo "_law_is_number", .glo "_law_is_name", .glo "_law_are_costs", .glo "_law_right", .glo "law", .free "all", .free "sorted", .free "isinstance", .free "tuple", .free "range", .free "int", .free "len", .free "list", .free "str", .free "repr", .free "max", .free "bool", .free "abs", .free "set", .free "min", .free "zip", .str "LETTERS" "abcdefghijklmnopqrstuvwxyz", .int "MOST_LETTERS" 8, .int "PAIR" 2, .int "GREATEST_PRICE" 1000000]
abbrev R : PySem.W.OpenRow := PySem.W.OpenLaw.row PySem.Challenge.rw_gridupgrade_k37_prices_of_any_value
abbrev hk : PySem.W.Hook := He.hookD 4 fa fn
def ob (s : PySem.W.SharedT) : He.AlD := He.obsDG 4 fa fn (HandSHeadRun.getT s)
theorem ob_eq (s : PySem.W.SharedT) : ob s = hk.obs s.abs := He.obsDG_eq (HandSHeadRun.getT_eq s)
def lo0 : List PySem.Str := ["LETTERS", "MOST_LETTERS", "PAIR", "is_integer", "is_name", "are_ascending", "GREATEST_PRICE", "is_price", "are_prices", "_law_deck", "_law_draw", "_law_any", "_law_turned", "_law_names", "_law_odd", "_law_bent", "_law_is_number", "_law_is_name", "_law_are_costs", "_law_right"]
def lo : List PySem.Str := lo0
theorem run (w : World) : HandSHeadRun.RunEq R (PySem.W.view R.prog [24]) hk ob 1900 lo w := by
  intro os
  kernel_rfl
end Hd
namespace Lw
open PySem PySem.Spec L2 DL WC WS
open PyProof.Rows hiding St
theorem law_end {P : Program} (w : World) {K : PySem.W.Frag} {h : Heap} {mg : Str → Option Value} {fa : Addr} (X : K.In h) (Gh : h.Ns mainGlobals mg) (hfa : mg ("law" : Str) = some (.ref fa)) (c : He.SaysD Hd.fa Hd.fn K) :
    ∃ (K : PySem.W.Frag) (fd : FuncData) (sp : Sp), K.In h ∧ (∀ (s : Shared) (u : Value), BindsTo s fd ⟨[u], []⟩ [("_law_script", u)]) ∧
      (∀ (H : Hp) (a : Addr) (ns : List Int), ns.length ≤ 63 → Only H → SqL K H a (ns.map V.int) → sp [.ref a] H (fun v _ => v = .bl true) fun _ _ _ => False) ∧
      ∀ base : Heap, K.In base → base.Ns mainGlobals mg → FnG P w K mg base CX0 9 fa fd ["_law_script"] sp := by
  obtain ⟨d_is_integer, D_is_integer⟩ := c.def_ 0 (d := Hd.mkD "is_integer" (Hd.top 4)) rfl
  have g_is_integer := He.glo_ok X Gh (c.fact 0 (f := .glo "is_integer") rfl)
  have b_is_integer : Binds K d_is_integer ["value", "least", "greatest"] [] := FunD.bindsN D_is_integer fun _ _ _ _ _ _ us hl => match us, hl with | [_, _, _], _ => rfl
  obtain ⟨d_is_name, D_is_name⟩ := c.def_ 1 (d := Hd.mkD "is_name" (Hd.top 5)) rfl
  have g_is_name := He.glo_ok X Gh (c.fact 1 (f := .glo "is_name") rfl)
  have b_is_name : Binds K d_is_name ["value"] [] := FunD.bindsN D_is_name fun _ _ _ _ _ _ us hl => match us, hl with | [_], _ => rfl
  obtain ⟨d_are_ascending, D_are_ascending⟩ := c.def_ 2 (d := Hd.mkD "are_ascending" (Hd.top 7)) rfl
  have g_are_ascending := He.glo_ok X Gh (c.fact 2 (f := .glo "are_ascending") rfl)
  have b_are_ascending : Binds K d_are_ascending ["some"] [] := FunD.bindsN D_are_ascending fun _ _ _ _ _ _ us hl => match us, hl with | [_], _ => rfl
  obtain ⟨d_is_price, D_is_price⟩ := c.def_ 3 (d := Hd.mkD "is_price" (Hd.top 10)) rfl
  have g_is_price := He.glo_ok X Gh (c.fact 3 (f := .glo "is_price") rfl)
  have b_is_price : Binds K d_is_price ["value"] [] := FunD.bindsN D_is_price fun _ _ _ _ _ _ us hl => match us, hl with | [_], _ => rfl
  obtain ⟨d_are_prices, D_are_prices⟩ := c.def_ 4 (d := Hd.mkD "are_prices" (Hd.top 11)) rfl
  have g_are_prices := He.glo_ok X Gh (c.fact 4 (f := .glo "are_prices") rfl)
  have b_are_prices : Binds K d_are_prices ["value"] [] := FunD.bindsN D_are_prices fun _ _ _ _ _ _ us hl => match us, hl with | [_], _ => rfl
  obtain ⟨d__law_deck, D__law_deck⟩ := c.def_ 5 (d := Hd.mkD "_law_deck" (Hd.top 13)) rfl
  have g__law_deck := He.glo_ok X Gh (c.fact 5 (f := .glo "_law_deck") rfl)
  have b__law_deck : Binds K d__law_deck ["_law_script", "_law_k"] [] := FunD.bindsN D__law_deck fun _ _ _ _ _ _ us hl => match us, hl with | [_, _], _ => rfl
  obtain ⟨d__law_draw, D__law_draw⟩ := c.def_ 6 (d := Hd.mkD "_law_draw" (Hd.top 14)) rfl
  have g__law_draw := He.glo_ok X Gh (c.fact 6 (f := .glo "_law_draw") rfl)
  have b__law_draw : Binds K d__law_draw ["_law_deck_here", "_law_many"] [] := FunD.bindsN D__law_draw fun _ _ _ _ _ _ us hl => match us, hl with | [_, _], _ => rfl
  obtain ⟨d__law_any, D__law_any⟩ := c.def_ 7 (d := Hd.mkD "_law_any" (Hd.top 15)) rfl
  have g__law_any := He.glo_ok X Gh (c.fact 7 (f := .glo "_law_any") rfl)
  have b__law_any : Binds K d__law_any ["_law_deck_here", "_law_items"] [] := FunD.bindsN D__law_any fun _ _ _ _ _ _ us hl => match us, hl with | [_, _], _ => rfl
  obtain ⟨d__law_turned, D__law_turned⟩ := c.def_ 8 (d := Hd.mkD "_law_turned" (Hd.top 16)) rfl
  have g__law_turned := He.glo_ok X Gh (c.fact 8 (f := .glo "_law_turned") rfl)
  have b__law_turned : Binds K d__law_turned ["_law_deck_here", "_law_items"] [] := FunD.bindsN D__law_turned fun _ _ _ _ _ _ us hl => match us, hl with | [_, _], _ => rfl
  obtain ⟨d__law_names, D__law_names⟩ := c.def_ 9 (d := Hd.mkD "_law_names" (Hd.top 17)) rfl
  have g__law_names := He.glo_ok X Gh (c.fact 9 (f := .glo "_law_names") rfl)
  have b__law_names : Binds K d__law_names ["_law_deck_here", "_law_many"] [] := FunD.bindsN D__law_names fun _ _ _ _ _ _ us hl => match us, hl with | [_, _], _ => rfl
  obtain ⟨d__law_odd, D__law_odd⟩ := c.def_ 10 (d := Hd.mkD "_law_odd" (Hd.top 18)) rfl
  have g__law_odd := He.glo_ok X Gh (c.fact 10 (f := .glo "_law_odd") rfl)
  have b__law_odd : Binds K d__law_odd ["_law_deck_here", "_law_thing"] [] := FunD.bindsN D__law_odd fun _ _ _ _ _ _ us hl => match us, hl with | [_, _], _ => rfl
  obtain ⟨d__law_bent, D__law_bent⟩ := c.def_ 11 (d := Hd.mkD "_law_bent" (Hd.top 19)) rfl
  have g__law_bent := He.glo_ok X Gh (c.fact 11 (f := .glo "_law_bent") rfl)
  have b__law_bent : Binds K d__law_bent ["_law_deck_here", "_law_thing", "_law_deep"] [] := FunD.bindsN D__law_bent fun _ _ _ _ _ _ us hl => match us, hl with | [_, _, _], _ => rfl
  obtain ⟨d__law_is_number, D__law_is_number⟩ := c.def_ 12 (d := Hd.mkD "_law_is_number" (Hd.top 20)) rfl
  have g__law_is_number := He.glo_ok X Gh (c.fact 12 (f := .glo "_law_is_number") rfl)
  have b__law_is_number : Binds K d__law_is_number ["_law_thing", "_law_least", "_law_most"] [] := FunD.bindsN D__law_is_number fun _ _ _ _ _ _ us hl => match us, hl with | [_, _, _], _ => rfl
  obtain ⟨d__law_is_name, D__law_is_name⟩ := c.def_ 13 (d := Hd.mkD "_law_is_name" (Hd.top 21)) rfl
  have g__law_is_name := He.glo_ok X Gh (c.fact 13 (f := .glo "_law_is_name") rfl)
  have b__law_is_name : Binds K d__law_is_name ["_law_thing"] [] := FunD.bindsN D__law_is_name fun _ _ _ _ _ _ us hl => match us, hl with | [_], _ => rfl
  obtain ⟨d__law_are_costs, D__law_are_costs⟩ := c.def_ 14 (d := Hd.mkD "_law_are_costs" (Hd.top 22)) rfl
  have g__law_are_costs := He.glo_ok X Gh (c.fact 14 (f := .glo "_law_are_costs") rfl)
  have b__law_are_costs : Binds K d__law_are_costs ["_law_thing"] [] := FunD.bindsN D__law_are_costs fun _ _ _ _ _ _ us hl => match us, hl with | [_], _ => rfl
  obtain ⟨d__law_right, D__law_right⟩ := c.def_ 15 (d := Hd.mkD "_law_right" (Hd.top 23)) rfl
  have g__law_right := He.glo_ok X Gh (c.fact 15 (f := .glo "_law_right") rfl)
  have b__law_right : Binds K d__law_right ["_law_deck_here"] [] := FunD.bindsN D__law_right fun _ _ _ _ _ _ us hl => match us, hl with | [_], _ => rfl
  obtain ⟨d_law, D_law⟩ := c.def_ 16 (d := Hd.mkD "law" (Hd.top 24)) rfl
  have e := hfa.symm.trans (He.glo_ok X Gh (c.fact 16 (f := .glo "law") rfl))
  cases e
  have g_law := He.glo_ok X Gh (c.fact 16 (f := .glo "law") rfl)
  have b_law : Binds K d_law ["_law_script"] [] := FunD.bindsN D_law fun _ _ _ _ _ _ us hl => match us, hl with | [_], _ => rfl
  have m_len := He.free_ok X Gh (c.fact 23 (f := .free "len") rfl)
  have m_min := He.free_ok X Gh (c.fact 31 (f := .free "min") rfl)
  have m_max := He.free_ok X Gh (c.fact 27 (f := .free "max") rfl)
  have m_range := He.free_ok X Gh (c.fact 21 (f := .free "range") rfl)
  have m_all := He.free_ok X Gh (c.fact 17 (f := .free "all") rfl)
  have m_abs := He.free_ok X Gh (c.fact 29 (f := .free "abs") rfl)
  have m_int := He.free_ok X Gh (c.fact 22 (f := .free "int") rfl)
  have m_tuple := He.free_ok X Gh (c.fact 20 (f := .free "tuple") rfl)
  have m_repr := He.free_ok X Gh (c.fact 26 (f := .free "repr") rfl)
  have m_sorted := He.free_ok X Gh (c.fact 18 (f := .free "sorted") rfl)
  have m_list := He.free_ok X Gh (c.fact 24 (f := .free "list") rfl)
  have m_isinstance := He.free_ok X Gh (c.fact 19 (f := .free "isinstance") rfl)
  have m_str := He.free_ok X Gh (c.fact 25 (f := .free "str") rfl)
  have m_PAIR := He.int_ok X Gh (c.fact 35 (f := .int "PAIR" 2) rfl)
  have m_MOST_LETTERS := He.int_ok X Gh (c.fact 34 (f := .int "MOST_LETTERS" 8) rfl)
  have m_LETTERS := He.str_ok X Gh (c.fact 33 (f := .str "LETTERS" "abcdefghijklmnopqrstuvwxyz") rfl)
  have m_GREATEST_PRICE := He.int_ok X Gh (c.fact 36 (f := .int "GREATEST_PRICE" 1000000) rfl)
  have m_bool := He.free_ok X Gh (c.fact 28 (f := .free "bool") rfl)
  have m_zip := He.free_ok X Gh (c.fact 32 (f := .free "zip") rfl)
  have m_set := He.free_ok X Gh (c.fact 30 (f := .free "set") rfl)
  have bl := FunD.bindsA (ps := ["_law_script"]) D_law fun _ _ _ _ _ _ us hl => match us, hl with | [_], _ => rfl
  refine ⟨K, d_law, ASp K [false] sp_law, X, fun s v => bl s [v] rfl, fun H a ns hl _ hS => asp_ints hS ⟨_, rfl, fun t m => by obtain ⟨i, _, rfl⟩ := List.mem_map.mp m; exact ⟨i, rfl⟩, rfl⟩ fun _ => rfl, fun base KB GB => ?_⟩
  have F__law_deck : FnG P w K mg base CX0 1 _ d__law_deck ["_law_script", "_law_k"] (ASp K [false, false] sp__law_deck) := WC.ok__law_deck D__law_deck m_len m_abs m_int (rd := pl__law_deck)
  have F__law_draw : FnG P w K mg base CX0 1 _ d__law_draw ["_law_deck_here", "_law_many"] (ASp K [true, false] sp__law_draw) := WC.ok__law_draw D__law_draw  (rd := pl__law_draw)
  have F__law_any : FnG P w K mg base CX0 2 _ d__law_any ["_law_deck_here", "_law_items"] (ASp K [true, false] sp__law_any) := WC.ok__law_any D__law_any m_len F__law_draw g__law_draw D__law_draw.kp b__law_draw (rd := pl__law_any)
  have F__law_names : FnG P w K mg base CX0 3 _ d__law_names ["_law_deck_here", "_law_many"] (ASp K [true, false] sp__law_names) := WC.ok__law_names D__law_names F__law_any g__law_any D__law_any.kp b__law_any F__law_draw g__law_draw D__law_draw.kp b__law_draw m_range m_sorted (rd := pl__law_names)
  have F__law_turned : FnG P w K mg base CX0 2 _ d__law_turned ["_law_deck_here", "_law_items"] (ASp K [true, false] sp__law_turned) := WC.ok__law_turned D__law_turned m_list m_len F__law_draw g__law_draw D__law_draw.kp b__law_draw (rd := pl__law_turned)
  have F__law_odd : FnG P w K mg base CX0 3 _ d__law_odd ["_law_deck_here", "_law_thing"] (ASp K [true, false] sp__law_odd) := WC.ok__law_odd D__law_odd m_isinstance m_tuple m_list m_str m_int F__law_any g__law_any D__law_any.kp b__law_any (rd := pl__law_odd)
  have Fk0 : FnG P w K mg base CX0 3 (He.fAd K (Hd.mkD "_law_bent" (Hd.top 19)).at_) d__law_bent ["_law_deck_here", "_law_thing", "_law_deep"] (ASp K [true, false, false] fun _ _ => False) := fng_bot rfl
  have R__law_bent : ∀ j : Nat, FnG P w K mg base CX0 (3 + 1 + j) (He.fAd K (Hd.mkD "_law_bent" (Hd.top 19)).at_) d__law_bent ["_law_deck_here", "_law_thing", "_law_deep"] (ASp K [true, false, false] (sp__law_bentK j)) := by
    intro j
    induction j with
    | zero =>
      have Fk := Fk0
      exact WC.ok__law_bent (k0 := 3) (by omega) D__law_bent m_isinstance m_tuple F__law_draw g__law_draw D__law_draw.kp b__law_draw F__law_odd g__law_odd D__law_odd.kp b__law_odd m_len Fk g__law_bent D__law_bent.kp b__law_bent (rd := pl__law_bentK (m := 0) fun j hj => absurd hj (Nat.not_lt_zero j))
    | succ j ih =>
      have Fk := ih
      exact WC.ok__law_bent (k0 := 3 + 1 + j) (by omega) D__law_bent m_isinstance m_tuple F__law_draw g__law_draw D__law_draw.kp b__law_draw F__law_odd g__law_odd D__law_odd.kp b__law_odd m_len Fk g__law_bent D__law_bent.kp b__law_bent (rd := pl__law_bentK (m := j + 1) fun i hi os Q z => sp__law_bent_mono (by omega) z)
  have F__law_bent : FnG P w K mg base CX0 7 _ d__law_bent ["_law_deck_here", "_law_thing", "_law_deep"] (ASp K [true, false, false] sp__law_bent) := R__law_bent 3
  have F_is_name : FnG P w K mg base CX0 1 _ d_is_name ["value"] (ASp K [false] sp_is_name) := WC.ok_is_name D_is_name m_isinstance m_str m_len m_MOST_LETTERS m_LETTERS m_all (rd := pl_is_name)
  have F_is_integer : FnG P w K mg base CX0 1 _ d_is_integer ["value", "least", "greatest"] (ASp K [false, false, false] sp_is_integer) := WC.ok_is_integer D_is_integer m_isinstance m_int m_bool (rd := pl_is_integer)
  have F_is_price : FnG P w K mg base CX0 2 _ d_is_price ["value"] (ASp K [false] sp_is_price) := WC.ok_is_price D_is_price m_GREATEST_PRICE F_is_integer g_is_integer D_is_integer.kp b_is_integer (rd := pl_is_price)
  have F_are_ascending : FnG P w K mg base CX0 1 _ d_are_ascending ["some"] (ASp K [false] sp_are_ascending) := WC.ok_are_ascending D_are_ascending m_zip m_all (rd := pl_are_ascending)
  have F_are_prices : FnG P w K mg base CX0 3 _ d_are_prices ["value"] (ASp K [false] sp_are_prices) := WC.ok_are_prices D_are_prices m_isinstance m_tuple m_len m_PAIR m_all F_is_name g_is_name D_is_name.kp b_is_name F_is_price g_is_price D_is_price.kp b_is_price F_are_ascending g_are_ascending D_are_ascending.kp b_are_ascending (rd := pl_are_prices)
  have F__law_is_name : FnG P w K mg base CX0 1 _ d__law_is_name ["_law_thing"] (ASp K [false] sp__law_is_name) := WC.ok__law_is_name D__law_is_name m_isinstance m_str m_len (rd := pl__law_is_name)
  have F__law_is_number : FnG P w K mg base CX0 1 _ d__law_is_number ["_law_thing", "_law_least", "_law_most"] (ASp K [false, false, false] sp__law_is_number) := WC.ok__law_is_number D__law_is_number m_isinstance m_int m_bool (rd := pl__law_is_number)
  have F__law_are_costs : FnG P w K mg base CX0 2 _ d__law_are_costs ["_law_thing"] (ASp K [false] sp__law_are_costs) := WC.ok__law_are_costs D__law_are_costs m_isinstance m_tuple m_len F__law_is_name g__law_is_name D__law_is_name.kp b__law_is_name F__law_is_number g__law_is_number D__law_is_number.kp b__law_is_number m_sorted m_set (rd := pl__law_are_costs)
  have F__law_right : FnG P w K mg base CX0 8 _ d__law_right ["_law_deck_here"] (ASp K [true] sp__law_right) := WC.ok__law_right D__law_right F__law_draw g__law_draw D__law_draw.kp b__law_draw F__law_names g__law_names D__law_names.kp b__law_names F__law_any g__law_any D__law_any.kp b__law_any m_tuple F__law_turned g__law_turned D__law_turned.kp b__law_turned m_range F__law_bent g__law_bent D__law_bent.kp b__law_bent m_repr F_are_prices g_are_prices D_are_prices.kp b_are_prices F__law_are_costs g__law_are_costs D__law_are_costs.kp b__law_are_costs (rd := pl__law_right)
  have F_law : FnG P w K mg base CX0 9 _ d_law ["_law_script"] (ASp K [false] sp_law) := WC.ok_law D_law m_len m_min m_max m_range F__law_deck g__law_deck D__law_deck.kp b__law_deck F__law_right g__law_right D__law_right.kp b__law_right m_all (rd := pl_law)
  exact F_law
end Lw
open PySem PySem.W PySem.Calls PyProof.Rows
theorem PySem.Challenge.cw_gridupgrade_k37_prices_of_any_value_holds : PySem.Challenge.rw_gridupgrade_k37_prices_of_any_value.Holds := by
  w_on; o_law
  refine HandSHeadRun.head_any (r := OpenLaw.row PySem.Challenge.rw_gridupgrade_k37_prices_of_any_value) (q := view (OpenLaw.row PySem.Challenge.rw_gridupgrade_k37_prices_of_any_value).prog [24]) (H := Hd.hk) (ob := Hd.ob) (M := 1900) (loose := Hd.lo) (d := HandSHeadRun.topDef (OpenLaw.row PySem.Challenge.rw_gridupgrade_k37_prices_of_any_value).prog 24) (kwd := []) Hd.ob_eq
    (by kernel_rfl) (fun s => by kernel_rfl) Hd.run (by kernel_rfl) (by kernel_rfl) (by kernel_rfl) (by rfl) (by first | assumption | decide +kernel) (by decide +kernel) ⟨rfl, rfl, rfl, rfl, rfl, by decide +kernel⟩ ?hw ?hc
  case hw => w_witness2
  case hc =>
    refine DL.walk_ofG (l := PySem.Challenge.rw_gridupgrade_k37_prices_of_any_value) (n := 63) (k := 9) (x := "_law_script") rfl (by decide) (by kernel_rfl) ⟨rfl, by decide, by decide⟩ ?F
    intro w mg fa h Y G hmg0
    obtain ⟨K, KX, c⟩ := Y
    have hmg : mg ("law" : PySem.Str) = some (.ref fa) := by
      have e : (HandSHeadRun.topDef (OpenLaw.row PySem.Challenge.rw_gridupgrade_k37_prices_of_any_value).prog 24).name = ("law" : PySem.Str) := by kernel_rfl
      rw [← e]
      exact hmg0
    exact Lw.law_end w KX G hmg c

