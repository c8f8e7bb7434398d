import PyProof.Rows.All
import Wide.All
import OpenK.AllK
import Wide.FinOn
import PyProof.EqAt
import PyProof.EqKinds
import PyProof.TupleCall
import PyProof.ReprReads
import HandS.ForMost
import HandS.Style
import HandS.Flow
import HandS.Zip
import HandS.TupAny
import HandS.IsInst
import HandS.Deep
import HandS.Lambda
import HandS.Defaults
import HandS.WordsExc
import KE.GoesEnum
import PyProof.ReprRoads
import HandS.Ends
import HandS.Wide
import HandS.Text
import HandS.TupMul
import HandS.RaiseMore
import KE.LtData
import PyProof.NeData
import KE.KRevSl
import HandS.Conv
import PyProof.ListStr
import HandS.SetKeys
import HandS.SetFor
import HandS.Strs
import HandS.StrMore
import KE.SortData
import HandS.Dict
import HandS.DictComp
import HandS.Iter
import PyProof.CompUse
import HandS.TupLe
import KE.KStrOpen
import PyProof.Ascii
import PyProof.ReprLen
import KE.KDictPairs
import HandS.ExcValue
import HandS.ExcInit
import KE.KExcIs
import HandS.ExcIs
import HandS.ExcField
import HandS.EndTab
import HandS.HeadHook4
import HandS.GenList
import KE.KDictZip
import KE.KIndexOf
import HandS.NoneIn
import PyProof.Rows.StrJoinStr
import HandS.Replace
import KE.KeyNested
import HandS.TupSets
import KE.KDictSum
import HandS.Call
import HandS.Star
import KE.KDictItemsList
import PyProof.Transfer
import KE.SortKeyHeap
import KE.KLam
import KE.KStateDown
import Lean
import HandS.Words
import HandS.Head0
import HandS.Head1
import HandS.Head2
import HandS.HeadEnd
import HandS.HeadHook1
import HandS.HeadHook2
import HandS.HeadHook3
import PySem.Challenge.RW_gridupgrade_k38_prices_by_keywords
set_option Elab.async false
set_option linter.all false
set_option maxRecDepth 100000
set_option maxHeartbeats 4000000
/-! THE DATA LAYER, part 0: values as trees, owned objects, the state's relation. -/
namespace DL
open PySem PySem.Spec L2
open PyProof.Rows hiding St
abbrev T := PyData
/-- the tables of code objects of the law (one law, one list) -/
class Tbs where
  T : List (Addr × Str)
  /-- where the exception classes stand -/
  cad : Str → Addr
  /-- their names -/
  nms : List Str
/-- a tuple with no dict of its own -/
def SqP (H : Hp) (a : Addr) (vs : List V) : Prop := ∃ o, H a = some (.frz o (.tup vs)) ∧ o.cls = .type "tuple" ∧ o.dict = none
theorem SqP.t {K : PySem.W.Frag} {H : Hp} {a : Addr} {vs : List V} (h : SqP H a vs) : SqT K H a vs := let ⟨o, e, _⟩ := h; .inl (.inr ⟨o, e⟩)
/-- the object of a new tuple -/
abbrev tupO (its : List Value) : Obj := { cls := .type "tuple", data := .seq its.toArray }
theorem SqP.new {H : Hp} {a : Addr} {vs : List V} {its : List Value} (e : H a = some (.frz (tupO its) (.tup vs))) : SqP H a vs := ⟨_, e, rfl, rfl⟩
/-- no table -/
def NT (o : HO) : Prop := ∀ ps, o ≠ .tbl ps
/-- what the layer writes -/
def Mu : Option HO → Prop
  | some (.lst _) => True
  | some (.dK _) => True
  | some (.dT _) => True
  | some (.set _ _) => True
  | some (.ins _ _ _) => True
  | _ => False
theorem Mu.mut {o : Option HO} (m : Mu o) : Mut o := by
  unfold Mu at m
  split at m <;> first | trivial | exact m.elim
theorem Mu.nt {o : HO} (m : Mu (some o)) : NT o := fun ps e => by rw [e] at m; exact m
theorem codeO_mu {c : Addr} {q : Str} : ¬ Mu (some (LamX.CodeO c q)) := fun m => m
theorem Tabs.updN {T : List (Addr × Str)} {H : Hp} {D : Addr} {o u : HO} (t : LamX.Tabs T H) (e : H D = some o) (nt : NT o) (nc : ∀ c q, o ≠ LamX.CodeO c q) : LamX.Tabs T (L2.upd H D u) := fun p hp => by
  obtain ⟨ps, h1, h2, h3⟩ := t p hp
  have n1 : p.1 ≠ D := fun z => by
    rw [z, e] at h1
    exact nt _ (Option.some.inj h1)
  refine ⟨ps, (upd_ne n1).trans h1, h2, fun pos cv hc => ?_⟩
  obtain ⟨c, e1, e2⟩ := h3 pos cv hc
  have n2 : c ≠ D := fun z => by
    rw [z, e] at e2
    exact nc _ _ (Option.some.inj e2)
  exact ⟨c, e1, (upd_ne n2).trans e2⟩
theorem Tabs.upd {T : List (Addr × Str)} {H : Hp} {D : Addr} {o u : HO} (t : LamX.Tabs T H) (e : H D = some o) (mu : Mu (some o)) : LamX.Tabs T (L2.upd H D u) :=
  Tabs.updN t e mu.nt fun c q z => codeO_mu (by rw [← z]; exact mu)
section
variable [Tbs]
/-! ### a value is a tree -/
mutual
/-- v is the tree t in the tracked heap; the last place: the addresses of its lists and dicts -/
inductive RV (K : PySem.W.Frag) (H : Hp) : V → T → List Addr → Prop
  | non : RV K H .non .none []
  | bl (b : Bool) : RV K H (.bl b) (.bool b) []
  | int (i : Int) : RV K H (.int i) (.int i) []
  | str (x : Str) : RV K H (.str x) (.str x) []
  | tup {a : Addr} {vs : List V} {ts : List T} {as : List Addr} : SqP H a vs → RVs K H vs ts as → RV K H (.ref a) (.tuple ts) as
  | lst {a : Addr} {vs : List V} {ts : List T} {as : List Addr} : Rd H a (.lst vs) → RVs K H vs ts as → RV K H (.ref a) (.list ts) (a :: as)
  | lstK {a : Addr} {vs : List V} {ts : List T} {as : List Addr} {o : Obj} {its : Array Value} {n : Nat} :
      K.lookup a = some o → o.cls = .type "list" → o.dict = none → o.data = .seq its n → its.size ≤ sizeLine → Vals vs its.toList → RVs K H vs ts as → RV K H (.ref a) (.list ts) as
  | dct {a : Addr} {kvs : List (Key × V)} {ts : List T} {as : List Addr} : Rd H a (.dK kvs) → RVs K H (kvs.map (·.2)) ts as →
      RV K H (.ref a) (.dict (List.zipWith (fun (p : Key × V) (t : T) => ((match p.1 with | .inl i => .int i | .inr x => .str x), t)) kvs ts)) (a :: as)
inductive RVs (K : PySem.W.Frag) (H : Hp) : List V → List T → List Addr → Prop
  | nil : RVs K H [] [] []
  | cons {v : V} {vs : List V} {t : T} {ts : List T} {as bs : List Addr} : RV K H v t as → RVs K H vs ts bs → RVs K H (v :: vs) (t :: ts) (as ++ bs)
end
abbrev keyT : Key → T
  | .inl i => .int i
  | .inr x => .str x
theorem RVs.length {K : PySem.W.Frag} {H : Hp} : ∀ {vs : List V} {ts : List T} {as : List Addr}, RVs K H vs ts as → vs.length = ts.length
  | _, _, _, .nil => rfl
  | _, _, _, .cons _ h => congrArg (· + 1) h.length
/-- what a change of the tracked heap keeps: all but F -/
structure Ext (H : Hp) (F : Addr → Prop) (H' : Hp) (F' : Addr → Prop) : Prop where
  keep : ∀ a o, H a = some o → ¬ F a → NT o → H' a = some o
  tups : ∀ a xs, H a = some (.tup xs) → H' a = some (.tup xs)
  frzs : ∀ a o u, H a = some (.frz o u) → H' a = some (.frz o u)
  new : ∀ a, F' a → F a ∨ H a = none
  dom : ∀ a, H' a = none → H a = none
  tabs : LamX.Tabs Tbs.T H → LamX.Tabs Tbs.T H'
  exts : ∀ a φ, H a = some (.ext φ) → H' a = some (.ext φ)
theorem Ext.refl {H : Hp} {F : Addr → Prop} : Ext H F H F := ⟨fun _ _ h _ _ => h, fun _ _ h => h, fun _ _ _ h => h, fun _ h => .inl h, fun _ h => h, fun h => h, fun _ _ h => h⟩
theorem Ext.trans {H H1 H2 : Hp} {F F1 F2 : Addr → Prop} (h : Ext H F H1 F1) (k : Ext H1 F1 H2 F2) : Ext H F H2 F2 where
  keep a o e n t := k.keep a o (h.keep a o e n t) (fun z => (h.new a z).elim n fun q => by rw [q] at e; cases e) t
  tups a xs e := k.tups a xs (h.tups a xs e)
  frzs a o u e := k.frzs a o u (h.frzs a o u e)
  new a z := (k.new a z).elim (h.new a) fun q => .inr (h.dom a q)
  dom a z := h.dom a (k.dom a z)
  tabs z := k.tabs (h.tabs z)
  exts a φ e := k.exts a φ (h.exts a φ e)
theorem Ext.weak {H H1 : Hp} {F F1 F' F1' : Addr → Prop} (h : Ext H F H1 F1) (w : ∀ a, F a → F' a) (w1 : ∀ a, F1' a → F1 a) : Ext H F' H1 F1' where
  keep a o e n t := h.keep a o e (fun z => n (w a z)) t
  tups := h.tups
  frzs := h.frzs
  new a z := (h.new a (w1 a z)).elim (fun q => .inl (w a q)) .inr
  dom := h.dom
  tabs := h.tabs
  exts := h.exts
/-- everything is kept -/
def Pres (H H' : Hp) : Prop := ∀ a o, H a = some o → H' a = some o
theorem Pres.refl {H : Hp} : Pres H H := fun _ _ h => h
theorem Pres.trans {H H1 H2 : Hp} (h : Pres H H1) (k : Pres H1 H2) : Pres H H2 := fun a o e => k a o (h a o e)
theorem Pres.upd {H : Hp} {p : Addr} {o : HO} (n : H p = none) : Pres H (upd H p o) := fun a u e => by
  rw [upd_ne (ne_of_none e n)]; exact e
theorem Pres.ext {H H' : Hp} {F : Addr → Prop} (h : Pres H H') : Ext H F H' F :=
  ⟨fun a o e _ _ => h a o e, fun a xs e => h a _ e, fun a o u e => h a _ e, fun _ z => .inl z, fun a z => by
    (cases q : H a with
    | none => rfl
    | some o => rw [h a o q] at z; cases z), fun t => LamX.Tabs.ext t h, fun a φ e => h a _ e⟩
theorem Pres.extA {H H' : Hp} {F : Addr → Prop} {A : List Addr} (h : Pres H H') (n : ∀ a ∈ A, H a = none) : Ext H F H' (fun a => F a ∨ a ∈ A) :=
  ⟨fun a o e _ _ => h a o e, fun a xs e => h a _ e, fun a o u e => h a _ e, fun a z => z.imp (fun q => q) (n a), (h.ext (F := F)).dom, fun t => LamX.Tabs.ext t h, fun a φ e => h a _ e⟩
theorem Rd.tupE {H H' : Hp} {F F' : Addr → Prop} (x : Ext H F H' F') {a : Addr} {vs : List V} (h : Rd H a (.tup vs)) : Rd H' a (.tup vs) := by
  rcases h with h | ⟨o, h⟩
  · exact .inl (x.tups a vs h)
  · exact .inr ⟨o, x.frzs a o _ h⟩
theorem Rd.keepE {H H' : Hp} {F F' : Addr → Prop} (x : Ext H F H' F') {a : Addr} {u : HO} (h : Rd H a u) (n : ¬ F a) (t : NT u) : Rd H' a u := by
  rcases h with h | ⟨o, h⟩
  · exact .inl (x.keep a u h n t)
  · exact .inr ⟨o, x.keep a _ h n fun ps e => nomatch e⟩
theorem Rd.some {H : Hp} {a : Addr} {u : HO} (h : Rd H a u) : ∃ o, H a = some o := by
  rcases h with h | ⟨o, h⟩ <;> exact ⟨_, h⟩
theorem SqT.keepE {K : PySem.W.Frag} {H H' : Hp} {F F' : Addr → Prop} (x : Ext H F H' F') {a : Addr} {vs : List V} (h : SqT K H a vs) : SqT K H' a vs := h.imp (Rd.tupE x) fun h => h
theorem SqP.keepE {H H' : Hp} {F F' : Addr → Prop} (x : Ext H F H' F') {a : Addr} {vs : List V} (h : SqP H a vs) : SqP H' a vs := let ⟨o, e, q⟩ := h; ⟨o, x.frzs a o _ e, q⟩
theorem nt_lst {vs : List V} : NT (.lst vs) := fun _ e => nomatch e
theorem nt_dK {vs : List (Key × V)} : NT (.dK vs) := fun _ e => nomatch e
mutual
theorem RV.ext {K : PySem.W.Frag} {H H' : Hp} {F F' : Addr → Prop} (x : Ext H F H' F') : ∀ {v : V} {t : T} {as : List Addr}, RV K H v t as → (∀ a ∈ as, ¬ F a) → RV K H' v t as
  | _, _, _, .non, _ => .non
  | _, _, _, .bl b, _ => .bl b
  | _, _, _, .int i, _ => .int i
  | _, _, _, .str z, _ => .str z
  | _, _, _, .tup h r, n => .tup (SqP.keepE x h) (RVs.ext x r n)
  | _, _, _, .lst h r, n => .lst (Rd.keepE x h (n _ List.mem_cons_self) nt_lst) (RVs.ext x r fun a m => n a (List.mem_cons_of_mem _ m))
  | _, _, _, .lstK h1 h2 h3 h4 h5 h6 r, n => .lstK h1 h2 h3 h4 h5 h6 (RVs.ext x r n)
  | _, _, _, .dct h r, n => .dct (Rd.keepE x h (n _ List.mem_cons_self) nt_dK) (RVs.ext x r fun a m => n a (List.mem_cons_of_mem _ m))
theorem RVs.ext {K : PySem.W.Frag} {H H' : Hp} {F F' : Addr → Prop} (x : Ext H F H' F') : ∀ {vs : List V} {ts : List T} {as : List Addr}, RVs K H vs ts as → (∀ a ∈ as, ¬ F a) → RVs K H' vs ts as
  | _, _, _, .nil, _ => .nil
  | _, _, _, .cons h r, n => .cons (RV.ext x h fun a m => n a (List.mem_append_left _ m)) (RVs.ext x r fun a m => n a (List.mem_append_right _ m))
end
mutual
/-- the lists and dicts of a tree stand -/
theorem RV.there {K : PySem.W.Frag} {H : Hp} : ∀ {v : V} {t : T} {as : List Addr}, RV K H v t as → ∀ a ∈ as, ∃ o, H a = some o
  | _, _, _, .non, _, m => nomatch m
  | _, _, _, .bl b, _, m => nomatch m
  | _, _, _, .int i, _, m => nomatch m
  | _, _, _, .str z, _, m => nomatch m
  | _, _, _, .tup h r, a, m => RVs.there r a m
  | _, _, _, .lst h r, a, m => (List.mem_cons.mp m).elim (fun e => e ▸ Rd.some h) (RVs.there r a)
  | _, _, _, .lstK h1 h2 h3 h4 h5 h6 r, a, m => RVs.there r a m
  | _, _, _, .dct h r, a, m => (List.mem_cons.mp m).elim (fun e => e ▸ Rd.some h) (RVs.there r a)
theorem RVs.there {K : PySem.W.Frag} {H : Hp} : ∀ {vs : List V} {ts : List T} {as : List Addr}, RVs K H vs ts as → ∀ a ∈ as, ∃ o, H a = some o
  | _, _, _, .nil, _, m => nomatch m
  | _, _, _, .cons h r, a, m => (List.mem_append.mp m).elim (RV.there h a) (RVs.there r a)
end
/-- a tree whose lists and dicts are none of F -/
def RP (K : PySem.W.Frag) (H : Hp) (F : Addr → Prop) (v : V) (t : T) : Prop := ∃ as, RV K H v t as ∧ ∀ a ∈ as, ¬ F a
section
variable {K : PySem.W.Frag} {H H' : Hp} {F F' : Addr → Prop} {v : V} {t : T} {vs : List V} {ts : List T}
theorem RP.ext (h : RP K H F v t) (x : Ext H F H' F') : RP K H' F' v t := by
  obtain ⟨as, r, n⟩ := h
  refine ⟨as, r.ext x n, fun a m z => (x.new a z).elim (n a m) fun q => ?_⟩
  obtain ⟨o, e⟩ := r.there a m
  rw [q] at e; cases e
theorem RP.weak (h : RP K H F v t) (w : ∀ a, F' a → F a) : RP K H F' v t := let ⟨as, r, n⟩ := h; ⟨as, r, fun a m z => n a m (w a z)⟩
theorem RP.pres (h : RP K H F v t) (p : Pres H H') : RP K H' F v t := h.ext p.ext
/-- F may grow by what is new -/
theorem RP.grow (h : RP K H F v t) (w : ∀ a, F' a → F a ∨ H a = none) : RP K H F' v t := by
  obtain ⟨as, r, n⟩ := h
  refine ⟨as, r, fun a m z => (w a z).elim (n a m) fun q => ?_⟩
  obtain ⟨o, e⟩ := r.there a m
  rw [q] at e; cases e
abbrev RPs (K : PySem.W.Frag) (H : Hp) (F : Addr → Prop) : List V → List T → Prop := Paired (RP K H F)
theorem RPs.of : ∀ {vs : List V} {ts : List T} {as : List Addr}, RVs K H vs ts as → (∀ a ∈ as, ¬ F a) → RPs K H F vs ts
  | _, _, _, .nil, _ => .nil
  | _, _, _, .cons h r, n => .cons ⟨_, h, fun a m => n a (List.mem_append_left _ m)⟩ (RPs.of r fun a m => n a (List.mem_append_right _ m))
theorem RPs.rvs : ∀ {vs : List V} {ts : List T}, RPs K H F vs ts → ∃ as, RVs K H vs ts as ∧ ∀ a ∈ as, ¬ F a
  | _, _, .nil => ⟨[], .nil, fun _ m => nomatch m⟩
  | _, _, .cons ⟨as, h, n⟩ r => let ⟨bs, q, m⟩ := RPs.rvs r; ⟨as ++ bs, .cons h q, fun a z => (List.mem_append.mp z).elim (n a) (m a)⟩
theorem RPs.ext (x : Ext H F H' F') : ∀ {vs : List V} {ts : List T}, RPs K H F vs ts → RPs K H' F' vs ts
  | _, _, .nil => .nil
  | _, _, .cons h r => .cons (h.ext x) (RPs.ext x r)
theorem RPs.mapP {G : V → T → Prop} (w : ∀ v t, RP K H F v t → G v t) : ∀ {vs : List V} {ts : List T}, RPs K H F vs ts → Paired G vs ts
  | _, _, .nil => .nil
  | _, _, .cons h r => .cons (w _ _ h) (RPs.mapP w r)
theorem RPs.weak (h : RPs K H F vs ts) (w : ∀ a, F' a → F a) : RPs K H F' vs ts := h.mapP fun _ _ q => q.weak w
theorem RPs.grow (h : RPs K H F vs ts) (w : ∀ a, F' a → F a ∨ H a = none) : RPs K H F' vs ts := h.mapP fun _ _ q => q.grow w
theorem Paired.len {α β : Type} {G : α → β → Prop} : ∀ {l : List α} {r : List β}, Paired G l r → l.length = r.length
  | _, _, .nil => rfl
  | _, _, .cons _ h => congrArg (· + 1) (Paired.len h)
theorem Paired.app {α β : Type} {G : α → β → Prop} : ∀ {l l' : List α} {r r' : List β}, Paired G l r → Paired G l' r' → Paired G (l ++ l') (r ++ r')
  | _, _, _, _, .nil, k => k
  | _, _, _, _, .cons h t, k => .cons h (Paired.app t k)
theorem Paired.at {α β : Type} {G : α → β → Prop} : ∀ {l : List α} {r : List β} {i : Nat} {b : β}, Paired G l r → r[i]? = some b → ∃ a, l[i]? = some a ∧ G a b
  | _, _, _, _, .nil, e => by simp at e
  | _, _, 0, _, .cons h _, e => by simp at e; subst e; exact ⟨_, rfl, h⟩
  | _, _, i + 1, _, .cons _ t, e => by
    obtain ⟨a, h1, h2⟩ := Paired.at (i := i) t (by simpa using e)
    exact ⟨a, by simpa using h1, h2⟩
theorem Paired.takeP {α β : Type} {G : α → β → Prop} : ∀ {l : List α} {r : List β} (n : Nat), Paired G l r → Paired G (l.take n) (r.take n)
  | _, _, 0, _ => by simp only [List.take_zero]; exact .nil
  | _, _, _ + 1, .nil => .nil
  | _, _, n + 1, .cons h t => .cons h (Paired.takeP n t)
theorem Paired.dropP {α β : Type} {G : α → β → Prop} : ∀ {l : List α} {r : List β} (n : Nat), Paired G l r → Paired G (l.drop n) (r.drop n)
  | _, _, 0, h => h
  | _, _, _ + 1, .nil => .nil
  | _, _, n + 1, .cons _ t => Paired.dropP n t
theorem Paired.setP {α β : Type} {G : α → β → Prop} {a : α} {b : β} (g : G a b) : ∀ {l : List α} {r : List β} (n : Nat), Paired G l r → Paired G (l.set n a) (r.set n b)
  | _, _, _, .nil => .nil
  | _, _, 0, .cons _ t => .cons g t
  | _, _, n + 1, .cons h t => .cons h (Paired.setP g n t)
/-- a tuple, a list made of stable items is stable -/
theorem RP.tup {a : Addr} (h : SqP H a vs) (r : RPs K H F vs ts) : RP K H F (.ref a) (.tuple ts) := let ⟨as, q, n⟩ := r.rvs; ⟨as, .tup h q, n⟩
theorem RP.lst {a : Addr} (h : Rd H a (.lst vs)) (r : RPs K H F vs ts) (n : ¬ F a) : RP K H F (.ref a) (.list ts) :=
  let ⟨as, q, m⟩ := r.rvs; ⟨a :: as, .lst h q, fun b z => (List.mem_cons.mp z).elim (fun e => e ▸ n) (m b)⟩
theorem RP.non : RP K H F .non .none := ⟨[], .non, fun _ m => nomatch m⟩
theorem RP.bl (b : Bool) : RP K H F (.bl b) (.bool b) := ⟨[], .bl b, fun _ m => nomatch m⟩
theorem RP.int (i : Int) : RP K H F (.int i) (.int i) := ⟨[], .int i, fun _ m => nomatch m⟩
theorem RP.str (x : Str) : RP K H F (.str x) (.str x) := ⟨[], .str x, fun _ m => nomatch m⟩
/-- read a tree off -/
theorem RP.tupE (h : RP K H F v (.tuple ts)) : ∃ a vs, v = .ref a ∧ SqT K H a vs ∧ RPs K H F vs ts := by
  obtain ⟨as, r, n⟩ := h
  cases r with
  | tup h r => exact ⟨_, _, rfl, h.t, RPs.of r n⟩
theorem RP.tupP (h : RP K H F v (.tuple ts)) : ∃ a vs, v = .ref a ∧ SqP H a vs ∧ RPs K H F vs ts := by
  obtain ⟨as, r, n⟩ := h
  cases r with
  | tup h r => exact ⟨_, _, rfl, h, RPs.of r n⟩
theorem RP.lstE (h : RP K H F v (.list ts)) : ∃ a vs, v = .ref a ∧ SqL K H a vs ∧ RPs K H F vs ts ∧ (F a → ∃ o, K.lookup a = some o) := by
  obtain ⟨as, r, n⟩ := h
  cases r with
  | lst h r => exact ⟨_, _, rfl, .inl h, RPs.of r fun a m => n a (List.mem_cons_of_mem _ m), fun z => absurd z (n _ List.mem_cons_self)⟩
  | lstK h1 h2 h3 h4 h5 h6 r => exact ⟨_, _, rfl, .inr ⟨_, _, _, h1, h2, h3, h4, h5, h6⟩, RPs.of r n, fun _ => ⟨_, h1⟩⟩
theorem RP.noneE (h : RP K H F v .none) : v = .non := by obtain ⟨_, r, _⟩ := h; cases r; rfl
theorem RP.boolE {b : Bool} (h : RP K H F v (.bool b)) : v = .bl b := by obtain ⟨_, r, _⟩ := h; cases r; rfl
theorem RP.intE {i : Int} (h : RP K H F v (.int i)) : v = .int i := by obtain ⟨_, r, _⟩ := h; cases r; rfl
theorem RP.strE {x : Str} (h : RP K H F v (.str x)) : v = .str x := by obtain ⟨_, r, _⟩ := h; cases r; rfl
theorem RP.dctE {kts : List (T × T)} (h : RP K H F v (.dict kts)) : ∃ a kvs ts, v = .ref a ∧ Rd H a (.dK kvs) ∧ RPs K H F (kvs.map (·.2)) ts ∧ ¬ F a ∧ kts = List.zipWith (fun (p : Key × V) (t : T) => (keyT p.1, t)) kvs ts := by
  obtain ⟨as, r, n⟩ := h
  cases r with
  | dct h r => exact ⟨_, _, _, rfl, h, RPs.of r fun a m => n a (List.mem_cons_of_mem _ m), n _ List.mem_cons_self, rfl⟩
end
/-! ### what a name holds -/
/-- a caught exception: its class, its one attribute -/
structure Exc where
  nm : Str
  arg : Option (Str × T)
/-- a lambda of the def above: the function f, its code object c named q, what the names hold that it may look at -/
structure Thk where
  f : Addr
  c : Addr
  q : Str
  st : L2.St
  ts : List (Option T)
inductive O where
  | pure (t : T)
  | lst (ts : List T)
  | dct (kts : List (Key × T))
  | dcl (kts : List (Key × List T))
  | exc (e : Exc)
  | thk (f : Thk)
abbrev AEnv := List (Option O)
/-- may be seen as a tree -/
def O.fz : O → Prop
  | .pure _ => True
  | .lst _ => True
  | .dct _ => True
  | .dcl _ => True
  | .exc _ => False
  | .thk _ => False
/-- what it is as a tree -/
def O.frz : O → T
  | .pure t => t
  | .lst ts => .list ts
  | .dct kts => .dict (kts.map fun p => (keyT p.1, p.2))
  | .dcl kts => .dict (kts.map fun p => (keyT p.1, .list p.2))
  | .exc _ => .none
  | .thk _ => .none
/-- what a second name of it holds -/
def O.alias : O → O
  | .pure t => .pure t
  | .lst ts => .pure (.list ts)
  | .dct kts => .pure (.dict (kts.map fun p => (keyT p.1, p.2)))
  | .dcl kts => .pure (.dict (kts.map fun p => (keyT p.1, .list p.2)))
  | .exc e => .exc e
  | .thk f => .thk f
/-- an exception object: its class, its dict -/
def ExT (a : Addr) (cls : Value) (d : Option Addr) : HO := .ext fun h => ∃ (oe : Obj) (vs : Array Value), h.get? a = some oe ∧ Zc cls d oe ∧ oe.data = .fields vs
theorem exT_nt {a : Addr} {cls : Value} {d : Option Addr} : NT (ExT a cls d) := fun _ e => nomatch e
/-- v is the exception e -/
def RX (K : PySem.W.Frag) (H : Hp) (F : Addr → Prop) (v : V) (e : Exc) : Prop :=
  ∃ (a : Addr) (d : Option Addr), v = .ref a ∧ H a = some (ExT a (.ref (Tbs.cad e.nm)) d) ∧ ¬ F a ∧ e.nm ∈ Tbs.nms ∧ (e.arg = none → d = none) ∧
    ∀ f t, e.arg = some (f, t) → ∃ dd fs u, d = some dd ∧ H dd = some (.xd fs) ∧ ¬ F dd ∧ fs.lookup f = some u ∧ RP K H F u t
/-- v is the lambda k -/
def RK (K : PySem.W.Frag) (H : Hp) (F : Addr → Prop) (v : V) (k : Thk) : Prop :=
  v = .ref k.f ∧ H k.c = some (LamX.CodeO k.c k.q) ∧ k.ts.length = k.st.length ∧ ∀ (i : Nat) (t : T), k.ts[i]? = some (some t) → ∃ u, k.st[i]? = some (some u) ∧ RP K H F u t
/-- a dict of lists: entries, contents, the lists' addresses -/
inductive RDL (K : PySem.W.Frag) (H : Hp) (F : Addr → Prop) : List (Key × V) → List (Key × List T) → List Addr → Prop
  | nil : RDL K H F [] [] []
  | cons {k : Key} {b : Addr} {vs : List V} {ts : List T} {kvs : List (Key × V)} {kts : List (Key × List T)} {bs : List Addr} :
      H b = some (.lst vs) → RPs K H F vs ts → RDL K H F kvs kts bs → RDL K H F ((k, .ref b) :: kvs) ((k, ts) :: kts) (b :: bs)
/-- v holds o; A: the addresses that are o's own -/
def RO (K : PySem.W.Frag) (H : Hp) (F : Addr → Prop) (v : V) : O → List Addr → Prop
  | .pure t, A => A = [] ∧ RP K H F v t
  | .lst ts, A => ∃ a vs, v = .ref a ∧ A = [a] ∧ H a = some (.lst vs) ∧ RPs K H F vs ts
  | .dct kts, A => ∃ a kvs, v = .ref a ∧ A = [a] ∧ H a = some (.dK kvs) ∧ Paired (fun (p : Key × V) (q : Key × T) => p.1 = q.1 ∧ RP K H F p.2 q.2) kvs kts
  | .dcl kts, A => ∃ a kvs bs, v = .ref a ∧ A = a :: bs ∧ H a = some (.dK kvs) ∧ RDL K H F kvs kts bs
  | .exc e, A => A = [] ∧ RX K H F v e
  | .thk k, A => A = [] ∧ RK K H F v k
/-- .. without the addresses -/
def RW (K : PySem.W.Frag) (H : Hp) (F : Addr → Prop) (v : V) : O → Prop
  | .pure t => RP K H F v t
  | .lst ts => ∃ a vs, v = .ref a ∧ H a = some (.lst vs) ∧ RPs K H F vs ts
  | .dct kts => ∃ a kvs, v = .ref a ∧ H a = some (.dK kvs) ∧ Paired (fun (p : Key × V) (q : Key × T) => p.1 = q.1 ∧ RP K H F p.2 q.2) kvs kts
  | .dcl kts => ∃ a kvs bs, v = .ref a ∧ H a = some (.dK kvs) ∧ RDL K H F kvs kts bs
  | .exc e => RX K H F v e
  | .thk k => RK K H F v k
section
variable {K : PySem.W.Frag} {H H' : Hp} {F F' : Addr → Prop} {v : V} {o : O} {A : List Addr}
theorem RX.imp {e : Exc} (h : RX K H F v e) (k : ∀ a u, H a = some u → NT u → ¬ F a → H' a = some u ∧ ¬ F' a) (w : ∀ v t, RP K H F v t → RP K H' F' v t) : RX K H' F' v e := by
  obtain ⟨a, d, e1, e2, n, m, m0, q⟩ := h
  obtain ⟨e2', n'⟩ := k a _ e2 exT_nt n
  refine ⟨a, d, e1, e2', n', m, m0, fun f t ef => ?_⟩
  obtain ⟨dd, fs, u, d1, d2, nd, l, r⟩ := q f t ef
  obtain ⟨d2', nd'⟩ := k dd _ d2 (fun _ e => nomatch e) nd
  exact ⟨dd, fs, u, d1, d2', nd', l, w _ _ r⟩
theorem RK.imp {e : Thk} (h : RK K H F v e) (k : ∀ a φ, H a = some (.ext φ) → H' a = some (.ext φ)) (w : ∀ v t, RP K H F v t → RP K H' F' v t) : RK K H' F' v e := by
  obtain ⟨e1, e2, l, q⟩ := h
  exact ⟨e1, k _ _ e2, l, fun i t ei => let ⟨u, h1, h2⟩ := q i t ei; ⟨u, h1, w _ _ h2⟩⟩
theorem RX.ext {e : Exc} (h : RX K H F v e) (x : Ext H F H' F') : RX K H' F' v e :=
  h.imp (fun a u q t n => ⟨x.keep a u q n t, fun z => (x.new a z).elim n fun y => by rw [q] at y; cases y⟩) fun _ _ r => r.ext x
theorem RX.grow {e : Exc} (h : RX K H F v e) (w : ∀ a, F' a → F a ∨ H a = none) : RX K H F' v e :=
  h.imp (fun a u q t n => ⟨q, fun z => (w a z).elim n fun y => by rw [q] at y; cases y⟩) fun _ _ r => r.grow w
theorem RX.weak {e : Exc} (h : RX K H F v e) (w : ∀ a, F' a → F a) : RX K H F' v e := h.grow fun a z => .inl (w a z)
theorem RX.pres {e : Exc} (h : RX K H F v e) (p : Pres H H') : RX K H' F v e := h.imp (fun a u q _ n => ⟨p a u q, n⟩) fun _ _ r => r.pres p
theorem RK.ext {e : Thk} (h : RK K H F v e) (x : Ext H F H' F') : RK K H' F' v e := h.imp x.exts fun _ _ r => r.ext x
theorem RK.grow {e : Thk} (h : RK K H F v e) (w : ∀ a, F' a → F a ∨ H a = none) : RK K H F' v e := h.imp (fun _ _ q => q) fun _ _ r => r.grow w
theorem RK.weak {e : Thk} (h : RK K H F v e) (w : ∀ a, F' a → F a) : RK K H F' v e := h.grow fun a z => .inl (w a z)
theorem RK.pres {e : Thk} (h : RK K H F v e) (p : Pres H H') : RK K H' F v e := h.imp (fun a φ q => p a _ q) fun _ _ r => r.pres p
theorem RDL.there : ∀ {kvs : List (Key × V)} {kts : List (Key × List T)} {bs : List Addr}, RDL K H F kvs kts bs → ∀ b ∈ bs, ∃ vs, H b = some (.lst vs)
  | _, _, _, .nil, _, m => nomatch m
  | _, _, _, .cons h _ r, b, m => (List.mem_cons.mp m).elim (fun e => ⟨_, e ▸ h⟩) (RDL.there r b)
theorem RDL.imp (w : ∀ vs ts, RPs K H F vs ts → RPs K H' F' vs ts) : ∀ {kvs : List (Key × V)} {kts : List (Key × List T)} {bs : List Addr}, RDL K H F kvs kts bs → (∀ b ∈ bs, ∀ vs, H b = some (.lst vs) → H' b = some (.lst vs)) → RDL K H' F' kvs kts bs
  | _, _, _, .nil, _ => .nil
  | _, _, _, .cons h q r, k => .cons (k _ List.mem_cons_self _ h) (w _ _ q) (RDL.imp w r fun b m => k b (List.mem_cons_of_mem _ m))
theorem RO.rw (h : RO K H F v o A) : RW K H F v o := by
  cases o with
  | pure t => exact h.2
  | lst ts => obtain ⟨a, vs, e, _, q⟩ := h; exact ⟨a, vs, e, q⟩
  | dct kts => obtain ⟨a, vs, e, _, q⟩ := h; exact ⟨a, vs, e, q⟩
  | dcl kts => obtain ⟨a, vs, bs, e, _, q⟩ := h; exact ⟨a, vs, bs, e, q⟩
  | exc e => exact h.2
  | thk f => exact h.2
/-- its own addresses stand -/
theorem RO.there (h : RO K H F v o A) : ∀ a ∈ A, ∃ u, H a = some u ∧ Mu (some u) := by
  cases o with
  | pure t => intro a m; rw [h.1] at m; cases m
  | lst ts => obtain ⟨a, vs, _, e, q, _⟩ := h; intro b m; rw [e] at m; obtain rfl := List.mem_singleton.mp m; exact ⟨_, q, trivial⟩
  | dct kts => obtain ⟨a, vs, _, e, q, _⟩ := h; intro b m; rw [e] at m; obtain rfl := List.mem_singleton.mp m; exact ⟨_, q, trivial⟩
  | dcl kts =>
    obtain ⟨a, vs, bs, _, e, q, r⟩ := h
    intro b m; rw [e] at m
    rcases List.mem_cons.mp m with rfl | m
    · exact ⟨_, q, trivial⟩
    · obtain ⟨us, z⟩ := r.there b m
      exact ⟨_, z, trivial⟩
  | exc e => intro a m; rw [h.1] at m; cases m
  | thk f => intro a m; rw [h.1] at m; cases m
/-- a change of the heap that keeps F's trees and o's own addresses -/
theorem RO.imp (h : RO K H F v o A) (w : ∀ v t, RP K H F v t → RP K H' F' v t) (k : ∀ a ∈ A, ∀ u, H a = some u → NT u → H' a = some u) (wx : ∀ v e, RX K H F v e → RX K H' F' v e) (wk : ∀ v e, RK K H F v e → RK K H' F' v e) : RO K H' F' v o A := by
  have ws : ∀ vs ts, RPs K H F vs ts → RPs K H' F' vs ts := fun vs ts q => q.mapP w
  cases o with
  | pure t => exact ⟨h.1, w _ _ h.2⟩
  | lst ts => obtain ⟨a, vs, e, e2, q, r⟩ := h; exact ⟨a, vs, e, e2, k a (e2 ▸ List.mem_singleton.mpr rfl) _ q nt_lst, ws _ _ r⟩
  | dct kts =>
    obtain ⟨a, vs, e, e2, q, r⟩ := h
    exact ⟨a, vs, e, e2, k a (e2 ▸ List.mem_singleton.mpr rfl) _ q nt_dK, Paired.mapP r fun p q z => ⟨z.1, w _ _ z.2⟩⟩
  | dcl kts =>
    obtain ⟨a, vs, bs, e, e2, q, r⟩ := h
    exact ⟨a, vs, bs, e, e2, k a (e2 ▸ List.mem_cons_self) _ q nt_dK, r.imp ws fun b m us z => k b (e2 ▸ List.mem_cons_of_mem _ m) _ z nt_lst⟩
  | exc e => exact ⟨h.1, wx _ _ h.2⟩
  | thk f => exact ⟨h.1, wk _ _ h.2⟩
theorem RO.ext (h : RO K H F v o A) (x : Ext H F H' F') (n : ∀ a ∈ A, ¬ F a) : RO K H' F' v o A := h.imp (fun _ _ q => q.ext x) (fun a m u e t => x.keep a u e (n a m) t) (fun _ _ q => q.ext x) fun _ _ q => q.ext x
theorem RO.weak (h : RO K H F v o A) (w : ∀ a, F' a → F a) : RO K H F' v o A := h.imp (fun _ _ q => q.weak w) (fun _ _ _ e _ => e) (fun _ _ q => q.weak w) fun _ _ q => q.weak w
theorem RO.grow (h : RO K H F v o A) (w : ∀ a, F' a → F a ∨ H a = none) : RO K H F' v o A := h.imp (fun _ _ q => q.grow w) (fun _ _ _ e _ => e) (fun _ _ q => q.grow w) fun _ _ q => q.grow w
theorem RO.pres (h : RO K H F v o A) (p : Pres H H') : RO K H' F v o A := h.imp (fun _ _ q => q.pres p) (fun a _ u e _ => p a u e) (fun _ _ q => q.pres p) fun _ _ q => q.pres p
theorem zip_kt : ∀ {kvs : List (Key × V)} {kts : List (Key × T)}, Paired (fun (p : Key × V) (q : Key × T) => p.1 = q.1 ∧ RP K H F p.2 q.2) kvs kts →
    (kts.map fun p => (keyT p.1, p.2)) = List.zipWith (fun (p : Key × V) (t : T) => (keyT p.1, t)) kvs (kts.map (·.2)) ∧ RPs K H F (kvs.map (·.2)) (kts.map (·.2))
  | _, _, .nil => ⟨rfl, .nil⟩
  | _, _, .cons h r => by
    obtain ⟨e, q⟩ := zip_kt r
    exact ⟨by simp only [List.map_cons, List.zipWith_cons_cons, e, h.1], .cons h.2 q⟩
theorem zip_kl (F' : Addr → Prop) (hF : ∀ a, F' a → F a) : ∀ {kvs : List (Key × V)} {kts : List (Key × List T)} {bs : List Addr}, RDL K H F kvs kts bs → (∀ b ∈ bs, ¬ F' b) →
    (kts.map fun p => (keyT p.1, PyData.list p.2)) = List.zipWith (fun (p : Key × V) (t : T) => (keyT p.1, t)) kvs (kts.map fun p => PyData.list p.2) ∧ RPs K H F' (kvs.map (·.2)) (kts.map fun p => PyData.list p.2)
  | _, _, _, .nil, _ => ⟨rfl, .nil⟩
  | _, _, _, .cons h q r, n => by
    obtain ⟨e, z⟩ := zip_kl F' hF r fun b m => n b (List.mem_cons_of_mem _ m)
    exact ⟨by simp only [List.map_cons, List.zipWith_cons_cons, e], .cons (RP.lst (.inl h) (q.weak hF) (n _ List.mem_cons_self)) z⟩
/-- given up: what was owned is a tree -/
theorem RO.frz (h : RO K H F v o A) (w : ∀ a, F' a → F a) (n : ∀ a ∈ A, ¬ F' a) (fz : o.fz) : RP K H F' v o.frz := by
  cases o with
  | pure t => exact h.2.weak w
  | lst ts =>
    obtain ⟨a, vs, rfl, rfl, q, r⟩ := h
    exact RP.lst (.inl q) (r.weak w) (n a (List.mem_singleton.mpr rfl))
  | dct kts =>
    obtain ⟨a, kvs, rfl, rfl, q, r⟩ := h
    obtain ⟨e, z⟩ := zip_kt r
    obtain ⟨as, z, m⟩ := (z.weak w).rvs
    refine ⟨a :: as, ?_, fun b y => (List.mem_cons.mp y).elim (fun e => e ▸ n a (List.mem_singleton.mpr rfl)) (m b)⟩
    show RV K H (.ref a) (.dict (kts.map fun p => (keyT p.1, p.2))) (a :: as)
    rw [e]
    exact .dct (.inl q) z
  | dcl kts =>
    obtain ⟨a, kvs, bs, rfl, rfl, q, r⟩ := h
    obtain ⟨e, z⟩ := zip_kl F' w r fun b m => n b (List.mem_cons_of_mem _ m)
    obtain ⟨as, z, m⟩ := z.rvs
    refine ⟨a :: as, ?_, fun b y => (List.mem_cons.mp y).elim (fun e => e ▸ n a List.mem_cons_self) (m b)⟩
    show RV K H (.ref a) (.dict (kts.map fun p => (keyT p.1, PyData.list p.2))) (a :: as)
    rw [e]
    exact .dct (.inl q) z
  | exc e => exact fz.elim
  | thk f => exact fz.elim
/-- a second name -/
theorem RO.alias (h : RO K H F v o A) (w : ∀ a, F' a → F a) (n : ∀ a ∈ A, ¬ F' a) : RO K H F' v o.alias [] := by
  cases o with
  | pure t => exact ⟨rfl, h.frz w n trivial⟩
  | lst ts => exact ⟨rfl, h.frz w n trivial⟩
  | dct kts => exact ⟨rfl, h.frz w n trivial⟩
  | dcl kts => exact ⟨rfl, h.frz w n trivial⟩
  | exc e => exact ⟨rfl, h.2.weak w⟩
  | thk f => exact ⟨rfl, h.2.weak w⟩
/-- seen as a tree now -/
theorem RW.view (h : RW K H F v o) (fz : o.fz) : ∃ as, RV K H v o.frz as := by
  cases o with
  | pure t => exact ⟨_, h.choose_spec.1⟩
  | lst ts =>
    obtain ⟨a, vs, rfl, q, r⟩ := h
    obtain ⟨as, z, _⟩ := r.rvs
    exact ⟨_, .lst (.inl q) z⟩
  | dct kts =>
    obtain ⟨a, kvs, rfl, q, r⟩ := h
    obtain ⟨e, z⟩ := zip_kt r
    obtain ⟨as, z, m⟩ := z.rvs
    refine ⟨a :: as, ?_⟩
    show RV K H (.ref a) (.dict (kts.map fun p => (keyT p.1, p.2))) (a :: as)
    rw [e]
    exact .dct (.inl q) z
  | dcl kts =>
    obtain ⟨a, kvs, bs, rfl, q, r⟩ := h
    obtain ⟨e, z⟩ := zip_kl (fun _ => False) (fun _ z => z.elim) r fun b m z => z
    obtain ⟨as, z, m⟩ := z.rvs
    refine ⟨a :: as, ?_⟩
    show RV K H (.ref a) (.dict (kts.map fun p => (keyT p.1, PyData.list p.2))) (a :: as)
    rw [e]
    exact .dct (.inl q) z
  | exc e => exact fz.elim
  | thk f => exact fz.elim
end
/-! ### the state -/
/-- what is owned by some slot -/
def Fo (fp : Nat → List Addr) : Addr → Prop := fun a => ∃ i, a ∈ fp i
def Or1 (F : Addr → Prop) (A : List Addr) : Addr → Prop := fun a => F a ∨ a ∈ A
/-- the def's start: the heap, what it was lent, what others own -/
class Bas where
  H0 : Hp
  F0 : Addr → Prop
  G0 : List Addr
/-- the slots hold what the environment says; G: addresses that others own -/
structure RS0 (K : PySem.W.Frag) (σ : St) (H : Hp) (ρ : AEnv) (fp : Nat → List Addr) (G : List Addr) : Prop where
  ex : ∀ i o, ρ[i]? = some (some o) → ∃ v, σ[i]? = some (some v) ∧ RO K H (Or1 (Fo fp) G) v o (fp i)
  non : ∀ i, (∀ o, ρ[i]? ≠ some (some o)) → fp i = []
  dj : ∀ i j a, a ∈ fp i → a ∈ fp j → i = j
  nd : ∀ i, (fp i).Nodup
  gf : ∀ a ∈ G, ¬ Fo fp a
  gi : ∀ a ∈ G, ∃ u, H a = some u
  len : ρ.length = σ.length
  tb : LamX.Tabs Tbs.T H
variable [Bas]
/-- .. and what is kept of the def's start -/
structure RS (K : PySem.W.Frag) (σ : St) (H : Hp) (ρ : AEnv) (fp : Nat → List Addr) (G : List Addr) : Prop extends RS0 K σ H ρ fp G where
  bs : Ext Bas.H0 Bas.F0 H (fun a => Or1 (Fo fp) G a ∧ a ∉ Bas.G0)
  g0 : ∀ a ∈ Bas.G0, a ∈ G
section
variable {K : PySem.W.Frag} {σ : St} {H H' : Hp} {ρ : AEnv} {fp : Nat → List Addr} {G G' : List Addr}
omit [Bas] in
theorem RS0.there (R : RS0 K σ H ρ fp G) : ∀ a, Fo fp a → ∃ u, H a = some u ∧ Mu (some u) := by
  rintro a ⟨i, m⟩
  by_cases h : ∃ o, ρ[i]? = some (some o)
  · obtain ⟨o, h⟩ := h
    obtain ⟨v, _, r⟩ := R.ex i o h
    exact r.there a m
  · rw [R.non i fun o e => h ⟨o, e⟩] at m
    cases m
theorem RS.pres (R : RS K σ H ρ fp G) (p : Pres H H') : RS K σ H' ρ fp G :=
  ⟨⟨fun i o e => let ⟨v, h, r⟩ := R.ex i o e; ⟨v, h, r.pres p⟩, R.non, R.dj, R.nd, R.gf, fun a m => let ⟨u, e⟩ := R.gi a m; ⟨u, p a u e⟩, R.len, R.tb.ext p⟩, R.bs.trans p.ext, R.g0⟩
theorem RS.fresh (R : RS K σ H ρ fp G) {a : Addr} (n : H a = none) : ¬ Or1 (Fo fp) G a := fun z => by
  rcases z with z | z
  · obtain ⟨u, e, _⟩ := R.there a z
    rw [n] at e; cases e
  · obtain ⟨u, e⟩ := R.gi a z
    rw [n] at e; cases e
/-- G by its members -/
theorem RS.sub (R : RS K σ H ρ fp G) (h : ∀ a ∈ G', a ∈ G) (g : ∀ a ∈ Bas.G0, a ∈ G' := by (intro a z; repeat first | exact RS.g0 (by assumption) a z | (refine (?_ : ∀ a ∈ Bas.G0, a ∈ _) a z; assumption) | refine List.mem_append_right _ ?_)) : RS K σ H ρ fp G' :=
  ⟨⟨fun i o e => let ⟨v, q, r⟩ := R.ex i o e; ⟨v, q, r.weak fun a z => z.imp (fun q => q) (h a)⟩, R.non, R.dj, R.nd, fun a m => R.gf a (h a m), fun a m => R.gi a (h a m), R.len, R.tb⟩, R.bs.weak (fun _ z => z) fun a z => ⟨z.1.imp (fun q => q) (h a), z.2⟩, g⟩
/-- G grows by what is new -/
theorem RS.new (R : RS K σ H ρ fp G) (p : Pres H H') {A : List Addr} (n : ∀ a ∈ A, H a = none) (i : ∀ a ∈ A, ∃ u, H' a = some u) : RS K σ H' ρ fp (A ++ G) :=
  ⟨⟨fun i o e => let ⟨v, q, r⟩ := R.ex i o e; ⟨v, q, (r.grow fun a z => z.elim (fun q => .inl (.inl q)) fun m => (List.mem_append.mp m).elim (fun m => .inr (n a m)) fun m => .inl (.inr m)).pres p⟩, R.non, R.dj, R.nd,
    fun a m z => (List.mem_append.mp m).elim (fun m => R.fresh (n a m) (.inl z)) fun m => R.gf a m z, fun a m => (List.mem_append.mp m).elim (i a) fun m => let ⟨u, e⟩ := R.gi a m; ⟨u, p a u e⟩, R.len, R.tb.ext p⟩,
    R.bs.trans ((p.extA n).weak (fun _ z => z) fun a z => z.1.elim (fun q => .inl ⟨.inl q, z.2⟩) fun m => (List.mem_append.mp m).elim .inr fun m => .inl ⟨.inr m, z.2⟩), fun a m => List.mem_append_right _ (R.g0 a m)⟩
/-- the slots' values elsewhere -/
theorem RS.vals (R : RS K σ H ρ fp G) {σ' : St} (h : ∀ (i : Nat) (o : O) (v : V), ρ[i]? = some (some o) → σ[i]? = some (some v) → σ'[i]? = some (some v)) (hl : σ'.length = σ.length) : RS K σ' H ρ fp G :=
  ⟨⟨fun i o e => let ⟨v, q, r⟩ := R.ex i o e; ⟨v, h i o v e q, r⟩, R.non, R.dj, R.nd, R.gf, R.gi, R.len.trans hl.symm, R.tb⟩, R.bs, R.g0⟩
end
theorem Ext.addG {H H' : Hp} {F F' : Addr → Prop} (x : Ext H F H' F') (G : List Addr) : Ext H (Or1 F G) H' (Or1 F' G) where
  keep a o e n t := x.keep a o e (fun z => n (.inl z)) t
  tups := x.tups
  frzs := x.frzs
  new a z := z.elim (fun z => (x.new a z).imp .inl (fun q => q)) fun m => .inl (.inr m)
  dom := x.dom
  tabs := x.tabs
  exts := x.exts
theorem Or1.app {F : Addr → Prop} {A G : List Addr} {a : Addr} : Or1 F (A ++ G) a ↔ Or1 (Or1 F A) G a :=
  ⟨fun z => z.elim (fun q => .inl (.inl q)) fun m => (List.mem_append.mp m).elim (fun m => .inl (.inr m)) .inr,
   fun z => z.elim (fun q => q.elim .inl fun m => .inr (List.mem_append_left _ m)) fun m => .inr (List.mem_append_right _ m)⟩
theorem Or1.perm {F : Addr → Prop} {A G : List Addr} {a : Addr} : Or1 F (A ++ G) a ↔ Or1 F (G ++ A) a :=
  ⟨fun z => z.imp (fun q => q) fun m => (List.mem_append.mp m).elim (List.mem_append_right _) (List.mem_append_left _),
   fun z => z.imp (fun q => q) fun m => (List.mem_append.mp m).elim (List.mem_append_right _) (List.mem_append_left _)⟩
end
end DL
set_option Elab.async false
set_option linter.all false
set_option maxRecDepth 100000
set_option maxHeartbeats 4000000
/-! THE DATA LAYER, part 1: expressions, tests, calls of built-ins. -/
namespace DL
open PySem PySem.Spec L2
open PyProof.Rows hiding St
variable [Tbs] [Bas]
/-- an operand: a value of its own, or what slot j holds -/
inductive Opd where
  | val (o : O)
  | slot (j : Nat)
def AEnv.at (ρ : AEnv) (j : Nat) : Option O := match ρ[j]? with
  | some (some o) => some o
  | _ => none
def Opd.get (ρ : AEnv) : Opd → Option O
  | .val o => some o
  | .slot j => ρ.at j
theorem AEnv.at_iff {ρ : AEnv} {j : Nat} {o : O} (h : ρ.at j = some o) : ρ[j]? = some (some o) := by
  unfold AEnv.at at h
  split at h
  · rename_i o' e; cases h; exact e
  · cases h
abbrev XT := AEnv → (Opd → AEnv → Prop) → Prop
abbrev XTs := AEnv → (List Opd → AEnv → Prop) → Prop
abbrev BT := AEnv → (Bool → AEnv → Prop) → Prop
def ROp (K : PySem.W.Frag) (σ : St) (H : Hp) (fp : Nat → List Addr) (ρ : AEnv) (G : List Addr) (v : V) : Opd → List Addr → Prop
  | .val o, A => RO K H (Or1 (Fo fp) (A ++ G)) v o A ∧ A.Nodup ∧ ∀ a ∈ A, a ∉ G
  | .slot j, A => A = [] ∧ σ[j]? = some (some v) ∧ ∃ o, ρ[j]? = some (some o)
def LX (K : PySem.W.Frag) (t : XT) : TE := fun σ H Q => ∃ ρ fp G Qa, RS K σ H ρ fp G ∧ t ρ Qa ∧
  ∀ v p A H' ρ' fp', RS K σ H' ρ' fp' (A ++ G) → ROp K σ H' fp' ρ' G v p A → Ext H (Fo fp) H' (Or1 (Fo fp') A) → Qa p ρ' → Q v H'
structure EX (X : Cx) (e : Expr) (t : XT) : Prop where
  pe : PE X e (LX X.K t)
theorem noMem {P : Addr → Prop} : ∀ a, a ∈ ([] : List Addr) → P a := fun _ m => nomatch m
theorem rop_pure {K : PySem.W.Frag} {σ : St} {H : Hp} {fp : Nat → List Addr} {ρ : AEnv} {G : List Addr} {v : V} {t : T} (r : RP K H (Or1 (Fo fp) G) v t) : ROp K σ H fp ρ G v (.val (.pure t)) [] :=
  ⟨⟨rfl, r⟩, .nil, noMem⟩
/-- arguments that have been evaluated; A: what is new and their own -/
inductive RArgs (K : PySem.W.Frag) (σ : St) (H : Hp) (F : Addr → Prop) (ρ : AEnv) : List V → List Opd → List Addr → Prop
  | nil : RArgs K σ H F ρ [] [] []
  | val {v : V} {o : O} {B A : List Addr} {vs : List V} {ps : List Opd} : RO K H F v o B → RArgs K σ H F ρ vs ps A → RArgs K σ H F ρ (v :: vs) (.val o :: ps) (B ++ A)
  | slot {v : V} {j : Nat} {A : List Addr} {vs : List V} {ps : List Opd} : σ[j]? = some (some v) → (∃ o, ρ[j]? = some (some o)) → RArgs K σ H F ρ vs ps A → RArgs K σ H F ρ (v :: vs) (.slot j :: ps) A
def LA (K : PySem.W.Frag) (n : Nat) (t : XTs) : TA := fun σ H Q => ∃ ρ fp G Qa, RS K σ H ρ fp G ∧ t ρ Qa ∧
  ∀ vs ps A H' ρ' fp', vs.length = n → RS K σ H' ρ' fp' (A ++ G) → RArgs K σ H' (Or1 (Fo fp') (A ++ G)) ρ' vs ps A → A.Nodup → (∀ a ∈ A, a ∉ G) → Ext H (Fo fp) H' (Or1 (Fo fp') A) → Qa ps ρ' → Q vs H'
structure EXs (X : Cx) (es : List Expr) (t : XTs) : Prop where
  pa : PA X es (LA X.K es.length t)
def LT (K : PySem.W.Frag) (t : BT) : TT := fun σ H Q => ∃ ρ fp G Qa, RS K σ H ρ fp G ∧ t ρ Qa ∧
  ∀ b H' ρ' fp', RS K σ H' ρ' fp' G → Ext H (Fo fp) H' (Fo fp') → Qa b ρ' → Q b H'
structure TX (X : Cx) (e : Expr) (t : BT) : Prop where
  pt : PT X e (LT X.K t)
structure WX (X : Cx) (e : Expr) (t : BT) : Prop where
  pw : PW X e (LT X.K t)
section
variable {X : Cx}
theorem PE.imp {e : Expr} {t t' : TE} (h : PE X e t) (w : ∀ σ H Q, t' σ H Q → t σ H Q) : PE X e t' := ⟨fun pins s σ H Q I q => h.run pins s σ H Q I (w σ H Q q)⟩
theorem PT.imp {e : Expr} {t t' : TT} (h : PT X e t) (w : ∀ σ H Q, t' σ H Q → t σ H Q) : PT X e t' := ⟨fun pins s σ H Q I q => h.run pins s σ H Q I (w σ H Q q)⟩
theorem PW.imp {e : Expr} {t t' : TT} (h : PW X e t) (w : ∀ σ H Q, t' σ H Q → t σ H Q) : PW X e t' := ⟨fun wh pins s σ H Q I q => h.run wh pins s σ H Q I (w σ H Q q)⟩
theorem PA.imp {es : List Expr} {t t' : TA} (h : PA X es t) (w : ∀ σ H Q, t' σ H Q → t σ H Q) : PA X es t' := ⟨fun pos pins s σ H Q I q => h.run pos pins s σ H Q I (w σ H Q q)⟩
theorem PS.imp {st : Stmt} {t t' : TS} (h : PS X st t) (w : ∀ D σ H, t' D σ H → t D σ H) : PS X st t' := ⟨fun pins s σ H D I q => h.run pins s σ H D I (w D σ H q)⟩
theorem PSs.imp {st : List Stmt} {t t' : TS} (h : PSs X st t) (w : ∀ D σ H, t' D σ H → t D σ H) : PSs X st t' := ⟨fun pins s σ H D I q => h.run pins s σ H D I (w D σ H q)⟩
theorem PI.imp {tg e : Expr} {t t' : TI} (h : PI X tg e t) (w : ∀ σ H R, t' σ H R → t σ H R) : PI X tg e t' := ⟨fun pins s σ H R I q => h.run pins s σ H R I (w σ H R q)⟩
theorem PG.imp {tg : Expr} {t t' : TG} (h : PG X tg t) (w : ∀ v σ H Q, t' v σ H Q → t v σ H Q) : PG X tg t' := ⟨fun pins s σ H v u Q I r q => h.run pins s σ H v u Q I r (w v σ H Q q)⟩
end
section
variable {K : PySem.W.Frag} {σ : St} {H H1 H2 : Hp} {fp fp1 fp2 : Nat → List Addr} {ρ ρ1 ρ2 : AEnv} {v : V} {p : Opd} {A B G : List Addr} {o : O} {F F' : Addr → Prop}
theorem Ext.or (x : Ext H F H1 (Or1 F' A)) : Ext H F H1 F' := x.weak (fun _ z => z) fun _ z => .inl z
theorem RS.at (R : RS K σ H ρ fp G) {j : Nat} (hv : σ[j]? = some (some v)) (ho : ρ.at j = some o) : RO K H (Or1 (Fo fp) G) v o (fp j) := by
  obtain ⟨v', e, r⟩ := R.ex j o (AEnv.at_iff ho)
  rw [hv] at e; cases e; exact r
/-- .. through a further step: its trees avoid what is new -/
theorem RO.step (h : RO K H1 (Or1 (Fo fp1) G) v o A) (x : Ext H1 (Fo fp1) H2 (Or1 (Fo fp2) B)) (n : ∀ a ∈ A, ¬ Fo fp1 a) : RO K H2 (Or1 (Fo fp2) (B ++ G)) v o A := by
  exact RO.imp h (fun v t q => (q.ext (x.addG G)).weak fun a z => Or1.app.mp z) (fun a m u e t => x.keep a u e (n a m) t) (fun v e q => (q.ext (x.addG G)).weak fun a z => Or1.app.mp z) fun v e q => (q.ext (x.addG G)).weak fun a z => Or1.app.mp z
/-- what an operand is, later -/
theorem ROp.rw (h : ROp K σ H1 fp1 ρ1 G v p A) (R1 : RS K σ H1 ρ1 fp1 (A ++ G)) (x : Ext H1 (Fo fp1) H2 (Or1 (Fo fp2) B)) (R : RS K σ H2 ρ2 fp2 (B ++ (A ++ G))) (e : p.get ρ2 = some o) : RW K H2 (Or1 (Fo fp2) (B ++ (A ++ G))) v o := by
  cases p with
  | val o' =>
    obtain rfl : o' = o := Option.some.inj e
    exact (RO.step h.1 x fun a m => R1.gf a (List.mem_append_left _ m)).rw
  | slot j => exact (R.at h.2.1 e).rw
theorem ROp.rw0 (h : ROp K σ H1 fp1 ρ1 G v p A) (R1 : RS K σ H1 ρ1 fp1 (A ++ G)) (e : p.get ρ1 = some o) : RW K H1 (Or1 (Fo fp1) (A ++ G)) v o := by
  cases p with
  | val o' =>
    obtain rfl : o' = o := Option.some.inj e
    exact h.1.rw
  | slot j => exact (R1.at h.2.1 e).rw
theorem RArgs.len {vs : List V} {ps : List Opd} (h : RArgs K σ H F ρ vs ps A) : vs.length = ps.length := by
  induction h with
  | nil => rfl
  | val _ _ ih => exact congrArg (· + 1) ih
  | slot _ _ _ ih => exact congrArg (· + 1) ih
theorem RArgs.there {vs : List V} {ps : List Opd} (h : RArgs K σ H F ρ vs ps A) : ∀ a ∈ A, ∃ u, H a = some u := by
  induction h with
  | nil => exact noMem
  | val r _ ih => exact fun a m => (List.mem_append.mp m).elim (fun m => let ⟨u, e, _⟩ := r.there a m; ⟨u, e⟩) (ih a)
  | slot _ _ _ ih => exact ih
end
/-- a new tuple, known -/
theorem laidT {X : Cx} {pins : List (Addr × Obj)} {σ : St} {H : Hp} {s : Shared} {h' : Heap} {a : Addr} {tk : Nat} {xs : List V} {us : List Value} (I : Inv X pins σ H s) (r : Vals xs us) (z : xs.length ≤ sizeLine)
    (k : ∀ b o, s.heap.get? b = some o → h'.get? b = some o) (e : h'.get? a = some (tupO us)) (hp : s.heap.objs.size ≤ a) : Inv X pins σ (upd H a (.frz (tupO us) (.tup xs))) { s with heap := h', toks := tk } :=
  I.laid k hp ⟨e, z, us, r, ⟨_, e, rfl, _, rfl⟩⟩
/-- a tuple of written items -/
def tTupP (t : TA) : TE := fun σ H Q => t σ H fun xs H1 => xs.length ≤ sizeLine ∧ ∀ p its, H1 p = none → Q (.ref p) (upd H1 p (.frz (tupO its) (.tup xs)))
theorem pe_tupP {X : Cx} {es : List Expr} {t : TA} {pos : Pos} {c} (h : PA X es t) : PE X (.Tuple es c pos) (tTupP t) :=
  ⟨fun pins s σ H Q I hq => wpAny_Tuple_spliced (thn (h.run pos pins s σ H _ I hq) fun us s1 ⟨xs, H1, J, r, z, q⟩ => ⟨by rw [← r.length]; exact z,
    .ref s1.heap.objs.size, _, laidT (tk := s1.toks) J r z (fun b u e => Heap.get?_push_of_some _ e) (Heap.get?_push_size _ rfl) (Nat.le_refl _), rfl, q _ us (J.hok.fresh (Nat.le_refl _))⟩)⟩
/-! ### the end of an operation: a new value, all else kept -/
def FinV (K : PySem.W.Frag) (H : Hp) (F : Addr → Prop) (Qa : O → Prop) (Q : VK) : Prop :=
  ∀ v o A H', Pres H H' → RO K H' (Or1 F A) v o A → (∀ a ∈ A, H a = none) → A.Nodup → Qa o → Q v H'
section
variable {K : PySem.W.Frag} {σ : St} {H H' : Hp} {F : Addr → Prop} {Qa : O → Prop} {Q : VK} {v : V} {t : T}
theorem Or1.nil : ∀ a, Or1 F [] a → F a := fun a z => z.elim (fun q => q) fun m => nomatch m
theorem FinV.pure (f : FinV K H F Qa Q) (r : RP K H F v t) (q : Qa (.pure t)) : Q v H := f v (.pure t) [] H Pres.refl ⟨rfl, r.weak Or1.nil⟩ (fun _ m => nomatch m) .nil q
theorem FinV.bl (f : FinV K H F Qa Q) {b : Bool} (q : Qa (.pure (.bool b))) : Q (.bl b) H := f.pure (RP.bl b) q
theorem FinV.int (f : FinV K H F Qa Q) {i : Int} (q : Qa (.pure (.int i))) : Q (.int i) H := f.pure (RP.int i) q
theorem FinV.str (f : FinV K H F Qa Q) {x : Str} (q : Qa (.pure (.str x))) : Q (.str x) H := f.pure (RP.str x) q
theorem FinV.lst (f : FinV K H F Qa Q) {p : Addr} {vs : List V} {ts : List T} (n : H p = none) (r : RPs K H F vs ts) (q : Qa (.lst ts)) : Q (.ref p) (upd H p (.lst vs)) := by
  refine f _ (.lst ts) [p] _ (Pres.upd n) ⟨p, vs, rfl, rfl, upd_same, ?_⟩ (fun a m => by rw [List.mem_singleton.mp m]; exact n) (by simp) q
  exact RPs.ext (Pres.upd n).ext (r.grow fun a z => z.imp (fun q => q) fun m => by rw [List.mem_singleton.mp m]; exact n)
theorem FinV.tup (f : FinV K H F Qa Q) {p : Addr} {vs : List V} {ts : List T} {its : List Value} (n : H p = none) (r : RPs K H F vs ts) (q : Qa (.pure (.tuple ts))) : Q (.ref p) (upd H p (.frz (tupO its) (.tup vs))) :=
  f _ (.pure (.tuple ts)) [] _ (Pres.upd n) ⟨rfl, RP.tup (SqP.new upd_same) ((RPs.ext (F := F) (Pres.upd n).ext r).weak Or1.nil)⟩ (fun _ m => nomatch m) .nil q
end
/-! ### operations by values -/
abbrev G1 := O → (O → Prop) → Prop
abbrev G2 := O → O → (O → Prop) → Prop
abbrev GN := List O → (O → Prop) → Prop
def OpA (X : Cx) (f : Value → Value → Sem Value) (g : G2) : Prop := ∃ r, OpR X f r ∧ ∀ H F v u x y Q Qa, RW X.K H F v x → RW X.K H F u y → g x y Qa → FinV X.K H F Qa Q → r v u H Q
def UnA (X : Cx) (f : Value → Sem Value) (g : G1) : Prop := ∃ r, UnR X f r ∧ ∀ H F v x Q Qa, RW X.K H F v x → g x Qa → FinV X.K H F Qa Q → r v H Q
def CallA (X : Cx) (f : Value) (g : GN) : Prop := ∃ r, CallR X f r ∧ ∀ H F vs xs Q Qa, Paired (RW X.K H F) vs xs → g xs Qa → FinV X.K H F Qa Q → r vs H Q
def IxA (X : Cx) (g : G2) : Prop := ∃ r, IxR X r ∧ ∀ H F v u x y Q Qa, RW X.K H F v x → RW X.K H F u y → g x y Qa → FinV X.K H F Qa Q → r v u H Q
/-- one of several rules, by what the operands are -/
theorem OpA.alt {X : Cx} {f : Value → Value → Sem Value} {g g' g'' : G2} (h : OpA X f g) (h' : OpA X f g') (w : ∀ x y Qa, g'' x y Qa → g x y Qa ∨ g' x y Qa) : OpA X f g'' := by
  obtain ⟨r, hr, k⟩ := h
  obtain ⟨r', hr', k'⟩ := h'
  exact ⟨_, hr.or hr', fun H F v u x y Q Qa a b q f => (w x y Qa q).imp (fun q => k H F v u x y Q Qa a b q f) fun q => k' H F v u x y Q Qa a b q f⟩
def tName (j : Nat) : XT := fun ρ Q => match ρ[j]? with
  | some (some (.pure t)) => Q (.val (.pure t)) ρ
  | some (some _) => Q (.slot j) ρ
  | _ => False
def tCst (t : T) : XT := fun ρ Q => Q (.val (.pure t)) ρ
def g2 (g : G2) (ρ : AEnv) (p q : Opd) (Q : O → Prop) : Prop := match p.get ρ, q.get ρ with
  | some x, some y => g x y Q
  | _, _ => False
def tBin (g : G2) (ta tb : XT) : XT := fun ρ Q => ta ρ fun p ρ1 => tb ρ1 fun q ρ2 => g2 g ρ2 p q fun o => Q (.val o) ρ2
def g1 (g : G1) (ρ : AEnv) (p : Opd) (Q : O → Prop) : Prop := match p.get ρ with
  | some x => g x Q
  | _ => False
def tUny (g : G1) (ta : XT) : XT := fun ρ Q => ta ρ fun p ρ1 => g1 g ρ1 p fun o => Q (.val o) ρ1
def tNilA : XTs := fun ρ Q => Q [] ρ
def tConsA (t : XT) (u : XTs) : XTs := fun ρ Q => t ρ fun p ρ1 => u ρ1 fun ps ρ2 => (∀ j, p = .slot j → ∃ o, ρ2[j]? = some (some o)) ∧ Q (p :: ps) ρ2
def getAll (ρ : AEnv) : List Opd → Option (List O)
  | [] => some []
  | p :: ps => match p.get ρ, getAll ρ ps with
    | some o, some os => some (o :: os)
    | _, _ => none
def gN (g : GN) (ρ : AEnv) (ps : List Opd) (Q : O → Prop) : Prop := match getAll ρ ps with
  | some os => g os Q
  | _ => False
def tCallB (g : GN) (t : XTs) : XT := fun ρ Q => t ρ fun ps ρ1 => gN g ρ1 ps fun o => Q (.val o) ρ1
theorem fin_of {K : PySem.W.Frag} {σ : St} {H H2 : Hp} {fp fp2 : Nat → List Addr} {ρ2 : AEnv} {G G2 : List Addr} {Qa : Opd → AEnv → Prop} {Q : VK} (R2 : RS K σ H2 ρ2 fp2 G2) (hG : ∀ a ∈ G, a ∈ G2) (x : Ext H (Fo fp) H2 (Fo fp2))
    (fin : ∀ v p A H' ρ' fp', RS K σ H' ρ' fp' (A ++ G) → ROp K σ H' fp' ρ' G v p A → Ext H (Fo fp) H' (Or1 (Fo fp') A) → Qa p ρ' → Q v H') (g0 : ∀ a ∈ Bas.G0, a ∈ G := by (intro a z; repeat first | exact RS.g0 (by assumption) a z | (refine (?_ : ∀ a ∈ Bas.G0, a ∈ _) a z; assumption) | refine List.mem_append_right _ ?_)) : FinV K H2 (Or1 (Fo fp2) G2) (fun o => Qa (.val o) ρ2) Q :=
  fun v o A H' p r n d q => by
    have i : ∀ a ∈ A, ∃ u, H' a = some u := fun a m => let ⟨u, e, _⟩ := r.there a m; ⟨u, e⟩
    refine fin v (.val o) A H' ρ2 fp2 ((R2.sub hG).new p n i) ⟨r.weak fun a z => ?_, d, fun a m z => ?_⟩ (x.trans (p.extA n)) q
    · rcases z with z | z
      · exact .inl (.inl z)
      · exact (List.mem_append.mp z).elim .inr fun m => .inl (.inr (hG a m))
    · exact R2.fresh (n a m) (.inr (hG a z))
section
variable {X : Cx} {a b e : Expr} {es : List Expr} {ta tb t : XT} {ts : XTs} {pos : Pos}
theorem ex_name (j : Nat) {x : Str} (hN : X.N[j]? = some x := by rfl) (hv : Vis X.env.scope x := by first | exact Or.inl rfl | exact Or.inr (Or.inl rfl) | exact Or.inr (Or.inr rfl)) (hd : (x == ("__debug__" : Str)) = false := by decide)
    (hcd : (x == ("__classdict__" : Str)) = false := by decide) : EX X (.Name x pos) (tName j) := by
  refine ⟨PE.imp (pe_var hN hv hd hcd) ?_⟩
  rintro σ H Q ⟨ρ, fp, G, Qa, R, h, fin⟩
  unfold tName at h
  have go : ∀ o, ρ[j]? = some (some o) → ∃ v, σ[j]? = some (some v) ∧ RO X.K H (Or1 (Fo fp) G) v o (fp j) := fun o e => R.ex j o e
  split at h
  · rename_i t e
    obtain ⟨v, hv, r⟩ := go _ e
    exact ⟨v, hv, fin v (.val (.pure t)) [] H ρ fp R (rop_pure r.2) (Pres.refl.extA noMem) h⟩
  · rename_i o _ e
    obtain ⟨v, hv, r⟩ := go _ e
    exact ⟨v, hv, fin v (.slot j) [] H ρ fp R ⟨rfl, hv, o, e⟩ (Pres.refl.extA noMem) h⟩
  · exact h.elim
theorem ex_cst {v : V} {t : T} (h : PE X e (tC v)) (r : ∀ K H F, RP K H F v t) : EX X e (tCst t) := by
  refine ⟨PE.imp h ?_⟩
  rintro σ H Q ⟨ρ, fp, G, Qa, R, h, fin⟩
  exact fin v (.val (.pure t)) [] H ρ fp R (rop_pure (r _ _ _)) (Pres.refl.extA noMem) h
theorem ex_int {i : Int} {j} : EX X (.Constant (.int i) j pos) (tCst (.int i)) := ex_cst pe_int fun _ _ _ => RP.int i
theorem ex_bl {i : Bool} {j} : EX X (.Constant (.bool i) j pos) (tCst (.bool i)) := ex_cst pe_bl fun _ _ _ => RP.bl i
theorem ex_non {j} : EX X (.Constant .none j pos) (tCst .none) := ex_cst pe_non fun _ _ _ => RP.non
theorem ex_str {x : Str} {j} : EX X (.Constant (.str x) j pos) (tCst (.str x)) := ex_cst pe_str fun _ _ _ => RP.str x
theorem ex_bin {op : Operator} {g : G2} (ho : OpA X (binaryOp op) g) (ha : EX X a ta) (hb : EX X b tb) : EX X (.BinOp a op b pos) (tBin g ta tb) := by
  obtain ⟨r, hr, hg⟩ := ho
  refine ⟨PE.imp (pe_op hr ha.pe hb.pe) ?_⟩
  rintro σ H Q ⟨ρ, fp, G, Qa, R, h, fin⟩
  refine ⟨ρ, fp, G, _, R, h, fun v p A H1 ρ1 fp1 R1 r1 x1 h1 => ?_⟩
  refine ⟨ρ1, fp1, A ++ G, _, R1, h1, fun u q B H2 ρ2 fp2 R2 r2 x2 h2 => ?_⟩
  unfold g2 at h2
  split at h2
  · rename_i x y e1 e2
    exact hg H2 (Or1 (Fo fp2) (B ++ (A ++ G))) v u x y Q _ (r1.rw R1 x2 R2 e1) (r2.rw0 R2 e2) h2 (fin_of R2 (fun a m => List.mem_append_right _ (List.mem_append_right _ m)) (x1.or.trans x2.or) fin)
  · exact h2.elim
theorem ex_cmp {op : CmpOp} {g : G2} (ho : OpA X (compareOp op) g) (ha : EX X a ta) (hb : EX X b tb) (hm : behindInMarks op b = false) : EX X (.Compare a [op] [b] pos) (tBin g ta tb) := by
  obtain ⟨r, hr, hg⟩ := ho
  refine ⟨PE.imp (pe_cmpR hr ha.pe hb.pe hm) ?_⟩
  rintro σ H Q ⟨ρ, fp, G, Qa, R, h, fin⟩
  refine ⟨ρ, fp, G, _, R, h, fun v p A H1 ρ1 fp1 R1 r1 x1 h1 => ?_⟩
  refine ⟨ρ1, fp1, A ++ G, _, R1, h1, fun u q B H2 ρ2 fp2 R2 r2 x2 h2 => ?_⟩
  unfold g2 at h2
  split at h2
  · rename_i x y e1 e2
    exact hg H2 (Or1 (Fo fp2) (B ++ (A ++ G))) v u x y Q _ (r1.rw R1 x2 R2 e1) (r2.rw0 R2 e2) h2 (fin_of R2 (fun a m => List.mem_append_right _ (List.mem_append_right _ m)) (x1.or.trans x2.or) fin)
  · exact h2.elim
theorem ex_un {op : UnaryOp} {g : G1} (ho : UnA X (unaryOp op) g) (ha : EX X a ta) : EX X (.UnaryOp op a pos) (tUny g ta) := by
  obtain ⟨r, hr, hg⟩ := ho
  refine ⟨PE.imp (pe_un hr ha.pe) ?_⟩
  rintro σ H Q ⟨ρ, fp, G, Qa, R, h, fin⟩
  refine ⟨ρ, fp, G, _, R, h, fun v p A H1 ρ1 fp1 R1 r1 x1 h1 => ?_⟩
  unfold g1 at h1
  split at h1
  · rename_i x e1
    exact hg H1 (Or1 (Fo fp1) (A ++ G)) v x Q _ (r1.rw0 R1 e1) h1 (fin_of R1 (fun a m => List.mem_append_right _ m) x1.or fin)
  · exact h1.elim
theorem ex_ix {g : G2} (ho : IxA X g) (ha : EX X a ta) (hb : EX X b tb) (hs : PlainIx b) : EX X (.Subscript a b pos) (tBin g ta tb) := by
  obtain ⟨r, hr, hg⟩ := ho
  refine ⟨PE.imp (pe_ix hr ha.pe hb.pe hs) ?_⟩
  rintro σ H Q ⟨ρ, fp, G, Qa, R, h, fin⟩
  refine ⟨ρ, fp, G, _, R, h, fun v p A H1 ρ1 fp1 R1 r1 x1 h1 => ?_⟩
  refine ⟨ρ1, fp1, A ++ G, _, R1, h1, fun u q B H2 ρ2 fp2 R2 r2 x2 h2 => ?_⟩
  unfold g2 at h2
  split at h2
  · rename_i x y e1 e2
    exact hg H2 (Or1 (Fo fp2) (B ++ (A ++ G))) v u x y Q _ (r1.rw R1 x2 R2 e1) (r2.rw0 R2 e2) h2 (fin_of R2 (fun a m => List.mem_append_right _ (List.mem_append_right _ m)) (x1.or.trans x2.or) fin)
  · exact h2.elim
theorem exs_nil : EXs X [] tNilA := by
  refine ⟨PA.imp pa_nil ?_⟩
  rintro σ H Q ⟨ρ, fp, G, Qa, R, h, fin⟩
  exact fin [] [] [] H ρ fp rfl R .nil .nil noMem (Pres.refl.extA noMem) h
theorem exs_cons (h1 : EX X e t) (h2 : EXs X es ts) (hs : starEach (e :: es) X.env = (false, eval e X.env) :: starEach es X.env := by rfl) : EXs X (e :: es) (tConsA t ts) := by
  refine ⟨PA.imp (pa_cons h1.pe h2.pa hs) ?_⟩
  rintro σ H Q ⟨ρ, fp, G, Qa, R, h, fin⟩
  refine ⟨ρ, fp, G, _, R, h, fun v p A H1 ρ1 fp1 R1 r1 x1 h1 => ?_⟩
  refine ⟨ρ1, fp1, A ++ G, _, R1, h1, fun vs ps B H2 ρ2 fp2 hl R2 r2 nd2 ng2 x2 h2 => ?_⟩
  have m1 : ∀ a, a ∈ B ++ (A ++ G) ↔ a ∈ A ++ (B ++ G) := fun a => by simp only [List.mem_append]; exact ⟨fun z => by rcases z with z | z | z <;> simp [z], fun z => by rcases z with z | z | z <;> simp [z]⟩
  have w1 : ∀ a, Or1 (Fo fp2) ((A ++ B) ++ G) a → Or1 (Fo fp2) (B ++ (A ++ G)) a := fun a z => z.imp (fun q => q) fun m => (m1 a).mpr (by rw [List.append_assoc] at m; exact m)
  have x' : Ext H (Fo fp) H2 (Or1 (Fo fp2) (A ++ B)) := by
    have := x1.trans (x2.addG A)
    exact this.weak (fun _ z => z) fun a z => Or1.app.mp (Or1.perm.mp z)
  have R2' : RS X.K σ H2 ρ2 fp2 ((A ++ B) ++ G) := R2.sub fun a m => (m1 a).mpr (by rw [List.append_assoc] at m; exact m)
  have low : ∀ {vs : List V} {ps : List Opd} {C : List Addr}, RArgs X.K σ H2 (Or1 (Fo fp2) (B ++ (A ++ G))) ρ2 vs ps C → RArgs X.K σ H2 (Or1 (Fo fp2) ((A ++ B) ++ G)) ρ2 vs ps C := fun r => by
    induction r with
    | nil => exact .nil
    | val r _ ih => exact .val (r.weak w1) ih
    | slot a b _ ih => exact .slot a b ih
  cases p with
  | val o =>
    have ndA : (A ++ B).Nodup := List.nodup_append.mpr ⟨r1.2.1, nd2, fun a m b n e => ng2 b n (e ▸ List.mem_append_left _ m)⟩
    refine fin (v :: vs) (.val o :: ps) (A ++ B) H2 ρ2 fp2 (congrArg (· + 1) hl) R2' (.val ?_ (low r2)) ndA (fun a m z => ?_) x' h2.2
    · exact (RO.step r1.1 x2 fun a m => R1.gf a (List.mem_append_left _ m)).weak w1
    · exact (List.mem_append.mp m).elim (fun m => r1.2.2 a m z) fun m => ng2 a m (List.mem_append_right _ z)
  | slot j =>
    obtain ⟨rfl, hv, _⟩ := r1
    exact fin (v :: vs) (.slot j :: ps) B H2 ρ2 fp2 (congrArg (· + 1) hl) R2' (.slot hv (h2.1 j rfl) (low r2)) nd2 (fun a m z => ng2 a m (by simpa using z)) x' h2.2
theorem getAll_rw {K : PySem.W.Frag} {σ : St} {H : Hp} {fp : Nat → List Addr} {ρ : AEnv} {G : List Addr} (R : RS K σ H ρ fp G) {vs : List V} {ps : List Opd} {A : List Addr} (h : RArgs K σ H (Or1 (Fo fp) G) ρ vs ps A) : ∀ {os : List O}, getAll ρ ps = some os → Paired (RW K H (Or1 (Fo fp) G)) vs os := by
  induction h with
  | nil => intro os e; cases e; exact .nil
  | val r _ ih =>
    intro os e
    unfold getAll at e
    split at e
    · rename_i o os e1 e2
      cases e
      cases e1
      exact .cons r.rw (ih e2)
    · cases e
  | slot hv _ _ ih =>
    intro os e
    unfold getAll at e
    split at e
    · rename_i o os e1 e2
      cases e
      exact .cons (R.at hv e1).rw (ih e2)
    · cases e
theorem ex_callB {x : Str} {p : Pos} {id : String} {g : GN} (hc : CallA X (.builtin id) g) (hg : Gl X x) (hm : X.mg x = none) (hv : bootBuiltins x = some (.builtin id)) (ha : EXs X (e :: es) ts) (hn : x ≠ "__name__" := by decide) (hdb : (x == ("__debug__" : Str)) = false := by decide)
    (he : starEach (e :: es) X.env = (false, eval e X.env) :: starEach es X.env := by rfl) (hpl : (backTo pos (starEach es X.env)).any (·.1) = false := by rfl) : EX X (.Call (.Name x p) (e :: es) [] pos) (tCallB g ts) := by
  obtain ⟨r, hr, hgg⟩ := hc
  refine ⟨PE.imp (pe_callB hr hg hm hv ha.pa hn hdb he hpl) ?_⟩
  rintro σ H Q ⟨ρ, fp, G, Qa, R, h, fin⟩
  refine ⟨ρ, fp, G, _, R, h, fun vs ps A H1 ρ1 fp1 hl R1 r1 nd1 ng1 x1 h1 => ?_⟩
  unfold gN at h1
  split at h1
  · rename_i os e1
    exact hgg H1 (Or1 (Fo fp1) (A ++ G)) vs os Q _ (getAll_rw R1 r1 e1) h1 (fin_of R1 (fun a m => List.mem_append_right _ m) x1.or fin)
  · exact h1.elim
theorem ex_callTy {x : Str} {p : Pos} {id : String} {g : GN} (hc : CallA X (.type id) g) (hg : Gl X x) (hm : X.mg x = none) (hv : bootBuiltins x = some (.type id)) (ha : EXs X (e :: es) ts) (hn : x ≠ "__name__" := by decide) (hdb : (x == ("__debug__" : Str)) = false := by decide)
    (he : starEach (e :: es) X.env = (false, eval e X.env) :: starEach es X.env := by rfl) (hpl : (backTo pos (starEach es X.env)).any (·.1) = false := by rfl) : EX X (.Call (.Name x p) (e :: es) [] pos) (tCallB g ts) := by
  obtain ⟨r, hr, hgg⟩ := hc
  refine ⟨PE.imp (pe_callTy hr hg hm hv ha.pa hn hdb he hpl) ?_⟩
  rintro σ H Q ⟨ρ, fp, G, Qa, R, h, fin⟩
  refine ⟨ρ, fp, G, _, R, h, fun vs ps A H1 ρ1 fp1 hl R1 r1 nd1 ng1 x1 h1 => ?_⟩
  unfold gN at h1
  split at h1
  · rename_i os e1
    exact hgg H1 (Or1 (Fo fp1) (A ++ G)) vs os Q _ (getAll_rw R1 r1 e1) h1 (fin_of R1 (fun a m => List.mem_append_right _ m) x1.or fin)
  · exact h1.elim
end
end DL
set_option Elab.async false
set_option linter.all false
set_option maxRecDepth 100000
set_option maxHeartbeats 4000000
/-! THE DATA LAYER, part 2: displays, truth, statements. -/
namespace DL
open PySem PySem.Spec L2
open PyProof.Rows hiding St
variable [Tbs] [Bas]
/-! ### what a slot owns: given up, replaced -/
def fpSet (fp : Nat → List Addr) (j : Nat) (A : List Addr) : Nat → List Addr := fun i => if i = j then A else fp i
theorem fpSet_at {fp : Nat → List Addr} {j : Nat} {A : List Addr} : fpSet fp j A j = A := by unfold fpSet; rw [if_pos rfl]
theorem fpSet_ne {fp : Nat → List Addr} {j i : Nat} {A : List Addr} (h : i ≠ j) : fpSet fp j A i = fp i := by unfold fpSet; rw [if_neg h]
section
variable {K : PySem.W.Frag} {σ : St} {H H1 : Hp} {fp : Nat → List Addr} {ρ : AEnv} {v : V} {p : Opd} {o : O} {j : Nat} {A G : List Addr} {t : T}
theorem Fo.set {a : Addr} (h : Fo (fpSet fp j A) a) : Fo fp a ∨ a ∈ A := by
  obtain ⟨i, m⟩ := h
  unfold fpSet at m
  split at m
  · exact .inr m
  · exact .inl ⟨i, m⟩
theorem AEnv.get_set (ρ : AEnv) (j i : Nat) (x : Option O) : (ρ.set j x)[i]? = if j = i then (if j < ρ.length then some x else none) else ρ[i]? := by
  by_cases h : j = i
  · subst h
    rw [if_pos rfl]
    by_cases k : j < ρ.length
    · rw [if_pos k, List.getElem?_set_self k]
    · rw [if_neg k, List.getElem?_eq_none (by simpa using k)]
  · rw [if_neg h, List.getElem?_set_ne h]
/-- the footprint of slot j becomes A, its content o (of the same object or of another one) -/
theorem RS.upd {σ' : St} (R : RS K σ H ρ fp (A ++ G)) (hA : ∀ a ∈ A, a ∉ G) (d : A.Nodup) (hj : j < ρ.length)
    (hσ : ∀ i v, i ≠ j → σ[i]? = some (some v) → σ'[i]? = some (some v)) (hv : σ'[j]? = some (some v)) (hl : σ'.length = σ.length) (r : RO K H (Or1 (Fo (fpSet fp j A)) G) v o A) (g : ∀ a ∈ Bas.G0, a ∈ G := by (intro a z; repeat first | exact RS.g0 (by assumption) a z | (refine (?_ : ∀ a ∈ Bas.G0, a ∈ _) a z; assumption) | refine List.mem_append_right _ ?_)) : RS K σ' H (ρ.set j (some o)) (fpSet fp j A) G := by
  have w : ∀ a, Or1 (Fo (fpSet fp j A)) G a → Or1 (Fo fp) (A ++ G) a := fun a z => z.elim (fun z => z.set.elim .inl fun m => .inr (List.mem_append_left _ m)) fun m => .inr (List.mem_append_right _ m)
  refine ⟨⟨fun i u h => ?_, fun i h => ?_, fun i k a m z => ?_, fun i => ?_, fun a m z => ?_, fun a m => R.gi a (List.mem_append_right _ m), by rw [List.length_set, R.len, hl], R.tb⟩, R.bs.weak (fun _ z => z) fun a z => ⟨w a z.1, z.2⟩, g⟩
  · rw [AEnv.get_set] at h
    by_cases q : j = i
    · subst q
      rw [if_pos rfl, if_pos hj] at h
      cases h
      exact ⟨v, hv, by rw [fpSet_at]; exact r⟩
    · rw [if_neg q] at h
      obtain ⟨x, hx, r'⟩ := R.ex i u h
      exact ⟨x, hσ i x (fun z => q z.symm) hx, by rw [fpSet_ne fun z => q z.symm]; exact r'.weak w⟩
  · by_cases q : i = j
    · subst q
      exact absurd (by rw [AEnv.get_set, if_pos rfl, if_pos hj]) (h o)
    · rw [fpSet_ne q]
      refine R.non i fun o' z => h o' ?_
      rw [AEnv.get_set, if_neg fun y => q y.symm]
      exact z
  · by_cases q : i = j
    · by_cases q' : k = j
      · rw [q, q']
      · rw [q, fpSet_at] at m
        rw [fpSet_ne q'] at z
        exact absurd ⟨k, z⟩ (R.gf a (List.mem_append_left _ m))
    · by_cases q' : k = j
      · rw [q', fpSet_at] at z
        rw [fpSet_ne q] at m
        exact absurd ⟨i, m⟩ (R.gf a (List.mem_append_left _ z))
      · rw [fpSet_ne q] at m
        rw [fpSet_ne q'] at z
        exact R.dj i k a m z
  · by_cases q : i = j
    · rw [q, fpSet_at]; exact d
    · rw [fpSet_ne q]; exact R.nd i
  · rcases z.set with z | z
    · exact R.gf a (List.mem_append_right _ m) z
    · exact hA a z m
/-- given up -/
theorem RS.freeze (R : RS K σ H ρ fp G) (e : ρ[j]? = some (some o)) : RS K σ H (ρ.set j (some o.alias)) (fpSet fp j []) G ∧ ∀ v, σ[j]? = some (some v) → RO K H (Or1 (Fo (fpSet fp j [])) G) v o.alias [] := by
  obtain ⟨v, hv, r⟩ := R.ex j o e
  have w : ∀ a, Or1 (Fo (fpSet fp j [])) G a → Or1 (Fo fp) G a := fun a z => z.imp (fun z => z.set.elim (fun q => q) fun m => nomatch m) fun m => m
  have q : RO K H (Or1 (Fo (fpSet fp j [])) G) v o.alias [] := by
    refine r.alias w fun a m z => ?_
    rcases z with ⟨i, z⟩ | z
    · by_cases q : i = j
      · subst q; rw [fpSet_at] at z; cases z
      · rw [fpSet_ne q] at z
        exact q (R.dj i j a z m)
    · exact R.gf a z ⟨j, m⟩
  refine ⟨RS.upd (A := []) R noMem .nil (List.getElem?_eq_some_iff.mp e).1 (fun i v _ h => h) hv rfl q, fun v' h => ?_⟩
  rw [hv] at h; cases h; exact q
/-- a name is stored -/
theorem RS.put (R : RS K σ H ρ fp (A ++ G)) (hj : j < ρ.length) (r : RO K H (Or1 (Fo fp) (A ++ G)) v o A) (d : A.Nodup) (hA : ∀ a ∈ A, a ∉ G) (g : ∀ a ∈ Bas.G0, a ∈ G := by (intro a z; repeat first | exact RS.g0 (by assumption) a z | (refine (?_ : ∀ a ∈ Bas.G0, a ∈ _) a z; assumption) | refine List.mem_append_right _ ?_)) : RS K (σ.set j (some v)) H (ρ.set j (some o)) (fpSet fp j A) G :=
  R.upd hA d hj (fun i v h e => by rw [List.getElem?_set_ne (Ne.symm h)]; exact e) (List.getElem?_set_self (by rw [← R.len]; exact hj)) (by rw [List.length_set]) (r.weak fun a z => z.elim (fun z => z.set.elim .inl fun m => .inr (List.mem_append_left _ m)) fun m => .inr (List.mem_append_right _ m))
/-- a slot is forgotten -/
theorem RS.drop {σ' : St} (R : RS K σ H ρ fp G) (hσ : ∀ (i : Nat) (v : V), i ≠ j → σ[i]? = some (some v) → σ'[i]? = some (some v)) (hl : σ'.length = σ.length) : RS K σ' H (ρ.set j none) (fpSet fp j []) G := by
  have w : ∀ a, Or1 (Fo (fpSet fp j [])) G a → Or1 (Fo fp) G a := fun a z => z.imp (fun z => z.set.elim (fun q => q) fun m => nomatch m) fun m => m
  refine ⟨⟨fun i u h => ?_, fun i h => ?_, fun i k a m z => ?_, fun i => ?_, fun a m z => R.gf a m (z.set.elim (fun q => q) fun m => nomatch m), R.gi, by rw [List.length_set, R.len, hl], R.tb⟩, R.bs.weak (fun _ z => z) fun a z => ⟨w a z.1, z.2⟩, R.g0⟩
  · rw [AEnv.get_set] at h
    by_cases q : j = i
    · rw [if_pos q] at h
      split at h <;> cases h
    · rw [if_neg q] at h
      obtain ⟨x, hx, r'⟩ := R.ex i u h
      exact ⟨x, hσ i x (fun z => q z.symm) hx, by rw [fpSet_ne fun z => q z.symm]; exact r'.weak w⟩
  · by_cases q : i = j
    · rw [q, fpSet_at]
    · rw [fpSet_ne q]
      refine R.non i fun o' z => h o' ?_
      rw [AEnv.get_set, if_neg fun y => q y.symm]
      exact z
  · by_cases q : i = j
    · rw [q, fpSet_at] at m; cases m
    · by_cases q' : k = j
      · rw [q', fpSet_at] at z; cases z
      · rw [fpSet_ne q] at m
        rw [fpSet_ne q'] at z
        exact R.dj i k a m z
  · by_cases q : i = j
    · rw [q, fpSet_at]; exact .nil
    · rw [fpSet_ne q]; exact R.nd i
theorem Ext.putE {j : Nat} {F : Addr → Prop} (x : Ext H F H1 (Or1 (Fo fp) A)) : Ext H F H1 (Fo (fpSet fp j A)) := x.weak (fun _ z => z) fun a z => z.set.elim .inl .inr
end
theorem alias_fz {o : O} (h : o.fz) : o.alias = .pure o.frz := by
  cases o <;> first | rfl | exact h.elim
/-! ### operands as trees -/
/-- an owned slot is given up -/
def take1 : Opd → AEnv → (T → AEnv → Prop) → Prop
  | .val o, ρ, Q => o.fz ∧ Q o.frz ρ
  | .slot j, ρ, Q => match ρ[j]? with
    | some (some o) => o.fz ∧ Q o.frz (ρ.set j (some (.pure o.frz)))
    | _ => False
/-- .. of any kind -/
def takeA : Opd → AEnv → (O → AEnv → Prop) → Prop
  | .val o, ρ, Q => Q o.alias ρ
  | .slot j, ρ, Q => match ρ[j]? with
    | some (some o) => Q o.alias (ρ.set j (some o.alias))
    | _ => False
def takeAll : List Opd → AEnv → (List T → AEnv → Prop) → Prop
  | [], ρ, Q => Q [] ρ
  | p :: ps, ρ, Q => take1 p ρ fun t ρ1 => takeAll ps ρ1 fun ts ρ2 => Q (t :: ts) ρ2
section
variable {K : PySem.W.Frag} {σ : St} {H H1 : Hp} {fp : Nat → List Addr} {ρ : AEnv} {v : V} {p : Opd} {o : O} {j : Nat} {A B G : List Addr} {F F' : Addr → Prop}
theorem RArgs.weak {ρ' : AEnv} (w : ∀ a, F' a → F a) (hh : ∀ (j : Nat) (o : O), ρ[j]? = some (some o) → ∃ o', ρ'[j]? = some (some o')) {vs : List V} {ps : List Opd} (h : RArgs K σ H F ρ vs ps A) : RArgs K σ H F' ρ' vs ps A := by
  induction h with
  | nil => exact .nil
  | val r _ ih => exact .val (r.weak w) ih
  | slot a b _ ih => exact .slot a (let ⟨o, e⟩ := b; hh _ o e) ih
theorem held_set {ρ : AEnv} {j : Nat} {o : O} (e : ρ[j]? = some (some o)) {o' : O} : ∀ (i : Nat) (u : O), ρ[i]? = some (some u) → ∃ u', (ρ.set j (some o'))[i]? = some (some u') := fun i u h => by
  rw [AEnv.get_set]
  by_cases q : j = i
  · rw [if_pos q, if_pos (List.getElem?_eq_some_iff.mp e).1]; exact ⟨_, rfl⟩
  · rw [if_neg q]; exact ⟨u, h⟩
theorem take1_ok (R : RS K σ H ρ fp (B ++ G)) (r : ROp K σ H fp ρ G v p B) {Q : T → AEnv → Prop} (h : take1 p ρ Q) (g : ∀ a ∈ Bas.G0, a ∈ G := by (intro a z; repeat first | exact RS.g0 (by assumption) a z | (refine (?_ : ∀ a ∈ Bas.G0, a ∈ _) a z; assumption) | refine List.mem_append_right _ ?_)) : ∃ t ρ' fp', RS K σ H ρ' fp' G ∧ RP K H (Or1 (Fo fp') G) v t ∧ (∀ a, Fo fp' a → Fo fp a) ∧ Q t ρ' := by
  cases p with
  | val o =>
    refine ⟨o.frz, ρ, fp, R.sub fun a m => List.mem_append_right _ m, ?_, fun _ z => z, h.2⟩
    exact r.1.frz (fun a z => z.imp (fun q => q) (List.mem_append_right _)) (fun a m z => z.elim (R.gf a (List.mem_append_left _ m)) (r.2.2 a m)) h.1
  | slot j =>
    simp only [take1] at h
    split at h
    · rename_i o e
      obtain ⟨hB, hv, _⟩ := r
      subst hB
      obtain ⟨fz, h⟩ := h
      obtain ⟨R', q⟩ := (R.sub (G' := G) fun a m => m).freeze e
      rw [alias_fz fz] at R' q
      exact ⟨_, _, _, R', (q v hv).2, fun a z => z.set.elim (fun q => q) fun m => (List.not_mem_nil m).elim, h⟩
    · exact h.elim
theorem takeAll_ok {ρ0 : AEnv} {F : Addr → Prop} {vs : List V} {ps : List Opd} {A : List Addr} (g : ∀ a ∈ Bas.G0, a ∈ G) (rr : RArgs K σ H F ρ0 vs ps A) : ∀ {ρ : AEnv} {fp : Nat → List Addr} {Q : List T → AEnv → Prop}, RS K σ H ρ fp (A ++ G) → (∀ a, Or1 (Fo fp) (A ++ G) a → F a) →
    (∀ (j : Nat) (o : O), ρ0[j]? = some (some o) → ∃ o', ρ[j]? = some (some o')) → (∀ a ∈ A, a ∉ G) → A.Nodup → takeAll ps ρ Q →
    ∃ ts ρ' fp', RS K σ H ρ' fp' G ∧ RPs K H (Or1 (Fo fp') G) vs ts ∧ (∀ a, Fo fp' a → Fo fp a) ∧ Q ts ρ' := by
  induction rr with
  | nil => intro ρ fp Q R w hh hA d h; exact ⟨[], ρ, fp, R, .nil, fun _ z => z, h⟩
  | @val v o B A vs ps r rr ih =>
    intro ρ fp Q R w hh hA d h
    have w1 : ∀ a, Or1 (Fo fp) (A ++ G) a → Or1 (Fo fp) (B ++ A ++ G) a := fun a z => z.imp (fun q => q) fun m => by simp only [List.mem_append] at m ⊢; rcases m with m | m <;> simp [m]
    obtain ⟨fz, h⟩ := (show o.fz ∧ takeAll _ ρ _ from h)
    obtain ⟨ts, ρ', fp', R', q, i, h'⟩ := ih (R.sub fun a m => by simp only [List.mem_append] at m ⊢; rcases m with m | m <;> simp [m]) (fun a z => w a (w1 a z)) hh (fun a m => hA a (List.mem_append_right _ m)) (List.nodup_append.mp d).2.1 h
    refine ⟨_, ρ', fp', R', .cons ?_ q, i, h'⟩
    exact r.frz (fun a z => w a (z.elim (fun z => .inl (i a z)) fun m => .inr (List.mem_append_right _ m))) (fun a m z => z.elim (fun z => R.gf a (List.mem_append_left _ (List.mem_append_left _ m)) (i a z)) (hA a (List.mem_append_left _ m))) fz
  | @slot v j A vs ps hv hs rr ih =>
    intro ρ fp Q R w hh hA d h
    simp only [takeAll, take1] at h
    split at h
    · rename_i o e
      obtain ⟨fz, h⟩ := h
      obtain ⟨R1, q1⟩ := R.freeze e
      rw [alias_fz fz] at R1 q1
      have dl : ∀ a, Fo (fpSet fp j []) a → Fo fp a := fun a z => z.set.elim (fun q => q) fun m => (List.not_mem_nil m).elim
      obtain ⟨ts, ρ', fp', R', q, i, h'⟩ := ih R1 (fun a z => w a (z.imp (dl a) fun m => m)) (fun i u k => by obtain ⟨o', k⟩ := hh i u k; exact held_set e i o' k) hA d h
      exact ⟨_, ρ', fp', R', .cons ((q1 _ hv).2.weak fun a z => z.imp (i a) (List.mem_append_right _)) q, fun a z => dl a (i a z), h'⟩
    · exact h.elim
end
/-! ### displays -/
def tTupD (t : XTs) : XT := fun ρ Q => t ρ fun ps ρ1 => takeAll ps ρ1 fun ts ρ2 => Q (.val (.pure (.tuple ts))) ρ2
def tLstD (t : XTs) : XT := fun ρ Q => t ρ fun ps ρ1 => takeAll ps ρ1 fun ts ρ2 => Q (.val (.lst ts)) ρ2
section
variable {X : Cx} {a b e : Expr} {es : List Expr} {ta tb t : XT} {ts : XTs} {pos : Pos}
theorem ex_tup {x1} (h : EXs X es ts) (hl : es.length ≤ 1000 := by decide) : EX X (.Tuple es x1 pos) (tTupD ts) := by
  refine ⟨PE.imp (pe_tupP h.pa) ?_⟩
  rintro σ H Q ⟨ρ, fp, G, Qa, R, h, fin⟩
  refine ⟨ρ, fp, G, _, R, h, fun vs ps A H1 ρ1 fp1 hl1 R1 r1 nd1 ng1 x1 h1 => ?_⟩
  obtain ⟨ts, ρ2, fp2, R2, q2, i2, h2⟩ := takeAll_ok R.g0 r1 R1 (fun a z => z) (fun j o e => ⟨o, e⟩) ng1 nd1 h1
  refine ⟨by rw [sizeLine_eq]; omega, fun p its np => ?_⟩
  exact FinV.tup (fin_of (G := G) R2 (fun a m => m) (x1.or.weak (fun _ z => z) i2) fin) np q2 h2
theorem ex_lst (h : EXs X es ts) (hl : es.length ≤ 1000 := by decide) : EX X (.List es pos) (tLstD ts) := by
  refine ⟨PE.imp (pe_lst h.pa) ?_⟩
  rintro σ H Q ⟨ρ, fp, G, Qa, R, h, fin⟩
  refine ⟨ρ, fp, G, _, R, h, fun vs ps A H1 ρ1 fp1 hl1 R1 r1 nd1 ng1 x1 h1 => ?_⟩
  obtain ⟨ts, ρ2, fp2, R2, q2, i2, h2⟩ := takeAll_ok R.g0 r1 R1 (fun a z => z) (fun j o e => ⟨o, e⟩) ng1 nd1 h1
  refine ⟨by rw [sizeLine_eq]; omega, fun p np => ?_⟩
  exact FinV.lst (fin_of (G := G) R2 (fun a m => m) (x1.or.weak (fun _ z => z) i2) fin) np q2 h2
/-! ### tests -/
def bOf (ρ : AEnv) (p : Opd) (Q : Bool → Prop) : Prop := match p.get ρ with
  | some (.pure (.bool b)) => Q b
  | _ => False
def tTst (t : XT) : BT := fun ρ Q => t ρ fun p ρ1 => bOf ρ1 p fun b => Q b ρ1
theorem tst_go {K : PySem.W.Frag} {σ : St} {H : Hp} {Q : Bool → Hp → Prop} {t : XT} (h : LT K (tTst t) σ H Q) : LX K t σ H fun x H1 => ∃ c, x = .bl c ∧ Q c H1 := by
  obtain ⟨ρ, fp, G, Qa, R, h, fin⟩ := h
  refine ⟨ρ, fp, G, _, R, h, fun v p A H1 ρ1 fp1 R1 r1 x1 h1 => ?_⟩
  unfold bOf at h1
  split at h1
  · rename_i b e
    have q := r1.rw0 R1 e
    exact ⟨b, RP.boolE q, fin b H1 ρ1 fp1 (R1.sub fun a m => List.mem_append_right _ m) x1.or h1⟩
  · exact h1.elim
theorem tx_val (h : EX X e t) (he : ∀ whole, isTrue e X.env whole = (do let v ← whole; standAt e.pos; holding [v] (truthy v)) := by intro _; rfl) : TX X e (tTst t) := ⟨PT.imp (pt_val h.pe he) fun σ H Q q => tst_go q⟩
theorem tx_cmp {op : CmpOp} {g : G2} (ho : OpA X (compareOp op) g) (ha : EX X a ta) (hb : EX X b tb) (hm : behindInMarks op b = false) : TX X (.Compare a [op] [b] pos) (tTst (tBin g ta tb)) := by
  obtain ⟨r, hr, hg⟩ := ho
  refine ⟨PT.imp (pt_cmpR hr ha.pe hb.pe hm) ?_⟩
  rintro σ H Q h
  obtain ⟨ρ, fp, G, Qa, R, h, fin⟩ := tst_go h
  show tOp r _ _ σ H _
  refine ⟨ρ, fp, G, _, R, h, fun v p A H1 ρ1 fp1 R1 r1 x1 h1 => ?_⟩
  refine ⟨ρ1, fp1, A ++ G, _, R1, h1, fun u q B H2 ρ2 fp2 R2 r2 x2 h2 => ?_⟩
  unfold g2 at h2
  split at h2
  · rename_i x y e1 e2
    exact hg H2 (Or1 (Fo fp2) (B ++ (A ++ G))) v u x y _ _ (r1.rw R1 x2 R2 e1) (r2.rw0 R2 e2) h2 (fin_of R2 (fun a m => List.mem_append_right _ (List.mem_append_right _ m)) (x1.or.trans x2.or) fin)
  · exact h2.elim
def bAnd (t u : BT) : BT := fun ρ Q => t ρ fun c ρ1 => if c = true then u ρ1 Q else Q false ρ1
def bOr (t u : BT) : BT := fun ρ Q => t ρ fun c ρ1 => if c = true then Q true ρ1 else u ρ1 Q
def bNot (t : BT) : BT := fun ρ Q => t ρ fun c ρ1 => Q (!c) ρ1
variable {tA tB : BT} {rest : List Expr}
theorem WX.tx (h : WX X e tA) : TX X e tA := ⟨h.pw.pt⟩
theorem wx_or1 (ha : TX X a tA) : WX X (.BoolOp .Or [a] pos) tA := ⟨pw_or1 ha.pt⟩
theorem lt_or {K : PySem.W.Frag} {σ : St} {H : Hp} {Q : Bool → Hp → Prop} (h : LT K (bOr tA tB) σ H Q) : tOr (LT K tA) (LT K tB) σ H Q := by
  obtain ⟨ρ, fp, G, Qa, R, h, fin⟩ := h
  refine ⟨ρ, fp, G, _, R, h, fun c H1 ρ1 fp1 R1 x1 h1 => ?_⟩
  cases c with
  | false => exact iteF ⟨ρ1, fp1, G, _, R1, (by simpa using h1), fun b H2 ρ2 fp2 R2 x2 h2 => fin b H2 ρ2 fp2 R2 (x1.trans x2) h2⟩
  | true => exact iteT (fin true H1 ρ1 fp1 R1 x1 (by simpa using h1))
theorem wx_or (ha : TX X a tA) (hb : WX X (.BoolOp .Or (b :: rest) pos) tB) : WX X (.BoolOp .Or (a :: b :: rest) pos) (bOr tA tB) := ⟨PW.imp (pw_or ha.pt hb.pw) fun _ _ _ h => lt_or h⟩
theorem tx_not (ha : TX X a tA) : TX X (.UnaryOp .Not a pos) (bNot tA) := by
  refine ⟨PT.imp (pt_not ha.pt) ?_⟩
  rintro σ H Q ⟨ρ, fp, G, Qa, R, h, fin⟩
  exact ⟨ρ, fp, G, _, R, h, fun c H1 ρ1 fp1 R1 x1 h1 => fin (!c) H1 ρ1 fp1 R1 x1 h1⟩
/-- a chain of two comparisons -/
def bO (o : O) (Q : Bool → Prop) : Prop := match o with
  | .pure (.bool b) => Q b
  | _ => False
def tChainA (g g' : G2) (ta tb tc : XT) : BT := fun ρ Q => ta ρ fun p ρ1 => tb ρ1 fun q ρ2 => g2 g ρ2 p q fun o => bO o fun c => if c = true then (tc ρ2 fun r ρ3 => (∀ j, q = .slot j → ∃ o, ρ3[j]? = some (some o)) ∧ g2 g' ρ3 q r fun o => bO o fun b => Q b ρ3) else Q false ρ2
/-! ### bools as values -/
def tAndE (ta tb : XT) : XT := fun ρ Q => ta ρ fun p ρ1 => bOf ρ1 p fun c => if c = true then tb ρ1 Q else Q (.val (.pure (.bool false))) ρ1
def tOrE (ta tb : XT) : XT := fun ρ Q => ta ρ fun p ρ1 => bOf ρ1 p fun c => if c = true then Q (.val (.pure (.bool true))) ρ1 else tb ρ1 Q
def tNotE (ta : XT) : XT := fun ρ Q => ta ρ fun p ρ1 => bOf ρ1 p fun c => Q (.val (.pure (.bool (!c)))) ρ1
theorem ex_one {op} (h : EX X a t) : EX X (.BoolOp op [a] pos) t := ⟨pe_one h.pe⟩
/-- from the middle: the rest is run at a later state -/
theorem lx_later {K : PySem.W.Frag} {σ : St} {H H1 : Hp} {Q : VK} {t : XT} {ρ1 : AEnv} {fp fp1 : Nat → List Addr} {G A : List Addr} {Qa : Opd → AEnv → Prop} (R1 : RS K σ H1 ρ1 fp1 (A ++ G)) (x1 : Ext H (Fo fp) H1 (Or1 (Fo fp1) A)) (h : t ρ1 Qa)
    (fin : ∀ v p A H' ρ' fp', RS K σ H' ρ' fp' (A ++ G) → ROp K σ H' fp' ρ' G v p A → Ext H (Fo fp) H' (Or1 (Fo fp') A) → Qa p ρ' → Q v H') (g : ∀ a ∈ Bas.G0, a ∈ G := by (intro a z; repeat first | exact RS.g0 (by assumption) a z | (refine (?_ : ∀ a ∈ Bas.G0, a ∈ _) a z; assumption) | refine List.mem_append_right _ ?_)) : LX K t σ H1 Q :=
  ⟨ρ1, fp1, G, Qa, R1.sub fun a m => List.mem_append_right _ m, h, fun v p B H2 ρ2 fp2 R2 r2 x2 h2 => fin v p B H2 ρ2 fp2 R2 r2 (x1.or.trans x2) h2⟩
theorem fin_pure {K : PySem.W.Frag} {σ : St} {H H1 : Hp} {Q : VK} {ρ1 : AEnv} {fp fp1 : Nat → List Addr} {G A : List Addr} {Qa : Opd → AEnv → Prop} {v : V} {t : T} (R1 : RS K σ H1 ρ1 fp1 (A ++ G)) (x1 : Ext H (Fo fp) H1 (Or1 (Fo fp1) A)) (r : RP K H1 (Or1 (Fo fp1) G) v t)
    (fin : ∀ v p A H' ρ' fp', RS K σ H' ρ' fp' (A ++ G) → ROp K σ H' fp' ρ' G v p A → Ext H (Fo fp) H' (Or1 (Fo fp') A) → Qa p ρ' → Q v H') (q : Qa (.val (.pure t)) ρ1) (g : ∀ a ∈ Bas.G0, a ∈ G := by (intro a z; repeat first | exact RS.g0 (by assumption) a z | (refine (?_ : ∀ a ∈ Bas.G0, a ∈ _) a z; assumption) | refine List.mem_append_right _ ?_)) : Q v H1 :=
  fin v (.val (.pure t)) [] H1 ρ1 fp1 (R1.sub fun a m => List.mem_append_right _ m) (rop_pure r) (x1.or.weak (fun _ z => z) fun a z => z.elim (fun q => q) fun m => nomatch m) q
theorem ex_and (ha : EX X a ta) (hb : EX X (.BoolOp .And (b :: rest) pos) tb) : EX X (.BoolOp .And (a :: b :: rest) pos) (tAndE ta tb) := by
  refine ⟨PE.imp (pe_and ha.pe hb.pe) ?_⟩
  rintro σ H Q ⟨ρ, fp, G, Qa, R, h, fin⟩
  refine ⟨ρ, fp, G, _, R, h, fun v p A H1 ρ1 fp1 R1 r1 x1 h1 => ?_⟩
  unfold bOf at h1
  split at h1
  · rename_i c e
    refine ⟨c, RP.boolE (r1.rw0 R1 e), ?_⟩
    cases c with
    | true => exact iteT (lx_later R1 x1 (by simpa using h1) fin)
    | false => exact iteF (fin_pure R1 x1 (RP.bl false) fin (by simpa using h1))
  · exact h1.elim
theorem ex_not (ha : EX X a ta) : EX X (.UnaryOp .Not a pos) (tNotE ta) := by
  refine ⟨PE.imp (pe_not ha.pe) ?_⟩
  rintro σ H Q ⟨ρ, fp, G, Qa, R, h, fin⟩
  refine ⟨ρ, fp, G, _, R, h, fun v p A H1 ρ1 fp1 R1 r1 x1 h1 => ?_⟩
  unfold bOf at h1
  split at h1
  · rename_i c e
    exact ⟨c, RP.boolE (r1.rw0 R1 e), fin_pure R1 x1 (RP.bl _) fin h1⟩
  · exact h1.elim
def tIfE (tc : BT) (ta tb : XT) : XT := fun ρ Q => tc ρ fun c ρ1 => if c = true then ta ρ1 Q else tb ρ1 Q
end
end DL
set_option Elab.async false
set_option linter.all false
set_option maxRecDepth 100000
set_option maxHeartbeats 4000000
/-! THE DATA LAYER, part 3: statements, targets, loops. -/
namespace DL
open PySem PySem.Spec L2
open PyProof.Rows hiding St
variable [Tbs] [Bas] {wk : Bool}
theorem ro_pure {K : PySem.W.Frag} {H : Hp} {F : Addr → Prop} {v : V} {t : T} (r : RP K H F v t) : RO K H F v (.pure t) [] := ⟨rfl, r⟩
/-! ### what an operand is taken for -/
def takeO : Opd → AEnv → (O → AEnv → Prop) → Prop
  | .val o, ρ, Q => Q o ρ
  | .slot j, ρ, Q => match ρ[j]? with
    | some (some o) => Q o.alias (ρ.set j (some o.alias))
    | _ => False
/-- .. by return: a slot of one's own is moved out -/
def takeR (P : Nat → Bool) : Opd → AEnv → (O → AEnv → Prop) → Prop
  | .val o, ρ, Q => Q o ρ
  | .slot j, ρ, Q => match ρ[j]? with
    | some (some o) => if P j = true then Q o.alias (ρ.set j (some o.alias)) else Q o (ρ.set j none)
    | _ => False
section
variable {K : PySem.W.Frag} {σ : St} {H H1 : Hp} {fp : Nat → List Addr} {ρ : AEnv} {v : V} {p : Opd} {o : O} {j : Nat} {A B G : List Addr} {F F' : Addr → Prop}
theorem takeO_ok (R : RS K σ H ρ fp (B ++ G)) (r : ROp K σ H fp ρ G v p B) {Q : O → AEnv → Prop} (h : takeO p ρ Q) (g : ∀ a ∈ Bas.G0, a ∈ G := by (intro a z; repeat first | exact RS.g0 (by assumption) a z | (refine (?_ : ∀ a ∈ Bas.G0, a ∈ _) a z; assumption) | refine List.mem_append_right _ ?_)) :
    ∃ o A ρ' fp', RS K σ H ρ' fp' (A ++ G) ∧ RO K H (Or1 (Fo fp') (A ++ G)) v o A ∧ A.Nodup ∧ (∀ a ∈ A, a ∉ G) ∧ (∀ a, Or1 (Fo fp') A a → Or1 (Fo fp) B a) ∧ Q o ρ' := by
  cases p with
  | val o => exact ⟨o, B, ρ, fp, R, r.1, r.2.1, r.2.2, fun _ z => z, h⟩
  | slot j =>
    simp only [takeO] at h
    split at h
    · rename_i o e
      obtain ⟨hB, hv, _⟩ := r
      subst hB
      obtain ⟨R', q⟩ := (R.sub (G' := G) fun a m => m).freeze e
      exact ⟨_, [], _, _, R', (q v hv).weak (fun _ z => z), .nil, noMem, fun a z => z.elim (fun z => .inl (z.set.elim (fun q => q) fun m => (List.not_mem_nil m).elim)) fun m => (List.not_mem_nil m).elim, h⟩
    · exact h.elim
/-- a slot's content leaves it -/
theorem RS.move (R : RS K σ H ρ fp G) (e : ρ[j]? = some (some o)) (hv : σ[j]? = some (some v)) : RS K σ H (ρ.set j none) (fpSet fp j []) (fp j ++ G) ∧ RO K H (Or1 (Fo (fpSet fp j [])) (fp j ++ G)) v o (fp j) := by
  have dl : ∀ a, Fo (fpSet fp j []) a → Fo fp a := fun a z => z.set.elim (fun q => q) fun m => (List.not_mem_nil m).elim
  have w : ∀ a, Or1 (Fo (fpSet fp j [])) (fp j ++ G) a → Or1 (Fo fp) G a := fun a z => z.elim (fun z => .inl (dl a z)) fun m => (List.mem_append.mp m).elim (fun m => .inl ⟨j, m⟩) .inr
  obtain ⟨v', hv', r⟩ := R.ex j o e
  rw [hv] at hv'; cases hv'
  have D := R.drop (j := j) (σ' := σ) (fun _ _ _ h => h) rfl
  have nf : ∀ a ∈ fp j, ¬ Fo (fpSet fp j []) a := fun a m ⟨i, z⟩ => by
    by_cases q : i = j
    · subst q; rw [fpSet_at] at z; cases z
    · rw [fpSet_ne q] at z
      exact q (R.dj i j a z m)
  refine ⟨⟨⟨fun i u h => ?_, D.non, D.dj, D.nd, fun a m => (List.mem_append.mp m).elim (nf a) (D.gf a), fun a m => (List.mem_append.mp m).elim (fun m => let ⟨u, e, _⟩ := r.there a m; ⟨u, e⟩) (R.gi a), D.len, R.tb⟩, R.bs.weak (fun _ z => z) fun a z => ⟨w a z.1, z.2⟩, fun a m => List.mem_append_right _ (R.g0 a m)⟩, r.weak w⟩
  rw [AEnv.get_set] at h
  by_cases q : j = i
  · rw [if_pos q] at h
    split at h <;> cases h
  · rw [if_neg q] at h
    obtain ⟨x, hx, r'⟩ := R.ex i u h
    exact ⟨x, hx, by rw [fpSet_ne fun z => q z.symm]; exact r'.weak w⟩
theorem takeR_ok {P : Nat → Bool} (R : RS K σ H ρ fp (B ++ G)) (r : ROp K σ H fp ρ G v p B) {Q : O → AEnv → Prop} (h : takeR P p ρ Q) (g : ∀ a ∈ Bas.G0, a ∈ G := by (intro a z; repeat first | exact RS.g0 (by assumption) a z | (refine (?_ : ∀ a ∈ Bas.G0, a ∈ _) a z; assumption) | refine List.mem_append_right _ ?_)) :
    ∃ o A ρ' fp', RS K σ H ρ' fp' (A ++ G) ∧ RO K H (Or1 (Fo fp') (A ++ G)) v o A ∧ A.Nodup ∧ (∀ a ∈ A, a ∉ G) ∧ (∀ a, Or1 (Fo fp') A a → Or1 (Fo fp) B a) ∧ Q o ρ' := by
  cases p with
  | val o => exact ⟨o, B, ρ, fp, R, r.1, r.2.1, r.2.2, fun _ z => z, h⟩
  | slot j =>
    simp only [takeR] at h
    split at h
    · rename_i o e
      obtain ⟨hB, hv, _⟩ := r
      subst hB
      split at h
      · obtain ⟨R', q⟩ := (R.sub (G' := G) fun a m => m).freeze e
        exact ⟨_, [], _, _, R', (q v hv).weak (fun _ z => z), .nil, noMem, fun a z => z.elim (fun z => .inl (z.set.elim (fun q => q) fun m => (List.not_mem_nil m).elim)) fun m => (List.not_mem_nil m).elim, h⟩
      · obtain ⟨R', q⟩ := (R.sub (G' := G) fun a m => m).move e hv
        exact ⟨_, _, _, _, R', q, R.nd j, fun a m z => R.gf a z ⟨j, m⟩, fun a z => z.elim (fun z => .inl (z.set.elim (fun q => q) fun m => (List.not_mem_nil m).elim)) fun m => .inl ⟨j, m⟩, h⟩
    · exact h.elim
end
/-! ### statements -/
structure AEnds where
  nx : AEnv → Prop
  rt : O → AEnv → Prop
  bk : AEnv → Prop := fun _ => False
  ct : AEnv → Prop := fun _ => False
abbrev ST := AEnds → AEnv → Prop
def PinEq (P : Nat → Bool) (σ σ' : St) : Prop := ∀ (j : Nat), P j = true → σ'[j]? = σ[j]?
theorem PinEq.refl {P : Nat → Bool} {σ : St} : PinEq P σ σ := fun _ _ => rfl
theorem PinEq.trans {P : Nat → Bool} {σ σ1 σ2 : St} (h : PinEq P σ σ1) (k : PinEq P σ1 σ2) : PinEq P σ σ2 := fun j m => (k j m).trans (h j m)
structure FinS (K : PySem.W.Frag) (P : Nat → Bool) (σ : St) (H : Hp) (fp : Nat → List Addr) (G : List Addr) (Da : AEnds) (D : Ends) : Prop where
  nx : ∀ σ' H' ρ' fp', RS K σ' H' ρ' fp' G → Ext H (Fo fp) H' (Fo fp') → PinEq P σ σ' → Da.nx ρ' → D.nx σ' H'
  bk : ∀ σ' H' ρ' fp', RS K σ' H' ρ' fp' G → Ext H (Fo fp) H' (Fo fp') → PinEq P σ σ' → Da.bk ρ' → D.bk σ' H'
  ct : ∀ σ' H' ρ' fp', RS K σ' H' ρ' fp' G → Ext H (Fo fp) H' (Fo fp') → PinEq P σ σ' → Da.ct ρ' → D.ct σ' H'
  rt : ∀ v o A σ' H' ρ' fp', RS K σ' H' ρ' fp' (A ++ G) → RO K H' (Or1 (Fo fp') (A ++ G)) v o A → A.Nodup → (∀ a ∈ A, a ∉ G) → Ext H (Fo fp) H' (Or1 (Fo fp') A) → PinEq P σ σ' → Da.rt o ρ' → D.rt v H'
def LS (K : PySem.W.Frag) (P : Nat → Bool) (t : ST) : TS := fun D σ H => ∃ ρ fp G Da, RS K σ H ρ fp G ∧ t Da ρ ∧ FinS K P σ H fp G Da D
theorem FinS.later {K : PySem.W.Frag} {P : Nat → Bool} {σ σ1 : St} {H H1 : Hp} {fp fp1 : Nat → List Addr} {G : List Addr} {Da : AEnds} {D : Ends} (f : FinS K P σ H fp G Da D) (x : Ext H (Fo fp) H1 (Fo fp1)) (p : PinEq P σ σ1) : FinS K P σ1 H1 fp1 G Da D :=
  ⟨fun σ' H' ρ' fp' R y q h => f.nx σ' H' ρ' fp' R (x.trans y) (p.trans q) h, fun σ' H' ρ' fp' R y q h => f.bk σ' H' ρ' fp' R (x.trans y) (p.trans q) h, fun σ' H' ρ' fp' R y q h => f.ct σ' H' ρ' fp' R (x.trans y) (p.trans q) h,
    fun v o A σ' H' ρ' fp' R r d n y q h => f.rt v o A σ' H' ρ' fp' R r d n (x.trans y) (p.trans q) h⟩
structure SX (X : Cx) (P : Nat → Bool) (st : Stmt) (t : ST) : Prop where
  ps : PS X st (LS X.K P t)
structure SXs (X : Cx) (P : Nat → Bool) (st : List Stmt) (t : ST) : Prop where
  pss : PSs X st (LS X.K P t)
def sSeq (t u : ST) : ST := fun D ρ => t { D with nx := u D } ρ
def sNext : ST := fun D ρ => D.nx ρ
def sRet (P : Nat → Bool) (t : XT) : ST := fun D ρ => t ρ fun p ρ1 => takeR P p ρ1 D.rt
def sRetN : ST := fun D ρ => D.rt (.pure .none) ρ
def sDrop (t : XT) : ST := fun D ρ => t ρ fun _ ρ1 => D.nx ρ1
def sIf (c : BT) (t u : ST) : ST := fun D ρ => c ρ fun b ρ1 => if b = true then t D ρ1 else u D ρ1
def sSet (j : Nat) (t : XT) : ST := fun D ρ => t ρ fun p ρ1 => takeO p ρ1 fun o ρ2 => (Nat.blt j ρ2.length = true) ∧ D.nx (ρ2.set j (some o))
section
variable {X : Cx} {P : Nat → Bool} {st : Stmt} {rest : List Stmt} {t u : ST} {e : Expr} {te : XT} {tc : BT} {pos : Pos}
theorem sxs_nil : SXs X P [] sNext := by
  refine ⟨PSs.imp pss_nil ?_⟩
  rintro D σ H ⟨ρ, fp, G, Da, R, h, f⟩
  exact f.nx σ H ρ fp R Ext.refl .refl h
theorem ls_seq {K : PySem.W.Frag} {D : Ends} {σ : St} {H : Hp} (h : LS K P (sSeq t u) D σ H) : tSeq (LS K P t) (LS K P u) D σ H := by
  obtain ⟨ρ, fp, G, Da, R, h, f⟩ := h
  exact ⟨ρ, fp, G, _, R, h, fun σ' H' ρ' fp' R' x p q => ⟨ρ', fp', G, Da, R', q, f.later x p⟩, f.bk, f.ct, f.rt⟩
theorem sxs_cons (h1 : SX X P st t) (h2 : SXs X P rest u) : SXs X P (st :: rest) (sSeq t u) := ⟨PSs.imp (pss_cons h1.ps h2.pss) fun _ _ _ h => ls_seq h⟩
theorem sxs_one (h1 : SX X P st t) : SXs X P [st] t := ⟨pss_one h1.ps⟩
theorem sx_ret (h : EX X e te) : SX X P (.Return (some e) pos) (sRet P te) := by
  refine ⟨PS.imp (ps_ret h.pe) ?_⟩
  rintro D σ H ⟨ρ, fp, G, Da, R, h, f⟩
  refine ⟨ρ, fp, G, _, R, h, fun v p A H1 ρ1 fp1 R1 r1 x1 h1 => ?_⟩
  obtain ⟨o, B, ρ2, fp2, R2, r2, d2, n2, i2, h2⟩ := takeR_ok R1 r1 h1
  exact f.rt v o B σ H1 ρ2 fp2 R2 r2 d2 n2 (x1.weak (fun _ z => z) i2) .refl h2
theorem sx_expr (h : EX X e te) (hs : swapsWith e none pos.line X.env = pure false := by rfl) : SX X P (.Expr e pos) (sDrop te) := by
  refine ⟨PS.imp (ps_expr h.pe hs) ?_⟩
  rintro D σ H ⟨ρ, fp, G, Da, R, h, f⟩
  exact ⟨ρ, fp, G, _, R, h, fun v p A H1 ρ1 fp1 R1 r1 x1 h1 => f.nx σ H1 ρ1 fp1 (R1.sub fun a m => List.mem_append_right _ m) x1.or .refl h1⟩
theorem sx_if {c : Expr} {a b : List Stmt} (hc : TX X c tc) (ha : SXs X P a t) (hb : SXs X P b u) : SX X P (.If c a b pos) (sIf tc t u) := by
  refine ⟨PS.imp (ps_if hc.pt ha.pss hb.pss) ?_⟩
  rintro D σ H ⟨ρ, fp, G, Da, R, h, f⟩
  refine ⟨ρ, fp, G, _, R, h, fun c H1 ρ1 fp1 R1 x1 h1 => ?_⟩
  cases c with
  | true => exact iteT ⟨ρ1, fp1, G, Da, R1, (by simpa using h1), f.later x1 .refl⟩
  | false => exact iteF ⟨ρ1, fp1, G, Da, R1, (by simpa using h1), f.later x1 .refl⟩
theorem pinSet {j : Nat} {σ : St} {x : Option V} (hj : P j = false) : PinEq P σ (σ.set j x) := fun i m => by
  rw [List.getElem?_set_ne]
  rintro rfl
  rw [m] at hj
  cases hj
theorem set_go {K : PySem.W.Frag} {D : Ends} {σ : St} {H : Hp} {j : Nat} (hp : P j = false) (h : LS K P (sSet j te) D σ H) : tAsg (LX K te) (gName j) D σ H := by
  obtain ⟨ρ, fp, G, Da, R, h, f⟩ := h
  refine ⟨ρ, fp, G, _, R, h, fun v p A H1 ρ1 fp1 R1 r1 x1 h1 => ?_⟩
  obtain ⟨o, B, ρ2, fp2, R2, r2, d2, n2, i2, hl, h2⟩ := takeO_ok R1 r1 h1
  have hj : j < ρ2.length := Nat.le_of_ble_eq_true hl
  exact f.nx _ H1 _ _ (R2.put hj r2 d2 n2) ((x1.weak (fun _ z => z) i2).putE) (pinSet hp) h2
theorem sx_set {x : Str} {pos' : Pos} (j : Nat) (hN : X.N.Nodup) (hi : X.N[j]? = some x) (hx : Loc X.env.scope x) (he : EX X e te) (hp : P j = false := by rfl) (hs : swapsWith e (some (.Name x pos')) pos.line X.env = pure false := by rfl) (hf : X.fn x = true ∨ X.env.scope.names.lookup x = some .local := by first | exact .inl rfl | exact .inr rfl | assumption) :
    SX X P (.Assign [.Name x pos'] e pos) (sSet j te) := ⟨PS.imp (ps_set hN hi hx he.pe hs hf) fun _ _ _ h => set_go hp h⟩
end
/-! ### targets -/
abbrev GT := T → AEnv → (AEnv → Prop) → Prop
abbrev GTs := List T → AEnv → (AEnv → Prop) → Prop
/-- what an iterator yields: a tree, or (wk false) at least the items of a tuple -/
def RY (wk : Bool) (K : PySem.W.Frag) (H : Hp) (F : Addr → Prop) (v : V) (t : T) : Prop := RP K H F v t ∨ (wk = false ∧ ∃ a vs ts, v = .ref a ∧ t = .tuple ts ∧ SqT K H a vs ∧ RPs K H F vs ts)
theorem RY.weak {K : PySem.W.Frag} {H : Hp} {F F' : Addr → Prop} {v : V} {t : T} (h : RY wk K H F v t) (w : ∀ a, F' a → F a) : RY wk K H F' v t :=
  h.imp (fun q => q.weak w) fun ⟨e, a, vs, ts, e1, e2, e3, e4⟩ => ⟨e, a, vs, ts, e1, e2, e3, e4.weak w⟩
def LG (wk : Bool) (K : PySem.W.Frag) (P : Nat → Bool) (g : GT) : TG := fun v σ H Q => ∃ ρ fp G Qa t, RS K σ H ρ fp G ∧ RY wk K H (Or1 (Fo fp) G) v t ∧ g t ρ Qa ∧
  ∀ σ' ρ' fp', RS K σ' H ρ' fp' G → (∀ a, Fo fp' a → Fo fp a) → PinEq P σ σ' → σ'.length = σ.length → Qa ρ' → Q σ' H
structure GX (wk : Bool) (X : Cx) (P : Nat → Bool) (tg : Expr) (g : GT) : Prop where
  pg : PG X tg (LG wk X.K P g)
def LGs (K : PySem.W.Frag) (P : Nat → Bool) (g : GTs) : TGs := fun vs σ H Q => ∃ ρ fp G Qa ts, RS K σ H ρ fp G ∧ RPs K H (Or1 (Fo fp) G) vs ts ∧ g ts ρ Qa ∧
  ∀ σ' ρ' fp', RS K σ' H ρ' fp' G → (∀ a, Fo fp' a → Fo fp a) → PinEq P σ σ' → σ'.length = σ.length → Qa ρ' → Q σ' H
structure GXs (X : Cx) (P : Nat → Bool) (tg : List Expr) (g : GTs) : Prop where
  pg : PGs X tg (LGs X.K P g)
theorem PGs.imp {X : Cx} {ts : List Expr} {t t' : TGs} (h : PGs X ts t) (w : ∀ v σ H Q, t' v σ H Q → t v σ H Q) : PGs X ts t' := ⟨fun pins s σ H v u Q I r q => h.run pins s σ H v u Q I r (w v σ H Q q)⟩
def tgName (j : Nat) : GT := fun t ρ Q => (Nat.blt j ρ.length = true) ∧ Q (ρ.set j (some (.pure t)))
def tgNil : GTs := fun ts ρ Q => match ts with
  | [] => Q ρ
  | _ => False
def tgCons (g : GT) (h : GTs) : GTs := fun ts ρ Q => match ts with
  | t :: r => g t ρ fun ρ1 => h r ρ1 Q
  | _ => False
def tgTup (n : Nat) (h : GTs) : GT := fun t ρ Q => match t with
  | .tuple ts => ts.length = n ∧ h ts ρ Q
  | _ => False
section
variable {X : Cx} {P : Nat → Bool} {pos : Pos} {e : Expr} {es : List Expr} {g : GT} {h : GTs}
theorem gx_name {x : Str} (j : Nat) (hN : X.N.Nodup) (hi : X.N[j]? = some x) (hx : Loc X.env.scope x) (hp : P j = false := by rfl) (hf : X.fn x = true ∨ X.env.scope.names.lookup x = some .local := by first | exact .inl rfl | exact .inr rfl | assumption) : GX true X P (.Name x pos) (tgName j) := by
  refine ⟨PG.imp (pg_name hN hi hx hf) ?_⟩
  rintro v σ H Q ⟨ρ, fp, G, Qa, t, R, r | ⟨e, _⟩, ⟨hl, h⟩, fin⟩
  · exact fin _ _ _ (RS.put (A := []) R (Nat.le_of_ble_eq_true hl) (ro_pure r) .nil noMem) (fun a z => z.set.elim (fun q => q) fun m => (List.not_mem_nil m).elim) (pinSet hp) (by rw [List.length_set]) h
  · cases e
theorem gxs_nil : GXs X P [] tgNil := by
  refine ⟨PGs.imp pgs_nil ?_⟩
  rintro vs σ H Q ⟨ρ, fp, G, Qa, ts, R, r, h, fin⟩
  unfold tgNil at h
  split at h
  · cases r
    exact ⟨rfl, fin σ ρ fp R (fun _ z => z) .refl rfl h⟩
  · exact h.elim
theorem gxs_cons (h1 : GX true X P e g) (h2 : GXs X P es h) (hs : (assignEach (e :: es) X.env).map (·.2) = assign e X.env :: (assignEach es X.env).map (·.2) := by rfl) : GXs X P (e :: es) (tgCons g h) := by
  refine ⟨PGs.imp (pgs_cons h1.pg h2.pg hs) ?_⟩
  rintro vs σ H Q ⟨ρ, fp, G, Qa, ts, R, r, h, fin⟩
  unfold tgCons at h
  split at h
  · cases r with
    | cons r0 rr =>
      refine ⟨_, _, rfl, ρ, fp, G, _, _, R, .inl r0, h, fun σ1 ρ1 fp1 R1 i1 p1 l1 h1 => ?_⟩
      exact ⟨ρ1, fp1, G, Qa, _, R1, RPs.weak rr fun a z => z.imp (i1 a) fun m => m, h1, fun σ2 ρ2 fp2 R2 i2 p2 l2 h2 => fin σ2 ρ2 fp2 R2 (fun a z => i1 a (i2 a z)) (p1.trans p2) (l2.trans l1) h2⟩
  · exact h.elim
theorem gx_tup {k : Nat} {n : Nat} (hc : X.calm = true) (h1 : GXs X P es h) (hn : (assignEach es X.env).length = n := by rfl) (hst : (assignEach es X.env).findIdx? (·.1) = none := by rfl) : GX wk X P (.Tuple es k pos) (tgTup n h) := by
  refine ⟨PG.imp (pg_tup hc h1.pg hn hst) ?_⟩
  rintro v σ H Q ⟨ρ, fp, G, Qa, t, R, r, h, fin⟩
  unfold tgTup at h
  split at h
  · obtain ⟨a, vs, rfl, hq, rr⟩ : ∃ a vs, v = .ref a ∧ SqT X.K H a vs ∧ RPs X.K H (Or1 (Fo fp) G) vs _ := by
      rcases r with r | ⟨_, a, vs, ts', e1, e2, e3, e4⟩
      · exact r.tupE
      · cases e2; exact ⟨a, vs, e1, e3, e4⟩
    exact ⟨a, vs, rfl, hq, by rw [Paired.len rr, h.1], ρ, fp, G, Qa, _, R, rr, h.2, fin⟩
  · exact h.elim
/-- target = value, the value as a tree -/
def sAsg (g : GT) (t : XT) : ST := fun D ρ => t ρ fun p ρ1 => take1 p ρ1 fun y ρ2 => g y ρ2 D.nx
theorem sx_asg {tg : Expr} {te : XT} (he : EX X e te) (hg : GX true X P tg g) (hs : swapsWithSole [tg] e pos.line X.env = pure false := by rfl) (hw : swappedStores [tg] e X.env = pure none := by rfl)
    (h1 : (assignEach [tg] X.env).map (·.2) = [assign tg X.env] := by rfl) : SX X P (.Assign [tg] e pos) (sAsg g te) := by
  refine ⟨PS.imp (ps_asg he.pe hg.pg hs hw h1) ?_⟩
  rintro D σ H ⟨ρ, fp, G, Da, R, h, f⟩
  refine ⟨ρ, fp, G, _, R, h, fun v p A H1 ρ1 fp1 R1 r1 x1 h1 => ?_⟩
  obtain ⟨y, ρ2, fp2, R2, r2, i2, h2⟩ := take1_ok R1 r1 h1
  exact ⟨ρ2, fp2, G, _, y, R2, .inl r2, h2, fun σ3 ρ3 fp3 R3 i3 p3 _ h3 => f.nx σ3 H1 ρ3 fp3 R3 (x1.or.weak (fun _ z => z) fun a z => i2 a (i3 a z)) p3 h3⟩
end
/-! ### what is walked -/
/-- the iterator J gives the trees ts, one after another, whatever happens to what is owned -/
def JOk (wk : Bool) (K : PySem.W.Frag) (J : It) (ts : List T) (H : Hp) (F : Addr → Prop) (G : List Addr) : Prop :=
  ∀ H' F', Ext H F H' F' → (∀ i t, ts[i]? = some t → J.go i H' ∧ ∀ x H'', J.yld i H' x H'' → Pres H' H'' ∧ RY wk K H'' (Or1 F' G) x t) ∧ J.stop ts.length H'
abbrev IT := AEnv → (List T → AEnv → Prop) → Prop
def LI (wk : Bool) (K : PySem.W.Frag) (ti : IT) : TI := fun σ H R => ∃ ρ fp G Qa, RS K σ H ρ fp G ∧ ti ρ Qa ∧
  ∀ ts J H' ρ' fp', RS K σ H' ρ' fp' G → JOk wk K J ts H' (Fo fp') G → ts.length ≤ sizeLine → Ext H (Fo fp) H' (Fo fp') → Qa ts ρ' → R J H'
structure IX (wk : Bool) (X : Cx) (tg iter : Expr) (ti : IT) : Prop where
  pi : PI X tg iter (LI wk X.K ti)
def forW (g : GT) (tb : ST) (D : AEnds) : List T → AEnv → Prop
  | [], ρ => D.nx ρ
  | t :: ts, ρ => g t ρ fun ρ1 => tb { nx := forW g tb D ts, ct := forW g tb D ts, bk := D.nx, rt := D.rt } ρ1
def sFor (ti : IT) (g : GT) (tb : ST) : ST := fun D ρ => ti ρ fun ts ρ1 => forW g tb D ts ρ1
section
variable {X : Cx} {P : Nat → Bool} {pos : Pos} {tg iter : Expr} {body : List Stmt} {ti : IT} {g : GT} {tb : ST}
theorem drop_at {α : Type} {l : List α} {i : Nat} {t : α} {r : List α} (h : l.drop i = t :: r) : l[i]? = some t ∧ l.drop (i + 1) = r ∧ i < l.length := by
  have h1 : i < l.length := by
    rcases Nat.lt_or_ge i l.length with q | q
    · exact q
    · rw [List.drop_eq_nil_of_le q] at h; cases h
  rw [List.drop_eq_getElem_cons h1] at h
  cases h
  exact ⟨List.getElem?_eq_getElem h1, rfl, h1⟩
theorem sx_for (hp : PassesOwn (model X.prog X.w) X.A X.env X.xe) (hc : X.calm = true) (hi : IX wk X tg iter ti) (hg : GX wk X P tg g) (hb : SXs X P body tb) (hs : ∀ x, foldedSetIterable iter X.env x = pure x := by intro _; rfl) :
    SX X P (.For tg iter body [] pos) (sFor ti g tb) := by
  refine ⟨PS.imp (ps_for hp hc hi.pi hg.pg hb.pss hs) ?_⟩
  rintro D σ H ⟨ρ, fp, G, Da, R, h, f⟩
  refine ⟨ρ, fp, G, _, R, h, fun ts J H1 ρ1 fp1 R1 j1 _ x1 h1 => ?_⟩
  refine ⟨fun i m σ' H' => ∃ ρ' fp', m = ts.length - i ∧ i ≤ ts.length ∧ RS X.K σ' H' ρ' fp' G ∧ Ext H1 (Fo fp1) H' (Fo fp') ∧ PinEq P σ σ' ∧ forW g tb Da (ts.drop i) ρ', ⟨_, ρ1, fp1, rfl, Nat.zero_le _, R1, Ext.refl, .refl, h1⟩, ?_⟩
  rintro i m σ2 H2 ⟨ρ2, fp2, rfl, hi2, R2, x2, p2, h2⟩
  obtain ⟨j2, stop⟩ := j1 H2 (Fo fp2) x2
  cases hd : ts.drop i with
  | nil =>
    have e : i = ts.length := by
      have := congrArg List.length hd
      simp at this; omega
    subst e
    rw [hd] at h2
    exact .inl ⟨stop, f.nx σ2 H2 ρ2 fp2 R2 (x1.trans x2) p2 h2⟩
  | cons t r =>
    obtain ⟨e1, e2, e3⟩ := drop_at hd
    rw [hd] at h2
    obtain ⟨go, yl⟩ := j2 i t e1
    refine .inr ⟨go, fun σ3 H3 => ∃ ρ3 fp3, RS X.K σ3 H3 ρ3 fp3 G ∧ Ext H1 (Fo fp1) H3 (Fo fp3) ∧ PinEq P σ σ3 ∧ forW g tb Da r ρ3, fun σ3 H3 ⟨ρ3, fp3, R3, x3, p3, h3⟩ => ⟨_, by omega, ρ3, fp3, rfl, e3, R3, x3, p3, by rw [e2]; exact h3⟩, fun x H3 y => ?_⟩
    obtain ⟨pr, rp⟩ := yl x H3 y
    refine ⟨ρ2, fp2, G, _, t, R2.pres pr, rp, h2, fun σ4 ρ4 fp4 R4 i4 p4 _ h4 => ?_⟩
    have x4 : Ext H1 (Fo fp1) H3 (Fo fp4) := x2.trans ((pr.ext (F := Fo fp2)).weak (fun _ z => z) i4)
    have p24 := p2.trans p4
    refine ⟨ρ4, fp4, G, _, R4, h4, fun σ5 H5 ρ5 fp5 R5 x5 p5 h5 => ⟨ρ5, fp5, R5, x4.trans x5, p24.trans p5, h5⟩, fun σ5 H5 ρ5 fp5 R5 x5 p5 h5 => ?_, fun σ5 H5 ρ5 fp5 R5 x5 p5 h5 => ⟨ρ5, fp5, R5, x4.trans x5, p24.trans p5, h5⟩, fun v o A σ5 H5 ρ5 fp5 R5 r5 d5 n5 x5 p5 h5 => ?_⟩
    · exact f.nx σ5 H5 ρ5 fp5 R5 (x1.trans (x4.trans x5)) (p24.trans p5) h5
    · exact f.rt v o A σ5 H5 ρ5 fp5 R5 r5 d5 n5 (x1.trans (x4.trans x5)) (p24.trans p5) h5
/-! ### while -/
end
end DL
set_option Elab.async false
set_option linter.all false
set_option maxRecDepth 100000
set_option maxHeartbeats 4000000
/-! THE DATA LAYER, part 4: list comprehensions; defs and their calls. -/
namespace DL
open PySem PySem.Spec L2
open PyProof.Rows hiding St
variable [Tbs] [Bas] {wk : Bool}
theorem Ext.addP {H H' : Hp} {F F' : Addr → Prop} (x : Ext H F H' F') (S : Addr → Prop) : Ext H (fun a => S a ∨ F a) H' (fun a => S a ∨ F' a) where
  keep a o e n t := x.keep a o e (fun z => n (.inr z)) t
  tups := x.tups
  frzs := x.frzs
  new a z := z.elim (fun z => .inl (.inl z)) fun z => (x.new a z).imp .inr (fun q => q)
  dom := x.dom
  tabs := x.tabs
  exts := x.exts
section
variable {K : PySem.W.Frag} {σ : St} {H H1 H' : Hp} {fp fp1 : Nat → List Addr} {ρ : AEnv} {v : V} {o : O} {j : Nat} {A B B' G : List Addr}
/-- what is held through a step that is let change B alone, and leaves B' -/
theorem RS.thru (R : RS K σ H ρ fp (B ++ G)) (x : Ext H (· ∈ B) H' (· ∈ B')) (hG : ∀ a ∈ G, a ∉ B) (hi : ∀ a ∈ B', ∃ u, H' a = some u) (g : ∀ a ∈ Bas.G0, a ∈ G := by (intro a z; repeat first | exact RS.g0 (by assumption) a z | (refine (?_ : ∀ a ∈ Bas.G0, a ∈ _) a z; assumption) | refine List.mem_append_right _ ?_)) : RS K σ H' ρ fp (B' ++ G) := by
  have nf : ∀ a, Fo fp a → a ∉ B := fun a z m => R.gf a (List.mem_append_left _ m) z
  have up : ∀ a u, H a = some u → ∃ u', H' a = some u' := fun a u e => by
    cases q : H' a with
    | some u' => exact ⟨u', rfl⟩
    | none => rw [x.dom a q] at e; cases e
  refine ⟨⟨fun i u h => ?_, R.non, R.dj, R.nd, fun a m z => ?_, fun a m => (List.mem_append.mp m).elim (hi a) fun m => let ⟨u, e⟩ := R.gi a (List.mem_append_right _ m); up a u e, R.len, x.tabs R.tb⟩,
    R.bs.trans ((x.addP (fun a => Or1 (Fo fp) (B ++ G) a ∧ a ∉ Bas.G0)).weak (fun a z => z.elim (fun z => z) fun m => ⟨.inr (List.mem_append_left _ m), fun z => hG a (g a z) m⟩)
      fun a z => z.1.elim (fun q => .inl ⟨.inl q, z.2⟩) fun m => (List.mem_append.mp m).elim .inr fun m => .inl ⟨.inr (List.mem_append_right _ m), z.2⟩), fun a m => List.mem_append_right _ (g a m)⟩
  · obtain ⟨w, hw, r⟩ := R.ex i u h
    have w1 : ∀ a, (Or1 (Fo fp) G a ∨ a ∈ B) → Or1 (Fo fp) (B ++ G) a := fun a z => z.elim (fun z => z.imp (fun q => q) (List.mem_append_right _)) fun m => .inr (List.mem_append_left _ m)
    have w2 : ∀ a, Or1 (Fo fp) (B' ++ G) a → (Or1 (Fo fp) G a ∨ a ∈ B') := fun a z => z.elim (fun z => .inl (.inl z)) fun m => (List.mem_append.mp m).elim .inr fun m => .inl (.inr m)
    exact ⟨w, hw, r.imp (fun v t q => ((q.weak w1).ext (x.addP (Or1 (Fo fp) G))).weak w2) (fun a m u e t => x.keep a u e (nf a ⟨i, m⟩) t) (fun v t q => ((q.weak w1).ext (x.addP (Or1 (Fo fp) G))).weak w2) fun v t q => ((q.weak w1).ext (x.addP (Or1 (Fo fp) G))).weak w2⟩
  · rcases List.mem_append.mp m with m | m
    · rcases x.new a m with k | k
      · exact R.gf a (List.mem_append_left _ k) z
      · obtain ⟨u, e, _⟩ := R.there a z
        rw [k] at e; cases e
    · exact R.gf a (List.mem_append_right _ m) z
/-- one of the others' objects is written -/
theorem RS.write {D : Addr} {u : HO} (R : RS K σ H ρ fp (B ++ G)) (hB : B = [D]) (hD : ∃ o, H D = some o ∧ Mu (some o)) (hG : D ∉ G) (g : ∀ a ∈ Bas.G0, a ∈ G := by (intro a z; repeat first | exact RS.g0 (by assumption) a z | (refine (?_ : ∀ a ∈ Bas.G0, a ∈ _) a z; assumption) | refine List.mem_append_right _ ?_)) : RS K σ (L2.upd H D u) ρ fp (B ++ G) := by
  subst hB
  obtain ⟨o, e, mu⟩ := hD
  refine R.thru ⟨fun a u h n _ => by rw [upd_ne fun z => n (by rw [z]; exact List.mem_singleton.mpr rfl)]; exact h, fun a xs h => ?_, fun a u w h => ?_, fun a m => .inl m, fun a h => ?_, fun t => DL.Tabs.upd t e mu, fun a φ h => by rw [upd_ne fun q => by subst q; rw [e] at h; cases h; exact mu.elim]; exact h⟩ (fun a m z => hG (by rw [← List.mem_singleton.mp z]; exact m)) fun a m => ⟨u, by rw [List.mem_singleton.mp m]; exact upd_same⟩
  · by_cases q : a = D
    · subst q; rw [e] at h; cases h; exact mu.elim
    · rw [upd_ne q]; exact h
  · by_cases q : a = D
    · subst q; rw [e] at h; cases h; exact mu.elim
    · rw [upd_ne q]; exact h
  · by_cases q : a = D
    · subst q; rw [upd_same] at h; cases h
    · rw [upd_ne q] at h; exact h
theorem upd_ext {H : Hp} {D : Addr} {u o : HO} (e : H D = some o) (mu : Mu (some o)) {F F' : Addr → Prop} (hF : F D) (w : ∀ a, F' a → F a) : Ext H F (upd H D u) F' where
  keep a u h n _ := by rw [upd_ne fun z => n (by rw [z]; exact hF)]; exact h
  tabs t := DL.Tabs.upd t e mu
  exts a φ h := by rw [upd_ne fun q => by subst q; rw [e] at h; cases h; exact mu.elim]; exact h
  tups a xs h := by
    by_cases q : a = D
    · subst q; rw [e] at h; cases h; exact mu.elim
    · rw [upd_ne q]; exact h
  frzs a u w h := by
    by_cases q : a = D
    · subst q; rw [e] at h; cases h; exact mu.elim
    · rw [upd_ne q]; exact h
  new a z := .inl (w a z)
  dom a h := by
    by_cases q : a = D
    · subst q; rw [upd_same] at h; cases h
    · rw [upd_ne q] at h; exact h
end
/-! ### a comprehension's own names -/
def wipeA (ρ : AEnv) : List Nat → AEnv
  | [] => ρ
  | v :: vs => (wipeA ρ vs).set v none
section
variable {K : PySem.W.Frag} {σ σ' : St} {H : Hp} {fp : Nat → List Addr} {ρ : AEnv} {G : List Addr}
theorem RS.wipe : ∀ (vs : List Nat) {fp : Nat → List Addr}, RS K σ H ρ fp G → ∃ fp', RS K (L2.wipe σ vs) H (wipeA ρ vs) fp' G ∧ ∀ a, Fo fp' a → Fo fp a
  | [], fp, R => ⟨fp, R, fun _ z => z⟩
  | v :: vs, fp, R => by
    obtain ⟨fp1, R1, i1⟩ := RS.wipe vs R
    exact ⟨_, R1.drop (j := v) (fun i w h e => by unfold L2.wipe; rw [List.getElem?_set_ne (Ne.symm h)]; exact e) (by rw [wipe_length, wipe_length]), fun a z => i1 a (z.set.elim (fun q => q) fun m => (List.not_mem_nil m).elim)⟩
theorem wipe_eq : ∀ (vs : List Nat), (∀ (j : Nat), j ∉ vs → σ'[j]? = σ[j]?) → σ'.length = σ.length → wipe σ' vs = wipe σ vs := by
  intro vs h hl
  refine List.ext_getElem? fun i => ?_
  by_cases m : i ∈ vs
  · have at_ : ∀ (τ : St) (ws : List Nat), i ∈ ws → (wipe τ ws)[i]? = if i < τ.length then some none else none := by
      intro τ ws
      induction ws with
      | nil => intro m; cases m
      | cons w ws ih =>
        intro m
        unfold wipe
        by_cases q : w = i
        · subst q
          split
          · rename_i k; exact List.getElem?_set_self (by rw [wipe_length]; exact k)
          · rename_i k; exact List.getElem?_eq_none (by simp [wipe_length]; omega)
        · rw [List.getElem?_set_ne q]
          exact ih ((List.mem_cons.mp m).resolve_left fun z => q z.symm)
    rw [at_ _ _ m, at_ _ _ m, hl]
  · rw [wipe_out m, wipe_out m]
    exact h i m
theorem wipe_wipe (vs : List Nat) : wipe (wipe σ vs) vs = wipe σ vs := wipe_eq vs (fun j m => wipe_out m) (wipe_length σ vs)
theorem RS.unwipe {vs : List Nat} (R : RS K (L2.wipe σ vs) H ρ fp G) : RS K σ H ρ fp G := R.vals (fun i o v _ h => (wipe_some h).1) (wipe_length σ vs).symm
end
/-! ### list comprehensions -/
structure BXs (X : Cx) (ifs : List Expr) (t : BT) : Prop where
  pts : PTs X ifs (LT X.K t)
def bYes : BT := fun ρ Q => Q true ρ
theorem PTs.imp {X : Cx} {ifs : List Expr} {t t' : TT} (h : PTs X ifs t) (w : ∀ σ H Q, t' σ H Q → t σ H Q) : PTs X ifs t' := ⟨fun pins s σ H Q I q => h.run pins s σ H Q I (w σ H Q q)⟩
theorem bxs_nil {X : Cx} : BXs X [] bYes := by
  refine ⟨PTs.imp pts_nil ?_⟩
  rintro σ H Q ⟨ρ, fp, G, Qa, R, h, f⟩
  exact f true H ρ fp R Ext.refl h
def compW (g : GT) (tt : BT) (te : XT) (vs : List Nat) : List T → List T → AEnv → (List T → AEnv → Prop) → Prop
  | [], acc, ρ, Q => Q acc ρ
  | t :: ts, acc, ρ, Q => g t ρ fun ρ1 => tt ρ1 fun b ρ2 => if b = true then te ρ2 fun p ρ3 => take1 p ρ3 fun y ρ4 => compW g tt te vs ts (acc ++ [y]) (wipeA ρ4 vs) Q else compW g tt te vs ts acc (wipeA ρ2 vs) Q
def tComp (ti : IT) (g : GT) (tt : BT) (te : XT) (vs : List Nat) : XT := fun ρ Q => ti ρ fun ts ρ1 => compW g tt te vs ts [] (wipeA ρ1 vs) fun acc ρ2 => Q (.val (.lst acc)) ρ2
theorem lc_go {K : PySem.W.Frag} {ti : IT} {g : GT} {tt : BT} {te : XT} {vs : List Nat} {σ : St} {H : Hp} {Q : VK} (h : LX K (tComp ti g tt te vs) σ H Q) : tLc (LI wk K ti) (LG wk K (fun j => !vs.contains j) g) (LT K tt) (LX K te) vs σ H Q := by
  obtain ⟨ρ, fp, G, Qa, R, h, fin⟩ := h
  refine ⟨ρ, fp, G, _, R, h, fun ts J H1 ρ1 fp1 R1 j1 hsz x1 h1 => ?_⟩
  intro D hD
  have nD : D ∉ G := fun m => by obtain ⟨u, e⟩ := R1.gi D m; rw [hD] at e; cases e
  obtain ⟨fp0, R0, i0⟩ := R1.wipe vs
  have R0' : RS K (wipe σ vs) (upd H1 D (.lst [])) (wipeA ρ1 vs) fp0 ([D] ++ G) := R0.new (Pres.upd hD) (fun a m => by rw [List.mem_singleton.mp m]; exact hD) fun a m => ⟨.lst [], by rw [List.mem_singleton.mp m]; exact upd_same⟩
  have x0 : Ext H1 (Fo fp1) (upd H1 D (.lst [])) (Or1 (Fo fp0) [D]) := ((Pres.upd hD).extA (F := Fo fp1) (A := [D]) fun a m => by rw [List.mem_singleton.mp m]; exact hD).weak (fun _ z => z) fun a z => z.imp (i0 a) fun m => m
  refine ⟨fun i m H' => ∃ ρ' fp' va acc, m = ts.length - i ∧ i ≤ ts.length ∧ RS K (wipe σ vs) H' ρ' fp' ([D] ++ G) ∧ H' D = some (.lst va) ∧ RPs K H' (Or1 (Fo fp') ([D] ++ G)) va acc ∧ acc.length ≤ i ∧ Ext H1 (Fo fp1) H' (Or1 (Fo fp') [D]) ∧
    compW g tt te vs (ts.drop i) acc ρ' (fun acc ρ2 => Qa (.val (.lst acc)) ρ2), ⟨_, _, fp0, [], [], rfl, Nat.zero_le _, R0', upd_same, .nil, Nat.le_refl _, x0, h1⟩, ?_⟩
  rintro i m H2 ⟨ρ2, fp2, va, acc, rfl, hi, R2, hD2, ra, la, x2, h2⟩
  obtain ⟨j2, stop⟩ := j1 H2 _ x2
  cases hd : ts.drop i with
  | nil =>
    have e : i = ts.length := by
      have := congrArg List.length hd
      simp at this; omega
    subst e
    rw [hd] at h2
    refine .inl ⟨stop, fin (.ref D) (.val (.lst acc)) [D] H2 ρ2 fp2 R2.unwipe ⟨⟨D, va, rfl, rfl, hD2, ra⟩, by simp, fun a m => by rw [List.mem_singleton.mp m]; exact nD⟩ (x1.trans x2) h2⟩
  | cons t r =>
    obtain ⟨e1, e2, e3⟩ := drop_at hd
    rw [hd] at h2
    obtain ⟨go, yl⟩ := j2 i t e1
    -- what a turn reaches
    refine .inr ⟨go, fun H3 => ∃ ρ3 fp3 va acc, RS K (wipe σ vs) H3 ρ3 fp3 ([D] ++ G) ∧ H3 D = some (.lst va) ∧ RPs K H3 (Or1 (Fo fp3) ([D] ++ G)) va acc ∧ acc.length ≤ i + 1 ∧ Ext H1 (Fo fp1) H3 (Or1 (Fo fp3) [D]) ∧ compW g tt te vs r acc ρ3 (fun acc ρ2 => Qa (.val (.lst acc)) ρ2),
      fun H3 ⟨ρ3, fp3, va, acc, R3, d3, r3, l3, x3, h3⟩ => ⟨_, by omega, ρ3, fp3, va, acc, rfl, e3, R3, d3, r3, l3, x3, by rw [e2]; exact h3⟩, fun x H3 y => ?_⟩
    obtain ⟨pr, rp⟩ := yl x H3 y
    have R3 := R2.pres pr
    have d3 := pr D _ hD2
    have ra3 := RPs.ext (F := Or1 (Fo fp2) ([D] ++ G)) pr.ext ra
    have x3 : Ext H1 (Fo fp1) H3 (Or1 (Fo fp2) [D]) := x2.trans (pr.ext)
    refine ⟨ρ2, fp2, [D] ++ G, _, t, R3, rp.weak fun a z => Or1.app.mp z, h2, fun σ4 ρ4 fp4 R4 i4 p4 l4 h4 => ?_⟩
    have w4 : wipe σ4 vs = wipe σ vs := by
      have := wipe_eq (σ := wipe σ vs) (σ' := σ4) vs (fun j m => p4 j (by simp [m])) l4
      rw [this, wipe_wipe]
    have x4 : Ext H1 (Fo fp1) H3 (Or1 (Fo fp4) [D]) := x3.weak (fun _ z => z) fun a z => z.imp (i4 a) fun m => m
    refine ⟨w4, ρ4, fp4, [D] ++ G, _, R4, h4, fun b H5 ρ5 fp5 R5 x5 h5 => ?_⟩
    have kD : ∀ {H H' : Hp} {f f' : Nat → List Addr} {ρ : AEnv} {σ : St} {A : List Addr}, RS K σ H ρ f ([D] ++ G) → Ext H (Fo f) H' (Or1 (Fo f') A) → ∀ xs, H D = some (.lst xs) → H' D = some (.lst xs) := fun R x u e => x.keep D _ e (R.gf D (List.mem_append_left _ (List.mem_singleton.mpr rfl))) nt_lst
    have d5 := kD (A := []) R4 (x5.weak (fun _ z => z) fun a z => z.elim (fun q => q) fun m => (List.not_mem_nil m).elim) _ d3
    have ra5 : RPs K H5 (Or1 (Fo fp5) ([D] ++ G)) va acc := RPs.ext (x5.addG ([D] ++ G)) (RPs.weak ra3 fun a z => z.imp (i4 a) fun m => m)
    have x15 : Ext H1 (Fo fp1) H5 (Or1 (Fo fp5) [D]) := x4.trans (x5.addG [D])
    cases b with
    | false =>
      obtain ⟨fp6, R6, i6⟩ := R5.wipe vs
      rw [w4] at R6
      exact iteF ⟨_, fp6, va, acc, R6, d5, RPs.weak ra5 fun a z => z.imp (i6 a) fun m => m, Nat.le_succ_of_le la, x15.weak (fun _ z => z) fun a z => z.imp (i6 a) fun m => m, by simpa using h5⟩
    | true =>
      refine iteT ⟨ρ5, fp5, [D] ++ G, _, R5, (by simpa using h5), fun v p A H6 ρ6 fp6 R6 r6 x6 h6 => ?_⟩
      obtain ⟨yt, ρ7, fp7, R7, r7, i7, h7⟩ := take1_ok R6 r6 h6
      have d6 := kD R5 x6 _ d5
      have x6' : Ext H5 (Fo fp5) H6 (Fo fp7) := x6.or.weak (fun _ z => z) i7
      have ra6 : RPs K H6 (Or1 (Fo fp7) ([D] ++ G)) va acc := RPs.ext (x6'.addG ([D] ++ G)) ra5
      have x16 : Ext H1 (Fo fp1) H6 (Or1 (Fo fp7) [D]) := x15.trans (x6'.addG [D])
      refine ⟨va, d6, by rw [Paired.len ra6]; omega, ?_⟩
      have R8 : RS K σ4 (upd H6 D (.lst (va ++ [v]))) ρ7 fp7 ([D] ++ G) := RS.write R7 rfl ⟨_, d6, trivial⟩ nD
      have ux : Ext H6 (Or1 (Fo fp7) ([D] ++ G)) (upd H6 D (.lst (va ++ [v]))) (Or1 (Fo fp7) ([D] ++ G)) := upd_ext d6 trivial (.inr (List.mem_append_left _ (List.mem_singleton.mpr rfl))) fun _ z => z
      obtain ⟨fp9, R9, i9⟩ := R8.wipe vs
      rw [w4] at R9
      refine ⟨_, fp9, va ++ [v], acc ++ [yt], R9, upd_same, RPs.weak (RPs.ext ux (Paired.app ra6 (.cons r7 .nil))) fun a z => z.imp (i9 a) fun m => m, by simp; omega, ?_, h7⟩
      exact x16.trans (upd_ext d6 trivial (.inr (List.mem_singleton.mpr rfl)) fun a z => z.imp (i9 a) fun m => m)
section
variable {X : Cx} {elt tg iter : Expr} {ifs : List Expr} {scope : Scope} {own : List (Str × Nat)} {pos : Pos} {ti : IT} {g : GT} {tt : BT} {te : XT}
theorem ex_lc (hc : X.calm = true) (hN : X.N.Nodup) (hi : IX wk X tg iter ti) (ok : BlkOk X.N X.env.scope scope own)
    (hg : ∀ (s : Shared) (H : Hp) (C : Addr) (cl : List (Str × Addr)) (fp : List Addr), GX wk (X.blk s H scope (compEnvC scope cl C X.env) fp) (fun j => !(own.map (·.2)).contains j) tg g)
    (ht : ∀ (s : Shared) (H : Hp) (C : Addr) (cl : List (Str × Addr)) (fp : List Addr), BXs (X.blk s H scope (compEnvC scope cl C X.env) fp) ifs tt)
    (he : ∀ (s : Shared) (H : Hp) (C : Addr) (cl : List (Str × Addr)) (fp : List Addr), EX (X.blk s H scope (compEnvC scope cl C X.env) fp) elt te) (hs : ∀ x, foldedSetIterable iter X.env x = pure x := by intro _; rfl) :
    EX X (.ListComp elt [⟨tg, iter, ifs, 0⟩] scope pos) (tComp ti g tt te (own.map (·.2))) :=
  ⟨PE.imp (pe_lc (te := LX X.K te) (tt := LT X.K tt) (g := LG wk X.K _ g) hc hN hi.pi ok (fun s H C cl fp => (hg s H C cl fp).pg) (fun s H C cl fp => (ht s H C cl fp).pts) (fun s H C cl fp => (he s H C cl fp).pe) hs) fun _ _ _ h => lc_go h⟩
theorem sx_setLc {P : Nat → Bool} {y : Str} {py spos : Pos} (i : Nat) (hc : X.calm = true) (hN : X.N.Nodup) (hy : X.N[i]? = some y) (hyl : X.env.scope.names.lookup y = some .local)
    (hsw : swapsWith (.ListComp elt [⟨tg, iter, ifs, 0⟩] scope pos) (some (.Name y py)) spos.line X.env = pure true) (hi : IX wk X tg iter ti) (ok : BlkOk X.N X.env.scope scope own)
    (hg : ∀ (s : Shared) (H : Hp) (C : Addr) (cl : List (Str × Addr)) (fp : List Addr), GX wk (X.blk s H scope (compEnvC scope cl C X.env) fp) (fun j => !(own.map (·.2)).contains j) tg g)
    (ht : ∀ (s : Shared) (H : Hp) (C : Addr) (cl : List (Str × Addr)) (fp : List Addr), BXs (X.blk s H scope (compEnvC scope cl C X.env) fp) ifs tt)
    (he : ∀ (s : Shared) (H : Hp) (C : Addr) (cl : List (Str × Addr)) (fp : List Addr), EX (X.blk s H scope (compEnvC scope cl C X.env) fp) elt te) (hp : P i = false := by rfl) (hs : ∀ x, foldedSetIterable iter X.env x = pure x := by intro _; rfl) :
    SX X P (.Assign [.Name y py] (.ListComp elt [⟨tg, iter, ifs, 0⟩] scope pos) spos) (sSet i (tComp ti g tt te (own.map (·.2)))) := by
  refine ⟨PS.imp (ps_setLc (te := LX X.K te) (tt := LT X.K tt) (g := LG wk X.K _ g) hc hN hy hyl hsw hi.pi ok (fun s H C cl fp => (hg s H C cl fp).pg) (fun s H C cl fp => (ht s H C cl fp).pts) (fun s H C cl fp => (he s H C cl fp).pe) hs) fun D σ H h => ?_⟩
  have := set_go hp h
  exact lc_go this
end
end DL
set_option Elab.async false
set_option linter.all false
set_option maxRecDepth 100000
set_option maxHeartbeats 4000000
/-! THE DATA LAYER, part 5: defs, their promises, their calls. -/
namespace DL
open PySem PySem.Spec L2
open PyProof.Rows hiding St
variable [Tbs] [Bas]
/-- what a def does: contents of the parameters in; the answer and the contents of the lent ones out -/
abbrev FSpec := List O → (O → List O → Prop) → Prop
def outsOf : List Bool → Nat → AEnv → Option (List O)
  | [], _, _ => some []
  | false :: fl, i, ρ => outsOf fl (i + 1) ρ
  | true :: fl, i, ρ => match ρ.at i, outsOf fl (i + 1) ρ with
    | some o, some os => some (o :: os)
    | _, _ => none
def putO : List Bool → List O → List O → List O
  | true :: fl, _ :: os, u :: us => u :: putO fl os us
  | false :: fl, o :: os, us => o :: putO fl os us
  | _, os, _ => os
/-- the promise of a def in the data layer; fl: which parameters are lent (changed in place) -/
def ASp (K : PySem.W.Frag) (fl : List Bool) (spec : FSpec) : Sp := fun vs H Q _ => ∃ os fp G Qa, vs.length = fl.length ∧ RS0 K (vs.map some) H (os.map some) fp G ∧ (∀ i, fl.getD i false = false → fp i = []) ∧ spec os Qa ∧
  ∀ v o A outs H' fp', RS0 K (vs.map some) H' ((putO fl os outs).map some) fp' (A ++ G) → (∀ i, fl.getD i false = false → fp' i = []) → RO K H' (Or1 (Fo fp') (A ++ G)) v o A → A.Nodup → (∀ a ∈ A, a ∉ G) → Ext H (Fo fp) H' (Or1 (Fo fp') A) →
    outs.length = (fl.filter id).length → Qa o outs → Q v H'
/-! ### lending -/
inductive RCs (K : PySem.W.Frag) (H : Hp) (F : Addr → Prop) : List V → List O → List (List Addr) → Prop
  | nil : RCs K H F [] [] []
  | cons {v : V} {o : O} {B : List Addr} {vs : List V} {os : List O} {Bs : List (List Addr)} : RO K H F v o B → RCs K H F vs os Bs → RCs K H F (v :: vs) (o :: os) (B :: Bs)
/-- where the lent ones come from -/
inductive Lent (σ : St) : List Bool → List V → List (Option Nat) → Prop
  | nil : Lent σ [] [] []
  | no {v : V} {fl : List Bool} {vs : List V} {js : List (Option Nat)} : Lent σ fl vs js → Lent σ (false :: fl) (v :: vs) js
  | own {v : V} {fl : List Bool} {vs : List V} {js : List (Option Nat)} : Lent σ fl vs js → Lent σ (true :: fl) (v :: vs) (none :: js)
  | slot {v : V} {j : Nat} {fl : List Bool} {vs : List V} {js : List (Option Nat)} : σ[j]? = some (some v) → j < σ.length → Lent σ fl vs js → Lent σ (true :: fl) (v :: vs) (some j :: js)
def prep : List Bool → List Opd → AEnv → (List O → List (Option Nat) → AEnv → Prop) → Prop
  | [], [], ρ, Q => Q [] [] ρ
  | true :: fl, .val o :: ps, ρ, Q => prep fl ps ρ fun os js ρ' => Q (o :: os) (none :: js) ρ'
  | true :: fl, .slot j :: ps, ρ, Q => match ρ[j]? with
    | some (some o) => prep fl ps (ρ.set j none) fun os js ρ' => Q (o :: os) (some j :: js) ρ'
    | _ => False
  | false :: fl, p :: ps, ρ, Q => takeA p ρ fun o ρ1 => prep fl ps ρ1 fun os js ρ' => Q (o :: os) js ρ'
  | _, _, _, _ => False
def back : List (Option Nat) → List O → AEnv → AEnv
  | some j :: js, o :: os, ρ => back js os (ρ.set j (some o))
  | none :: js, _ :: os, ρ => back js os ρ
  | _, _, ρ => ρ
def tCallF (fl : List Bool) (spec : FSpec) (ts : XTs) : XT := fun ρ Q => ts ρ fun ps ρ1 => prep fl ps ρ1 fun os js ρ2 => spec os fun o outs => Q (.val o) (back js outs ρ2)
section
variable {K : PySem.W.Frag} {σ : St} {H H1 H' : Hp} {fp : Nat → List Addr} {ρ : AEnv} {v : V} {p : Opd} {o : O} {j : Nat} {A B G : List Addr} {F F' : Addr → Prop}
theorem RCs.weak (w : ∀ a, F' a → F a) {vs : List V} {os : List O} {Bs : List (List Addr)} (h : RCs K H F vs os Bs) : RCs K H F' vs os Bs := by
  induction h with
  | nil => exact .nil
  | cons r _ ih => exact .cons (r.weak w) ih
theorem RCs.len {vs : List V} {os : List O} {Bs : List (List Addr)} (h : RCs K H F vs os Bs) : vs.length = os.length ∧ Bs.length = os.length := by
  induction h with
  | nil => exact ⟨rfl, rfl⟩
  | cons _ _ ih => exact ⟨congrArg (· + 1) ih.1, congrArg (· + 1) ih.2⟩
theorem RCs.at {vs : List V} {os : List O} {Bs : List (List Addr)} (h : RCs K H F vs os Bs) : ∀ (i : Nat) (o : O), os[i]? = some o → ∃ v, vs[i]? = some v ∧ RO K H F v o (Bs.getD i []) := by
  induction h with
  | nil => intro i o e; simp at e
  | cons r _ ih =>
    intro i o e
    cases i with
    | zero => simp at e; subst e; exact ⟨_, rfl, r⟩
    | succ i =>
      obtain ⟨v, h1, h2⟩ := ih i o (by simpa using e)
      exact ⟨v, by simpa using h1, by simpa using h2⟩
theorem prep_ok {ρ0 : AEnv} {vs : List V} {ps : List Opd} (rr : RArgs K σ H F ρ0 vs ps A) : ∀ {fl : List Bool} {ρ : AEnv} {fp : Nat → List Addr} {G : List Addr} {Q : List O → List (Option Nat) → AEnv → Prop}, RS K σ H ρ fp (A ++ G) → (∀ a ∈ Bas.G0, a ∈ G) → (∀ a, Or1 (Fo fp) (A ++ G) a → F a) →
    (∀ a ∈ A, a ∉ G) → A.Nodup → prep fl ps ρ Q →
    ∃ os js ρ' fp' Bs, RS K σ H ρ' fp' (Bs.flatten ++ G) ∧ RCs K H (Or1 (Fo fp') (Bs.flatten ++ G)) vs os Bs ∧ Bs.flatten.Nodup ∧ (∀ a ∈ Bs.flatten, a ∉ G) ∧ (∀ a, Fo fp' a ∨ a ∈ Bs.flatten → Fo fp a ∨ a ∈ A) ∧ Lent σ fl vs js ∧ (∀ i, fl.getD i false = false → Bs.getD i [] = []) ∧ vs.length = fl.length ∧ Q os js ρ' := by
  induction rr with
  | nil =>
    intro fl ρ fp G Q R g w hA d h
    cases fl with
    | nil => exact ⟨[], [], ρ, fp, [], R, .nil, .nil, noMem, fun a z => z.imp (fun q => q) fun m => m, .nil, fun i _ => by simp, rfl, h⟩
    | cons f fl => cases f <;> exact h.elim
  | @val v o B A vs ps r rr ih =>
    intro fl ρ fp G Q R g w hA d h
    obtain ⟨dB, dA, dBA⟩ := List.nodup_append.mp d
    cases fl with
    | nil => exact h.elim
    | cons f fl =>
      cases f with
      | true =>
        -- own: its addresses join the others'
        have R1 : RS K σ H ρ fp (A ++ (B ++ G)) := R.sub fun a m => by simp only [List.mem_append] at m ⊢; rcases m with m | m | m <;> simp [m]
        obtain ⟨os, js, ρ', fp', Bs, R2, r2, d2, g2, i2, l2, z2, n2, h2⟩ := ih (G := B ++ G) R1 (fun a z => List.mem_append_right _ (g a z)) (fun a z => w a (z.imp (fun q => q) fun m => by simp only [List.mem_append] at m ⊢; rcases m with m | m | m <;> simp [m])) (fun a m z => (List.mem_append.mp z).elim (fun z => dBA a z a m rfl) (hA a (List.mem_append_right _ m))) dA h
        have sub : ∀ a, a ∈ (B :: Bs).flatten ++ G → a ∈ Bs.flatten ++ (B ++ G) := fun a m => by simp only [List.flatten_cons, List.mem_append] at m ⊢; rcases m with (m | m) | m <;> simp [m]
        refine ⟨_, _, ρ', fp', B :: Bs, R2.sub sub, .cons ?_ (r2.weak fun a z => z.imp (fun q => q) (sub a)), ?_, fun a m => ?_, fun a z => ?_, .own l2, fun i hi => ?_, congrArg (· + 1) n2, h2⟩
        · refine r.weak fun a z => w a ?_
          rcases z with z | z
          · exact (i2 a (.inl z)).imp (fun q => q) fun m => List.mem_append_left _ (List.mem_append_right _ m)
          · simp only [List.flatten_cons, List.mem_append] at z
            rcases z with (z | z) | z
            · exact .inr (by simp [z])
            · exact (i2 a (.inr z)).imp (fun q => q) fun m => by simp [m]
            · exact .inr (by simp [z])
        · simp only [List.flatten_cons]
          exact List.nodup_append.mpr ⟨dB, d2, fun a m b n e => g2 b n (e ▸ List.mem_append_left _ m)⟩
        · simp only [List.flatten_cons, List.mem_append] at m
          rcases m with m | m
          · exact hA a (List.mem_append_left _ m)
          · exact fun z => g2 a m (List.mem_append_right _ z)
        · simp only [List.flatten_cons, List.mem_append] at z ⊢
          rcases z with z | z | z
          · exact (i2 a (.inl z)).imp (fun q => q) .inr
          · exact .inr (.inl z)
          · exact (i2 a (.inr z)).imp (fun q => q) .inr
        · cases i with
          | zero => simp at hi
          | succ i => simpa using z2 i (by simpa using hi)
      | false =>
        have R1 : RS K σ H ρ fp (A ++ G) := R.sub fun a m => by simp only [List.mem_append] at m ⊢; rcases m with m | m <;> simp [m]
        obtain ⟨os, js, ρ', fp', Bs, R2, r2, d2, g2, i2, l2, z2, n2, h2⟩ := ih R1 g (fun a z => w a (z.imp (fun q => q) fun m => by simp only [List.mem_append] at m ⊢; rcases m with m | m <;> simp [m])) (fun a m => hA a (List.mem_append_right _ m)) dA (show prep fl ps ρ _ from h)
        refine ⟨_, _, ρ', fp', [] :: Bs, R2, .cons ?_ r2, d2, g2, fun a z => (i2 a z).imp (fun q => q) (List.mem_append_right _), .no l2, fun i hi => ?_, congrArg (· + 1) n2, h2⟩
        · refine r.alias (fun a z => w a ?_) fun a m z => ?_
          · rcases z with z | z
            · exact (i2 a (.inl z)).imp (fun q => q) fun m => by simp [m]
            · simp only [List.flatten_cons, List.nil_append, List.mem_append] at z
              rcases z with z | z
              · exact (i2 a (.inr z)).imp (fun q => q) fun m => by simp [m]
              · exact .inr (by simp [z])
          · have nB : ¬ (Fo fp a ∨ a ∈ A) := fun z => z.elim (R.gf a (by simp [m])) fun z => dBA a m a z rfl
            rcases z with z | z
            · exact nB (i2 a (.inl z))
            · simp only [List.flatten_cons, List.nil_append, List.mem_append] at z
              rcases z with z | z
              · exact nB (i2 a (.inr z))
              · exact hA a (List.mem_append_left _ m) z
        · cases i with
          | zero => rfl
          | succ i => simpa using z2 i (by simpa using hi)
  | @slot v j A vs ps hv hs rr ih =>
    intro fl ρ fp G Q R g w hA d h
    have hjl : j < σ.length := (List.getElem?_eq_some_iff.mp hv).1
    cases fl with
    | nil => exact h.elim
    | cons f fl =>
      cases f with
      | true =>
        simp only [prep] at h
        split at h
        · rename_i o e
          obtain ⟨R1, r1⟩ := R.move e hv
          have dl : ∀ a, Fo (fpSet fp j []) a → Fo fp a := fun a z => z.set.elim (fun q => q) fun m => (List.not_mem_nil m).elim
          have R1' : RS K σ H (ρ.set j none) (fpSet fp j []) (A ++ (fp j ++ G)) := R1.sub fun a m => by simp only [List.mem_append] at m ⊢; rcases m with m | m | m <;> simp [m]
          obtain ⟨os, js, ρ', fp', Bs, R2, r2, d2, g2, i2, l2, z2, n2, h2⟩ := ih (G := fp j ++ G) R1' (fun a z => List.mem_append_right _ (g a z)) (fun a z => w a (by
            rcases z with z | z
            · exact .inl (dl a z)
            · simp only [List.mem_append] at z
              rcases z with z | z | z
              · exact .inr (by simp [z])
              · exact .inl ⟨j, z⟩
              · exact .inr (by simp [z]))) (fun a m z => (List.mem_append.mp z).elim (fun z => R.gf a (List.mem_append_left _ m) ⟨j, z⟩) (hA a m)) d h
          have sub : ∀ a, a ∈ (fp j :: Bs).flatten ++ G → a ∈ Bs.flatten ++ (fp j ++ G) := fun a m => by simp only [List.flatten_cons, List.mem_append] at m ⊢; rcases m with (m | m) | m <;> simp [m]
          refine ⟨_, _, ρ', fp', fp j :: Bs, R2.sub sub, .cons ?_ (r2.weak fun a z => z.imp (fun q => q) (sub a)), ?_, fun a m => ?_, fun a z => ?_, .slot hv hjl l2, fun i hi => ?_, congrArg (· + 1) n2, h2⟩
          · refine r1.weak fun a z => ?_
            rcases z with z | z
            · rcases i2 a (.inl z) with y | y
              · exact .inl y
              · exact .inr (by simp [y])
            · simp only [List.flatten_cons, List.mem_append] at z
              rcases z with (z | z) | z
              · exact .inr (by simp [z])
              · rcases i2 a (.inr z) with y | y
                · exact .inl y
                · exact .inr (by simp [y])
              · exact .inr (by simp [z])
          · simp only [List.flatten_cons]
            exact List.nodup_append.mpr ⟨R.nd j, d2, fun a m b n e => g2 b n (e ▸ List.mem_append_left _ m)⟩
          · simp only [List.flatten_cons, List.mem_append] at m
            rcases m with m | m
            · exact fun z => R.gf a (List.mem_append_right _ z) ⟨j, m⟩
            · exact fun z => g2 a m (List.mem_append_right _ z)
          · simp only [List.flatten_cons, List.mem_append] at z ⊢
            rcases z with z | z | z
            · exact (i2 a (.inl z)).imp (dl a) fun m => m
            · exact .inl ⟨j, z⟩
            · exact (i2 a (.inr z)).imp (dl a) fun m => m
          · cases i with
            | zero => simp at hi
            | succ i => simpa using z2 i (by simpa using hi)
        · exact h.elim
      | false =>
        simp only [prep, takeA] at h
        split at h
        · rename_i o e
          obtain ⟨R1, q1⟩ := R.freeze e
          have dl : ∀ a, Fo (fpSet fp j []) a → Fo fp a := fun a z => z.set.elim (fun q => q) fun m => (List.not_mem_nil m).elim
          obtain ⟨os, js, ρ', fp', Bs, R2, r2, d2, g2, i2, l2, z2, n2, h2⟩ := ih R1 g (fun a z => w a (z.imp (dl a) fun m => m)) hA d h
          refine ⟨_, _, ρ', fp', [] :: Bs, R2, .cons ?_ r2, d2, g2, fun a z => (i2 a z).imp (dl a) fun m => m, .no l2, fun i hi => ?_, congrArg (· + 1) n2, h2⟩
          · refine (q1 _ hv).weak fun a z => ?_
            rcases z with z | z
            · exact (i2 a (.inl z)).imp (fun q => q) fun m => by simp [m]
            · simp only [List.flatten_cons, List.nil_append, List.mem_append] at z
              rcases z with z | z
              · exact (i2 a (.inr z)).imp (fun q => q) fun m => by simp [m]
              · exact .inr (by simp [z])
          · cases i with
            | zero => rfl
            | succ i => simpa using z2 i (by simpa using hi)
        · exact h.elim
theorem mem_flat {Bs : List (List Addr)} {a : Addr} : a ∈ Bs.flatten ↔ ∃ i, a ∈ Bs.getD i [] := by
  constructor
  · intro h
    obtain ⟨B, hB, m⟩ := List.mem_flatten.mp h
    obtain ⟨i, hi, e⟩ := List.getElem_of_mem hB
    exact ⟨i, by rw [List.getD_eq_getElem?_getD, List.getElem?_eq_getElem hi]; simpa [e] using m⟩
  · rintro ⟨i, m⟩
    rw [List.getD_eq_getElem?_getD] at m
    cases e : Bs[i]? with
    | none => rw [e] at m; cases m
    | some B => rw [e] at m; exact List.mem_flatten.mpr ⟨B, List.mem_of_getElem? e, m⟩
theorem flat_dj : ∀ {Bs : List (List Addr)}, Bs.flatten.Nodup → (∀ (i j : Nat) a, a ∈ Bs.getD i [] → a ∈ Bs.getD j [] → i = j) ∧ ∀ i : Nat, (Bs.getD i []).Nodup
  | [], _ => ⟨fun i j a m => by simp at m, fun i => by simp⟩
  | B :: Bs, d => by
    simp only [List.flatten_cons] at d
    obtain ⟨d1, d2, d3⟩ := List.nodup_append.mp d
    obtain ⟨h1, h2⟩ := flat_dj d2
    refine ⟨fun i j a m n => ?_, fun i => ?_⟩
    · cases i with
      | zero =>
        cases j with
        | zero => rfl
        | succ j => exact absurd rfl (d3 a (by simpa using m) a (mem_flat.mpr ⟨j, by simpa using n⟩))
      | succ i =>
        cases j with
        | zero => exact absurd rfl (d3 a (by simpa using n) a (mem_flat.mpr ⟨i, by simpa using m⟩))
        | succ j => exact congrArg (· + 1) (h1 i j a (by simpa using m) (by simpa using n))
    · cases i with
      | zero => simpa using d1
      | succ i => simpa using h2 i
/-- all that the slots own -/
def allFp (ρ : AEnv) (fp : Nat → List Addr) : List Addr := (List.range ρ.length).flatMap fp
theorem RS0.all (R : RS0 K σ H ρ fp G) {a : Addr} : a ∈ allFp ρ fp ↔ Fo fp a := by
  constructor
  · intro h
    obtain ⟨i, _, m⟩ := List.mem_flatMap.mp h
    exact ⟨i, m⟩
  · rintro ⟨i, m⟩
    refine List.mem_flatMap.mpr ⟨i, List.mem_range.mpr ?_, m⟩
    rcases Nat.lt_or_ge i ρ.length with q | q
    · exact q
    · rw [R.non i fun o e => by rw [List.getElem?_eq_none q] at e; cases e] at m
      cases m
/-- the callee's view of its parameters -/
theorem RCs.rs {vs : List V} {os : List O} {Bs : List (List Addr)} {G' : List Addr} (R : RS K σ H ρ fp (Bs.flatten ++ G)) (h : RCs K H (Or1 (Fo fp) (Bs.flatten ++ G)) vs os Bs) (d : Bs.flatten.Nodup) (g : ∀ a ∈ Bs.flatten, a ∉ G) (hG : ∀ a, a ∈ G' ↔ Fo fp a ∨ a ∈ G) :
    RS0 K (vs.map some) H (os.map some) (fun i => Bs.getD i []) G' := by
  obtain ⟨dj, nd⟩ := flat_dj d
  refine ⟨fun i o e => ?_, fun i e => ?_, dj, nd, fun a m z => ?_, fun a m => ?_, by simp [h.len.1], R.tb⟩
  · rw [List.getElem?_map] at e
    cases q : os[i]? with
    | none => rw [q] at e; cases e
    | some o' =>
      rw [q] at e
      cases e
      obtain ⟨v, hv, r⟩ := h.at i _ q
      refine ⟨v, by rw [List.getElem?_map, hv]; rfl, r.weak fun a z => ?_⟩
      rcases z with ⟨k, z⟩ | z
      · exact .inr (List.mem_append_left _ (mem_flat.mpr ⟨k, z⟩))
      · exact ((hG a).mp z).imp (fun q => q) (List.mem_append_right _)
  · rcases Nat.lt_or_ge i os.length with q | q
    · exact absurd (by rw [List.getElem?_map, List.getElem?_eq_getElem q]; rfl) (e os[i])
    · rw [List.getD_eq_getElem?_getD, List.getElem?_eq_none (by rw [h.len.2]; exact q)]; rfl
  · have z' := mem_flat.mpr z
    exact ((hG a).mp m).elim (R.gf a (List.mem_append_left _ z')) (g a z')
  · exact ((hG a).mp m).elim (fun z => let ⟨u, e, _⟩ := R.there a z; ⟨u, e⟩) fun z => R.gi a (List.mem_append_right _ z)
/-- the lent contents come back -/
theorem back_ok {fl : List Bool} {vs : List V} {js : List (Option Nat)} (l : Lent σ fl vs js) : ∀ {os outs : List O} {fc : Nat → List Addr} {G2 : List Addr} {ρ : AEnv} {fp : Nat → List Addr} {W : List Addr},
    RS0 K (vs.map some) H ((putO fl os outs).map some) fc G2 → os.length = vs.length → outs.length = (fl.filter id).length → RS K σ H ρ fp (W ++ G) → (∀ a ∈ Bas.G0, a ∈ G) → (∀ i a, a ∈ fc i → a ∈ W) → (∀ a ∈ W, a ∉ G) → (∀ a, Fo fp a ∨ a ∈ W ∨ a ∈ G → Fo fc a ∨ a ∈ G2) →
    ∃ fp', RS K σ H (back js outs ρ) fp' G ∧ ∀ a, Fo fp' a → Fo fp a ∨ Fo fc a := by
  induction l with
  | nil => intro os outs fc G2 ρ fp W Rc lo ln R g0 m g w; exact ⟨fp, by cases outs <;> exact R.sub fun a m => List.mem_append_right _ m, fun a z => .inl z⟩
  | @no v fl vs js l ih =>
    intro os outs fc G2 ρ fp W Rc lo ln R g0 m g w
    cases os with
    | nil => simp at lo
    | cons o os =>
      have Rc' : RS0 K (vs.map some) H ((putO fl os outs).map some) (fun i => fc (i + 1)) (fc 0 ++ G2) := by
        refine ⟨fun i u e => ?_, fun i e => Rc.non (i + 1) fun o z => e o (by simpa [putO] using z), fun i k a m n => by have := Rc.dj _ _ a m n; omega, fun i => Rc.nd _, fun a m ⟨i, z⟩ => ?_, fun a m => ?_, by have := Rc.len; simp [putO] at this ⊢; omega, Rc.tb⟩
        · obtain ⟨x, hx, r⟩ := Rc.ex (i + 1) u (by simpa [putO] using e)
          exact ⟨x, by simpa using hx, r.weak fun a z => z.elim (fun ⟨k, z⟩ => .inl ⟨k + 1, z⟩) fun z => (List.mem_append.mp z).elim (fun z => .inl ⟨0, z⟩) .inr⟩
        · rcases List.mem_append.mp m with m | m
          · have := Rc.dj _ _ a m z; omega
          · exact Rc.gf a m ⟨i + 1, z⟩
        · exact (List.mem_append.mp m).elim (fun m => let ⟨u, e, _⟩ := Rc.there a ⟨0, m⟩; ⟨u, e⟩) (Rc.gi a)
      obtain ⟨fp', R', i'⟩ := ih Rc' (by simpa using lo) (by simpa using ln) R g0 (fun i a n => m (i + 1) a n) g fun a z => (w a z).elim (fun ⟨k, z⟩ => by
        cases k with
        | zero => exact .inr (List.mem_append_left _ z)
        | succ k => exact .inl ⟨k, z⟩) fun z => .inr (List.mem_append_right _ z)
      exact ⟨fp', R', fun a z => (i' a z).imp (fun q => q) fun ⟨k, z⟩ => ⟨k + 1, z⟩⟩
  | @own v fl vs js l ih =>
    intro os outs fc G2 ρ fp W Rc lo ln R g0 m g w
    cases os with
    | nil => simp at lo
    | cons o os =>
      cases outs with
      | nil => simp at ln
      | cons u outs =>
        have Rc' : RS0 K (vs.map some) H ((putO fl os outs).map some) (fun i => fc (i + 1)) (fc 0 ++ G2) := by
          refine ⟨fun i u e => ?_, fun i e => Rc.non (i + 1) fun o z => e o (by simpa [putO] using z), fun i k a m n => by have := Rc.dj _ _ a m n; omega, fun i => Rc.nd _, fun a m ⟨i, z⟩ => ?_, fun a m => ?_, by have := Rc.len; simp [putO] at this ⊢; omega, Rc.tb⟩
          · obtain ⟨x, hx, r⟩ := Rc.ex (i + 1) u (by simpa [putO] using e)
            exact ⟨x, by simpa using hx, r.weak fun a z => z.elim (fun ⟨k, z⟩ => .inl ⟨k + 1, z⟩) fun z => (List.mem_append.mp z).elim (fun z => .inl ⟨0, z⟩) .inr⟩
          · rcases List.mem_append.mp m with m | m
            · have := Rc.dj _ _ a m z; omega
            · exact Rc.gf a m ⟨i + 1, z⟩
          · exact (List.mem_append.mp m).elim (fun m => let ⟨u, e, _⟩ := Rc.there a ⟨0, m⟩; ⟨u, e⟩) (Rc.gi a)
        obtain ⟨fp', R', i'⟩ := ih Rc' (by simpa using lo) (by simpa using ln) R g0 (fun i a n => m (i + 1) a n) g fun a z => (w a z).elim (fun ⟨k, z⟩ => by
          cases k with
          | zero => exact .inr (List.mem_append_left _ z)
          | succ k => exact .inl ⟨k, z⟩) fun z => .inr (List.mem_append_right _ z)
        exact ⟨fp', R', fun a z => (i' a z).imp (fun q => q) fun ⟨k, z⟩ => ⟨k + 1, z⟩⟩
  | @slot v j fl vs js hv hj l ih =>
    intro os outs fc G2 ρ fp W Rc lo ln R g0 m g w
    cases os with
    | nil => simp at lo
    | cons o os =>
      cases outs with
      | nil => simp at ln
      | cons u outs =>
        have Rc' : RS0 K (vs.map some) H ((putO fl os outs).map some) (fun i => fc (i + 1)) (fc 0 ++ G2) := by
          refine ⟨fun i u e => ?_, fun i e => Rc.non (i + 1) fun o z => e o (by simpa [putO] using z), fun i k a m n => by have := Rc.dj _ _ a m n; omega, fun i => Rc.nd _, fun a m ⟨i, z⟩ => ?_, fun a m => ?_, by have := Rc.len; simp [putO] at this ⊢; omega, Rc.tb⟩
          · obtain ⟨x, hx, r⟩ := Rc.ex (i + 1) u (by simpa [putO] using e)
            exact ⟨x, by simpa using hx, r.weak fun a z => z.elim (fun ⟨k, z⟩ => .inl ⟨k + 1, z⟩) fun z => (List.mem_append.mp z).elim (fun z => .inl ⟨0, z⟩) .inr⟩
          · rcases List.mem_append.mp m with m | m
            · have := Rc.dj _ _ a m z; omega
            · exact Rc.gf a m ⟨i + 1, z⟩
          · exact (List.mem_append.mp m).elim (fun m => let ⟨u, e, _⟩ := Rc.there a ⟨0, m⟩; ⟨u, e⟩) (Rc.gi a)
        obtain ⟨v', hv', r⟩ := Rc.ex 0 u (by simp [putO])
        have ev : v' = v := by simpa using hv'.symm
        subst ev
        -- slot j is filled
        let W' := W.filter fun a => decide (a ∉ fc 0)
        have mW' : ∀ a, a ∈ W' ↔ a ∈ W ∧ a ∉ fc 0 := fun a => by simp [W']
        have R1 : RS K σ H ρ fp (fc 0 ++ (W' ++ G)) := R.sub fun a z => by
          simp only [List.mem_append] at z ⊢
          rcases z with z | z | z
          · exact .inl (m 0 a z)
          · exact .inl ((mW' a).mp z).1
          · exact .inr z
        have hjr : j < ρ.length := by rw [R.len]; exact hj
        have R2 := R1.upd (j := j) (σ' := σ) (o := u) (v := v') (fun a z y => by
          simp only [List.mem_append] at y
          rcases y with y | y
          · exact ((mW' a).mp y).2 z
          · exact g a (m 0 a z) y) (Rc.nd 0) hjr (fun i v _ h => h) hv rfl (r.weak fun a z => by
          have : Fo fp a ∨ a ∈ W ∨ a ∈ G := by
            rcases z with z | z
            · exact z.set.elim .inl fun z => .inr (.inl (m 0 a z))
            · simp only [List.mem_append] at z
              rcases z with z | z
              · exact .inr (.inl ((mW' a).mp z).1)
              · exact .inr (.inr z)
          exact w a this)
        obtain ⟨fp', R', i'⟩ := ih Rc' (by simpa using lo) (by simpa using ln) R2 g0 (fun i a n => (mW' a).mpr ⟨m (i + 1) a n, fun z => by have := Rc.dj _ _ a n z; omega⟩) (fun a z => g a ((mW' a).mp z).1) fun a z => by
          have : Fo fc a ∨ a ∈ G2 := by
            rcases z with z | z | z
            · rcases z.set with z | z
              · exact w a (.inl z)
              · exact .inl ⟨0, z⟩
            · exact w a (.inr (.inl ((mW' a).mp z).1))
            · exact w a (.inr (.inr z))
          rcases this with ⟨k, z⟩ | z
          · cases k with
            | zero => exact .inr (List.mem_append_left _ z)
            | succ k => exact .inl ⟨k, z⟩
          · exact .inr (List.mem_append_right _ z)
        exact ⟨fp', R', fun a z => (i' a z).elim (fun z => z.set.elim .inl fun z => .inr ⟨0, z⟩) fun ⟨k, z⟩ => .inr ⟨k + 1, z⟩⟩
end
end DL
set_option Elab.async false
set_option linter.all false
set_option maxRecDepth 100000
set_option maxHeartbeats 4000000
/-! THE DATA LAYER, part 6: a call of a def; a def keeps its promise. -/
namespace DL
open PySem PySem.Spec L2
open PyProof.Rows hiding St
variable [Tbs] [Bas]
section
variable {X : Cx} {k : Nat} {f : Addr} {fd : FuncData} {ps : List Str} {x : Str} {p pos : Pos} {e : Expr} {es : List Expr} {ts : XTs} {fl : List Bool} {spec : FSpec}
theorem callF_go {K : PySem.W.Frag} {n : Nat} {σ : St} {H : Hp} {Q : VK} {E : XK} (h : LX K (tCallF fl spec ts) σ H Q) : tCall (ASp K fl spec) [] E (LA K n ts) σ H Q := by
  obtain ⟨ρ, fp, G, Qa, R, h, fin⟩ := h
  refine ⟨ρ, fp, G, _, R, h, fun vs ps A H1 ρ1 fp1 hl R1 r1 nd1 ng1 x1 h1 => ?_⟩
  obtain ⟨os, js, ρ2, fp2, Bs, R2, r2, d2, g2, i2, l2, z2, n2, h2⟩ := prep_ok r1 R1 R.g0 (fun a z => z) ng1 nd1 h1
  rw [List.append_nil]
  have hG : ∀ a, a ∈ allFp ρ2 fp2 ++ G ↔ Fo fp2 a ∨ a ∈ G := fun a => by rw [List.mem_append, R2.all]
  refine ⟨os, fun i => Bs.getD i [], allFp ρ2 fp2 ++ G, _, n2, RCs.rs R2 r2 d2 g2 hG, z2, h2, fun v o A' outs H' fp' R' z' ro nd' ng' x' lo q => ?_⟩
  have fa : ∀ a, a ∈ allFp ((putO fl os outs).map some) fp' ↔ Fo fp' a := fun a => R'.all
  generalize hW : allFp ((putO fl os outs).map some) fp' = W at fa
  have xs : Ext H1 (· ∈ Bs.flatten) H' (· ∈ W ++ A') := x'.weak (fun a z => mem_flat.mpr z) fun a m => (List.mem_append.mp m).elim (fun m => .inl ((fa a).mp m)) .inr
  have R3 : RS K σ H' ρ2 fp2 ((W ++ A') ++ G) := R2.thru xs (fun a m z => g2 a z m) fun a m => (List.mem_append.mp m).elim (fun m => let ⟨u, e, _⟩ := R'.there a ((fa a).mp m); ⟨u, e⟩) fun m => let ⟨u, e, _⟩ := ro.there a m; ⟨u, e⟩
  obtain ⟨fp3, R4, i3⟩ := back_ok l2 (G := A' ++ G) R' (by rw [← r2.len.1]) lo (by rw [List.append_assoc] at R3; exact R3) (fun a m => List.mem_append_right _ (R.g0 a m)) (fun i a m => (fa a).mpr ⟨i, m⟩) (fun a m z => R'.gf a (by
      simp only [List.mem_append] at z ⊢
      rcases z with z | z
      · exact .inl z
      · exact .inr (.inr z)) ((fa a).mp m)) (fun a z => by
      rcases z with z | z | z
      · exact .inr (List.mem_append_right _ ((hG a).mpr (.inl z)))
      · exact .inl ((fa a).mp z)
      · simp only [List.mem_append] at z ⊢
        rcases z with z | z
        · exact .inr (.inl z)
        · exact .inr (.inr (.inr z)))
  refine fin v (.val o) A' H' _ fp3 R4 ⟨ro.weak fun a z => ?_, nd', fun a m z => ng' a m (List.mem_append_right _ z)⟩ (x1.trans ((x'.addP (Fo fp2)).weak (fun a z => ?_) fun a z => ?_)) q
  · rcases z with z | z
    · rcases i3 a z with z | z
      · exact .inr (List.mem_append_right _ ((hG a).mpr (.inl z)))
      · exact .inl z
    · simp only [List.mem_append] at z ⊢
      rcases z with z | z
      · exact .inr (by simp [z])
      · exact .inr (by simp [z])
  · exact (i2 a (z.imp (fun q => q) fun z => mem_flat.mpr z))
  · rcases z with z | z
    · exact (i3 a z).imp (fun q => q) .inl
    · exact .inr (.inr z)
end
/-! ### a def keeps its promise -/
def startA (n : Nat) (os : List O) : AEnv := os.map some ++ List.replicate (n - os.length) none
def endO (fl : List Bool) (ρ : AEnv) (Q : List O → Prop) : Prop := match outsOf fl 0 ρ with
  | some outs => Q outs
  | none => False
def endsOf (fl : List Bool) (Qa : O → List O → Prop) : AEnds := { nx := fun ρ => endO fl ρ (Qa (.pure .none)), rt := fun o ρ => endO fl ρ (Qa o) }
theorem outs_len : ∀ {fl : List Bool} {i : Nat} {ρ : AEnv} {outs : List O}, outsOf fl i ρ = some outs → outs.length = (fl.filter id).length
  | [], _, _, _, h => by cases h; rfl
  | false :: fl, i, ρ, outs, h => by simpa using outs_len (fl := fl) (i := i + 1) h
  | true :: fl, i, ρ, outs, h => by
    unfold outsOf at h
    split at h
    · rename_i o os e1 e2
      cases h
      simpa using outs_len e2
    · cases h
theorem putO_at : ∀ {fl : List Bool} {i : Nat} {ρ : AEnv} {os outs : List O}, outsOf fl i ρ = some outs → os.length = fl.length → (putO fl os outs).length = os.length ∧ ∀ (j : Nat), (fl.getD j false = true → (putO fl os outs)[j]? = ρ.at (i + j)) ∧ (fl.getD j false = false → (putO fl os outs)[j]? = os[j]?)
  | [], i, ρ, os, outs, h, hl => by
    have : os = [] := List.eq_nil_of_length_eq_zero hl
    subst this
    exact ⟨rfl, fun j => ⟨fun z => by simp at z, fun _ => rfl⟩⟩
  | false :: fl, i, ρ, [], outs, h, hl => by simp at hl
  | true :: fl, i, ρ, [], outs, h, hl => by simp at hl
  | false :: fl, i, ρ, o :: os, outs, h, hl => by
    obtain ⟨h1, h2⟩ := putO_at (fl := fl) (i := i + 1) (os := os) h (by simpa using hl)
    refine ⟨by simp [putO, h1], fun j => ?_⟩
    cases j with
    | zero => exact ⟨fun z => by simp at z, fun _ => rfl⟩
    | succ j => simpa [putO, Nat.add_assoc, Nat.add_comm 1 j] using h2 j
  | true :: fl, i, ρ, o :: os, outs, h, hl => by
    unfold outsOf at h
    split at h
    · rename_i u us e1 e2
      cases h
      obtain ⟨h1, h2⟩ := putO_at (os := os) e2 (by simpa using hl)
      refine ⟨by simp [putO, h1], fun j => ?_⟩
      cases j with
      | zero => exact ⟨fun _ => by simp [putO, e1], fun z => by simp at z⟩
      | succ j => simpa [putO, Nat.add_assoc, Nat.add_comm 1 j] using h2 j
    · cases h
theorem get_pad {α : Type} {l : List (Option α)} {m i : Nat} {o : α} : (l ++ List.replicate m none)[i]? = some (some o) ↔ l[i]? = some (some o) := by
  rcases Nat.lt_or_ge i l.length with h | h
  · rw [List.getElem?_append_left h]
  · rw [List.getElem?_append_right h, List.getElem?_replicate, List.getElem?_eq_none h]
    constructor
    · intro z; split at z <;> cases z
    · intro z; cases z
section
variable {P : Program} {w : World} {K : PySem.W.Frag} {mg : Str → Option Value} {base : Heap} {x qual : Str} {params : Arguments} {body : List Stmt} {scope : Scope} {f : Addr} {fd : FuncData}
def fpc (fl : List Bool) (fp : Nat → List Addr) : Nat → List Addr := fun i => if fl.getD i false = true then fp i else []
theorem fpc_t {fl : List Bool} {fp : Nat → List Addr} {i : Nat} (h : fl.getD i false = true) : fpc fl fp i = fp i := by unfold fpc; rw [if_pos h]
theorem fpc_f {fl : List Bool} {fp : Nat → List Addr} {i : Nat} (h : fl.getD i false = false) : fpc fl fp i = [] := by unfold fpc; rw [if_neg (by rw [h]; decide)]
theorem fpc_mem {fl : List Bool} {fp : Nat → List Addr} {i : Nat} {a : Addr} (m : a ∈ fpc fl fp i) : a ∈ fp i := by
  unfold fpc at m
  split at m
  · exact m
  · cases m
omit [Bas] in
theorem def_body {N ps : List Str} {spec : FSpec} (fl : List Bool) (tb : ST) (S : FnScope N ps scope) (rd : ∀ os Qa, os.length = fl.length → spec os Qa → tb (endsOf fl Qa) (startA N.length os)) {vs : List V} {H : Hp} {Q : VK} {E : XK} (h : ASp K fl spec vs H Q E) :
    ∃ B : Bas, @LS _ B K (fun j => fl.getD j false) tb { nx := fun _ H' => Q .non H', rt := Q } (L2.start N vs) H := by
  obtain ⟨os, fp, G, Qa, hl, R, z, hs, fin⟩ := h
  refine ⟨⟨H, Fo fp, G⟩, ?_⟩
  letI : Bas := ⟨H, Fo fp, G⟩
  have hlo : os.length = vs.length := by simpa using R.len
  have R0 : RS K (L2.start N vs) H (startA N.length os) fp G := by
    unfold L2.start startA
    refine ⟨⟨fun i o e => ?_, fun i e => R.non i fun o y => e o (get_pad.mpr y), R.dj, R.nd, R.gf, R.gi, by simp [hlo], R.tb⟩, Ext.refl.weak (fun _ z => z) fun a z => z.1.elim (fun q => q) fun m => absurd m z.2, fun _ m => m⟩
    obtain ⟨v, hv, r⟩ := R.ex i o (get_pad.mp e)
    exact ⟨v, get_pad.mpr hv, r⟩
  have done : ∀ v o A σ' H' ρ' fp', RS K σ' H' ρ' fp' (A ++ G) → RO K H' (Or1 (Fo fp') (A ++ G)) v o A → A.Nodup → (∀ a ∈ A, a ∉ G) → Ext H (Fo fp) H' (Or1 (Fo fp') A) → PinEq (fun j => fl.getD j false) (L2.start N vs) σ' → endO fl ρ' (Qa o) → Q v H' := by
    intro v o A' σ' H' ρ' fp' R' ro nd ng x' pe hq
    unfold endO at hq
    split at hq
    · rename_i outs eo
      obtain ⟨q1, q2⟩ := putO_at (os := os) eo (by rw [hlo, hl])
      have sub : ∀ a, Fo (fpc fl fp') a → Fo fp' a := fun a ⟨i, m⟩ => ⟨i, fpc_mem m⟩
      refine fin v o A' outs H' (fpc fl fp') ?_ (fun i e => fpc_f e) (ro.weak fun a y => y.imp (sub a) fun m => m) nd ng ?_ (outs_len eo) hq
      · refine ⟨fun i u e => ?_, fun i e => ?_, fun i j a m n => R'.dj i j a (fpc_mem m) (fpc_mem n), fun i => ?_, fun a m y => R'.gf a m (sub a y), R'.gi, by simp [q1, hlo], R'.tb⟩
        · rw [List.getElem?_map] at e
          cases g : (putO fl os outs)[i]? with
          | none => rw [g] at e; cases e
          | some u' =>
            rw [g] at e
            cases e
            cases b : fl.getD i false with
            | true =>
              have g2 := ((q2 i).1 b).symm.trans g
              rw [Nat.zero_add] at g2
              obtain ⟨y, hy, r⟩ := R'.ex i _ (AEnv.at_iff g2)
              have hp := pe i b
              rw [hp] at hy
              unfold L2.start at hy
              exact ⟨y, get_pad.mp hy, by rw [fpc_t b]; exact r.weak fun a y => y.imp (sub a) fun m => m⟩
            | false =>
              have g2 := ((q2 i).2 b).symm.trans g
              obtain ⟨y, hy, r⟩ := R.ex i _ (by rw [List.getElem?_map, g2]; rfl)
              rw [z i b] at r
              refine ⟨y, hy, ?_⟩
              rw [fpc_f b]
              exact (r.ext (x'.addG G) noMem).weak fun a y => y.elim (fun y => .inl (.inl (sub a y))) fun m => (List.mem_append.mp m).elim (fun m => .inl (.inr m)) .inr
        · cases b : fl.getD i false with
          | false => exact fpc_f b
          | true =>
            rw [fpc_t b]
            refine R'.non i fun o y => ?_
            have hi : i < (putO fl os outs).length := by
              rw [q1, hlo, hl]
              rcases Nat.lt_or_ge i fl.length with h | h
              · exact h
              · rw [List.getD_eq_getElem?_getD, List.getElem?_eq_none h] at b; cases b
            exact e _ (by rw [List.getElem?_map, List.getElem?_eq_getElem hi]; rfl)
        · cases b : fl.getD i false with
          | false => rw [fpc_f b]; exact .nil
          | true => rw [fpc_t b]; exact R'.nd i
      · exact x'.weak (fun _ y => y) fun a y => y.imp (sub a) fun m => m
    · exact hq.elim
  refine ⟨startA N.length os, fp, G, endsOf fl Qa, R0, rd os Qa (by rw [hlo, hl]) hs, fun σ' H' ρ' fp' R' x' pe hq => ?_, fun _ _ _ _ _ _ _ hq => hq.elim, fun _ _ _ _ _ _ _ hq => hq.elim, done⟩
  exact done .non (.pure .none) [] σ' H' ρ' fp' R' (ro_pure RP.non) .nil noMem (x'.weak (fun _ y => y) fun a y => y.elim (fun q => q) fun m => (List.not_mem_nil m).elim) pe hq
end
end DL
set_option Elab.async false
set_option linter.all false
set_option maxRecDepth 100000
set_option maxHeartbeats 4000000
/-! THE DATA LAYER, part 7: what is walked. -/
namespace DL
open PySem PySem.Spec L2
open PyProof.Rows hiding St
variable [Tbs] [Bas] {wk : Bool}
section
variable {K : PySem.W.Frag} {H H' : Hp} {F F' : Addr → Prop} {G : List Addr} {a b : Addr} {vs us : List V} {ts rs : List T}
/-- a list that stands: it is not F's, or it is of the written part -/
def StL (K : PySem.W.Frag) (H : Hp) (F : Addr → Prop) (a : Addr) (vs : List V) : Prop :=
  (Rd H a (.lst vs) ∧ ¬ F a) ∨ ∃ (o : Obj) (its : Array Value) (n : Nat), K.lookup a = some o ∧ o.cls = .type "list" ∧ o.dict = none ∧ o.data = .seq its n ∧ its.size ≤ sizeLine ∧ Vals vs its.toList
theorem StL.sq (h : StL K H F a vs) : SqL K H a vs := h.imp (fun h => h.1) fun h => h
theorem StL.ext (h : StL K H F a vs) (x : Ext H F H' F') : StL K H' F' a vs := by
  rcases h with ⟨h, n⟩ | h
  · refine .inl ⟨Rd.keepE x h n nt_lst, fun z => (x.new a z).elim n fun q => ?_⟩
    obtain ⟨o, e⟩ := DL.Rd.some h
    rw [q] at e; cases e
  · exact .inr h
theorem RP.stL {v : V} (h : RP K H (Or1 F G) v (.list ts)) : ∃ a vs, v = .ref a ∧ StL K H F a vs ∧ RPs K H (Or1 F G) vs ts := by
  obtain ⟨as, r, n⟩ := h
  cases r with
  | lst h r => exact ⟨_, _, rfl, .inl ⟨h, fun z => n _ List.mem_cons_self (.inl z)⟩, RPs.of r fun a m => n a (List.mem_cons_of_mem _ m)⟩
  | lstK h1 h2 h3 h4 h5 h6 r => exact ⟨_, _, rfl, .inr ⟨_, _, _, h1, h2, h3, h4, h5, h6⟩, RPs.of r n⟩
theorem RPs.extG (x : Ext H F H' F') (r : RPs K H (Or1 F G) vs ts) : RPs K H' (Or1 F' G) vs ts := RPs.ext (x.addG G) r
theorem jok_list (h : StL K H F a vs) (r : RPs K H (Or1 F G) vs ts) : JOk wk K (Itl K a) ts H F G := by
  intro H' F' x
  have h' := (h.ext x).sq
  have r' := RPs.extG x r
  refine ⟨fun i t e => ?_, ⟨vs, h', Nat.le_of_eq (Paired.len r')⟩⟩
  obtain ⟨v, hv, rv⟩ := Paired.at r' e
  refine ⟨⟨vs, v, h', hv⟩, fun x H'' y => ?_⟩
  obtain ⟨rfl, y⟩ := y
  have e2 := y vs h'
  rw [hv] at e2; cases e2
  exact ⟨Pres.refl, .inl rv⟩
theorem jok_tup (h : SqT K H a vs) (r : RPs K H (Or1 F G) vs ts) : JOk wk K (Itt K a) ts H F G := by
  intro H' F' x
  have h' := SqT.keepE x h
  have r' := RPs.extG x r
  refine ⟨fun i t e => ?_, ⟨vs, h', Nat.le_of_eq (Paired.len r')⟩⟩
  obtain ⟨v, hv, rv⟩ := Paired.at r' e
  refine ⟨⟨vs, v, h', hv⟩, fun x H'' y => ?_⟩
  obtain ⟨rfl, y⟩ := y
  have e2 := y vs h'
  rw [hv] at e2; cases e2
  exact ⟨Pres.refl, .inl rv⟩
def strItems (x : Str) : List T := x.cps.toList.map fun c => .str ⟨#[c]⟩
theorem jok_str (x : Str) : JOk wk K (Its x) (strItems x) H F G := by
  intro H' F' _
  refine ⟨fun i t e => ?_, by unfold strItems; simp [Its]⟩
  unfold strItems at e
  rw [List.getElem?_map] at e
  have hi : i < x.cps.size := by
    rcases Nat.lt_or_ge i x.cps.size with h | h
    · exact h
    · rw [List.getElem?_eq_none (by simpa using h)] at e; cases e
  refine ⟨hi, fun v H'' y => ?_⟩
  obtain ⟨rfl, c, hc, rfl⟩ := y
  have e2 : x.cps.toList[i]? = some c := by simpa using hc
  rw [e2] at e
  cases e
  exact ⟨Pres.refl, .inl (RP.str _)⟩
def rngItems (lo : Int) (n : Nat) : List T := (List.range n).map fun (i : Nat) => .int (lo + i)
theorem jok_range (lo : Int) (n : Nat) : JOk wk K (Itr lo n) (rngItems lo n) H F G := by
  intro H' F' _
  refine ⟨fun i t e => ?_, by unfold rngItems; simp [Itr]⟩
  unfold rngItems at e
  rw [List.getElem?_map] at e
  have hi : i < n := by
    rcases Nat.lt_or_ge i n with h | h
    · exact h
    · rw [List.getElem?_eq_none (by simpa using h)] at e; cases e
  refine ⟨hi, fun v H'' y => ?_⟩
  obtain ⟨rfl, rfl⟩ := y
  rw [List.getElem?_range hi] at e
  cases e
  exact ⟨Pres.refl, .inl (RP.int _)⟩
def enumItems (ts : List T) : List T := (List.range ts.length).zipWith (fun (i : Nat) t => .tuple [.int i, t]) ts
def zipItems (ts rs : List T) : List T := List.zipWith (fun t r => .tuple [t, r]) ts rs
end
/-! ### the rules -/
/-- a list, a tuple, a text -/
def iAny (K : PySem.W.Frag) (tl : TE) : TI := fun σ H R => tl σ H fun x H1 => (∃ a, x = .ref a ∧ (∃ xs, SqL K H1 a xs) ∧ ((∀ xs, SqL K H1 a xs → xs.length ≤ sizeLine) → R (Itl K a) H1)) ∨ (∃ a, x = .ref a ∧ (∃ xs, SqT K H1 a xs) ∧ ((∀ xs, SqT K H1 a xs → xs.length ≤ sizeLine) → R (Itt K a) H1)) ∨ ∃ z, x = .str z ∧ R (Its z) H1
section
variable {X : Cx} {tg : Expr}
theorem pi_any {l : Expr} {tl : TE} (hl : PE X l tl) : PI X tg l (iAny X.K tl) := by
  refine ⟨fun pins s σ H R I h => ?_⟩
  refine thn (hl.run pins s σ H _ I h) fun v s1 ⟨x, H1, I1, r1, q1⟩ => ?_
  rcases q1 with ⟨a, e, ⟨xs, hq⟩, q⟩ | ⟨a, e, ⟨xs, hq⟩, q⟩ | ⟨z, e, q⟩
  · subst e
    cases r1
    obtain ⟨its, rv, p, hz⟩ := I1.list hq
    have q := q fun ys hy => (I1.list hy).choose_spec.2.2
    refine wpAny_pyIter_list p.isList ?_
    refine ⟨s1.heap.objs.size, [s1.heap.objs.size], _, _, H1, rfl, I1.kept (t' := s1.toks) fun b o e => Heap.get?_push_of_some _ e, turn_list a _, ⟨_, Heap.get?_push_size _ rfl, rfl, rfl⟩, fun b hb => ?_, q⟩
    have e : b = s1.heap.objs.size := by simpa using hb
    subst e
    exact I1.fpOk (Nat.le_refl _) (I1.hok.fresh (Nat.le_refl _))
  · subst e
    cases r1
    obtain ⟨its, rv, p, hz⟩ := I1.tuple hq
    have q := q fun ys hy => (I1.tuple hy).choose_spec.2.2
    refine wpAny_pyIter_tuple (show s1.heap.IsTuple a its.toArray from p) ?_
    refine ⟨s1.heap.objs.size, [s1.heap.objs.size], _, _, H1, rfl, I1.kept (t' := s1.toks) fun b o e => Heap.get?_push_of_some _ e, turn_tuple a _, ⟨_, Heap.get?_push_size _ rfl, rfl, rfl⟩, fun b hb => ?_, q⟩
    have e : b = s1.heap.objs.size := by simpa using hb
    subst e
    exact I1.fpOk (Nat.le_refl _) (I1.hok.fresh (Nat.le_refl _))
  · subst e
    obtain ⟨t, rfl⟩ := r1
    cases ha : z.cps.all (· < 128)
    · exact wpAny_pyIter_wide ha (pi_one (tk := s1.toks) I1 _ (turn_str _ z t "str_iterator" (.inr rfl)) ⟨_, Heap.get?_push_size _ rfl, rfl, rfl⟩ q)
    · exact wpAny_pyIter_ascii ha (pi_one (tk := s1.toks) I1 _ (turn_str _ z t "str_ascii_iterator" (.inl rfl)) ⟨_, Heap.get?_push_size _ rfl, rfl, rfl⟩ q)
/-- what is walked as a list of trees -/
def itemsOf : T → Option (List T)
  | .list ts => some ts
  | .tuple ts => some ts
  | .str x => if x.cps.size ≤ 1000000 then some (strItems x) else none
  | _ => none
def tIter (te : XT) : IT := fun ρ Q => te ρ fun p ρ1 => take1 p ρ1 fun t ρ2 => match itemsOf t with
  | some ts => Q ts ρ2
  | none => False
theorem it_go {K : PySem.W.Frag} {te : XT} {σ : St} {H : Hp} {R : It → Hp → Prop} (h : LI wk K (tIter te) σ H R) : iAny K (LX K te) σ H R := by
  obtain ⟨ρ, fp, G, Qa, R0, h, fin⟩ := h
  refine ⟨ρ, fp, G, _, R0, h, fun v p A H1 ρ1 fp1 R1 r1 x1 h1 => ?_⟩
  obtain ⟨y, ρ2, fp2, R2, r2, i2, h2⟩ := take1_ok R1 r1 h1
  have x2 : Ext H (Fo fp) H1 (Fo fp2) := x1.or.weak (fun _ z => z) i2
  cases y with
  | list ts =>
    obtain ⟨a, vs, rfl, sl, rp⟩ := r2.stL
    refine .inl ⟨a, rfl, ⟨vs, sl.sq⟩, fun hz => fin ts _ H1 ρ2 fp2 R2 (jok_list sl rp) (by rw [← Paired.len rp]; exact hz _ sl.sq) x2 h2⟩
  | tuple ts =>
    obtain ⟨a, vs, rfl, sl, rp⟩ := r2.tupE
    refine .inr (.inl ⟨a, rfl, ⟨vs, sl⟩, fun hz => fin ts _ H1 ρ2 fp2 R2 (jok_tup sl rp) (by rw [← Paired.len rp]; exact hz _ sl) x2 h2⟩)
  | str x =>
    have e := r2.strE
    subst e
    simp only [itemsOf] at h2
    split at h2
    · rename_i ts e
      split at e
      · rename_i hx
        cases e
        exact .inr (.inr ⟨x, rfl, fin _ _ H1 ρ2 fp2 R2 (jok_str x) (by unfold strItems; simp; rw [sizeLine_eq]; omega) x2 h2⟩)
      · cases e
    · exact h2.elim
  | none => exact h2.elim
  | bool _ => exact h2.elim
  | int _ => exact h2.elim
  | dict _ => exact h2.elim
theorem ix_any {l : Expr} {te : XT} (h : EX X l te) : IX true X tg l (tIter te) := ⟨PI.imp (pi_any h.pe) fun _ _ _ h => it_go h⟩
/-! range -/
def intsOf (ρ : AEnv) (ps : List Opd) (Q : List Int → Prop) : Prop := match getAll ρ ps with
  | some [.pure (.int i)] => Q [i]
  | some [.pure (.int i), .pure (.int j)] => Q [i, j]
  | _ => False
def tRange (ts : XTs) : IT := fun ρ Q => ts ρ fun ps ρ1 => intsOf ρ1 ps fun ns => match ns with
  | [j] => j ≤ 1000000 ∧ -1000000 ≤ j ∧ Q (rngItems 0 j.toNat) ρ1
  | [i, j] => (j ≤ 1000000 ∧ -1000000 ≤ j ∧ i ≤ 1000000 ∧ -1000000 ≤ i) ∧ Q (rngItems i (j - i).toNat) ρ1
  | _ => False
theorem ix_range1 {a : Expr} {ts : XTs} {p pos : Pos} (hg : Gl X "range") (hm : X.mg "range" = none) (ha : EXs X [a] ts) (hs : starEach [a] X.env = [(false, eval a X.env)] := by rfl) : IX true X tg (.Call (.Name "range" p) [a] [] pos) (tRange ts) := by
  refine ⟨PI.imp (pi_range1 hg hm ha.pa hs) ?_⟩
  rintro σ H R ⟨ρ, fp, G, Qa, R0, h, fin⟩
  refine ⟨ρ, fp, G, _, R0, h, fun vs ps A H1 ρ1 fp1 hl R1 r1 nd1 ng1 x1 h1 => ?_⟩
  unfold intsOf at h1
  split at h1
  · rename_i i e
    obtain ⟨h1, h2, h3⟩ := h1
    have q := getAll_rw R1 r1 e
    cases q with
    | cons q q2 =>
      cases q2
      exact ⟨i, by rw [RP.intE q], by omega, by omega, fin _ _ H1 ρ1 fp1 (R1.sub fun a m => List.mem_append_right _ m) (jok_range 0 i.toNat) (by unfold rngItems; simp; rw [sizeLine_eq]; omega) x1.or h3⟩
  · rename_i i j e
    have q := getAll_rw R1 r1 e
    have := Paired.len q
    simp at hl this; omega
  · exact h1.elim
/-! enumerate of a list or a text, zip -/
/-- enumerate(e) -/
def tEnum (ts : XTs) : IT := fun ρ Q => ts ρ fun ps ρ1 => takeAll ps ρ1 fun ts ρ2 => match ts with
  | [t] => match itemsOf t with
    | some ts => Q (enumItems ts) ρ2
    | none => False
  | _ => False
def SzOk (K : PySem.W.Frag) (H : Hp) : Prop := (∀ a xs, SqL K H a xs → xs.length ≤ sizeLine) ∧ ∀ a xs, SqT K H a xs → xs.length ≤ sizeLine
theorem PA.sz {X : Cx} {es : List Expr} {t : TA} (h : PA X es t) : PA X es (fun σ H Q => t σ H fun vs H1 => SzOk X.K H1 → Q vs H1) :=
  ⟨fun pos pins s σ H Q I q => thn (h.run pos pins s σ H _ I q) fun us s' ⟨vs, H', I', r, q⟩ => ⟨vs, H', I', r, q ⟨fun a xs h => (I'.list h).choose_spec.2.2, fun a xs h => (I'.tuple h).choose_spec.2.2⟩⟩⟩
theorem PE.sz {X : Cx} {e : Expr} {t : TE} (h : PE X e t) : PE X e (fun σ H Q => t σ H fun v H1 => SzOk X.K H1 → Q v H1) :=
  ⟨fun pins s σ H Q I q => thn (h.run pins s σ H _ I q) fun us s' ⟨vs, H', I', r, q⟩ => ⟨vs, H', I', r, q ⟨fun a xs h => (I'.list h).choose_spec.2.2, fun a xs h => (I'.tuple h).choose_spec.2.2⟩⟩⟩
/-- zip(a, b) of two lists, of two tuples -/
def tZip (ts : XTs) : IT := fun ρ Q => ts ρ fun ps ρ1 => takeAll ps ρ1 fun ts ρ2 => match ts with
  | [.list ts, .list us] => Q (zipItems ts us) ρ2
  | [.tuple ts, .tuple us] => Q (zipItems ts us) ρ2
  | _ => False
end
end DL
set_option Elab.async false
set_option linter.all false
set_option maxRecDepth 100000
set_option maxHeartbeats 4000000
/-! THE DATA LAYER, part 8: what is changed in place; two or three names at once. -/
namespace DL
open PySem PySem.Spec L2
open PyProof.Rows hiding St
variable [Tbs] [Bas]
section
variable {K : PySem.W.Frag} {σ : St} {H H1 : Hp} {fp : Nat → List Addr} {ρ : AEnv} {v : V} {o o' : O} {j : Nat} {a : Addr} {u u' : HO} {A G : List Addr}
/-- the object of slot j is changed -/
theorem RS.mut (R : RS K σ H ρ fp G) (e : ρ[j]? = some (some o)) (hv : σ[j]? = some (some v)) (hf : fp j = [a]) (hu : H a = some u) (mu : Mu (some u)) (r : RO K (L2.upd H a u') (Or1 (Fo fp) G) v o' [a]) :
    RS K σ (L2.upd H a u') (ρ.set j (some o')) fp G ∧ Ext H (Fo fp) (L2.upd H a u') (Fo fp) := by
  have hj : j < ρ.length := (List.getElem?_eq_some_iff.mp e).1
  have ha : Fo fp a := ⟨j, by rw [hf]; exact List.mem_singleton.mpr rfl⟩
  have x : Ext H (Fo fp) (L2.upd H a u') (Fo fp) := upd_ext hu mu ha fun _ z => z
  refine ⟨⟨⟨fun i w h => ?_, fun i h => ?_, R.dj, R.nd, R.gf, fun b m => ?_, by rw [List.length_set]; exact R.len, x.tabs R.tb⟩, R.bs.trans (upd_ext hu mu ⟨.inl ha, fun z => R.gf a (R.g0 a z) ha⟩ fun _ z => z), R.g0⟩, x⟩
  · rw [AEnv.get_set] at h
    by_cases q : j = i
    · subst q
      rw [if_pos rfl, if_pos hj] at h
      cases h
      exact ⟨v, hv, by rw [hf]; exact r⟩
    · rw [if_neg q] at h
      obtain ⟨y, hy, r'⟩ := R.ex i w h
      refine ⟨y, hy, r'.imp (fun v t z => (z.ext (x.addG G))) (fun b m w h _ => ?_) (fun v e z => z.ext (x.addG G)) fun v e z => z.ext (x.addG G)⟩
      rw [upd_ne]
      · exact h
      · rintro rfl
        exact q (R.dj j i b (by rw [hf]; exact List.mem_singleton.mpr rfl) m)
  · by_cases q : i = j
    · subst q
      exact absurd (by rw [AEnv.get_set, if_pos rfl, if_pos hj]) (h o')
    · refine R.non i fun o'' z => h o'' ?_
      rw [AEnv.get_set, if_neg fun y => q y.symm]
      exact z
  · obtain ⟨w, h⟩ := R.gi b m
    by_cases q : b = a
    · exact ⟨u', by rw [q]; exact upd_same⟩
    · exact ⟨w, by rw [upd_ne q]; exact h⟩
theorem RS.lstE {ts : List T} (R : RS K σ H ρ fp G) (e : ρ[j]? = some (some (.lst ts))) : ∃ a vs, σ[j]? = some (some (.ref a)) ∧ fp j = [a] ∧ H a = some (.lst vs) ∧ RPs K H (Or1 (Fo fp) G) vs ts := by
  obtain ⟨v, hv, a, vs, rfl, h1, h2, h3⟩ := R.ex j _ e
  exact ⟨a, vs, hv, h1, h2, h3⟩
end
/-! ### lists changed in place -/
def lstAt (ρ : AEnv) (j : Nat) (Q : List T → Prop) : Prop := match ρ[j]? with
  | some (some (.lst ts)) => Q ts
  | _ => False
theorem lstAt_iff {ρ : AEnv} {j : Nat} {Q : List T → Prop} (h : lstAt ρ j Q) : ∃ ts, ρ[j]? = some (some (.lst ts)) ∧ Q ts := by
  unfold lstAt at h
  split at h
  · exact ⟨_, by assumption, h⟩
  · exact h.elim
def tAppend (j : Nat) (te : XT) : XT := fun ρ Q => lstAt ρ j fun _ => te ρ fun p ρ1 => take1 p ρ1 fun y ρ2 => lstAt ρ2 j fun ts => ts.length < 16777216 ∧ Q (.val (.pure .none)) (ρ2.set j (some (.lst (ts ++ [y]))))
def tExtend (j : Nat) (te : XT) : XT := fun ρ Q => lstAt ρ j fun _ => te ρ fun p ρ1 => match p.get ρ1 with
  | some (.lst us) => lstAt ρ1 j fun ts => ts.length + us.length ≤ 16777216 ∧ Q (.val (.pure .none)) (ρ1.set j (some (.lst (ts ++ us))))
  | _ => False
def tPopAt (j : Nat) (te : XT) : XT := fun ρ Q => lstAt ρ j fun _ => te ρ fun p ρ1 => match p.get ρ1 with
  | some (.pure (.int i)) => lstAt ρ1 j fun ts => match ixN ts.length i with
    | some k => match ts[k]? with
      | some y => Q (.val (.pure y)) (ρ1.set j (some (.lst (ts.eraseIdx k))))
      | none => False
    | none => False
  | _ => False
def sSetIx (j : Nat) (te ti : XT) : ST := fun D ρ => te ρ fun p ρ1 => take1 p ρ1 fun y ρ2 => lstAt ρ2 j fun _ => ti ρ2 fun q ρ3 => match q.get ρ3 with
  | some (.pure (.int k)) => lstAt ρ3 j fun ts => match ixN ts.length k with
    | some m => D.nx (ρ3.set j (some (.lst (ts.set m y))))
    | none => False
  | _ => False
section
variable {X : Cx} {x : Str} {e : Expr} {te ti : XT} {px apos cpos pos : Pos}
theorem ex_append (j : Nat) (hN : X.N[j]? = some x) (he : EX X e te)
    (hv : Vis X.env.scope x := by first | exact Or.inl rfl | exact Or.inr (Or.inl rfl) | exact Or.inr (Or.inr rfl)) (hd : (x == ("__debug__" : Str)) = false := by decide) (hcd : (x == ("__classdict__" : Str)) = false := by decide)
    (hbase : attributeBase (.Name x px) "append" X.env (eval (.Name x px) X.env) = eval (.Name x px) X.env := by rfl)
    (hfew : ((backTo cpos (starEach [e] X.env)).all (fun x => !x.1) && (backToKw cpos (keywordEach [] X.env)).all (fun x => x.1.isSome)
      && decide (([e] : List Expr).length + ([] : List Keyword).length + (if ([] : List Keyword).isEmpty then 0 else 1) < 30)) = true := by rfl)
    (hline : (apos.endLine == cpos.line) = true := by rfl) (hs : starEach [e] X.env = (false, eval e X.env) :: starEach [] X.env := by rfl) (hplain : (backTo cpos (starEach [] X.env)).any (·.1) = false := by rfl) :
    EX X (.Call (.Attribute (.Name x px) "append" apos) [e] [] cpos) (tAppend j te) := by
  refine ⟨PE.imp (pe_bm PySem.F.plainAttrs_list PySem.F.slot_list_append PySem.F.type_list_append mt_append (pe_var hN hv hd hcd) (pa_cons he.pe pa_nil hs) hbase hfew hline hs hplain) ?_⟩
  rintro σ H Q ⟨ρ, fp, G, Qa, R, h, fin⟩
  obtain ⟨ts0, e0, h⟩ := lstAt_iff h
  obtain ⟨a, vs0, hv0, f0, h0, r0⟩ := R.lstE e0
  refine ⟨.ref a, hv0, .inl ⟨rfl, _, SqL.of h0⟩, ρ, fp, G, _, R, h, fun v p A H1 ρ1 fp1 R1 r1 x1 h1 => ?_⟩
  obtain ⟨y, ρ2, fp2, R2, r2, i2, h2⟩ := take1_ok R1 r1 h1
  obtain ⟨ts, e2, hz, h2⟩ := lstAt_iff h2
  obtain ⟨b, vs, hv2, f2, hb, rb⟩ := R2.lstE e2
  rw [hv0] at hv2; cases hv2
  refine ⟨a, vs, v, rfl, rfl, hb, by rw [Paired.len rb, sizeLine_eq]; exact hz, ?_⟩
  have x2 : Ext H (Fo fp) H1 (Fo fp2) := x1.or.weak (fun _ z => z) i2
  have ux : Ext H1 (Fo fp2) (upd H1 a (.lst (vs ++ [v]))) (Fo fp2) := upd_ext hb trivial ⟨j, by rw [f2]; exact List.mem_singleton.mpr rfl⟩ fun _ z => z
  obtain ⟨R3, x3⟩ := R2.mut (u' := .lst (vs ++ [v])) (o' := .lst (ts ++ [y])) e2 hv0 f2 hb trivial ⟨a, _, rfl, rfl, upd_same, RPs.extG ux (Paired.app rb (.cons r2 .nil))⟩
  exact fin .non (.val (.pure .none)) [] _ _ fp2 R3 (rop_pure RP.non) ((x2.trans x3).weak (fun _ z => z) fun a z => z.elim (fun q => q) fun m => (List.not_mem_nil m).elim) h2
theorem sx_setIx {P : Nat → Bool} {ei : Expr} {spos : Pos} (j : Nat) (hN : X.N[j]? = some x) (he : EX X e te) (hi : EX X ei ti)
    (hv : Vis X.env.scope x := by first | exact Or.inl rfl | exact Or.inr (Or.inl rfl) | exact Or.inr (Or.inr rfl)) (hd : (x == ("__debug__" : Str)) = false := by decide) (hcd : (x == ("__classdict__" : Str)) = false := by decide)
    (hs : swapsWithSole [.Subscript (.Name x px) ei spos] e pos.line X.env = pure false := by rfl) (hw : swappedStores [.Subscript (.Name x px) ei spos] e X.env = pure none := by rfl)
    (h1 : (assignEach [.Subscript (.Name x px) ei spos] X.env).map (·.2) = [assign (.Subscript (.Name x px) ei spos) X.env] := by rfl)
    (ha : ∀ v, assign (.Subscript (.Name x px) ei spos) X.env v = (do
      let ov ← holding [v] (eval (.Name x px) X.env)
      let iv ← holding [v, ov] (eval ei X.env)
      standAt spos
      holding [v, ov, iv] (setItem ov iv v)
      release [v, ov, iv] []) := by intro _; rfl) :
    SX X P (.Assign [.Subscript (.Name x px) ei spos] e pos) (sSetIx j te ti) := by
  refine ⟨PS.imp (ps_asg he.pe (pg_sub (pe_var hN hv hd hcd) hi.pe set_list ha) hs hw h1) ?_⟩
  rintro D σ H ⟨ρ, fp, G, Da, R, h, f⟩
  refine ⟨ρ, fp, G, _, R, h, fun v p A H1 ρ1 fp1 R1 r1 x1 h1 => ?_⟩
  obtain ⟨y, ρ2, fp2, R2, r2, i2, h2⟩ := take1_ok R1 r1 h1
  obtain ⟨ts0, e0, h2⟩ := lstAt_iff h2
  obtain ⟨a, vs0, hv0, f0, h0, r0⟩ := R2.lstE e0
  have x2 : Ext H (Fo fp) H1 (Fo fp2) := x1.or.weak (fun _ z => z) i2
  refine ⟨.ref a, hv0, ρ2, fp2, G, _, R2, h2, fun u q B H3 ρ3 fp3 R3 r3 x3 h3 => ?_⟩
  split at h3
  · rename_i k ek
    obtain ⟨ts, e3, h3⟩ := lstAt_iff h3
    obtain ⟨b, vs, hv3, f3, hb, rb⟩ := (R3.sub (G' := G) fun a m => List.mem_append_right _ m).lstE e3
    rw [hv0] at hv3; cases hv3
    have eu : u = .int k := RP.intE (r3.rw0 R3 ek)
    subst eu
    split at h3
    · rename_i m em
      refine ⟨a, vs, k, m, rfl, rfl, hb, by rw [Paired.len rb]; exact em, ?_⟩
      have ux : Ext H3 (Fo fp3) (upd H3 a (.lst (vs.set m v))) (Fo fp3) := upd_ext hb trivial ⟨j, by rw [f3]; exact List.mem_singleton.mpr rfl⟩ fun _ z => z
      have rv : RP X.K (upd H3 a (.lst (vs.set m v))) (Or1 (Fo fp3) G) v y := ((r2.ext (x3.or.addG G)).ext (ux.addG G))
      obtain ⟨R4, x4⟩ := (R3.sub (G' := G) fun a m => List.mem_append_right _ m).mut (u' := .lst (vs.set m v)) (o' := .lst (ts.set m y)) e3 hv0 f3 hb trivial ⟨a, _, rfl, rfl, upd_same, Paired.setP rv m (RPs.extG ux rb)⟩
      exact f.nx σ _ _ fp3 R4 ((x2.trans x3.or).trans x4) .refl h3
    · exact h3.elim
  · exact h3.elim
end
/-! ### two or three names at once -/
def setV : St → List Nat → List V → St
  | σ, j :: js, v :: vs => setV (σ.set j (some v)) js vs
  | σ, _, _ => σ
def setO : AEnv → List Nat → List O → AEnv
  | ρ, j :: js, o :: os => setO (ρ.set j (some o)) js os
  | ρ, _, _ => ρ
theorem puts_ok {K : PySem.W.Frag} {H : Hp} {G : List Addr} {P : Nat → Bool} : ∀ {js : List Nat} {vs : List V} {os : List O} {Bs : List (List Addr)} {σ : St} {ρ : AEnv} {fp : Nat → List Addr}, RS K σ H ρ fp (Bs.flatten ++ G) → (∀ a ∈ Bas.G0, a ∈ G) → RCs K H (Or1 (Fo fp) (Bs.flatten ++ G)) vs os Bs → Bs.flatten.Nodup → (∀ a ∈ Bs.flatten, a ∉ G) →
    js.length = os.length → (∀ j ∈ js, j < ρ.length) → (∀ j ∈ js, P j = false) → ∃ fp', RS K (setV σ js vs) H (setO ρ js os) fp' G ∧ (∀ a, Fo fp' a → Fo fp a ∨ a ∈ Bs.flatten) ∧ PinEq P σ (setV σ js vs)
  | [], _, _, _, σ, ρ, fp, R, g, r, d, n, hl, _, _ => by
    cases r with
    | nil => exact ⟨fp, R, fun a z => .inl z, .refl⟩
    | cons => cases hl
  | j :: js, _, _, _, σ, ρ, fp, R, g, r, d, n, hl, hj, hp => by
    cases r with
    | nil => cases hl
    | @cons v o B vs os Bs r rr =>
      simp only [List.flatten_cons] at d n R r rr ⊢
      obtain ⟨dB, dBs, dd⟩ := List.nodup_append.mp d
      have R' : RS K σ H ρ fp (B ++ (Bs.flatten ++ G)) := by rw [List.append_assoc] at R; exact R
      have R1 := R'.put (v := v) (o := o) (hj j List.mem_cons_self) (r.weak fun a z => z.imp (fun q => q) fun m => by rw [List.append_assoc]; exact m) dB (fun a m z => (List.mem_append.mp z).elim (fun z => dd a m a z rfl) (n a (List.mem_append_left _ m))) (fun a z => List.mem_append_right _ (g a z))
      obtain ⟨fp', R2, i2, p2⟩ := puts_ok (js := js) (P := P) R1 g (rr.weak fun a z => by
        rcases z with z | z
        · exact z.set.elim .inl fun m => .inr (by simp [m])
        · exact .inr (by rw [List.append_assoc]; exact List.mem_append_right _ z)) dBs (fun a m => n a (List.mem_append_right _ m)) (Nat.succ.inj hl) (fun i m => by rw [List.length_set]; exact hj i (List.mem_cons_of_mem _ m)) fun i m => hp i (List.mem_cons_of_mem _ m)
      refine ⟨fp', R2, fun a z => ?_, (pinSet (hp j List.mem_cons_self)).trans p2⟩
      rcases i2 a z with z | z
      · exact z.set.imp (fun q => q) fun m => List.mem_append_left _ m
      · exact .inr (List.mem_append_right _ z)
def sPar (js : List Nat) (ts : XTs) : ST := fun D ρ => ts ρ fun ps ρ1 => prep (js.map fun _ => true) ps ρ1 fun os _ ρ2 => (js.all fun j => Nat.blt j ρ2.length) = true ∧ D.nx (setO ρ2 js os)
end DL
set_option Elab.async false
set_option linter.all false
set_option maxRecDepth 100000
set_option maxHeartbeats 4000000
/-! THE DATA LAYER, part 9: trees as the library reads them; ==. -/
namespace DL
open PySem PySem.Spec L2
open PyProof.Rows hiding St
variable [Tbs] [Bas]
/-! ### a tree is read -/
theorem keys_read {P : Program} {w : World} {h : Heap} : ∀ {es : List DictEntry} {vs : List (Key × Value)}, Pairs (mixKind P w) es vs → ∃ as, ReadsAll h (es.map (·.key)) (vs.map fun p => keyT p.1) as
  | _, _, .nil => ⟨_, .nil⟩
  | _, _, .cons (e := e) (kv := kv) hk hv r => by
    obtain ⟨as, ih⟩ := keys_read (h := h) r
    rcases keyIs_shape hk with ⟨i, t, e1, e2⟩ | ⟨x, t, e1, e2⟩
    · have q : Reads h e.key (keyT kv.1) [] := by rw [e2, e1]; exact .int i t
      exact ⟨_, .cons q ih⟩
    · have q : Reads h e.key (keyT kv.1) [] := by rw [e2, e1]; exact .str x t
      exact ⟨_, .cons q ih⟩
theorem vals_of_pairs {P : Program} {w : World} : ∀ {es : List DictEntry} {vs : List (Key × Value)}, Pairs (mixKind P w) es vs → es.map (·.val) = vs.map (·.2)
  | _, _, .nil => rfl
  | _, _, .cons hk hv r => by simp only [List.map_cons]; rw [hv, vals_of_pairs r]
theorem kv_vals : ∀ {kvs : List (Key × V)} {vs : List (Key × Value)}, KV kvs vs → Vals (kvs.map (·.2)) (vs.map (·.2)) ∧ kvs.map (·.1) = vs.map (·.1)
  | _, _, .nil => ⟨.nil, rfl⟩
  | _, _, .cons h r => by
    obtain ⟨h1, h2⟩ := kv_vals r
    exact ⟨.cons h.2 h1, by simp only [List.map_cons]; rw [h.1, h2]⟩
theorem zipT : ∀ {kvs : List (Key × V)} {ts : List T}, kvs.length = ts.length → (List.zipWith (fun (p : Key × V) (t : T) => (keyT p.1, t)) kvs ts).map (·.1) = kvs.map (fun p => keyT p.1) ∧ (List.zipWith (fun (p : Key × V) (t : T) => (keyT p.1, t)) kvs ts).map (·.2) = ts
  | [], [], _ => ⟨rfl, rfl⟩
  | [], _ :: _, h => by cases h
  | _ :: _, [], h => by cases h
  | k :: kvs, t :: ts, h => by
    obtain ⟨h1, h2⟩ := zipT (kvs := kvs) (ts := ts) (Nat.succ.inj h)
    exact ⟨by simp only [List.zipWith_cons_cons, List.map_cons, h1], by simp only [List.zipWith_cons_cons, List.map_cons, h2]⟩
section
variable {X : Cx} {pins : List (Addr × Obj)} {σ : St} {H : Hp} {s : Shared}
mutual
theorem RV.reads (I : Inv X pins σ H s) : ∀ {v : V} {t : T} {as : List Addr} {u : Value}, RV X.K H v t as → RelV v u → ∃ bs, Reads s.heap u t bs
  | _, _, _, _, .non, r => by cases r; exact ⟨_, .none⟩
  | _, _, _, _, .bl b, r => by cases r; exact ⟨_, .bool b⟩
  | _, _, _, _, .int i, r => by obtain ⟨t, rfl⟩ := r; exact ⟨_, .int i t⟩
  | _, _, _, _, .str x, r => by obtain ⟨t, rfl⟩ := r; exact ⟨_, .str x t⟩
  | _, _, _, _, .tup h q, r => by
    cases r
    obtain ⟨its, rv, ⟨o, ho, hc, n, hd⟩, _⟩ := I.tuple h.t
    obtain ⟨bs, z⟩ := RVs.reads I q rv
    exact ⟨_, .tuple ho hc hd (by simpa using z)⟩
  | _, _, _, _, .lst h q, r => by
    cases r
    obtain ⟨its, rv, ⟨o, n, ho, hc, _, hd⟩, _⟩ := I.list (.inl h)
    obtain ⟨bs, z⟩ := RVs.reads I q rv
    exact ⟨_, .list ho hc hd (by simpa using z)⟩
  | _, _, _, _, .lstK h1 h2 h3 h4 h5 h6 q, r => by
    cases r
    obtain ⟨bs, z⟩ := RVs.reads I q h6
    exact ⟨_, .list (I.kIn _ _ h1) h2 h4 z⟩
  | _, _, _, _, .dct (kvs := kvs) (ts := ts) h q, r => by
    cases r
    obtain ⟨_, hs, vs, kv, o, es, ep, h1, h2, h3, h4, h5, _⟩ := dk_rd I.hok h
    obtain ⟨v1, v2⟩ := kv_vals kv
    obtain ⟨bs, z⟩ := RVs.reads I q v1
    obtain ⟨as, zk⟩ := keys_read (h := s.heap) h5
    have hl : kvs.length = ts.length := by have := RVs.length q; simpa using this
    obtain ⟨e1, e2⟩ := zipT hl
    refine ⟨_, .dict (as := as) (bs := bs) h1 h2.1 h3 ?_ ?_⟩
    · have : vs.map (fun p => keyT p.1) = kvs.map (fun p => keyT p.1) := by
        have := congrArg (List.map keyT) v2
        simp only [List.map_map] at this
        exact this.symm
      rw [this] at zk
      exact e1 ▸ zk
    · rw [vals_of_pairs h5]
      exact e2.symm ▸ z
theorem RVs.reads (I : Inv X pins σ H s) : ∀ {vs : List V} {ts : List T} {as : List Addr} {us : List Value}, RVs X.K H vs ts as → Vals vs us → ∃ bs, ReadsAll s.heap us ts bs
  | _, _, _, _, .nil, r => by cases r; exact ⟨_, .nil⟩
  | _, _, _, _, .cons h q, r => by
    cases r with
    | cons r1 r2 =>
      obtain ⟨bs, z⟩ := RV.reads I h r1
      obtain ⟨cs, y⟩ := RVs.reads I q r2
      exact ⟨_, .cons z y⟩
end
theorem RW.reads (I : Inv X pins σ H s) {F : Addr → Prop} {v : V} {o : O} {u : Value} (h : RW X.K H F v o) (fz : o.fz) (r : RelV v u) : ∃ bs, Reads s.heap u o.frz bs := let ⟨_, q⟩ := h.view fz; q.reads I r
end
/-! ### == of trees -/
section
variable {A : Around} {s : Shared}
open PySem.SeqAt
theorem str_eq_dict (b : Str) (u : Tok) (l : Addr) (c : Value) (es : Array DictEntry) (n : Nat) (dd : Option Addr) (sl : Array (Option Value)) :
    Meets (Builtin.«str.__eq__» ⟨[.str b u, .ref l], []⟩) (fun _ R s => s.heap.get? l = some { cls := c, dict := dd, data := .dict es n, slots := sl } ∧ R (.ok (.ret .notImplemented)) s) :=
  .of_wp fun prog w A R s h => by obtain ⟨hp, g, d, tk, os⟩ := s; obtain ⟨hl, h⟩ := h; wp_walk using AutoSeq1.wpAny_loadPart' hl, wpAny_load hl; exact ⟨_, rfl, h⟩
theorem dict_eq_str (b : Str) (u : Tok) (l : Addr) (es : Array DictEntry) (n : Nat) (dd : Option Addr) (sl : Array (Option Value)) :
    Meets (Builtin.«dict.__eq__» ⟨[.ref l, .str b u], []⟩) (fun _ R s => s.heap.get? l = some { cls := .type "dict", dict := dd, data := .dict es n, slots := sl } ∧ R (.ok (.ret .notImplemented)) s) :=
  .of_wp fun prog w A R s h => by obtain ⟨hp, g, d, tk, os⟩ := s; obtain ⟨hl, h⟩ := h; have f1 := F.sub_str_dict; wp_walk using AutoSeq1.wpAny_loadPart' hl, wpAny_load hl; exact ⟨_, rfl, h⟩
def IsDc (h : Heap) (a : Addr) : Prop := ∃ o es n, h.get? a = some o ∧ o.cls = .type "dict" ∧ o.data = .dict es n
theorem RcAt.str_dict {l : Addr} (b : Str) (u : Tok) (hl : IsDc s.heap l) (hu : A.units < cLine) : RcAt A s (.str b u) (.ref l) false := fun prog w E Q h => by
  obtain ⟨⟨cls, dd, data, sl⟩, es, n, ho, hc, hd⟩ := hl
  simp only at hc hd
  subst hc hd
  exact rc_eq_decline_or (k := false) (typeIs_str s b u) ⟨_, ho, rfl⟩ (by decide) F.sub_dict_str F.slot_str_eq F.slot_dict_eq_refl
    (fun _ hq => call_meets F.slot_str_eq (typeIs_str s b u) F.entry_str_eq (F.args_str_eq_2 _ _) (str_eq_dict b u l (.type "dict") es n dd sl) ⟨ho, hq⟩)
    (fun _ hq => call_meets F.slot_dict_eq_refl ⟨_, ho, rfl⟩ F.entry_dict_eq (F.args_dict_eq_2 _ _) (dict_eq_str b u l es n dd sl) ⟨ho, hq⟩)
    (fun _ hq => wpAny_of_eq (rfl : isSame (.str b u) (.ref l) = pure false) hq) (.inr hu) h
theorem RcAt.dict_str {l : Addr} (b : Str) (u : Tok) (hl : IsDc s.heap l) (hu : A.units < cLine) : RcAt A s (.ref l) (.str b u) false := fun prog w E Q h => by
  obtain ⟨⟨cls, dd, data, sl⟩, es, n, ho, hc, hd⟩ := hl
  simp only at hc hd
  subst hc hd
  exact rc_eq_decline_or (k := false) ⟨_, ho, rfl⟩ (typeIs_str s b u) (by decide) F.sub_str_dict F.slot_dict_eq F.slot_str_eq_refl
    (fun _ hq => call_meets F.slot_dict_eq ⟨_, ho, rfl⟩ F.entry_dict_eq (F.args_dict_eq_2 _ _) (dict_eq_str b u l es n dd sl) ⟨ho, hq⟩)
    (fun _ hq => call_meets F.slot_str_eq_refl (typeIs_str s b u) F.entry_str_eq (F.args_str_eq_2 _ _) (str_eq_dict b u l (.type "dict") es n dd sl) ⟨ho, hq⟩)
    (fun _ hq => wpAny_of_eq (rfl : isSame (.ref l) (.str b u) = pure false) hq) (.inr hu) h
theorem EqAt.str_dict {l : Addr} (b : Str) (u : Tok) (hl : IsDc s.heap l) (hu : A.units < cLine) : EqAt A s (.str b u) (.ref l) false := fun prog w E Q h => by
  unfold eqBool
  refine wpAny_holding ?_
  refine wpAny_ite_split (fun hab => absurd (eq_of_beq hab) nofun) (fun _ => ?_)
  exact wpAny_bind (RcAt.str_dict b u hl hu prog w E _ (wpAny_truthy_bool h))
theorem EqAt.dict_str {l : Addr} (b : Str) (u : Tok) (hl : IsDc s.heap l) (hu : A.units < cLine) : EqAt A s (.ref l) (.str b u) false := fun prog w E Q h => by
  unfold eqBool
  refine wpAny_holding ?_
  refine wpAny_ite_split (fun hab => absurd (eq_of_beq hab) nofun) (fun _ => ?_)
  exact wpAny_bind (RcAt.dict_str b u hl hu prog w E _ (wpAny_truthy_bool h))
end
mutual
/-- no two dicts meet -/
def cmpOk : T → T → Bool
  | .dict _, .str _ => true
  | .str _, .dict _ => true
  | .dict _, _ => false
  | _, .dict _ => false
  | .list xs, .list ys => xs.length != ys.length || cmpOks xs ys
  | .tuple xs, .tuple ys => cmpOks xs ys
  | _, _ => true
def cmpOks : List T → List T → Bool
  | x :: xs, y :: ys => cmpOk x y && cmpOks xs ys
  | _, _ => true
end
theorem eq_flat {A : Around} {s : Shared} {a b : Value} {d e : T} {as bs : List Addr} (ra : Reads s.heap a d as) (rb : Reads s.heap b e bs) (hc : cmpOk d e = true) (hu : A.units < cLine)
    (hl : ∀ xs ys, ¬ (d = .list xs ∧ e = .list ys)) (ht : ∀ xs ys, ¬ (d = .tuple xs ∧ e = .tuple ys)) : SeqAt.EqAt A s a b (PyData.eqv d e) ∧ SeqAt.RcAt A s a b (PyData.eqv d e) := by
  open PySem.SeqAt in
  cases ra with
  | none =>
    cases rb with
    | none => exact ⟨EqAt.same _, RcAt.none_none⟩
    | bool y => exact ⟨EqAt.none_bool y, RcAt.none_bool y⟩
    | int y u => exact ⟨EqAt.none_int y u, RcAt.none_int y u⟩
    | str y u => exact ⟨EqAt.none_str y u, RcAt.none_str y u⟩
    | list k1 k2 k3 k4 => exact ⟨EqAt.none_list ⟨_, k1, k2, _, k3⟩ hu, RcAt.none_list ⟨_, k1, k2, _, k3⟩ hu⟩
    | tuple k1 k2 k3 k4 => exact ⟨EqAt.none_tuple ⟨_, k1, k2, _, k3⟩ hu, RcAt.none_tuple ⟨_, k1, k2, _, k3⟩ hu⟩
    | dict => exact absurd hc (by simp [cmpOk])
  | bool x =>
    cases rb with
    | none => exact ⟨EqAt.bool_none x, RcAt.bool_none x⟩
    | bool y => exact ⟨EqAt.bool_bool x y, RcAt.bool_bool x y⟩
    | int y u => exact ⟨EqAt.bool_int x y u, RcAt.bool_int x y u⟩
    | str y u => exact ⟨EqAt.bool_str x y u, RcAt.bool_str x y u⟩
    | list k1 k2 k3 k4 => exact ⟨EqAt.bool_list x ⟨_, k1, k2, _, k3⟩ hu, RcAt.bool_list x ⟨_, k1, k2, _, k3⟩ hu⟩
    | tuple k1 k2 k3 k4 => exact ⟨EqAt.bool_tuple x ⟨_, k1, k2, _, k3⟩ hu, RcAt.bool_tuple x ⟨_, k1, k2, _, k3⟩ hu⟩
    | dict => exact absurd hc (by simp [cmpOk])
  | int x t =>
    cases rb with
    | none => exact ⟨EqAt.int_none x t, RcAt.int_none x t⟩
    | bool y => exact ⟨EqAt.int_bool x t y, RcAt.int_bool x t y⟩
    | int y u => exact ⟨EqAt.int_int x t y u, RcAt.int_int x t y u⟩
    | str y u => exact ⟨EqAt.int_str x t y u, RcAt.int_str x t y u⟩
    | list k1 k2 k3 k4 => exact ⟨EqAt.int_list x t ⟨_, k1, k2, _, k3⟩ hu, RcAt.int_list x t ⟨_, k1, k2, _, k3⟩ hu⟩
    | tuple k1 k2 k3 k4 => exact ⟨EqAt.int_tuple x t ⟨_, k1, k2, _, k3⟩ hu, RcAt.int_tuple x t ⟨_, k1, k2, _, k3⟩ hu⟩
    | dict => exact absurd hc (by simp [cmpOk])
  | str x t =>
    cases rb with
    | none => exact ⟨EqAt.str_none x t, RcAt.str_none x t⟩
    | bool y => exact ⟨EqAt.str_bool x t y, RcAt.str_bool x t y⟩
    | int y u => exact ⟨EqAt.str_int x t y u, RcAt.str_int x t y u⟩
    | str y u => exact ⟨EqAt.str_str x t y u, RcAt.str_str x t y u⟩
    | list k1 k2 k3 k4 => exact ⟨EqAt.str_list x t ⟨_, k1, k2, _, k3⟩ hu, RcAt.str_list x t ⟨_, k1, k2, _, k3⟩ hu⟩
    | tuple k1 k2 k3 k4 => exact ⟨EqAt.str_tuple x t ⟨_, k1, k2, _, k3⟩ hu, RcAt.str_tuple x t ⟨_, k1, k2, _, k3⟩ hu⟩
    | dict k1 k2 k3 => exact ⟨DL.EqAt.str_dict x t ⟨_, _, _, k1, k2, k3⟩ hu, DL.RcAt.str_dict x t ⟨_, _, _, k1, k2, k3⟩ hu⟩
  | list h1 h2 h3 h4 =>
    cases rb with
    | none => exact ⟨EqAt.list_none ⟨_, h1, h2, _, h3⟩ hu, RcAt.list_none ⟨_, h1, h2, _, h3⟩ hu⟩
    | bool y => exact ⟨EqAt.list_bool y ⟨_, h1, h2, _, h3⟩ hu, RcAt.list_bool y ⟨_, h1, h2, _, h3⟩ hu⟩
    | int y u => exact ⟨EqAt.list_int y u ⟨_, h1, h2, _, h3⟩ hu, RcAt.list_int y u ⟨_, h1, h2, _, h3⟩ hu⟩
    | str y u => exact ⟨EqAt.list_str y u ⟨_, h1, h2, _, h3⟩ hu, RcAt.list_str y u ⟨_, h1, h2, _, h3⟩ hu⟩
    | tuple k1 k2 k3 k4 => exact ⟨EqAt.list_tuple ⟨_, h1, h2, _, h3⟩ ⟨_, k1, k2, _, k3⟩ hu, RcAt.list_tuple ⟨_, h1, h2, _, h3⟩ ⟨_, k1, k2, _, k3⟩ hu⟩
    | list => exact absurd ⟨rfl, rfl⟩ (hl _ _)
    | dict => exact absurd hc (by simp [cmpOk])
  | tuple h1 h2 h3 h4 =>
    cases rb with
    | none => exact ⟨EqAt.tuple_none ⟨_, h1, h2, _, h3⟩ hu, RcAt.tuple_none ⟨_, h1, h2, _, h3⟩ hu⟩
    | bool y => exact ⟨EqAt.tuple_bool y ⟨_, h1, h2, _, h3⟩ hu, RcAt.tuple_bool y ⟨_, h1, h2, _, h3⟩ hu⟩
    | int y u => exact ⟨EqAt.tuple_int y u ⟨_, h1, h2, _, h3⟩ hu, RcAt.tuple_int y u ⟨_, h1, h2, _, h3⟩ hu⟩
    | str y u => exact ⟨EqAt.tuple_str y u ⟨_, h1, h2, _, h3⟩ hu, RcAt.tuple_str y u ⟨_, h1, h2, _, h3⟩ hu⟩
    | list k1 k2 k3 k4 => exact ⟨EqAt.tuple_list ⟨_, h1, h2, _, h3⟩ ⟨_, k1, k2, _, k3⟩ hu, RcAt.tuple_list ⟨_, h1, h2, _, h3⟩ ⟨_, k1, k2, _, k3⟩ hu⟩
    | tuple => exact absurd ⟨rfl, rfl⟩ (ht _ _)
    | dict => exact absurd hc (by simp [cmpOk])
  | dict h1 h2 h3 =>
    cases rb with
    | str y u => exact ⟨DL.EqAt.dict_str y u ⟨_, _, _, h1, h2, h3⟩ hu, DL.RcAt.dict_str y u ⟨_, _, _, h1, h2, h3⟩ hu⟩
    | none => exact absurd hc (by simp [cmpOk])
    | bool y => exact absurd hc (by simp [cmpOk])
    | int y u => exact absurd hc (by simp [cmpOk])
    | list => exact absurd hc (by simp [cmpOk])
    | tuple => exact absurd hc (by simp [cmpOk])
    | dict => exact absurd hc (by simp [cmpOk])
mutual
theorem reads_one {h : Heap} : ∀ {d e : T} {v : Value} {as bs : List Addr}, Reads h v d as → Reads h v e bs → d = e
  | _, _, _, _, _, .none, k => by cases k; rfl
  | _, _, _, _, _, .bool b, k => by cases k; rfl
  | _, _, _, _, _, .int i t, k => by cases k; rfl
  | _, _, _, _, _, .str x t, k => by cases k; rfl
  | _, _, _, _, _, .list h1 h2 h3 h4, k => by
    cases k with
    | list k1 k2 k3 k4 =>
      rw [h1] at k1; cases k1; rw [h3] at k3; cases k3
      rw [readsAll_one h4 k4]
    | tuple k1 k2 k3 k4 => rw [h1] at k1; cases k1; exact absurd (Value.type.inj (h2.symm.trans k2)) (by decide)
    | dict k1 k2 k3 k4 => rw [h1] at k1; cases k1; exact absurd (Value.type.inj (h2.symm.trans k2)) (by decide)
  | _, _, _, _, _, .tuple h1 h2 h3 h4, k => by
    cases k with
    | tuple k1 k2 k3 k4 =>
      rw [h1] at k1; cases k1; rw [h3] at k3; cases k3
      rw [readsAll_one h4 k4]
    | list k1 k2 k3 k4 => rw [h1] at k1; cases k1; exact absurd (Value.type.inj (h2.symm.trans k2)) (by decide)
    | dict k1 k2 k3 k4 => rw [h1] at k1; cases k1; exact absurd (Value.type.inj (h2.symm.trans k2)) (by decide)
  | _, _, _, _, _, .dict h1 h2 h3 h4 h5, k => by
    cases k with
    | dict k1 k2 k3 k4 k5 =>
      rw [h1] at k1; cases k1; rw [h3] at k3; cases k3
      have e1 := readsAll_one h4 k4
      have e2 := readsAll_one h5 k5
      congr 1
      refine List.ext_getElem? fun i => ?_
      have f1 := congrArg (fun l => l[i]?) e1
      have f2 := congrArg (fun l => l[i]?) e2
      simp only [List.getElem?_map] at f1 f2
      revert f1 f2
      generalize (_ : List (T × T))[i]? = x
      generalize (_ : List (T × T))[i]? = y
      intro f1 f2
      cases x <;> cases y <;> simp_all
      rename_i p q
      exact Prod.ext f1 f2
    | list k1 k2 k3 k4 => rw [h1] at k1; cases k1; exact absurd (Value.type.inj (h2.symm.trans k2)) (by decide)
    | tuple k1 k2 k3 k4 => rw [h1] at k1; cases k1; exact absurd (Value.type.inj (h2.symm.trans k2)) (by decide)
theorem readsAll_one {h : Heap} : ∀ {ds es : List T} {vs : List Value} {as bs : List Addr}, ReadsAll h vs ds as → ReadsAll h vs es bs → ds = es
  | _, _, _, _, _, .nil, k => by cases k; rfl
  | _, _, _, _, _, .cons h1 h2, k => by
    cases k with
    | cons k1 k2 => rw [reads_one h1 k1, readsAll_one h2 k2]
end
mutual
theorem cmpOk_refl : ∀ d : T, cmpOk d d = true → PyData.eqv d d = true
  | .none, _ => by simp [PyData.eqv]
  | .bool b, _ => by simp [PyData.eqv]
  | .int i, _ => by simp [PyData.eqv]
  | .str x, _ => by simp [PyData.eqv]
  | .list xs, h => by simp only [PyData.eqv]; exact cmpOks_refl xs (by simpa [cmpOk] using h)
  | .tuple xs, h => by simp only [PyData.eqv]; exact cmpOks_refl xs (by simpa [cmpOk] using h)
  | .dict _, h => by simp [cmpOk] at h
theorem cmpOks_refl : ∀ xs : List T, cmpOks xs xs = true → PyData.eqvAll xs xs = true
  | [], _ => by simp [PyData.eqvAll]
  | x :: xs, h => by
    have h' : cmpOk x x = true ∧ cmpOks xs xs = true := by simpa [cmpOks] using h
    simp [PyData.eqvAll, cmpOk_refl x h'.1, cmpOks_refl xs h'.2]
end
mutual
theorem eq_trees : ∀ (d e : T) (A : Around) (s : Shared) (a b : Value) (as bs : List Addr), Reads s.heap a d as → Reads s.heap b e bs → cmpOk d e = true → A.units + min d.depth e.depth < cLine →
    SeqAt.EqAt A s a b (PyData.eqv d e) ∧ SeqAt.RcAt A s a b (PyData.eqv d e)
  | .list xs, .list ys, A, s, _, _, _, _, .list (a := l) (vs := vs) h1 h2 h3 h4, .list (a := l') (vs := vs') k1 k2 k3 k4, hc, hu => by
    have hl : s.heap.IsList l vs := ⟨_, h1, h2, _, h3⟩
    have hl' : s.heap.IsList l' vs' := ⟨_, k1, k2, _, k3⟩
    have n1 : vs.size = xs.length := by simpa using SeqAt.ReadsAll.length _ _ _ h4
    have n2 : vs'.size = ys.length := by simpa using SeqAt.ReadsAll.length _ _ _ k4
    simp only [PyData.eqv]
    have rc : SeqAt.RcAt A s (.ref l) (.ref l') (PyData.eqvAll xs ys) := by
      by_cases hsz : vs.size = vs'.size
      · rw [← SeqAt.eqvAll_same_length (by omega : xs.length = ys.length), ← n1]
        have hc' : cmpOks xs ys = true := by
          simp only [cmpOk, Bool.or_eq_true, bne_iff_ne] at hc
          exact hc.resolve_left fun z => z (by omega)
        refine SeqAt.RcAt.lists hl hl' hsz (SeqAt.room_here hu) fun j j1 j2 => ?_
        have := eq_treesAll xs ys A.in1 s vs.toList vs'.toList _ _ h4 k4 hc' (SeqAt.room_in hu) j (by simpa using j1) (by simpa using j2)
        simpa using this
      · rw [SeqAt.eqvAll_other_length (by omega : xs.length ≠ ys.length)]
        exact SeqAt.RcAt.lists_lengths hl hl' (by simpa using hsz) (SeqAt.room_here hu)
    refine ⟨?_, rc⟩
    by_cases hll : l = l'
    · subst hll
      have e : PyData.list xs = PyData.list ys := reads_one (.list h1 h2 h3 h4) (.list k1 k2 k3 k4)
      injection e with e
      subst e
      rw [cmpOks_refl xs (by simpa [cmpOk] using hc)]
      exact SeqAt.EqAt.same _
    · exact SeqAt.EqAt.of_refs hll rc
  | .tuple xs, .tuple ys, A, s, _, _, _, _, .tuple (a := l) (vs := vs) h1 h2 h3 h4, .tuple (a := l') (vs := vs') k1 k2 k3 k4, hc, hu => by
    have hl : s.heap.IsTuple l vs := ⟨_, h1, h2, _, h3⟩
    have hl' : s.heap.IsTuple l' vs' := ⟨_, k1, k2, _, k3⟩
    have n1 : vs.size = xs.length := by simpa using SeqAt.ReadsAll.length _ _ _ h4
    have n2 : vs'.size = ys.length := by simpa using SeqAt.ReadsAll.length _ _ _ k4
    have hc' : cmpOks xs ys = true := by simpa only [cmpOk] using hc
    simp only [PyData.eqv]
    have rc : SeqAt.RcAt A s (.ref l) (.ref l') (PyData.eqvAll xs ys) := by
      rw [← SeqAt.eqvAll_eq xs ys, ← n1, ← n2]
      refine SeqAt.RcAt.tuples hl hl' (SeqAt.room_here hu) fun j j1 j2 => ?_
      have := eq_treesAll xs ys A.in1 s vs.toList vs'.toList _ _ h4 k4 hc' (SeqAt.room_in hu) j (by simpa using j1) (by simpa using j2)
      simpa using this
    refine ⟨?_, rc⟩
    by_cases hll : l = l'
    · subst hll
      have e : PyData.tuple xs = PyData.tuple ys := reads_one (.tuple h1 h2 h3 h4) (.tuple k1 k2 k3 k4)
      injection e with e
      subst e
      rw [cmpOks_refl xs hc']
      exact SeqAt.EqAt.same _
    · exact SeqAt.EqAt.of_refs hll rc
  | .none, e, A, s, _, _, _, _, ra, rb, hc, hu => eq_flat ra rb hc (SeqAt.room_here hu) (fun _ _ z => nomatch z.1) fun _ _ z => nomatch z.1
  | .bool _, e, A, s, _, _, _, _, ra, rb, hc, hu => eq_flat ra rb hc (SeqAt.room_here hu) (fun _ _ z => nomatch z.1) fun _ _ z => nomatch z.1
  | .int _, e, A, s, _, _, _, _, ra, rb, hc, hu => eq_flat ra rb hc (SeqAt.room_here hu) (fun _ _ z => nomatch z.1) fun _ _ z => nomatch z.1
  | .str _, e, A, s, _, _, _, _, ra, rb, hc, hu => eq_flat ra rb hc (SeqAt.room_here hu) (fun _ _ z => nomatch z.1) fun _ _ z => nomatch z.1
  | .dict _, e, A, s, _, _, _, _, ra, rb, hc, hu => eq_flat ra rb hc (SeqAt.room_here hu) (fun _ _ z => nomatch z.1) fun _ _ z => nomatch z.1
  | .list _, .none, A, s, _, _, _, _, ra, rb, hc, hu => eq_flat ra rb hc (SeqAt.room_here hu) (fun _ _ z => nomatch z.2) fun _ _ z => nomatch z.2
  | .list _, .bool _, A, s, _, _, _, _, ra, rb, hc, hu => eq_flat ra rb hc (SeqAt.room_here hu) (fun _ _ z => nomatch z.2) fun _ _ z => nomatch z.2
  | .list _, .int _, A, s, _, _, _, _, ra, rb, hc, hu => eq_flat ra rb hc (SeqAt.room_here hu) (fun _ _ z => nomatch z.2) fun _ _ z => nomatch z.2
  | .list _, .str _, A, s, _, _, _, _, ra, rb, hc, hu => eq_flat ra rb hc (SeqAt.room_here hu) (fun _ _ z => nomatch z.2) fun _ _ z => nomatch z.2
  | .list _, .tuple _, A, s, _, _, _, _, ra, rb, hc, hu => eq_flat ra rb hc (SeqAt.room_here hu) (fun _ _ z => nomatch z.2) fun _ _ z => nomatch z.1
  | .list _, .dict _, A, s, _, _, _, _, ra, rb, hc, hu => eq_flat ra rb hc (SeqAt.room_here hu) (fun _ _ z => nomatch z.2) fun _ _ z => nomatch z.2
  | .tuple _, .none, A, s, _, _, _, _, ra, rb, hc, hu => eq_flat ra rb hc (SeqAt.room_here hu) (fun _ _ z => nomatch z.2) fun _ _ z => nomatch z.2
  | .tuple _, .bool _, A, s, _, _, _, _, ra, rb, hc, hu => eq_flat ra rb hc (SeqAt.room_here hu) (fun _ _ z => nomatch z.2) fun _ _ z => nomatch z.2
  | .tuple _, .int _, A, s, _, _, _, _, ra, rb, hc, hu => eq_flat ra rb hc (SeqAt.room_here hu) (fun _ _ z => nomatch z.2) fun _ _ z => nomatch z.2
  | .tuple _, .str _, A, s, _, _, _, _, ra, rb, hc, hu => eq_flat ra rb hc (SeqAt.room_here hu) (fun _ _ z => nomatch z.2) fun _ _ z => nomatch z.2
  | .tuple _, .list _, A, s, _, _, _, _, ra, rb, hc, hu => eq_flat ra rb hc (SeqAt.room_here hu) (fun _ _ z => nomatch z.1) fun _ _ z => nomatch z.2
  | .tuple _, .dict _, A, s, _, _, _, _, ra, rb, hc, hu => eq_flat ra rb hc (SeqAt.room_here hu) (fun _ _ z => nomatch z.2) fun _ _ z => nomatch z.2
theorem eq_treesAll : ∀ (xs ys : List T) (A : Around) (s : Shared) (vs ws : List Value) (as bs : List Addr), ReadsAll s.heap vs xs as → ReadsAll s.heap ws ys bs → cmpOks xs ys = true →
    A.units + min (PyData.depthAll xs) (PyData.depthAll ys) < cLine → ∀ j (h1 : j < vs.length) (h2 : j < ws.length), SeqAt.EqAt A s vs[j] ws[j] (SeqAt.pairEq xs ys j)
  | [], _, _, _, _, _, _, _, ra, _, _, _, j, h1, _ => by cases ra; exact absurd h1 (Nat.not_lt_zero _)
  | _ :: _, [], _, _, _, _, _, _, _, rb, _, _, j, _, h2 => by cases rb; exact absurd h2 (Nat.not_lt_zero _)
  | x :: xs, y :: ys, A, s, _, _, _, _, ra, rb, hc, hu, j, h1, h2 => by
    have hc' : cmpOk x y = true ∧ cmpOks xs ys = true := by simpa [cmpOks] using hc
    cases ra with
    | cons r rs =>
      cases rb with
      | cons r' rs' =>
        cases j with
        | zero => exact (eq_trees x y A s _ _ _ _ r r' hc'.1 (SeqAt.room_head hu)).1
        | succ j => exact eq_treesAll xs ys A s _ _ _ _ rs rs' hc'.2 (SeqAt.room_tail hu) j (Nat.lt_of_succ_lt_succ h1) (Nat.lt_of_succ_lt_succ h2)
end
/-! ### repr of trees -/
section
variable {X : Cx} {pins : List (Addr × Obj)} {σ : St} {H : Hp} {s : Shared}
/-- a dict's entries, its keys, its values as read -/
theorem dct_read (I : Inv X pins σ H s) {a : Addr} {kvs : List (Key × V)} (h : Rd H a (.dK kvs)) : ∃ o es n vs, s.heap.get? a = some o ∧ o.cls = .type "dict" ∧ o.data = .dict es n ∧ (a == sysModules) = false ∧
    Vals (kvs.map (·.2)) vs ∧ es.toList.map (·.val) = vs ∧ ∃ as, ReadsAll s.heap (es.toList.map (·.key)) (kvs.map fun p => keyT p.1) as := by
  obtain ⟨_, hs, vs, kv, o, es, ep, h1, h2, h3, h4, h5, _⟩ := dk_rd I.hok h
  obtain ⟨v1, v2⟩ := kv_vals kv
  obtain ⟨as, zk⟩ := keys_read (h := s.heap) h5
  have : vs.map (fun p => keyT p.1) = kvs.map (fun p => keyT p.1) := by
    have := congrArg (List.map keyT) v2
    simp only [List.map_map] at this
    exact this.symm
  rw [this] at zk
  exact ⟨o, es, ep, _, h1, h2.1, h3, hs, v1, vals_of_pairs h5, as, zk⟩
theorem keys_noDict : ∀ kvs : List (Key × V), PyData.hasDictAll (kvs.map fun p => keyT p.1) = false
  | [] => by simp [PyData.hasDictAll]
  | (.inl i, _) :: r => by simp [PyData.hasDictAll, PyData.hasDict, keys_noDict r]
  | (.inr i, _) :: r => by simp [PyData.hasDictAll, PyData.hasDict, keys_noDict r]
theorem nil_list {xs : List V} {as : List Addr} {ts : List T} (q : RVs X.K H xs ts as) (h : xs = []) : ts = [] := by subst h; cases q; rfl
mutual
theorem RV.shownK (I : Inv X pins σ H s) : ∀ {v : V} {t : T} {as : List Addr} {u : Value}, RV X.K H v t as → RelV v u → t.showable = true → t.shown.length ≤ sizeLine →
    ∃ bs, ReadAtMost s.heap t.depth bs ∧ ReprK X.prog X.w bs s.heap t.depth u t.shown
  | _, _, _, _, .non, r, _, _ => by cases r; exact ⟨[], (fun _ h => nomatch h), by simp only [PyData.shown]; exact .of_is ReprIs.none _ _ _⟩
  | _, _, _, _, .bl b, r, _, _ => by cases r; exact ⟨[], (fun _ h => nomatch h), by simp only [PyData.shown]; exact .of_is (ReprIs.bool b) _ _ _⟩
  | _, _, _, _, .int i, r, hs, _ => by obtain ⟨t, rfl⟩ := r; exact ⟨[], (fun _ h => nomatch h), by simp only [PyData.shown]; exact .of_is (ReprIs.int t (by simpa [PyData.showable] using hs)) _ _ _⟩
  | _, _, _, _, .str x, r, _, hz => by obtain ⟨t, rfl⟩ := r; exact ⟨[], (fun _ h => nomatch h), by simp only [PyData.shown]; exact .of_is (ReprIs.str x t (by simpa only [PyData.shown] using hz)) _ _ _⟩
  | _, _, _, _, .tup (ts := ts) h q, r, hs, hz => by
    have hr := r
    cases r
    obtain ⟨its, rv, ⟨o, ho, hc, n, hd⟩, _⟩ := I.tuple h.t
    have hz' : (tupleText (PyData.shownAll ts)).length ≤ sizeLine := by simpa only [PyData.shown] using hz
    obtain ⟨bs, hb, hk⟩ := RVs.shownK I q rv (by simpa [PyData.showable] using hs) fun t ht => Nat.le_trans (tupleText_mem_le ht) hz'
    obtain ⟨cs, rd⟩ := RV.reads I (.tup h q) hr
    have hna := not_mem_of_deeper rd (by simp only [PyData.depth]; omega) hb
    refine ⟨_, ReadAtMost.cons rd (by simp only [PyData.depth]; omega) hb, ?_⟩
    simp only [PyData.depth, PyData.shown]
    exact ReprK.tuple ho hc hd hna (by simpa using hk)
  | _, _, _, _, .lst (ts := ts) h q, r, hs, hz => by
    have hr := r
    cases r
    obtain ⟨its, rv, ⟨o, n, ho, hc, _, hd⟩, _⟩ := I.list (.inl h)
    have hz' : (listText (PyData.shownAll ts)).length ≤ sizeLine := by simpa only [PyData.shown] using hz
    obtain ⟨bs, hb, hk⟩ := RVs.shownK I q rv (by simpa [PyData.showable] using hs) fun t ht => Nat.le_trans (listText_mem_le ht) hz'
    obtain ⟨cs, rd⟩ := RV.reads I (.lst h q) hr
    have hna := not_mem_of_deeper rd (by simp only [PyData.depth]; omega) hb
    refine ⟨_, ReadAtMost.cons rd (by simp only [PyData.depth]; omega) hb, ?_⟩
    simp only [PyData.depth, PyData.shown]
    cases its with
    | nil =>
      cases rv
      obtain rfl := nil_list q rfl
      simp only [PyData.shownAll, listText_nil]
      exact ReprK.more (ReprK.level_le (ReprK.listEmpty ho hc hd) (Nat.le_succ _)) fun b hb => hb
    | cons x l => exact ReprK.list ho hc hd hna (by simpa using hk.length_eq) fun i y e => hk.item i y (by simpa using e)
  | _, _, _, _, .lstK (ts := ts) (its := its) h1 h2 h3 h4 h5 h6 q, r, hs, hz => by
    have hr := r
    cases r
    have ho := I.kIn _ _ h1
    have hz' : (listText (PyData.shownAll ts)).length ≤ sizeLine := by simpa only [PyData.shown] using hz
    obtain ⟨bs, hb, hk⟩ := RVs.shownK I q h6 (by simpa [PyData.showable] using hs) fun t ht => Nat.le_trans (listText_mem_le ht) hz'
    obtain ⟨cs, rd⟩ := RV.reads I (.lstK h1 h2 h3 h4 h5 h6 q) hr
    have hna := not_mem_of_deeper rd (by simp only [PyData.depth]; omega) hb
    refine ⟨_, ReadAtMost.cons rd (by simp only [PyData.depth]; omega) hb, ?_⟩
    simp only [PyData.depth, PyData.shown]
    obtain ⟨l⟩ := its
    cases l with
    | nil =>
      have h6' := h6.length
      obtain rfl := nil_list q (List.eq_nil_of_length_eq_zero (by simpa using h6'))
      simp only [PyData.shownAll, listText_nil]
      exact ReprK.more (ReprK.level_le (ReprK.listEmpty ho h2 h4) (Nat.le_succ _)) fun b hb => hb
    | cons x l => exact ReprK.list ho h2 h4 hna (by simpa using hk.length_eq) fun i y e => hk.item i y (by simpa using e)
  | _, _, _, _, .dct (a := aa) (kvs := kvs) (ts := ts) h q, r, hs, hz => by
    have hr := r
    cases r
    obtain ⟨o, es, n, vs, ho, hc, hd, hsys, rv, ev, ka, kr⟩ := dct_read I h
    have hl : kvs.length = ts.length := by have := RVs.length q; simpa using this
    obtain ⟨e1, e2⟩ := zipT hl
    generalize hD : List.zipWith (fun (p : Key × V) (t : T) => (keyT p.1, t)) kvs ts = D at *
    have hD' : List.zipWith (fun (p : Key × V) (t : T) => ((match p.1 with | .inl i => PyData.int i | .inr x => PyData.str x), t)) kvs ts = D := hD
    have hz' : (dictText (PyData.shownKv D)).length ≤ sizeLine := by simpa only [PyData.shown] using hz
    obtain ⟨hs1, hs2⟩ := PyData.showableKv_split D (by simpa [PyData.showable] using hs)
    obtain ⟨b1, hb1, k1⟩ := ReprAllK.of_readsAll (prog := X.prog) (w := X.w) kr (by rw [← e1]; exact hs1) (fun z => by rw [keys_noDict] at z; cases z) fun t ht => by
      rw [← e1] at ht
      obtain ⟨p, hp, hl⟩ := PyData.shownKv_key_le D t ht
      exact Nat.le_trans hl (Nat.le_trans (dictText_mem_le hp) hz')
    obtain ⟨b2, hb2, k2⟩ := RVs.shownK I q rv (by rw [← e2]; exact hs2) fun t ht => by
      rw [← e2] at ht
      obtain ⟨p, hp, hl⟩ := PyData.shownKv_val_le D t ht
      exact Nat.le_trans hl (Nat.le_trans (dictText_mem_le hp) hz')
    rw [← e1] at hb1 k1
    rw [← e2] at hb2 k2
    rw [← ev] at k2
    obtain ⟨cs, rd⟩ := RV.reads I (.dct h q) hr
    replace rd : Reads s.heap (.ref aa) (.dict D) cs := by rw [← hD]; exact rd
    have hb : ReadAtMost s.heap (PyData.depthKv D) (b1 ++ b2) := (hb1.mono (PyData.depthAll_keys_le D)).append (hb2.mono (PyData.depthAll_vals_le D))
    have hna := not_mem_of_deeper rd (by simp only [PyData.depth]; omega) hb
    refine ⟨_, ReadAtMost.cons rd (by simp only [PyData.depth]; omega) hb, ?_⟩
    simp only [PyData.depth, PyData.shown, PyData.shownKv_eq]
    exact ReprK.dict ho hc hd hsys hna (ReprEntriesK.of_two es.toList _ _ (k1.more_le (fun b hb => List.mem_append_left _ hb) (PyData.depthAll_keys_le D)) (k2.more_le (fun b hb => List.mem_append_right _ hb) (PyData.depthAll_vals_le D)))
theorem RVs.shownK (I : Inv X pins σ H s) : ∀ {vs : List V} {ts : List T} {as : List Addr} {us : List Value}, RVs X.K H vs ts as → Vals vs us → PyData.showableAll ts = true → (∀ t ∈ PyData.shownAll ts, t.length ≤ sizeLine) →
    ∃ bs, ReadAtMost s.heap (PyData.depthAll ts) bs ∧ ReprAllK X.prog X.w bs s.heap (PyData.depthAll ts) us (PyData.shownAll ts)
  | _, _, _, _, .nil, r, _, _ => by cases r; exact ⟨[], (fun _ h => nomatch h), by simp only [PyData.shownAll]; exact .nil⟩
  | _, _, _, _, .cons (t := t) (ts := ts) h q, r, hs, hz => by
    cases r with
    | cons r1 r2 =>
      have hs' : t.showable = true ∧ PyData.showableAll ts = true := by simpa [PyData.showableAll] using hs
      obtain ⟨b1, hb1, k1⟩ := RV.shownK I h r1 hs'.1 (hz _ (by simp only [PyData.shownAll]; exact List.mem_cons_self ..))
      obtain ⟨b2, hb2, k2⟩ := RVs.shownK I q r2 hs'.2 fun t ht => hz t (by simp only [PyData.shownAll]; exact List.mem_cons_of_mem _ ht)
      refine ⟨b1 ++ b2, ?_, ?_⟩
      · simp only [PyData.depthAll]
        exact (hb1.mono (Nat.le_max_left _ _)).append (hb2.mono (Nat.le_max_right _ _))
      · simp only [PyData.depthAll, PyData.shownAll]
        exact .cons ((k1.more fun b hb => List.mem_append_left _ hb).level_le (Nat.le_max_left _ _)) (k2.more_le (fun b hb => List.mem_append_right _ hb) (Nat.le_max_right _ _))
end
theorem RV.shows (I : Inv X pins σ H s) {a : Addr} {t : T} {as : List Addr} (q0 : RV X.K H (.ref a) t as) (hs : t.showable = true) (hz : t.shown.length ≤ sizeLine) : ∃ T idr, ShowsBy X.prog X.w s.heap a t T idr := by
  have rr : RelV (.ref a) (.ref a) := rfl
  obtain ⟨cs, rd⟩ := RV.reads I q0 rr
  cases q0 with
  | @tup _ _ ts _ h q =>
    obtain ⟨its, rv, ⟨o, ho, hc, n, hd⟩, _⟩ := I.tuple h.t
    have hz' : (tupleText (PyData.shownAll ts)).length ≤ sizeLine := by simpa only [PyData.shown] using hz
    obtain ⟨bs, hb, hk⟩ := RVs.shownK I q rv (by simpa [PyData.showable] using hs) fun t ht => Nat.le_trans (tupleText_mem_le ht) hz'
    have hna := not_mem_of_deeper rd (by simp only [PyData.depth]; omega) hb
    refine ⟨"tuple", "tuple.__repr__", F.slot_tuple_repr, F.slot_tuple_str, F.slot_tuple_format, fun s hk0 => ⟨o, hk0 _ _ ho, hc⟩, fun A E s Q hg hu hk0 hQ => ?_⟩
    simp only [PyData.depth] at hu
    simp only [PyData.shown] at hQ
    exact call_tuple_reprK ho hc hd hna (by simpa using hk) hg (fun b _ => Clear.nil b) hu hk0 hQ hz'
  | @lst _ _ ts _ h q =>
    obtain ⟨its, rv, ⟨o, n, ho, hc, _, hd⟩, _⟩ := I.list (.inl h)
    have hz' : (listText (PyData.shownAll ts)).length ≤ sizeLine := by simpa only [PyData.shown] using hz
    obtain ⟨bs, hb, hk⟩ := RVs.shownK I q rv (by simpa [PyData.showable] using hs) fun t ht => Nat.le_trans (listText_mem_le ht) hz'
    have hna := not_mem_of_deeper rd (by simp only [PyData.depth]; omega) hb
    refine ⟨"list", "list.__repr__", F.slot_list_repr.toG, F.slot_list_str, F.slot_list_format, fun s hk0 => ⟨o, hk0 _ _ ho, hc⟩, fun A E s Q hg hu hk0 hQ => ?_⟩
    simp only [PyData.depth] at hu
    simp only [PyData.shown] at hQ
    cases its with
    | nil =>
      cases rv
      obtain rfl := nil_list q rfl
      simp only [PyData.shownAll, listText_nil] at hQ
      exact call_list_repr_empty ⟨o, hk0 _ _ ho, hc⟩ (hk0 _ _ ho) hd (hQ s.heap _ _ fun _ _ e => e)
    | cons x l => exact call_list_reprK ho hc hd hna (by simpa using hk.length_eq) (fun i y e => hk.item i y (by simpa using e)) hg (fun b _ => Clear.nil b) hu hk0 hQ hz'
  | @lstK _ _ ts _ _ its _ h1 h2 h3 h4 h5 h6 q =>
    have ho := I.kIn _ _ h1
    have hz' : (listText (PyData.shownAll ts)).length ≤ sizeLine := by simpa only [PyData.shown] using hz
    obtain ⟨bs, hb, hk⟩ := RVs.shownK I q h6 (by simpa [PyData.showable] using hs) fun t ht => Nat.le_trans (listText_mem_le ht) hz'
    have hna := not_mem_of_deeper rd (by simp only [PyData.depth]; omega) hb
    refine ⟨"list", "list.__repr__", F.slot_list_repr.toG, F.slot_list_str, F.slot_list_format, fun s hk0 => ⟨_, hk0 _ _ ho, h2⟩, fun A E s Q hg hu hk0 hQ => ?_⟩
    simp only [PyData.depth] at hu
    simp only [PyData.shown] at hQ
    obtain ⟨l⟩ := its
    cases l with
    | nil =>
      have h6' := h6.length
      obtain rfl := nil_list q (List.eq_nil_of_length_eq_zero (by simpa using h6'))
      simp only [PyData.shownAll, listText_nil] at hQ
      exact call_list_repr_empty ⟨_, hk0 _ _ ho, h2⟩ (hk0 _ _ ho) h4 (hQ s.heap _ _ fun _ _ e => e)
    | cons x l => exact call_list_reprK ho h2 h4 hna (by simpa using hk.length_eq) (fun i y e => hk.item i y (by simpa using e)) hg (fun b _ => Clear.nil b) hu hk0 hQ hz'
  | @dct _ kvs ts _ h q =>
    obtain ⟨o, es, n, vs, ho, hc, hd, hsys, rv, ev, ka, kr⟩ := dct_read I h
    have hl : kvs.length = ts.length := by have := RVs.length q; simpa using this
    obtain ⟨e1, e2⟩ := zipT hl
    generalize hD : List.zipWith (fun (p : Key × V) (t : T) => (keyT p.1, t)) kvs ts = D at *
    have hz' : (dictText (PyData.shownKv D)).length ≤ sizeLine := by simpa only [PyData.shown] using hz
    obtain ⟨hs1, hs2⟩ := PyData.showableKv_split D (by simpa [PyData.showable] using hs)
    obtain ⟨b1, hb1, k1⟩ := ReprAllK.of_readsAll (prog := X.prog) (w := X.w) kr (by rw [← e1]; exact hs1) (fun z => by rw [keys_noDict] at z; cases z) fun t ht => by
      rw [← e1] at ht
      obtain ⟨p, hp, hl⟩ := PyData.shownKv_key_le D t ht
      exact Nat.le_trans hl (Nat.le_trans (dictText_mem_le hp) hz')
    obtain ⟨b2, hb2, k2⟩ := RVs.shownK I q rv (by rw [← e2]; exact hs2) fun t ht => by
      rw [← e2] at ht
      obtain ⟨p, hp, hl⟩ := PyData.shownKv_val_le D t ht
      exact Nat.le_trans hl (Nat.le_trans (dictText_mem_le hp) hz')
    rw [← e1] at hb1 k1
    rw [← e2] at hb2 k2
    rw [← ev] at k2
    have hb : ReadAtMost s.heap (PyData.depthKv D) (b1 ++ b2) := (hb1.mono (PyData.depthAll_keys_le D)).append (hb2.mono (PyData.depthAll_vals_le D))
    replace rd : Reads s.heap (.ref a) (.dict D) cs := rd
    have hna := not_mem_of_deeper rd (by simp only [PyData.depth]; omega) hb
    refine ⟨"dict", "dict.__repr__", F.slot_dict_repr, F.slot_dict_str, F.slot_dict_format, fun s hk0 => ⟨o, hk0 _ _ ho, hc⟩, fun A E s Q hg hu hk0 hQ => ?_⟩
    have hu' : A.units + (PyData.depthKv D + 1) < cLine := by
      have e : PyData.depth (.dict D) = PyData.depthKv D + 1 := by simp only [PyData.depth]
      rw [← e]; exact hu
    have hQ' : ∀ h' u tk, (∀ b o, s.heap.get? b = some o → h'.get? b = some o) → Q (.str (dictText (List.zipWith (fun k v : Str => k ++ ": " ++ v) (PyData.shownAll (D.map (·.1))) (PyData.shownAll (D.map (·.2))))) u) { s with heap := h', toks := tk } := fun h' u tk hk => by
      have e : PyData.shown (.dict D) = dictText (PyData.shownKv D) := by simp only [PyData.shown]
      have := hQ h' u tk hk
      rw [← PyData.shownKv_eq, ← e]; exact this
    exact call_dict_reprK ho hc hd hsys hna (ReprEntriesK.of_two es.toList _ _ (k1.more_le (fun b hb => List.mem_append_left _ hb) (PyData.depthAll_keys_le D)) (k2.more_le (fun b hb => List.mem_append_right _ hb) (PyData.depthAll_vals_le D)))
      hg (fun b _ => Clear.nil b) hu' hk0 hQ' (by rw [← PyData.shownKv_eq]; exact hz')
end
end DL
set_option Elab.async false
set_option linter.all false
set_option maxRecDepth 100000
set_option maxHeartbeats 4000000
/-! THE DATA LAYER, part 10: defs that are run where no repr is under way (so that repr may be called). -/
namespace DL
open PySem PySem.Spec L2
open PyProof.Rows hiding St
/-- room, and no repr under way -/
structure Rm (k : Nat) (A : Around) : Prop where
  room : Room k A
  gd : A.guards = some []
theorem Rm.deeper {k : Nat} {A : Around} (r : Rm (k + 1) A) (env : Env) : Rm k (A.deeper env) := ⟨r.room.deeper env, r.gd⟩
theorem Rm.mono {j k : Nat} {A : Around} (r : Rm k A) (h : j ≤ k) : Rm j A := ⟨r.room.mono h, r.gd⟩
/-- a def's promise, at such places -/
structure FnG (P : Program) (w : World) (K : PySem.W.Frag) (mg : Str → Option Value) (base : Heap) (CX : CXT) (k : Nat) (f : Addr) (fd : FuncData) (ps : List Str) (sp : Sp) : Prop where
  len : ∀ vs H Q E, sp vs H Q E → vs.length = ps.length
  run : ∀ (A : Around) (outer : List Env) (s : Shared) (H : Hp) (args : Args) (us : List Value) (vs : List V) (Q : VK) (E : XK), Rm k A → Env0 P w K mg base A outer s H → BindsTo s fd args (ps.zip us) → Vals vs us → sp vs H Q E →
    codeAny (model P w) A (.call (.ref f) args) (CR CX outer P w H s Q E) s
section
variable {P : Program} {w : World} {K : PySem.W.Frag} {mg : Str → Option Value} {base : Heap} {x qual : Str} {params : Arguments} {body : List Stmt} {scope : Scope} {dvs : List V} {kws : List (Str × V)} {f : Addr} {fd : FuncData} {CX : CXT} {k : Nat} {sp : Sp} {N ps : List Str}
theorem FnG.mono {j : Nat} (F : FnG P w K mg base CX j f fd ps sp) (h : j ≤ k) : FnG P w K mg base CX k f fd ps sp :=
  ⟨F.len, fun A outer s H args us vs Q E hr => F.run A outer s H args us vs Q E (hr.mono h)⟩
theorem FnG.imp {sp' : Sp} (F : FnG P w K mg base CX k f fd ps sp) (h : ∀ vs H Q E, sp' vs H Q E → sp vs H Q E) : FnG P w K mg base CX k f fd ps sp' :=
  ⟨fun vs H Q E q => F.len vs H Q E (h _ _ _ _ q), fun A outer s H args us vs Q E hr he hb hv hs => F.run A outer s H args us vs Q E hr he hb hv (h _ _ _ _ hs)⟩
/-- a def by its body -/
theorem fnG_of (F : FunD K x qual params body scope dvs kws f fd) (S : FnScope N ps scope) (len : ∀ vs H Q E, sp vs H Q E → vs.length = ps.length)
    (hbody : ∀ (cdv : Value) (A : Around) (outer : List Env) (s : Shared) (H : Hp) (vs : List V) (Q : VK) (E : XK), Rm k (A.deeper (envOfC qual scope s.heap.objs.size f cdv)) → sp vs H Q E →
      ∃ t, PSs (cxOf CX P w K mg base N qual scope f cdv A outer s H E) body t ∧ t { nx := fun _ H' => Q .non H', rt := Q } (L2.start N vs) H) : FnG P w K mg base CX (k + 1) f fd ps sp := by
  obtain ⟨oc, od, dV, kV, doc, pm, an, cdv, ct, osl, rfl, lk, hcd, _, _⟩ := F.ex
  refine ⟨len, fun A outer s H args us vs Q E hr e0 hb r hsp => ?_⟩
  have hl := len _ _ _ _ hsp
  have up : ∀ b o, base.get? b = some o → s.heap.get? b = some o := fun b o e => (e0.bs b o e).1
  have kin : K.In s.heap := e0.mod.kin.keeps up
  have nol : s.heap.NoLimit := e0.mod.nolimit.keeps up
  refine codeAny_call_function hr.room.depth (kin _ _ lk) rfl S.co S.gen rfl (PySem.W.codeRec_of kin hcd) (hb _ _ _ _ ?_)
  refine wpAny_newFunctionEnv_cells S.kind (fun ⟨n, v⟩ hy => (S.par n (List.of_mem_zip hy).1).imp (fun q => q) fun q => ⟨q, PySem.W.cellsFrom_some _ _ _ (.inl q)⟩) fun env he s1 x => ?_
  subst he
  obtain ⟨t, ht, hq⟩ := hbody cdv A outer s H vs Q E (hr.deeper _) hsp
  refine ⟨nol.keeps x.toInCall.keep, codeAny_func (wpAny_mono (ht.run [] s1 (L2.start N vs) H _ (inv_start S hr.room.hd e0 hl r x) hq) (fun fl s' hs => ?_) fun e s' hs => hs)⟩
  cases fl with
  | ret u => obtain ⟨v, σ', H', J, rv, q⟩ := hs; exact ⟨v, H', J.os, J.bare, J.base, J.hok, rv, q⟩
  | next => obtain ⟨σ', H', J, q⟩ := hs; exact ⟨V.non, H', J.os, J.bare, J.base, J.hok, rfl, q⟩
  | brk => obtain ⟨_, _, _, q⟩ := hs; exact q.elim
  | cont => obtain ⟨_, _, _, q⟩ := hs; exact q.elim
end
section
variable {X : Cx} {CX : CXT} {k : Nat} {f : Addr} {fd : FuncData} {ps : List Str} {sp : Sp} {E : XK} {x : Str} {p pos : Pos} {e : Expr} {es : List Expr} {t : TA}
theorem run_g {pins : List (Addr × Obj)} {σ : St} {H : Hp} {s : Shared} {Q : VK} {us : List Value} {vs : List V} (F : FnG X.prog X.w X.K X.mg X.base CX k f fd ps sp) (hr : Rm k X.A) (hb : Binds X.K fd ps []) (hx : Passes CX X E)
    (I : Inv X pins σ H s) (r : Vals vs us) (h : sp vs H Q E) : wpAny (model X.prog X.w) X.A (call (.ref f) us) (EP X pins σ Q) X.xe s := by
  have hl : us.length = ps.length := r.length.symm.trans (F.len _ _ _ _ h)
  have hb' := hb s us I.kIn (by rw [List.append_nil]; exact hl)
  rw [List.append_nil] at hb'
  refine wpAny_call (codeAny_mono (F.run X.A X.stack s H ⟨us, []⟩ us vs Q E hr I.env0 hb' r h) fun r s' hq => ?_)
  match r, hq with
  | .error e, hq => exact hx pins σ H s e s' I hq
  | .ok (.ret u), hq => exact I.after hq
theorem pe_g (F : FnG X.prog X.w X.K X.mg X.base CX k f fd ps sp) (hr : Rm k X.A) (hg : Gl X x) (hm : X.mg x = some (.ref f)) (hk : PySem.W.keepIn X.K (.ref f) = true) (hb : Binds X.K fd ps []) (hx : Passes CX X E)
    (ha : PA X (e :: es) t) (hdb : (x == ("__debug__" : Str)) = false := by decide) (he : starEach (e :: es) X.env = (false, eval e X.env) :: starEach es X.env := by rfl) (hpl : (backTo pos (starEach es X.env)).any (·.1) = false := by rfl) :
    PE X (.Call (.Name x p) (e :: es) [] pos) (fun σ H Q => t σ H fun vs H1 => sp vs H1 Q E) := by
  refine ⟨fun pins s σ H Q I h => wpAny_Call_Name_kw (ld_glob I hg hm ?_ hdb)⟩
  exact PySem.W.callWith_K (h₀ := X.base) I.ok.mod.kin hk (thn (ha.run pos pins s σ H _ I h) fun us s1 ⟨vs, H1, I1, r, q⟩ => ⟨I1.kIn, run_g F hr hb hx I1 r q⟩) he hpl
variable [Tbs] [Bas] {ts : XTs} {fl : List Bool} {spec : FSpec}
theorem ex_callG (F : FnG X.prog X.w X.K X.mg X.base CX0 k f fd ps (ASp X.K fl spec)) (hr : Rm k X.A) (hg : Gl X x) (hm : X.mg x = some (.ref f)) (hk : PySem.W.keepIn X.K (.ref f) = true) (hb : Binds X.K fd ps [])
    (ha : EXs X (e :: es) ts) (hdb : (x == ("__debug__" : Str)) = false := by decide) (he : starEach (e :: es) X.env = (false, eval e X.env) :: starEach es X.env := by rfl) (hpl : (backTo pos (starEach es X.env)).any (·.1) = false := by rfl) :
    EX X (.Call (.Name x p) (e :: es) [] pos) (tCallF fl spec ts) := ⟨PE.imp (pe_g (E := E0) F hr hg hm hk hb pass0 ha.pa hdb he hpl) fun σ H Q h => by
      have := callF_go (n := (e :: es).length) (E := E0) h
      unfold tCall at this
      simpa using this⟩
end
section
variable {P : Program} {w : World} {K : PySem.W.Frag} {mg : Str → Option Value} {base : Heap} {x qual : Str} {params : Arguments} {body : List Stmt} {scope : Scope} {f : Addr} {fd : FuncData}
theorem fng_ok [Tbs] {N ps : List Str} {k : Nat} {spec : FSpec} (fl : List Bool) (tb : ST) (F : FunD K x qual params body scope [] [] f fd) (S : FnScope N ps scope) (hfl : fl.length = ps.length)
    (hbody : ∀ (cdv : Value) (A : Around) (outer : List Env) (s : Shared) (H : Hp) (E : XK), Rm k (A.deeper (envOfC qual scope s.heap.objs.size f cdv)) →
      ∀ B : Bas, @SXs _ B (cxOf CX0 P w K mg base N qual scope f cdv A outer s H E).nox (fun j => fl.getD j false) body tb)
    (rd : ∀ os Qa, os.length = fl.length → spec os Qa → tb (endsOf fl Qa) (startA N.length os)) : FnG P w K mg base CX0 (k + 1) f fd ps (ASp K fl spec) := by
  refine fnG_of F S (fun vs H Q E h => ?_) fun cdv A outer s H vs Q E hr h => let ⟨B, hB⟩ := def_body fl tb S rd h; ⟨@LS _ B K (fun j => fl.getD j false) tb, PSs.nox (hbody cdv A outer s H E hr B).pss, hB⟩
  obtain ⟨os, fp, G, Qa, h, _⟩ := h
  rw [h, hfl]
end
/-! ### the end of a law -/
end DL
set_option Elab.async false
set_option linter.all false
set_option maxRecDepth 100000
set_option maxHeartbeats 4000000
/-! THE DATA LAYER, part 11: operators. -/
namespace DL
open PySem PySem.Spec L2
open PyProof.Rows hiding St
variable [Tbs] [Bas]
section
variable {X : Cx}
theorem OpA.mk {f : Value → Value → Sem Value} {g : G2} (h : ∀ (pins : List (Addr × Obj)) (s : Shared) (σ : St) (H : Hp) (F : Addr → Prop) (v u : V) (x y : O) (a b : Value) (Q : VK) (Qa : O → Prop), Inv X pins σ H s → RelV v a → RelV u b → RW X.K H F v x → RW X.K H F u y → g x y Qa → FinV X.K H F Qa Q →
    wpAny (model X.prog X.w) X.A (f a b) (EP X pins σ Q) X.xe s) : OpA X f g :=
  ⟨fun v u H Q => ∃ F x y Qa, RW X.K H F v x ∧ RW X.K H F u y ∧ g x y Qa ∧ FinV X.K H F Qa Q, fun pins s σ H v u a b Q I rx ry ⟨F, x, y, Qa, hx, hy, hg, fin⟩ => h pins s σ H F v u x y a b Q Qa I rx ry hx hy hg fin,
    fun H F v u x y Q Qa hx hy hg fin => ⟨F, x, y, Qa, hx, hy, hg, fin⟩⟩
theorem UnA.mk {f : Value → Sem Value} {g : G1} (h : ∀ (pins : List (Addr × Obj)) (s : Shared) (σ : St) (H : Hp) (F : Addr → Prop) (v : V) (x : O) (a : Value) (Q : VK) (Qa : O → Prop), Inv X pins σ H s → RelV v a → RW X.K H F v x → g x Qa → FinV X.K H F Qa Q →
    wpAny (model X.prog X.w) X.A (f a) (EP X pins σ Q) X.xe s) : UnA X f g :=
  ⟨fun v H Q => ∃ F x Qa, RW X.K H F v x ∧ g x Qa ∧ FinV X.K H F Qa Q, fun pins s σ H v a Q I rx ⟨F, x, Qa, hx, hg, fin⟩ => h pins s σ H F v x a Q Qa I rx hx hg fin, fun H F v x Q Qa hx hg fin => ⟨F, x, Qa, hx, hg, fin⟩⟩
theorem CallA.mk {f : Value} {g : GN} (h : ∀ (pins : List (Addr × Obj)) (s : Shared) (σ : St) (H : Hp) (F : Addr → Prop) (vs : List V) (xs : List O) (us : List Value) (Q : VK) (Qa : O → Prop), Inv X pins σ H s → Vals vs us → Paired (RW X.K H F) vs xs → g xs Qa → FinV X.K H F Qa Q →
    wpAny (model X.prog X.w) X.A (call f us) (EP X pins σ Q) X.xe s) : CallA X f g :=
  ⟨fun vs H Q => ∃ F xs Qa, Paired (RW X.K H F) vs xs ∧ g xs Qa ∧ FinV X.K H F Qa Q, fun pins s σ H vs us Q I r ⟨F, xs, Qa, hx, hg, fin⟩ => h pins s σ H F vs xs us Q Qa I r hx hg fin, fun H F vs xs Q Qa hx hg fin => ⟨F, xs, Qa, hx, hg, fin⟩⟩
/-- t + u; a new tuple is known -/
def rCatP (K : PySem.W.Frag) : R2 := fun x y H Q => ∃ p q vs us, x = .ref p ∧ y = .ref q ∧ SqT K H p vs ∧ SqT K H q us ∧ vs.length + us.length ≤ sizeLine ∧
  (vs = [] → Q (.ref q) H) ∧ (us = [] → Q (.ref p) H) ∧ ∀ z its, H z = none → Q (.ref z) (upd H z (.frz (tupO its) (.tup (vs ++ us))))
theorem op_catP : OpR X (binaryOp .Add) (rCatP X.K) := by
  rintro pins s σ H x y v u Q I rx ry ⟨p, q, vs, us, rfl, rfl, hp, hq, hz, k0, k1, k2⟩
  cases rx
  cases ry
  obtain ⟨l1, r1, t1, _⟩ := I.tuple hp
  obtain ⟨l2, r2, t2, _⟩ := I.tuple hq
  by_cases n1 : vs = []
  · subst n1
    cases r1
    exact cat_tup0 t1 t2 ⟨.ref q, H, I, rfl, k0 rfl⟩
  · refine HT.cat_tup t1 t2 (fun z => n1 (r1.nil_iff.mp z)) (fun z => ⟨.ref p, H, I, rfl, k1 (r2.nil_iff.mp z)⟩) (fun _ => ?_) (by rw [← r1.length, ← r2.length]; exact hz)
    exact ⟨.ref s.heap.objs.size, _, laidT (tk := s.toks) I (r1.append r2) (by rw [List.length_append]; exact hz) (fun b ob q => Heap.get?_push_of_some _ q) (Heap.get?_push_size _ rfl) (Nat.le_refl _), rfl, k2 _ _ (I.hok.fresh (Nat.le_refl _))⟩
/-! ### sequences -/
def lsO : O → Option (List T)
  | .lst ts => some ts
  | .pure (.list ts) => some ts
  | _ => none
def tuO : O → Option (List T)
  | .pure (.tuple ts) => some ts
  | _ => none
theorem RW.ls {K : PySem.W.Frag} {H : Hp} {F : Addr → Prop} {v : V} {o : O} {ts : List T} (h : RW K H F v o) (e : lsO o = some ts) : ∃ a vs, v = .ref a ∧ SqL K H a vs ∧ RPs K H F vs ts := by
  unfold lsO at e
  split at e
  · cases e
    obtain ⟨a, vs, rfl, q, r⟩ := h
    exact ⟨a, vs, rfl, .inl (.inl q), r⟩
  · cases e
    obtain ⟨a, vs, rfl, q, r, _⟩ := RP.lstE h
    exact ⟨a, vs, rfl, q, r⟩
  · cases e
theorem RW.tu {K : PySem.W.Frag} {H : Hp} {F : Addr → Prop} {v : V} {o : O} {ts : List T} (h : RW K H F v o) (e : tuO o = some ts) : ∃ a vs, v = .ref a ∧ SqT K H a vs ∧ RPs K H F vs ts := by
  unfold tuO at e
  split at e
  · cases e
    exact RP.tupE h
  · cases e
/-! ### arithmetic -/
def gAdd : G2 := fun x y Q => match x, y with
  | .pure (.int i), .pure (.int j) => Q (.pure (.int (i + j)))
  | .pure (.int i), .pure (.bool k) => Q (.pure (.int (i + b2i k)))
  | .pure (.bool k), .pure (.int j) => Q (.pure (.int (b2i k + j)))
  | .pure (.str a), .pure (.str b) => a.length + b.length ≤ 16777216 ∧ Q (.pure (.str (a ++ b)))
  | .pure (.tuple ts), .pure (.tuple us) => ts.length + us.length ≤ 16777216 ∧ Q (.pure (.tuple (ts ++ us)))
  | .lst ts, .lst us => ts.length + us.length ≤ 16777216 ∧ Q (.lst (ts ++ us))
  | _, _ => False
theorem RPs.nil_of {K : PySem.W.Frag} {H : Hp} {F : Addr → Prop} {ts : List T} (r : RPs K H F [] ts) : ts = [] := by cases r; rfl
theorem opA_add : OpA X (binaryOp .Add) gAdd := OpA.mk fun pins s σ H F v u x y a b Q Qa I rx ry hx hy h fin => by
  unfold gAdd at h
  split at h
  · have e1 := RP.intE hx; have e2 := RP.intE hy; subst e1 e2
    exact op_add pins s σ H _ _ _ _ Q I rx ry ⟨_, _, rfl, rfl, fin.int h⟩
  · have e1 := RP.intE hx; have e2 := RP.boolE hy; subst e1 e2
    exact op_add_ib pins s σ H _ _ _ _ Q I rx ry ⟨_, _, rfl, rfl, fin.int h⟩
  · have e1 := RP.boolE hx; have e2 := RP.intE hy; subst e1 e2
    cases rx
    obtain ⟨t, rfl⟩ := ry
    refine PySem.IntBool.add_bool_int ⟨.int _, H, I.tok _, ⟨_, rfl⟩, fin.int ?_⟩
    exact h
  · have e1 := RP.strE hx; have e2 := RP.strE hy; subst e1 e2
    exact op_add_str pins s σ H _ _ _ _ Q I rx ry ⟨_, _, rfl, rfl, by rw [sizeLine_eq]; exact h.1, fin.str h.2⟩
  · obtain ⟨p, vs, rfl, hp, r1⟩ := RP.tupE hx
    obtain ⟨q, us, rfl, hq, r2⟩ := RP.tupE hy
    refine op_catP pins s σ H _ _ _ _ Q I rx ry ⟨p, q, vs, us, rfl, rfl, hp, hq, by rw [sizeLine_eq, Paired.len r1, Paired.len r2]; exact h.1, fun e => ?_, fun e => ?_, fun z its hz => ?_⟩
    · subst e
      obtain rfl := RPs.nil_of r1
      exact fin.pure hy h.2
    · subst e
      obtain rfl := RPs.nil_of r2
      rw [List.append_nil] at h
      exact fin.pure hx h.2
    · exact fin.tup hz (Paired.app r1 r2) h.2
  · obtain ⟨p, vs, rfl, hp, r1⟩ := hx
    obtain ⟨q, us, rfl, hq, r2⟩ := hy
    exact op_cat pins s σ H _ _ _ _ Q I rx ry ⟨p, q, vs, us, rfl, rfl, hp, hq, by rw [sizeLine_eq, Paired.len r1, Paired.len r2]; exact h.1, fun z hz => fin.lst hz (Paired.app r1 r2) h.2⟩
  · exact h.elim
def gSub_ : G2 := fun x y Q => match x, y with
  | .pure (.int i), .pure (.int j) => Q (.pure (.int (i - j)))
  | .pure (.bool k), .pure (.int j) => Q (.pure (.int (b2i k - j)))
  | _, _ => False
def repL (k : Int) (ts : List T) : List T := (List.replicate k.toNat ts).flatten
theorem Paired.rep {α β : Type} {G : α → β → Prop} {l : List α} {r : List β} (h : Paired G l r) : ∀ n : Nat, Paired G (List.replicate n l).flatten (List.replicate n r).flatten
  | 0 => .nil
  | n + 1 => by rw [List.replicate_succ, List.replicate_succ, List.flatten_cons, List.flatten_cons]; exact Paired.app h (Paired.rep h n)
def gMul : G2 := fun x y Q => match x, y with
  | .pure (.int i), .pure (.int j) => i.natAbs.log2 + j.natAbs.log2 < 1000000 ∧ Q (.pure (.int (i * j)))
  | .lst ts, .pure (.int k) => 0 ≤ k ∧ k ≤ 1000000 ∧ ts.length * k.toNat ≤ 16777216 ∧ Q (.lst (repL k ts))
  | _, _ => False
theorem opA_mul : OpA X (binaryOp .Mult) gMul := OpA.mk fun pins s σ H F v u x y a b Q Qa I rx ry hx hy h fin => by
  unfold gMul at h
  split at h
  · have e1 := RP.intE hx; have e2 := RP.intE hy; subst e1 e2
    exact op_mulW pins s σ H _ _ _ _ Q I rx ry ⟨_, _, rfl, rfl, h.1, fin.int h.2⟩
  · obtain ⟨p, vs, rfl, hp, r1⟩ := hx
    have e2 := RP.intE hy; subst e2
    obtain ⟨h1, h2, h3, h4⟩ := h
    exact op_rep pins s σ H _ _ _ _ Q I rx ry ⟨p, _, vs, rfl, rfl, hp, by omega, by omega, by rw [sizeLine_eq, Paired.len r1]; exact h3, fun z hz => fin.lst hz (Paired.rep r1 _) h4⟩
  · exact h.elim
def gFdiv : G2 := fun x y Q => match x, y with
  | .pure (.int i), .pure (.int j) => 0 < j ∧ j.natAbs.log2 < 9000 ∧ Q (.pure (.int (i / j)))
  | _, _ => False
theorem opA_fdiv : OpA X (binaryOp .FloorDiv) gFdiv := OpA.mk fun pins s σ H F v u x y a b Q Qa I rx ry hx hy h fin => by
  unfold gFdiv at h
  split at h
  · have e1 := RP.intE hx; have e2 := RP.intE hy; subst e1 e2
    exact op_fdivW pins s σ H _ _ _ _ Q I rx ry ⟨_, _, rfl, rfl, ⟨h.1, h.2.1⟩, fin.int h.2.2⟩
  · exact h.elim
def gMod : G2 := fun x y Q => match x, y with
  | .pure (.int i), .pure (.int j) => 0 < j ∧ Q (.pure (.int (i % j)))
  | _, _ => False
theorem opA_mod : OpA X (binaryOp .Mod) gMod := OpA.mk fun pins s σ H F v u x y a b Q Qa I rx ry hx hy h fin => by
  unfold gMod at h
  split at h
  · have e1 := RP.intE hx; have e2 := RP.intE hy; subst e1 e2
    exact op_mod pins s σ H _ _ _ _ Q I rx ry ⟨_, _, rfl, rfl, h.1, fin.int h.2⟩
  · exact h.elim
def gPow : G2 := fun x y Q => match x, y with
  | .pure (.int i), .pure (.int j) => 0 ≤ j ∧ j ≤ 1000 ∧ i.natAbs.log2 < 100000 ∧ Q (.pure (.int (i ^ j.toNat)))
  | _, _ => False
theorem opA_pow : OpA X (binaryOp .Pow) gPow := OpA.mk fun pins s σ H F v u x y a b Q Qa I rx ry hx hy h fin => by
  unfold gPow at h
  split at h
  · rename_i i j
    have e1 := RP.intE hx; have e2 := RP.intE hy; subst e1 e2
    obtain ⟨h1, h2, h3, h4⟩ := h
    obtain ⟨t, rfl⟩ := rx
    obtain ⟨t', rfl⟩ := ry
    refine pow_int h1 ?_ ⟨.int _, H, I.tok _, ⟨_, rfl⟩, fin.int h4⟩
    have b : (Builtin.Int.intBits i : Int) ≤ 100001 := by
      unfold Builtin.Int.intBits
      split <;> omega
    have b2 : (Builtin.Int.intBits i : Int) * j ≤ 100001 * 1000 := Int.mul_le_mul b h2 h1 (by omega)
    omega
  · exact h.elim
def gNeg : G1 := fun x Q => match x with
  | .pure (.int i) => Q (.pure (.int (-i)))
  | .pure (.bool k) => Q (.pure (.int (-(b2i k))))
  | _ => False
theorem neg_bool {prog : Program} {w : World} {A : Around} {E : Value → Shared → Prop} {s : Shared} {k : Bool} {Q : Value → Shared → Prop} (h : Q (.int (-(b2i k)) s.toks) { s with toks := s.toks + 1 }) : wpAny (model prog w) A (unaryOp .USub (.bool k)) Q E s := by
  unfold unaryOp
  refine wpAny_holding ?_
  refine wpAny_bind (m := callSpecial? (.bool k) (Str.ofString "__neg__")) (wpAny_callSpecial?_slot (name := Str.ofString "__neg__") (T := "bool") rfl F.slot_bool_neg
    (wpAny_call_entry F.slot_bool_neg (T := "bool") rfl entry_int_neg ?_ (args_int_neg _)))
  show wpAny _ _ (do ret (← mkInt (-(b2i k)))) _ _ s
  exact wpAny_ret_mkInt (wpAny_pure h)
theorem unA_neg : UnA X (unaryOp .USub) gNeg := UnA.mk fun pins s σ H F v x a Q Qa I rx hx h fin => by
  unfold gNeg at h
  split at h
  · have e1 := RP.intE hx; subst e1
    exact un_neg pins s σ H _ _ Q I rx ⟨_, rfl, fin.int h⟩
  · have e1 := RP.boolE hx; subst e1
    cases rx
    exact neg_bool ⟨.int _, H, I.tok _, ⟨_, rfl⟩, fin.int h⟩
  · exact h.elim
/-! ### comparisons -/
def gGe : G2 := fun x y Q => match x, y with
  | .pure (.int i), .pure (.int j) => Q (.pure (.bool (decide (j ≤ i))))
  | _, _ => False
def gGt : G2 := fun x y Q => match x, y with
  | .pure (.int i), .pure (.int j) => Q (.pure (.bool (decide (j < i))))
  | _, _ => False
def gLe : G2 := fun x y Q => match x, y with
  | .pure (.int i), .pure (.int j) => Q (.pure (.bool (decide (i ≤ j))))
  | _, _ => False
theorem opA_ge : OpA X (compareOp .GtE) gGe := OpA.mk fun pins s σ H F v u x y a b Q Qa I rx ry hx hy h fin => by
  unfold gGe at h
  split at h
  · have e1 := RP.intE hx; have e2 := RP.intE hy; subst e1 e2
    exact op_ge pins s σ H _ _ _ _ Q I rx ry ⟨_, _, rfl, rfl, fin.bl h⟩
  · exact h.elim
theorem opA_gt : OpA X (compareOp .Gt) gGt := OpA.mk fun pins s σ H F v u x y a b Q Qa I rx ry hx hy h fin => by
  unfold gGt at h
  split at h
  · have e1 := RP.intE hx; have e2 := RP.intE hy; subst e1 e2
    exact op_gt pins s σ H _ _ _ _ Q I rx ry ⟨_, _, rfl, rfl, fin.bl h⟩
  · exact h.elim
theorem opA_le : OpA X (compareOp .LtE) gLe := OpA.mk fun pins s σ H F v u x y a b Q Qa I rx ry hx hy h fin => by
  unfold gLe at h
  split at h
  · have e1 := RP.intE hx; have e2 := RP.intE hy; subst e1 e2
    exact op_le pins s σ H _ _ _ _ Q I rx ry ⟨_, _, rfl, rfl, fin.bl h⟩
  · exact h.elim
/-- x < y; the last: data that are alike -/
def gLt : G2 := fun x y Q => match x, y with
  | .pure (.int i), .pure (.int j) => Q (.pure (.bool (decide (i < j))))
  | .pure d, .pure e => PySem.W.alike d e = true ∧ d ≠ .none ∧ min d.depth e.depth ≤ 150 ∧ Q (.pure (.bool (PySem.W.dataLt d e)))
  | _, _ => False
theorem opA_lt (hu : X.A.units + 200 < cLine) : OpA X (compareOp .Lt) gLt := OpA.mk fun pins s σ H F v u x y a b Q Qa I rx ry hx hy h fin => by
  unfold gLt at h
  split at h
  · have e1 := RP.intE hx; have e2 := RP.intE hy; subst e1 e2
    exact op_lt pins s σ H _ _ _ _ Q I rx ry ⟨_, _, rfl, rfl, fin.bl h⟩
  · obtain ⟨h1, h2, h3, h4⟩ := h
    obtain ⟨as, r1⟩ := RW.reads I hx trivial rx
    obtain ⟨bs, r2⟩ := RW.reads I hy trivial ry
    exact PySem.W.rcLt_alike _ _ X.A s a b as bs r1 r2 h1 h2 (by simp only [O.frz] at *; omega) _ _ _ _ ⟨.bl _, H, I, rfl, fin.bl h4⟩
  · exact h.elim
def gEq : G2 := fun x y Q => x.fz ∧ y.fz ∧ cmpOk x.frz y.frz = true ∧ min x.frz.depth y.frz.depth ≤ 150 ∧ Q (.pure (.bool (PyData.eqv x.frz y.frz)))
theorem opA_eq (hu : X.A.units + 200 < cLine) : OpA X (compareOp .Eq) gEq := OpA.mk fun pins s σ H F v u x y a b Q Qa I rx ry hx hy h fin => by
  obtain ⟨z1, z2, h1, h2, h3⟩ := h
  obtain ⟨as, r1⟩ := RW.reads I hx z1 rx
  obtain ⟨bs, r2⟩ := RW.reads I hy z2 ry
  exact (eq_trees _ _ X.A s a b as bs r1 r2 h1 (by omega)).2 _ _ _ _ ⟨.bl _, H, I, rfl, fin.bl h3⟩
def gNe : G2 := fun x y Q => match x, y with
  | .pure (.int i), .pure (.int j) => Q (.pure (.bool (!decide (i = j))))
  | .pure (.str i), .pure (.str j) => Q (.pure (.bool (!decide (i = j))))
  | .pure (.bool i), .pure (.bool j) => Q (.pure (.bool (!decide (i = j))))
  | x, y => x.fz ∧ y.fz ∧ x.frz.canLay0 = true ∧ y.frz.canLay0 = true ∧ min x.frz.depth y.frz.depth ≤ 150 ∧ Q (.pure (.bool (!PyData.eqv x.frz y.frz)))
/-- one text in another -/
def inStr (x y : Str) : Bool := !(Builtin.Str.occurrences y x 0 y.length 1).isEmpty
def seqO (o : O) : Option (List T) := match lsO o with
  | some ts => some ts
  | none => tuO o
def gInW (neg : Bool) : G2 := fun x y Q => match x, y with
  | .pure (.str a), .pure (.str b) => Q (.pure (.bool (neg ^^ inStr a b)))
  | x, y => match seqO y with
    | some ts => x.fz ∧ (ts.all fun z => cmpOk z x.frz && decide (min z.depth x.frz.depth ≤ 150)) = true ∧ Q (.pure (.bool (neg ^^ ts.any fun z => PyData.eqv z x.frz)))
    | none => False
theorem readsAll_at {h : Heap} : ∀ {vs : List Value} {ds : List T} {as : List Addr}, ReadsAll h vs ds as → ∀ v ∈ vs, ∃ d ∈ ds, ∃ bs, Reads h v d bs
  | _, _, _, .cons r rs, v, m => by
    rcases List.mem_cons.mp m with rfl | m
    · exact ⟨_, List.mem_cons_self, _, r⟩
    · obtain ⟨d, hd, bs, q⟩ := readsAll_at rs v m
      exact ⟨d, List.mem_cons_of_mem _ hd, bs, q⟩
theorem any_reads {h : Heap} {f : Value → Bool} {g : T → Bool} (w : ∀ v d bs, Reads h v d bs → f v = g d) : ∀ {vs : List Value} {ds : List T} {as : List Addr}, ReadsAll h vs ds as → vs.any f = ds.any g
  | _, _, _, .nil => rfl
  | _, _, _, .cons r rs => by rw [List.any_cons, List.any_cons, w _ _ _ r, any_reads w rs]
theorem opA_inW (hu : X.A.units + 200 < cLine) (neg : Bool) : OpA X (compareOp (if neg = true then .NotIn else .In)) (gInW neg) := OpA.mk fun pins s σ H F v u x y a b Q Qa I rx ry hx hy h fin => by
  unfold gInW at h
  split at h
  · have e1 := RP.strE hx; have e2 := RP.strE hy; subst e1 e2
    cases neg with
    | false =>
      rw [if_neg Bool.false_ne_true]
      exact op_in_str pins s σ H _ _ _ _ Q I rx ry ⟨_, _, rfl, rfl, fin.bl (by simpa [inStr] using h)⟩
    | true =>
      rw [if_pos rfl]
      exact op_notin_str pins s σ H _ _ _ _ Q I rx ry ⟨_, _, rfl, rfl, fin.bl (by simpa [inStr] using h)⟩
  · split at h
    · rename_i ts es
      obtain ⟨z1, h1, h2⟩ := h
      obtain ⟨as, r1⟩ := RW.reads I hx z1 rx
      -- the items as read
      have key : ∀ (items : Array Value) (as' : List Addr), ReadsAll s.heap items.toList ts as' → ∃ e : Value → Bool, (∀ z, z ∈ items → SeqAt.EqAt X.A.in1 s z a (e z)) ∧ items.any e = ts.any fun z => PyData.eqv z x.frz := fun items as' ra => by
        classical
        refine ⟨fun z => if hz : ∃ d bs, Reads s.heap z d bs then PyData.eqv hz.choose x.frz else false, fun z hz => ?_, ?_⟩
        · obtain ⟨d, hd, bs, rd⟩ := readsAll_at ra z (by simpa using hz)
          have hz : ∃ d bs, Reads s.heap z d bs := ⟨d, bs, rd⟩
          have e : hz.choose = d := reads_one hz.choose_spec.choose_spec rd
          show SeqAt.EqAt X.A.in1 s z a (if hz : ∃ d bs, Reads s.heap z d bs then PyData.eqv hz.choose x.frz else false)
          rw [dif_pos hz, e]
          have c := List.all_eq_true.mp h1 d hd
          simp only [Bool.and_eq_true, decide_eq_true_eq] at c
          exact (eq_trees d _ X.A.in1 s z a bs as rd r1 c.1 (by show X.A.units + 1 + _ < _; omega)).1
        · rw [← Array.any_toList]
          refine any_reads (fun v d bs rd => ?_) ra
          have hz : ∃ d bs, Reads s.heap v d bs := ⟨d, bs, rd⟩
          show (if hz : ∃ d bs, Reads s.heap v d bs then PyData.eqv hz.choose x.frz else false) = _
          rw [dif_pos hz, reads_one hz.choose_spec.choose_spec rd]
      have ends : ∀ {k : Bool}, k = (ts.any fun z => PyData.eqv z x.frz) → EP X pins σ Q (.bool (neg ^^ k)) s := fun e => ⟨.bl _, H, I, rfl, by rw [e]; exact fin.bl h2⟩
      unfold seqO at es
      split at es
      · rename_i us el
        cases es
        obtain ⟨p, vs, rfl, hq, r2⟩ := RW.ls hy el
        cases ry
        obtain ⟨its, rv, pl, _⟩ := I.list hq
        obtain ⟨qs, r3, _⟩ := r2.rvs
        obtain ⟨cs, r4⟩ := RVs.reads I r3 rv
        obtain ⟨e, k1, k2⟩ := key its.toArray cs (by simpa using r4)
        cases neg with
        | false => rw [if_neg Bool.false_ne_true]; exact SeqAt.in_listAt e pl.isList k1 (by simpa using ends k2)
        | true => rw [if_pos rfl]; exact SeqAt.notIn_listAt e pl.isList k1 (by simpa using ends k2)
      · obtain ⟨p, vs, rfl, hq, r2⟩ := RW.tu hy es
        cases ry
        obtain ⟨its, rv, pl, _⟩ := I.tuple hq
        obtain ⟨qs, r3, _⟩ := r2.rvs
        obtain ⟨cs, r4⟩ := RVs.reads I r3 rv
        obtain ⟨e, k1, k2⟩ := key its.toArray cs (by simpa using r4)
        cases neg with
        | false => rw [if_neg Bool.false_ne_true]; exact SeqAt.in_tupleAt e pl k1 (by simpa using ends k2)
        | true => rw [if_pos rfl]; exact SeqAt.notIn_tupleAt e pl k1 (by simpa using ends k2)
    · exact h.elim
theorem opA_in (hu : X.A.units + 200 < cLine) : OpA X (compareOp .In) (gInW false) := opA_inW hu false
/-- is None -/
def isNon : O → Bool
  | .pure .none => true
  | _ => false
theorem RW.non {K : PySem.W.Frag} {H : Hp} {F : Addr → Prop} {v : V} {o : O} (h : RW K H F v o) : decide (v = .non) = isNon o := by
  cases o with
  | pure t =>
    obtain ⟨as, r, _⟩ := h
    cases r <;> simp [isNon]
  | lst ts => obtain ⟨a, vs, rfl, _⟩ := h; simp [isNon]
  | dct ts => obtain ⟨a, vs, rfl, _⟩ := h; simp [isNon]
  | dcl ts => obtain ⟨a, vs, bs, rfl, _⟩ := h; simp [isNon]
  | exc e => obtain ⟨a, d, rfl, _⟩ := h; simp [isNon]
  | thk f => obtain ⟨rfl, _⟩ := h; simp [isNon]
def gIs : G2 := fun x y Q => match y with
  | .pure .none => Q (.pure (.bool (isNon x)))
  | _ => False
def gIsNot : G2 := fun x y Q => match y with
  | .pure .none => Q (.pure (.bool (!isNon x)))
  | _ => False
theorem opA_is : OpA X (compareOp .Is) gIs := OpA.mk fun pins s σ H F v u x y a b Q Qa I rx ry hx hy h fin => by
  unfold gIs at h
  split at h
  · have e2 := RP.noneE hy; subst e2
    exact op_isN pins s σ H _ _ _ _ Q I rx ry ⟨rfl, by rw [RW.non hx]; exact fin.bl h⟩
  · exact h.elim
end
end DL
set_option Elab.async false
set_option linter.all false
set_option maxRecDepth 100000
set_option maxHeartbeats 4000000
/-! THE DATA LAYER, part 12: calls of built-ins, subscripts, slices, chains. -/
namespace DL
open PySem PySem.Spec L2
open PyProof.Rows hiding St
variable [Tbs] [Bas]
section
variable {X : Cx}
/-! ### built-in functions -/
def gLen : GN := fun os Q => match os with
  | [.pure (.str x)] => x.length ≤ 16777216 ∧ Q (.pure (.int x.length))
  | [o] => match seqO o with
    | some ts => Q (.pure (.int ts.length))
    | none => False
  | _ => False
theorem callA_len : CallA X (.builtin "len") gLen := CallA.mk fun pins s σ H F vs xs us Q Qa I r hx h fin => by
  unfold gLen at h
  split at h
  · cases hx with
    | cons h1 hr =>
      cases hr
      have e1 := RP.strE h1; subst e1
      exact call_len pins s σ H _ us Q I r ⟨_, _, rfl, ⟨by rw [sizeLine_eq]; exact h.1, rfl⟩, fin.int h.2⟩
  · cases hx with
    | cons h1 hr =>
      cases hr
      split at h
      · rename_i ts es
        unfold seqO at es
        split at es
        · rename_i us el
          cases es
          obtain ⟨p, vs, rfl, hq, r2⟩ := RW.ls h1 el
          exact call_len pins s σ H _ _ Q I r ⟨_, _, rfl, .inl ⟨vs, hq, rfl⟩, by rw [Paired.len r2]; exact fin.int h⟩
        · obtain ⟨p, vs, rfl, hq, r2⟩ := RW.tu h1 es
          exact call_len pins s σ H _ _ Q I r ⟨_, _, rfl, .inr ⟨vs, hq, rfl⟩, by rw [Paired.len r2]; exact fin.int h⟩
      · exact h.elim
  · exact h.elim
def boolsOf : List T → Option (List Bool)
  | [] => some []
  | .bool b :: ts => (boolsOf ts).map (b :: ·)
  | _ => none
theorem RPs.bools {K : PySem.W.Frag} {H : Hp} {F : Addr → Prop} : ∀ {vs : List V} {ts : List T} {bs : List Bool}, RPs K H F vs ts → boolsOf ts = some bs → vs = bs.map V.bl
  | _, _, _, .nil, e => by cases e; rfl
  | _, t :: ts, bs, .cons h r, e => by
    unfold boolsOf at e
    split at e
    · rename_i heq; cases heq
    · rename_i b ts' heq
      cases heq
      cases q : boolsOf ts with
      | none => rw [q] at e; cases e
      | some bs' =>
        rw [q] at e; cases e
        rw [List.map_cons, RP.boolE h, RPs.bools r q]
    · cases e
def gAllAny (f : List Bool → Bool) : GN := fun os Q => match os with
  | [o] => match lsO o with
    | some ts => match boolsOf ts with
      | some bs => Q (.pure (.bool (f bs)))
      | none => False
    | none => False
  | _ => False
theorem callA_all (hc : X.calm = true) : CallA X (.builtin "all") (gAllAny fun bs => bs.all id) := CallA.mk fun pins s σ H F vs xs us Q Qa I r hx h fin => by
  unfold gAllAny at h
  split at h
  · cases hx with
    | cons h1 hr =>
      cases hr
      split at h
      · rename_i ts el
        split at h
        · rename_i bs eb
          obtain ⟨p, vs, rfl, hq, r2⟩ := RW.ls h1 el
          obtain rfl := r2.bools eb
          exact cr_all hc pins s σ H _ _ Q I r ⟨p, bs, rfl, hq, fin.bl h⟩
        · exact h.elim
      · exact h.elim
  · exact h.elim
def gAbs : GN := fun os Q => match os with
  | [.pure (.int i)] => Q (.pure (.int (if i < 0 then -i else i)))
  | _ => False
theorem callA_abs : CallA X (.builtin "abs") gAbs := CallA.mk fun pins s σ H F vs xs us Q Qa I r hx h fin => by
  unfold gAbs at h
  split at h
  · cases hx with
    | cons h1 hr =>
      cases hr
      have e1 := RP.intE h1; subst e1
      exact call_abs pins s σ H _ _ Q I r ⟨_, rfl, fin.int h⟩
  · exact h.elim
def gInt : GN := fun os Q => match os with
  | [.pure (.int i)] => Q (.pure (.int i))
  | [.pure (.bool k)] => Q (.pure (.int (if k = true then 1 else 0)))
  | _ => False
theorem callA_int : CallA X (.type "int") gInt := CallA.mk fun pins s σ H F vs xs us Q Qa I r hx h fin => by
  unfold gInt at h
  split at h
  · cases hx with
    | cons h1 hr =>
      cases hr
      have e1 := RP.intE h1; subst e1
      exact call_int1 pins s σ H _ _ Q I r (.inl ⟨_, rfl, fin.int h⟩)
  · cases hx with
    | cons h1 hr =>
      cases hr
      have e1 := RP.boolE h1; subst e1
      exact call_int1 pins s σ H _ _ Q I r (.inr ⟨_, rfl, fin.int h⟩)
  · exact h.elim
def gStr : GN := fun os Q => match os with
  | [.pure (.int i)] => i.natAbs.log2 < 1920 ∧ Q (.pure (.str (toString i)))
  | [.pure (.bool k)] => Q (.pure (.str (if k = true then "True" else "False")))
  | [.pure (.str x)] => Q (.pure (.str x))
  | _ => False
def gM2 (f : Int → Int → Int) : GN := fun os Q => match os with
  | [.pure (.int i), .pure (.int j)] => Q (.pure (.int (f i j)))
  | _ => False
theorem callA_max2 (hc : X.calm = true) : CallA X (.builtin "max") (gM2 fun i j => if j > i then j else i) := CallA.mk fun pins s σ H F vs xs us Q Qa I r hx h fin => by
  unfold gM2 at h
  split at h
  · cases hx with
    | cons h1 hr =>
      cases hr with
      | cons h2 hr =>
        cases hr
        have e1 := RP.intE h1; have e2 := RP.intE h2; subst e1 e2
        exact call_max2 hc pins s σ H _ _ Q I r ⟨_, _, rfl, fin.int h⟩
  · exact h.elim
theorem callA_min2 (hc : X.calm = true) : CallA X (.builtin "min") (gM2 fun i j => if j < i then j else i) := CallA.mk fun pins s σ H F vs xs us Q Qa I r hx h fin => by
  unfold gM2 at h
  split at h
  · cases hx with
    | cons h1 hr =>
      cases hr with
      | cons h2 hr =>
        cases hr
        have e1 := RP.intE h1; have e2 := RP.intE h2; subst e1 e2
        exact call_min2 hc pins s σ H _ _ Q I r ⟨_, _, rfl, fin.int h⟩
  · exact h.elim
def gListOfS : GN := fun os Q => match os with
  | [o] => match seqO o with
    | some ts => Q (.lst ts)
    | none => False
  | _ => False
/-- tuple(list): a new tuple, known -/
theorem call_tupleP : CallR X (.type "tuple") (fun xs H Q => ∃ p vs, xs = [.ref p] ∧ SqL X.K H p vs ∧ ∀ l its, H l = none → Q (.ref l) (upd H l (.frz (tupO its) (.tup vs)))) := by
  rintro pins s σ H xs us Q I r ⟨p, vs, rfl, hq, q⟩
  obtain ⟨u, rfl, rx⟩ := vals1 r
  cases rx
  obtain ⟨its, r2, pl, hz⟩ := I.list hq
  refine call_tuple_list pl.isList (fun h2 kp => ?_) (by rw [List.size_toArray, ← r2.length]; exact hz)
  have J : Inv X pins σ H { s with heap := h2 } := I.kept (t' := s.toks) kp
  exact ⟨.ref h2.objs.size, _, laidT (s := { s with heap := h2 }) (tk := s.toks) J r2 hz (fun b o e => Heap.get?_push_of_some _ e) (Heap.get?_push_size _ rfl) (Nat.le_refl _), rfl, q _ _ (J.hok.fresh (Nat.le_refl _))⟩
def gTupOfS : GN := fun os Q => match os with
  | [o] => match seqO o with
    | some ts => Q (.pure (.tuple ts))
    | none => False
  | _ => False
theorem RW.seq {K : PySem.W.Frag} {H : Hp} {F : Addr → Prop} {v : V} {o : O} {ts : List T} (h : RW K H F v o) (e : seqO o = some ts) : ∃ p vs, v = .ref p ∧ (SqL K H p vs ∨ (SqT K H p vs ∧ o = .pure (.tuple ts))) ∧ RPs K H F vs ts := by
  unfold seqO at e
  split at e
  · rename_i us el
    cases e
    obtain ⟨p, vs, rfl, hq, r2⟩ := RW.ls h el
    exact ⟨p, vs, rfl, .inl hq, r2⟩
  · obtain ⟨p, vs, rfl, hq, r2⟩ := RW.tu h e
    refine ⟨p, vs, rfl, .inr ⟨hq, ?_⟩, r2⟩
    unfold tuO at e
    split at e
    · cases e; rfl
    · cases e
theorem callA_listS : CallA X (.type "list") gListOfS := CallA.mk fun pins s σ H F vs xs us Q Qa I r hx h fin => by
  unfold gListOfS at h
  split at h
  · cases hx with
    | cons h1 hr =>
      cases hr
      split at h
      · rename_i ts es
        obtain ⟨p, vs, rfl, hq, r2⟩ := RW.seq h1 es
        exact call_list_of pins s σ H _ _ Q I r ⟨p, vs, rfl, hq.imp (fun q => q) (·.1), fun l hl => fin.lst hl r2 h⟩
      · exact h.elim
  · exact h.elim
theorem callA_tupleS : CallA X (.type "tuple") gTupOfS := CallA.mk fun pins s σ H F vs xs us Q Qa I r hx h fin => by
  unfold gTupOfS at h
  split at h
  · cases hx with
    | cons h1 hr =>
      cases hr
      split at h
      · rename_i ts es
        obtain ⟨p, vs, rfl, hq, r2⟩ := RW.seq h1 es
        rcases hq with hq | ⟨hq, e⟩
        · exact call_tupleP pins s σ H _ _ Q I r ⟨p, vs, rfl, hq, fun l its hl => fin.tup hl r2 h⟩
        · subst e
          exact call_tuple_of pins s σ H _ _ Q I r ⟨p, vs, rfl, .inr ⟨hq, fin.pure h1 h⟩⟩
      · exact h.elim
  · exact h.elim
def strsOf : List T → Option (List Str)
  | [] => some []
  | .str b :: ts => (strsOf ts).map (b :: ·)
  | _ => none
theorem RPs.strs {K : PySem.W.Frag} {H : Hp} {F : Addr → Prop} : ∀ {vs : List V} {ts : List T} {bs : List Str}, RPs K H F vs ts → strsOf ts = some bs → vs = bs.map V.str
  | _, _, _, .nil, e => by cases e; rfl
  | _, t :: ts, bs, .cons h r, e => by
    unfold strsOf at e
    split at e
    · rename_i heq; cases heq
    · rename_i b ts' heq
      cases heq
      cases q : strsOf ts with
      | none => rw [q] at e; cases e
      | some bs' =>
        rw [q] at e; cases e
        rw [List.map_cons, RP.strE h, RPs.strs r q]
    · cases e
theorem RPs.ofStrs {K : PySem.W.Frag} {H : Hp} {F : Addr → Prop} : ∀ ys : List Str, RPs K H F (ys.map V.str) (ys.map PyData.str)
  | [] => .nil
  | y :: ys => .cons (RP.str y) (RPs.ofStrs ys)
def gSortS : GN := fun os Q => match os with
  | [o] => match lsO o with
    | some ts => match strsOf ts with
      | some xs => xs.length < 64 ∧ ∀ ys : List Str, ys.Perm xs → sortedS ys = true → Q (.lst (ys.map PyData.str))
      | none => False
    | none => False
  | _ => False
theorem callA_sortS : CallA X (.builtin "sorted") gSortS := CallA.mk fun pins s σ H F vs xs us Q Qa I r hx h fin => by
  unfold gSortS at h
  split at h
  · cases hx with
    | cons h1 hr =>
      cases hr
      split at h
      · rename_i ts el
        split at h
        · rename_i bs eb
          obtain ⟨p, vs, rfl, hq, r2⟩ := RW.ls h1 el
          obtain rfl := r2.strs eb
          exact cr_sortedS pins s σ H _ _ Q I r ⟨p, bs, rfl, hq, h.1, fun ys l h1 h2 hl => fin.lst hl (RPs.ofStrs ys) (h.2 ys h1 h2)⟩
        · exact h.elim
      · exact h.elim
  · exact h.elim
/-- repr -/
def gRepr : GN := fun os Q => match os with
  | [o] => o.fz ∧ o.frz.showable = true ∧ o.frz.depth ≤ 150 ∧ o.frz.shown.length ≤ 16777216 ∧ Q (.pure (.str o.frz.shown))
  | _ => False
theorem callA_repr (hr : Rm 0 X.A) : CallA X (.builtin "repr") gRepr := CallA.mk fun pins s σ H F vs xs us Q Qa I r hx h fin => by
  unfold gRepr at h
  split at h
  · rename_i o
    cases hx with
    | cons h1 hr' =>
      cases hr'
      obtain ⟨u, rfl, ru⟩ := vals1 r
      obtain ⟨z1, h⟩ := h
      obtain ⟨as, q⟩ := RW.view h1 z1
      clear h1
      generalize o.frz = t at h q
      obtain ⟨k1, k2, k3, k4⟩ := h
      have hz : t.shown.length ≤ sizeLine := by rw [sizeLine_eq]; exact k3
      have un := hr.room.un
      have big : ∀ {a : Addr}, RV X.K H (.ref a) t as → u = .ref a → wpAny (model X.prog X.w) X.A (call (.builtin "repr") [u]) (EP X pins σ Q) X.xe s := fun {a} q e => by
        subst e
        obtain ⟨T, idr, S⟩ := RV.shows I q k1 hz
        refine call_repr_slot (by omega) (S.typeIs s fun _ _ e => e) S.slotRepr (S.call X.A.in1 X.xe s _ hr.gd (by show X.A.units + 1 + t.depth < cLine; omega) (fun _ _ e => e) fun h' k tk hk => ⟨_, _, rfl, ?_⟩)
        exact ⟨.str t.shown, H, I.kept (t' := tk) hk, ⟨k, rfl⟩, fin.str k4⟩
      cases q with
      | non =>
        cases ru
        simp only [PyData.shown] at k4
        exact PySem.P.repr_of_none ⟨.str "None", H, I.tok _, ⟨_, rfl⟩, fin.str k4⟩
      | bl b =>
        cases ru
        simp only [PyData.shown] at k4
        exact PySem.P.repr_of_bool ⟨.str _, H, I.tok _, ⟨_, rfl⟩, fin.str k4⟩
      | int i =>
        obtain ⟨t, rfl⟩ := ru
        simp only [PyData.shown] at k4
        exact PySem.P.repr_of_int (by simpa [PyData.showable] using k1) ⟨.str _, H, I.tok _, ⟨_, rfl⟩, fin.str k4⟩
      | str x =>
        obtain ⟨t, rfl⟩ := ru
        simp only [PyData.shown] at k4 hz
        exact PySem.P.repr_of_str ⟨.str _, H, I.tok _, ⟨_, rfl⟩, fin.str k4⟩ hz
      | tup h q => exact big (.tup h q) ru
      | lst h q => exact big (.lst h q) ru
      | lstK h1 h2 h3 h4 h5 h6 q => exact big (.lstK h1 h2 h3 h4 h5 h6 q) ru
      | dct h q => exact big (.dct h q) ru
  · exact h.elim
end
/-! ### isinstance -/
def tyT : T → String
  | .none => "NoneType"
  | .bool _ => "bool"
  | .int _ => "int"
  | .str _ => "str"
  | .list _ => "list"
  | .tuple _ => "tuple"
  | .dict _ => "dict"
def isT (n : String) (t : T) : Bool := tyT t == n || (n == "int" && tyT t == "bool")
section
variable {X : Cx}
theorem RV.ty {K : PySem.W.Frag} {H : Hp} {v : V} {t : T} {as : List Addr} (r : RV K H v t as) : TyX K H v (.type (tyT t)) := by
  cases r with
  | non => exact .base .non
  | bl b => exact .base (.bl b)
  | int i => exact .base (.int i)
  | str x => exact .base (.str x)
  | tup h _ =>
    obtain ⟨o, h, _⟩ := h
    exact .fTuple h
  | lst h _ =>
    rcases h with h | ⟨o, h⟩
    · exact .base (.lst h)
    · exact .base (.frz h)
  | lstK h c _ _ _ _ _ => exact .kList h c
  | dct h _ =>
    rcases h with h | ⟨o, h⟩
    · exact .base (.dK h)
    · exact .fDict h
/-- the classes that isinstance is asked of -/
def tyOk (n : String) : Prop := ∀ t : T, kitB (tyT t) n = some (isT n t)
theorem tyOk_of {n : String} (h1 : kitB "NoneType" n = some (isT n .none)) (h2 : kitB "bool" n = some (isT n (.bool true))) (h3 : kitB "int" n = some (isT n (.int 0))) (h4 : kitB "str" n = some (isT n (.str ""))) (h5 : kitB "list" n = some (isT n (.list []))) (h6 : kitB "tuple" n = some (isT n (.tuple []))) (h7 : kitB "dict" n = some (isT n (.dict []))) : tyOk n := fun t => by
  cases t with
  | none => exact h1
  | bool b => exact h2
  | int i => exact h3
  | str x => exact h4
  | list xs => exact h5
  | tuple xs => exact h6
  | dict xs => exact h7
theorem tyOk_str : tyOk "str" := tyOk_of (by decide +kernel) (by decide +kernel) (by decide +kernel) (by decide +kernel) (by decide +kernel) (by decide +kernel) (by decide +kernel)
theorem tyOk_int : tyOk "int" := tyOk_of (by decide +kernel) (by decide +kernel) (by decide +kernel) (by decide +kernel) (by decide +kernel) (by decide +kernel) (by decide +kernel)
theorem tyOk_bool : tyOk "bool" := tyOk_of (by decide +kernel) (by decide +kernel) (by decide +kernel) (by decide +kernel) (by decide +kernel) (by decide +kernel) (by decide +kernel)
def tIsi (n : String) (te : XT) : XT := fun ρ Q => te ρ fun p ρ1 => match p.get ρ1 with
  | some o => o.fz ∧ Q (.val (.pure (.bool (isT n o.frz)))) ρ1
  | none => False
theorem RO.ty {K : PySem.W.Frag} {H : Hp} {F : Addr → Prop} {v : V} {o : O} (r : RW K H F v o) (fz : o.fz) : TyX K H v (.type (tyT o.frz)) := let ⟨_, q⟩ := r.view fz; q.ty
theorem ex_isi {n : String} {x : Str} {e : Expr} {te : XT} {p p2 pos : Pos} (hn : tyOk n) (hg : Gl X "isinstance") (hm : X.mg "isinstance" = none) (hg2 : Gl X x) (hm2 : X.mg x = none) (hb2 : bootBuiltins x = some (.type n)) (he : EX X e te) (hx : x ≠ "__name__" := by decide) (hd : (x == ("__debug__" : Str)) = false := by decide)
    (hs : starEach [e, .Name x p2] X.env = (false, eval e X.env) :: starEach [.Name x p2] X.env := by rfl) (hs2 : starEach [.Name x p2] X.env = (false, eval (.Name x p2) X.env) :: starEach [] X.env := by rfl)
    (hpl : (backTo pos (starEach [.Name x p2] X.env)).any (·.1) = false := by rfl) : EX X (.Call (.Name "isinstance" p) [e, .Name x p2] [] pos) (tIsi n te) := by
  refine ⟨PE.imp (pe_callB call_isi hg hm (by decide +kernel) (pa_cons he.pe (pa_cons (pe_bltn (v := .ty n) hg2 hm2 hb2 rfl hx hd) pa_nil hs2) hs) (by decide) (by decide) hs hpl) ?_⟩
  rintro σ H Q ⟨ρ, fp, G, Qa, R, h, fin⟩
  refine ⟨ρ, fp, G, _, R, h, fun v p A H1 ρ1 fp1 R1 r1 x1 h1 => ?_⟩
  split at h1
  · rename_i o eo
    have w := r1.rw0 R1 eo
    exact ⟨v, .ty n, _, _, _, rfl, .ty n, RO.ty w h1.1, kit_ty (hn _), FinV.bl (fin_of (G := G) R1 (fun a m => List.mem_append_right _ m) x1.or fin) h1.2⟩
  · exact h1.elim
/-! ### subscripts -/
def gIx : G2 := fun x y Q => match y with
  | .pure (.int i) => match x with
    | .pure (.str z) => z.length ≤ 16777216 ∧ match atI z.cps.toList i with
      | some c => Q (.pure (.str ⟨#[c]⟩))
      | none => False
    | x => match seqO x with
      | some ts => match atI ts i with
        | some t => Q (.pure t)
        | none => False
      | none => False
  | _ => False
theorem atI_pair {K : PySem.W.Frag} {H : Hp} {F : Addr → Prop} {vs : List V} {ts : List T} {i : Int} {t : T} (r : RPs K H F vs ts) (e : atI ts i = some t) : ∃ v, atI vs i = some v ∧ RP K H F v t := by
  unfold atI at e ⊢
  rw [Paired.len r]
  cases q : ixN ts.length i with
  | none => rw [q] at e; cases e
  | some j =>
    rw [q] at e
    obtain ⟨v, hv, rv⟩ := Paired.at r e
    exact ⟨v, hv, rv⟩
theorem ixA_seq : IxA X gIx := by
  refine ⟨rIx X.K, ix_seq, fun H F v u x y Q Qa hx hy h fin => ?_⟩
  unfold gIx at h
  split at h
  · rename_i i
    have e2 := RP.intE hy; subst e2
    split at h
    · rename_i z
      have e1 := RP.strE hx; subst e1
      obtain ⟨hz, h⟩ := h
      split at h
      · rename_i c ec
        exact .inr (.inr ⟨z, i, c, rfl, rfl, by rw [sizeLine_eq]; exact hz, ec, fin.str h⟩)
      · exact h.elim
    · split at h
      · rename_i ts es
        split at h
        · rename_i t et
          obtain ⟨p, vs, rfl, hq, r2⟩ := RW.seq hx es
          obtain ⟨w, hw, rw_⟩ := atI_pair r2 et
          rcases hq with hq | ⟨hq, _⟩
          · exact .inl ⟨p, vs, i, w, rfl, rfl, hq, hw, fin.pure rw_ h⟩
          · exact .inr (.inl ⟨p, vs, i, w, rfl, rfl, hq, hw, fin.pure rw_ h⟩)
        · exact h.elim
      · exact h.elim
  · exact h.elim
/-! ### slices -/
def cutT (ts : List T) (lo hi : Option Int) : List T := (ts.drop (HT.sIx ts.length 0 lo)).take (HT.sIx ts.length ts.length hi - HT.sIx ts.length 0 lo)
def partT : Option XT → AEnv → (Option Int → AEnv → Prop) → Prop
  | none, ρ, Q => Q none ρ
  | some t, ρ, Q => t ρ fun p ρ1 => match p.get ρ1 with
    | some (.pure (.int i)) => Q (some i) ρ1
    | _ => False
def tSlc (te : XT) (tl th : Option XT) : XT := fun ρ Q => te ρ fun p ρ1 => partT tl ρ1 fun lo ρ2 => partT th ρ2 fun hi ρ3 => match p.get ρ3 with
  | some (.pure (.str z)) => z.length ≤ 16777216 ∧ Q (.val (.pure (.str (cutS z lo hi)))) ρ3
  | some (.pure (.tuple ts)) => Q (.val (.pure (.tuple (cutT ts lo hi)))) ρ3
  | some (.lst ts) => Q (.val (.lst (cutT ts lo hi))) ρ3
  | some (.pure (.list ts)) => Q (.val (.lst (cutT ts lo hi))) ρ3
  | _ => False
def LO (K : PySem.W.Frag) (t : Option XT) : TO := fun σ H Q => ∃ ρ fp G Qa, RS K σ H ρ fp G ∧ partT t ρ Qa ∧ ∀ o H' ρ' fp', RS K σ H' ρ' fp' G → Ext H (Fo fp) H' (Fo fp') → Qa o ρ' → Q o H'
structure OX (X : Cx) (e : Option Expr) (t : Option XT) : Prop where
  po : PO X e (LO X.K t)
theorem PO.imp {e : Option Expr} {t t' : TO} (h : PO X e t) (w : ∀ σ H Q, t' σ H Q → t σ H Q) : PO X e t' := ⟨fun pins s σ H Q I q => h.run pins s σ H Q I (w σ H Q q)⟩
theorem ox_none : OX X none none := by
  refine ⟨PO.imp po_none ?_⟩
  rintro σ H Q ⟨ρ, fp, G, Qa, R, h, fin⟩
  exact fin none H ρ fp R Ext.refl h
theorem ox_some {e : Expr} {te : XT} (h : EX X e te) : OX X (some e) (some te) := by
  refine ⟨PO.imp (po_some h.pe) ?_⟩
  rintro σ H Q ⟨ρ, fp, G, Qa, R, h, fin⟩
  refine ⟨ρ, fp, G, _, R, h, fun v p A H1 ρ1 fp1 R1 r1 x1 h1 => ?_⟩
  split at h1
  · rename_i i ei
    have e := RP.intE (r1.rw0 R1 ei)
    exact ⟨i, e, fin (some i) H1 ρ1 fp1 (R1.sub fun a m => List.mem_append_right _ m) x1.or h1⟩
  · exact h1.elim
/-- t[lo:hi] of a tuple: itself, or a new one, known -/
def rSlP (K : PySem.W.Frag) : V → Option Int → Option Int → Hp → VK → Prop := fun x lo hi H Q => ∃ p vs, x = .ref p ∧ SqT K H p vs ∧
  ((HT.sIx vs.length 0 lo = 0 ∧ HT.sIx vs.length vs.length hi = vs.length) → Q (.ref p) H) ∧ ∀ z its, H z = none → Q (.ref z) (upd H z (.frz (tupO its) (.tup (cutV vs lo hi))))
theorem sl_tupP {X : Cx} : SlR X (rSlP X.K) := by
  rintro pins s σ H x v vl vu lo hi sl Q I rx hs pl pu ⟨p, vs, rfl, hp, k1, k2⟩
  cases rx
  obtain ⟨its, r, ht, hz⟩ := I.tuple hp
  have hn : its.toArray.size = vs.length := by rw [List.size_toArray]; exact r.length.symm
  refine ⟨"tuple", _, PyProof.Rows.slot_tuple_getitem.lookup, ht.typeIs, ?_⟩
  by_cases hw : HT.sIx vs.length 0 lo = 0 ∧ HT.sIx vs.length vs.length hi = vs.length
  · exact getItem_tuple_whole ht hs pl pu (by rw [hn]; exact hw) ⟨.ref p, H, I, rfl, k1 hw⟩
  · refine HT.getItem_tuple_cut ht hs pl pu (by rw [hn]; exact hw) ?_ (by rw [hn]; exact hz)
    rw [hn]
    exact ⟨.ref s.heap.objs.size, _, laidT (tk := s.toks) I ((r.drop (HT.sIx vs.length 0 lo)).take (HT.sIx vs.length vs.length hi - HT.sIx vs.length 0 lo)) (Nat.le_trans (cutV_length vs lo hi) hz) (fun b ob q => Heap.get?_push_of_some _ q) (Heap.get?_push_size _ rfl) (Nat.le_refl _), rfl, k2 _ _ (I.hok.fresh (Nat.le_refl _))⟩
theorem cut_pair {K : PySem.W.Frag} {H : Hp} {F : Addr → Prop} {vs : List V} {ts : List T} {lo hi : Option Int} (r : RPs K H F vs ts) : RPs K H F (cutV vs lo hi) (cutT ts lo hi) := by
  unfold cutV cutT
  rw [Paired.len r]
  exact Paired.takeP _ (Paired.dropP _ r)
theorem cut_all {ts : List T} {lo hi : Option Int} (h : HT.sIx ts.length 0 lo = 0 ∧ HT.sIx ts.length ts.length hi = ts.length) : cutT ts lo hi = ts := by
  unfold cutT
  rw [h.1, h.2, List.drop_zero, Nat.sub_zero, List.take_length]
theorem ex_slice {e : Expr} {lo hi : Option Expr} {te : XT} {tl th : Option XT} {p2 pos : Pos} (he : EX X e te) (hl : OX X lo tl) (hh : OX X hi th) : EX X (.Subscript e (.Slice lo hi none p2) pos) (tSlc te tl th) := by
  refine ⟨PE.imp (pe_slice (sl_str.or (sl_list.or sl_tupP)) he.pe hl.po hh.po) ?_⟩
  rintro σ H Q ⟨ρ, fp, G, Qa, R, h, fin⟩
  refine ⟨ρ, fp, G, _, R, h, fun v p A H1 ρ1 fp1 R1 r1 x1 h1 => ?_⟩
  refine ⟨ρ1, fp1, A ++ G, _, R1, h1, fun l H2 ρ2 fp2 R2 x2 h2 => ?_⟩
  refine ⟨ρ2, fp2, A ++ G, _, R2, h2, fun u H3 ρ3 fp3 R3 x3 h3 => ?_⟩
  have x23 : Ext H1 (Fo fp1) H3 (Or1 (Fo fp3) []) := (x2.trans x3).weak (fun _ z => z) Or1.nil
  have w : ∀ {o : O}, p.get ρ3 = some o → RW X.K H3 (Or1 (Fo fp3) (A ++ G)) v o := fun e => r1.rw (B := []) R1 x23 R3 e
  have fz := fin_of (G := G) R3 (fun a m => List.mem_append_right _ m) (x1.or.trans (x2.trans x3)) fin
  split at h3
  · rename_i z ez
    have e1 := RP.strE (w ez)
    exact .inl ⟨z, e1, by rw [sizeLine_eq]; exact h3.1, fz.str h3.2⟩
  · rename_i ts ez
    obtain ⟨q, vs, e1, hq, r2⟩ := RP.tupE (w ez)
    refine .inr (.inr ⟨q, vs, e1, hq, fun hw => ?_, fun y its hy => fz.tup hy (cut_pair r2) h3⟩)
    rw [Paired.len r2] at hw
    rw [cut_all hw] at h3
    have := w ez
    rw [e1] at this
    exact fz.pure this h3
  · rename_i ts ez
    obtain ⟨q, vs, e1, hq, r2⟩ := RW.ls (w ez) rfl
    exact .inr (.inl ⟨q, vs, e1, hq, fun y hy => fz.lst hy (cut_pair r2) h3⟩)
  · rename_i ts ez
    obtain ⟨q, vs, e1, hq, r2⟩ := RW.ls (w ez) rfl
    exact .inr (.inl ⟨q, vs, e1, hq, fun y hy => fz.lst hy (cut_pair r2) h3⟩)
  · exact h3.elim
/-! ### chained comparisons -/
theorem ex_chain {op op' : CmpOp} {g g' : G2} {a b c : Expr} {ta tb tc : XT} {pos : Pos} (ho : OpA X (compareOp op) g) (ho' : OpA X (compareOp op') g') (ha : EX X a ta) (hb : EX X b tb) (hc : EX X c tc)
    (hm : lastMarks [op, op'] [b, c] = false := by with_unfolding_all rfl) : TX X (.Compare a [op, op'] [b, c] pos) (tChainA g g' ta tb tc) := by
  obtain ⟨r, hr, hg⟩ := ho
  obtain ⟨r', hr', hg'⟩ := ho'
  refine ⟨PT.imp (pt_chain hr hr' ha.pe hb.pe hc.pe hm) ?_⟩
  rintro σ H Q ⟨ρ, fp, G, Qa, R, h, fin⟩
  refine ⟨ρ, fp, G, _, R, h, fun v p A H1 ρ1 fp1 R1 r1 x1 h1 => ?_⟩
  refine ⟨ρ1, fp1, A ++ G, _, R1, h1, fun u q B H2 ρ2 fp2 R2 r2 x2 h2 => ?_⟩
  unfold g2 at h2
  split at h2
  · rename_i x y e1 e2
    refine hg H2 (Or1 (Fo fp2) (B ++ (A ++ G))) v u x y _ _ (r1.rw R1 x2 R2 e1) (r2.rw0 R2 e2) h2 fun z o C H3 pr ro nC ndC q3 => ?_
    unfold bO at q3
    split at q3
    · rename_i c
      obtain ⟨rfl, ro⟩ := ro
      have ez := RP.boolE ro; subst ez
      refine ⟨c, rfl, ?_⟩
      cases c with
      | true =>
        rw [if_pos rfl] at q3 ⊢
        have R3 : RS X.K σ H3 ρ2 fp2 (B ++ (A ++ G)) := R2.pres pr
        refine ⟨ρ2, fp2, B ++ (A ++ G), _, R3, q3, fun w' r D H4 ρ4 fp4 R4 r4 x4 h4 => ?_⟩
        obtain ⟨hsl, h4⟩ := h4
        split at h4
        · rename_i y' z' e3 e4
          have r2' : ROp X.K σ H3 fp2 ρ2 (A ++ G) u q B := by
            cases q with
            | val o => exact ⟨r2.1.pres pr, r2.2⟩
            | slot j => exact r2
          refine hg' H4 (Or1 (Fo fp4) (D ++ (B ++ (A ++ G)))) u w' y' z' _ _ (r2'.rw R3 x4 R4 e3) (r4.rw0 R4 e4) h4 fun z2 o2 C2 H5 pr5 ro5 nC5 nd5 q5 => ?_
          split at q5
          · obtain ⟨rfl, ro5⟩ := ro5
            have ez := RP.boolE ro5; subst ez
            refine ⟨_, rfl, fin _ H5 ρ4 fp4 ((R4.sub (G' := G) fun a m => by simp [m]).pres pr5) ?_ q5⟩
            exact ((x1.or.trans x2.or).trans (pr.ext (F := Fo fp2))).trans (x4.or.trans pr5.ext)
          · exact q5.elim
        · exact h4.elim
      | false =>
        rw [if_neg Bool.false_ne_true] at q3 ⊢
        exact ⟨false, rfl, fin false H3 ρ2 fp2 ((R2.sub (G' := G) fun a m => by simp [m]).pres pr) ((x1.or.trans x2.or).trans pr.ext) q3⟩
    · exact q3.elim
  · exact h2.elim
end
end DL
set_option Elab.async false
set_option linter.all false
set_option maxRecDepth 100000
set_option maxHeartbeats 4000000
/-! THE DATA LAYER, part 13: constants of the module, methods of texts, xs[::-1], {}. -/
namespace DL
open PySem PySem.Spec L2
open PyProof.Rows hiding St
variable [Tbs] [Bas]
section
variable {X : Cx} {e : Expr} {te : XT} {pos : Pos}
theorem ex_gint {x : Str} {i : Int} (hg : Gl X x) (hm : ∃ t, X.mg x = some (.int i t)) (hd : (x == ("__debug__" : Str)) = false := by decide) : EX X (.Name x pos) (tCst (.int i)) := by
  obtain ⟨t, hm⟩ := hm
  exact ex_cst (pe_glob (v := .int i) hg hm ⟨t, rfl⟩ hd) fun _ _ _ => RP.int i
theorem ex_gstr {x : Str} {i : Str} (hg : Gl X x) (hm : ∃ t, X.mg x = some (.str i t)) (hd : (x == ("__debug__" : Str)) = false := by decide) : EX X (.Name x pos) (tCst (.str i)) := by
  obtain ⟨t, hm⟩ := hm
  exact ex_cst (pe_glob (v := .str i) hg hm ⟨t, rfl⟩ hd) fun _ _ _ => RP.str i
def tDct0 : XT := fun ρ Q => Q (.val (.dct [])) ρ
theorem ex_dct0 : EX X (.Dict [] [] pos) tDct0 := by
  refine ⟨PE.imp pe_dnewK ?_⟩
  rintro σ H Q ⟨ρ, fp, G, Qa, R, h, fin⟩
  intro p hp
  refine (fin_of (G := G) R (fun a m => m) Ext.refl fin) (.ref p) (.dct []) [p] _ (Pres.upd hp) ⟨p, [], rfl, rfl, upd_same, .nil⟩ (fun a m => by rw [List.mem_singleton.mp m]; exact hp) (by simp) h
/-- a method of a text without arguments -/
def tStrM (f : Str → Str) (C : Str → Prop) (te : XT) : XT := fun ρ Q => te ρ fun p ρ1 => match p.get ρ1 with
  | some (.pure (.str z)) => C z ∧ Q (.val (.pure (.str (f z)))) ρ1
  | _ => False
end
/-! ### xs[::-1] -/
section
variable {X : Cx} {e : Expr} {te : XT} {k : Nat} {p1 p2 p3 pos : Pos}
def tRev (te : XT) : XT := fun ρ Q => te ρ fun p ρ1 => match p.get ρ1 with
  | some (.pure (.tuple ts)) => Q (.val (.pure (.tuple ts.reverse))) ρ1
  | some (.lst ts) => Q (.val (.lst ts.reverse)) ρ1
  | some (.pure (.list ts)) => Q (.val (.lst ts.reverse)) ρ1
  | _ => False
end
end DL
set_option Elab.async false
set_option linter.all false
set_option maxRecDepth 100000
set_option maxHeartbeats 4000000
/-! THE DATA LAYER, part 14: several names that comprehensions share; facts of the built-ins' names. -/
namespace DL
open PySem PySem.Spec L2
open PyProof.Rows hiding St
variable [Tbs] [Bas]
theorem par_goP {K : PySem.W.Frag} {P : Nat → Bool} {js : List Nat} {ts : XTs} {n : Nat} (hn : js.length = n) (hp : (js.all fun j => !P j) = true) {D : Ends} {σ : St} {H : Hp} (h : LS K P (sPar js ts) D σ H) : LA K n ts σ H fun vs H1 => vs.length = n ∧ ∀ H', Pres H1 H' → D.nx (setV σ js vs) H' := by
  obtain ⟨ρ, fp, G, Da, R, h, f⟩ := h
  refine ⟨ρ, fp, G, _, R, h, fun vs ps A H1 ρ1 fp1 hl R1 r1 nd1 ng1 x1 h1 => ⟨hl, fun H' pr => ?_⟩⟩
  obtain ⟨os, js', ρ2, fp2, Bs, R2, r2, d2, n2, i2, _, _, _, hall, h2⟩ := prep_ok r1 R1 R.g0 (fun a z => z) ng1 nd1 h1
  obtain ⟨fp3, R3, i3, p3⟩ := puts_ok (P := P) R2 R.g0 r2 d2 n2 (by rw [hn, ← hl, r2.len.1]) (fun j m => Nat.le_of_ble_eq_true (List.all_eq_true.mp hall j m)) fun j m => by simpa using List.all_eq_true.mp hp j m
  refine f.nx _ H' _ fp3 (R3.pres pr) (x1.trans (pr.ext.weak (fun a z => ?_) fun _ z => z)) p3 h2
  exact i2 a (i3 a z)
section
variable {X : Cx} {P : Nat → Bool} {x y z : Str} {a b c : Expr} {ts : XTs} {px py pz pt pos : Pos}
theorem sx_parC2 {kt k2 pt2} (i j : Nat) (hc : X.calm = true) (hN : X.N.Nodup) (hi : X.N[i]? = some x) (hj : X.N[j]? = some y) (hx : Loc X.env.scope x) (hy : Loc X.env.scope y) (ha : EXs X [a, b] ts) (hp : (([i, j] : List Nat).all fun j => !P j) = true := by rfl)
    (fx : X.fn x = true ∨ X.env.scope.names.lookup x = some .local := by first | exact .inl rfl | exact .inr rfl) (fy : X.fn y = true ∨ X.env.scope.names.lookup y = some .local := by first | exact .inl rfl | exact .inr rfl)
    (hs : swapsWithSole [.Tuple [.Name x px, .Name y py] kt pt] (.Tuple [a, b] k2 pt2) pos.line X.env = pure false := by rfl) (hw : swappedStores [.Tuple [.Name x px, .Name y py] kt pt] (.Tuple [a, b] k2 pt2) X.env = pure none := by rfl)
    (h1 : (assignEach [.Tuple [.Name x px, .Name y py] kt pt] X.env).map (·.2) = [assign (.Tuple [.Name x px, .Name y py] kt pt) X.env] := by rfl)
    (hq1 : (assignEach [.Name x px, .Name y py] X.env).map (·.2) = assign (.Name x px) X.env :: (assignEach [.Name y py] X.env).map (·.2) := by rfl) (hq2 : (assignEach [.Name y py] X.env).map (·.2) = assign (.Name y py) X.env :: (assignEach [] X.env).map (·.2) := by rfl)
    (hn : (assignEach [.Name x px, .Name y py] X.env).length = 2 := by rfl) (hst : (assignEach [.Name x px, .Name y py] X.env).findIdx? (·.1) = none := by rfl) :
    SX X P (.Assign [.Tuple [.Name x px, .Name y py] kt pt] (.Tuple [a, b] k2 pt2) pos) (sPar [i, j] ts) := by
  refine ⟨PS.imp (ps_asg (pe_tup ha.pa) (pg_tup hc (pgs_cons (pg_name hN hi hx fx) (pgs_cons (pg_name hN hj hy fy) pgs_nil hq2) hq1) hn hst) hs hw h1) fun D σ H h => ?_⟩
  obtain ⟨ρ, fp, G, Qa, R, h, f⟩ := par_goP (n := 2) rfl hp h
  refine ⟨ρ, fp, G, Qa, R, h, fun vs ps A H1 ρ1 fp1 hl R1 r1 nd1 ng1 x1 h1 => ?_⟩
  obtain ⟨_, q⟩ := f vs ps A H1 ρ1 fp1 hl R1 r1 nd1 ng1 x1 h1
  match vs, hl with
  | [v, w], _ => exact ⟨by rw [sizeLine_eq]; simp, fun p np => ⟨p, [v, w], rfl, SqT.of upd_same, rfl, _, _, rfl, _, _, rfl, rfl, q _ (Pres.upd np)⟩⟩
end
/-! ### the built-ins' names -/
theorem bn_len : bootBuiltins "len" = some (.builtin "len") := by decide +kernel
theorem bn_all : bootBuiltins "all" = some (.builtin "all") := by decide +kernel
theorem bn_abs : bootBuiltins "abs" = some (.builtin "abs") := by decide +kernel
theorem bn_max : bootBuiltins "max" = some (.builtin "max") := by decide +kernel
theorem bn_min : bootBuiltins "min" = some (.builtin "min") := by decide +kernel
theorem bn_repr : bootBuiltins "repr" = some (.builtin "repr") := by decide +kernel
theorem bn_sorted : bootBuiltins "sorted" = some (.builtin "sorted") := by decide +kernel
theorem bn_int : bootBuiltins "int" = some (.type "int") := by decide +kernel
theorem bn_str : bootBuiltins "str" = some (.type "str") := by decide +kernel
theorem bn_bool : bootBuiltins "bool" = some (.type "bool") := by decide +kernel
theorem bn_list : bootBuiltins "list" = some (.type "list") := by decide +kernel
theorem bn_tuple : bootBuiltins "tuple" = some (.type "tuple") := by decide +kernel
theorem bn_dict : bootBuiltins "dict" = some (.type "dict") := by decide +kernel
/-- a walk whose reading is found first, then held against the wanted one -/
theorem by_t {X : Cx} {P : Nat → Bool} {b : List Stmt} {t t' : ST} (h : SXs X P b t) (e : t = t') : SXs X P b t' := e ▸ h
end DL
set_option Elab.async false
set_option linter.all false
set_option maxRecDepth 100000
set_option maxHeartbeats 4000000
/-! THE DATA LAYER, part 15: tuple(text), list(text). -/
namespace DL
open PySem PySem.Spec L2
open PyProof.Rows hiding St
variable [Tbs] [Bas]
section
variable {prog : Program} {w : World} {A : Around} {E : Value → Shared → Prop} {s : Shared} {x : Str} {t : Tok}
theorem collect_strX {Q : List Value → Shared → Prop} (hh : A.handled = none) (hn : x.cps.size ≤ sizeLine)
    (hQ : ∀ (h' : Heap) (tk : Nat) (acc : Array Value), (∀ b o, s.heap.get? b = some o → h'.get? b = some o) → ItemsOf (SignAt x) acc x.cps.size → Q acc.toList { s with heap := h', toks := tk }) :
    wpAny (model prog w) A (collect (.str x t)) Q E s := by
  unfold collect
  refine wpAny_bind (wpAny_runValue (codeAny_builtin F.entry_proto_collect ?_))
  rw [Around.under_plainId F.plain_proto_collect _]
  show wpAny _ A.in1 (newList [] >>= fun l => again (.builtin "list.__iadd__" ⟨[l, .str x t], []⟩)) _ _ s
  refine wpAny_bind (wpAny_newObj_type ?_)
  refine wpAny_pure ⟨plainId_quiet F.plain_list_iadd _, codeAny_builtin F.entry_list_iadd ?_⟩
  rw [Around.under_plainId F.plain_list_iadd _]
  show wpAny _ A.in1 (Builtin.List.listExtendWith (.ref s.heap.objs.size) (.str x t) (.ref s.heap.objs.size)) _ _ _
  have hS : (s.heap.push { cls := .type "list", data := .seq ([] : List Value).toArray }).get? s.heap.objs.size = some { cls := .type "list", data := .seq #[] 0 } := Heap.get?_push_size _ rfl
  refine wpAny_mono (wpAny_extend_str (A := A) (R := fun rr s' => rr = .ok (.ret (.ref s.heap.objs.size)) ∧ ∃ (h' : Heap) (tk : Nat) (acc : Array Value) (c' : Nat), s' = { s with heap := h', toks := tk } ∧
      (∀ b o, s.heap.get? b = some o → h'.get? b = some o) ∧ h'.get? s.heap.objs.size = some { cls := .type "list", dict := none, data := .seq acc c', slots := #[] } ∧ ItemsOf (SignAt x) acc x.cps.size)
    (s := { s with heap := s.heap.push { cls := .type "list", data := .seq ([] : List Value).toArray } }) (hn := hn) hh x t _ _ 0 hS
    (fun h' tk acc c' hk e hi => ⟨rfl, h', tk, acc, c', rfl, fun b o q => hk b o (Nat.ne_of_lt (Heap.lt_size q)) (Heap.get?_push_of_some _ q), e, hi⟩)) (fun fin s' h => ?_) (fun e s' h => ?_)
  · cases fin with
    | done f =>
      obtain ⟨e, h', tk, acc, c', rfl, hk, hS', hi⟩ := h
      cases e
      show wpAny _ A (load s.heap.objs.size >>= _) _ _ _
      exact wpAny_bind (wpAny_load hS' (wpAny_pure (hQ h' tk acc hk hi)))
    | again c' =>
      refine ⟨h.1, codeAny_mono h.2 fun rr s'' hr' => ?_⟩
      obtain ⟨rfl, h', tk, acc, c', rfl, hk, hS', hi⟩ := hr'
      show wpAny _ A (load s.heap.objs.size >>= _) _ _ _
      exact wpAny_bind (wpAny_load hS' (wpAny_pure (hQ h' tk acc hk hi)))
  · exact absurd h.1 (by simp)
theorem code_tuple_new_strX {Q₁ : Value → Shared → Prop} (hh : A.handled = none) (hn : x.cps.size ≤ sizeLine)
    (h : ∀ (h' : Heap) (tk : Nat) (acc : Array Value), (∀ b o, s.heap.get? b = some o → h'.get? b = some o) → ItemsOf (SignAt x) acc x.cps.size →
      Q₁ (.ref h'.objs.size) { s with heap := h'.push { cls := .type "tuple", data := .seq acc }, toks := tk }) :
    codeAny (model prog w) A (.call (.builtin "tuple.__new__") ⟨[.type "tuple", .str x t], []⟩) (wants Q₁ E) s := by
  refine codeAny_of_tree ?_
  show wpAny _ A.in1 (do checkBuiltinCall "tuple.__new__" ⟨[.type "tuple", .str x t], []⟩; again (.builtin "tuple.__new__" ⟨[.type "tuple", .str x t], []⟩)) _ _ s
  refine wpAny_bind (wpAny_of_eq (F.newCall_tuple_1 _) (wpAny_pure ⟨plainId_quiet F.plain_tuple_new _, codeAny_builtin F.entry_tuple_new ?_⟩))
  rw [Around.under_plainId F.plain_tuple_new _]
  have hsub := sub_tuple_self
  have hinit := init_tuple_lookup
  have hmh := madeHere_tuple
  have hTI : s.TypeIs (.str x t) "str" := rfl
  have hh1 : A.in1.handled = none := hh
  wp_walk using wpAny_typeOf hTI, collect_strX (A := A.in1) hh1 hn
  intro h' tk acc hk hacc
  show wpAny _ _ (Builtin.Tuple.tupleExact acc.toList.toArray >>= fun v => ret v) _ _ _
  unfold Builtin.Tuple.tupleExact
  refine wpAny_bind (wpAny_newObj_type ?_ (by show acc.toList.toArray.size ≤ sizeLine; simp only [Array.toArray_toList]; rw [hacc.1]; exact hn))
  refine wpAny_pure ?_
  have e : acc.toList.toArray = acc := by simp
  rw [e]
  exact h h' tk acc hk hacc
theorem call_tuple_strX {Q : Value → Shared → Prop} (hh : A.handled = none) (hn : x.cps.size ≤ sizeLine)
    (hQ : ∀ (h' : Heap) (tk : Nat) (acc : Array Value), (∀ b o, s.heap.get? b = some o → h'.get? b = some o) → ItemsOf (SignAt x) acc x.cps.size →
      Q (.ref h'.objs.size) { s with heap := h'.push { cls := .type "tuple", data := .seq acc }, toks := tk }) :
    wpAny (model prog w) A (call (.type "tuple") [.str x t]) Q E s := by
  refine callType_codes (Q₁ := fun obj s₁ => s₁.TypeIs obj "tuple" ∧ Q obj s₁) F.called_tuple (F.typeCall_tuple_1 _) F.entry_object_init
    (code_tuple_new_strX (A := A.in1) hh hn fun h' tk acc hk hacc => ⟨⟨_, Heap.get?_push_size _ rfl, rfl⟩, hQ h' tk acc hk hacc⟩) fun obj s₁ h₁ => ?_
  exact ⟨h₁.1, F.args_object_init_2 obj _, object_init_meets F.called_tuple.init.lookup F.called_tuple.made (by decide) prog w A.in1 _ s₁ ⟨h₁.1, rfl, h₁.2⟩⟩
end
section
variable {X : Cx}
def signV (x : Str) : List V := x.cps.toList.map fun c => V.str ⟨#[c]⟩
theorem vals_sign {x : Str} {acc : Array Value} (h : ItemsOf (SignAt x) acc x.cps.size) : Vals (signV x) acc.toList := by
  refine vals_of_at (by simp [signV, h.1]) fun j v u h1 h2 => ?_
  obtain ⟨c, t, hc, rfl⟩ := h.2 j u (by rw [← Array.getElem?_toList]; exact h2)
  unfold signV at h1
  rw [List.getElem?_map, Array.getElem?_toList, hc] at h1
  cases h1
  exact ⟨t, rfl⟩
theorem rps_sign {K : PySem.W.Frag} {H : Hp} {F : Addr → Prop} (x : Str) : RPs K H F (signV x) (strItems x) := by
  unfold signV strItems
  generalize x.cps.toList = l
  induction l with
  | nil => exact .nil
  | cons c l ih => exact .cons (RP.str _) ih
def gListOf : GN := fun os Q => match os with
  | [.pure (.str x)] => x.length ≤ 1000000 ∧ Q (.lst (strItems x))
  | [o] => match seqO o with
    | some ts => Q (.lst ts)
    | none => False
  | _ => False
def gTupOf : GN := fun os Q => match os with
  | [.pure (.str x)] => x.length ≤ 1000000 ∧ Q (.pure (.tuple (strItems x)))
  | [o] => match seqO o with
    | some ts => Q (.pure (.tuple ts))
    | none => False
  | _ => False
theorem sign_fits {x : Str} (h : x.length ≤ 1000000) : x.cps.size ≤ sizeLine ∧ (signV x).length ≤ sizeLine := by
  have : x.length = x.cps.size := rfl
  rw [sizeLine_eq]
  unfold signV
  rw [List.length_map, Array.length_toList]
  omega
theorem callA_list (hc : X.calm = true) : CallA X (.type "list") gListOf := CallA.mk fun pins s σ H F vs xs us Q Qa I r hx h fin => by
  unfold gListOf at h
  split at h
  · rename_i x
    cases hx with
    | cons h1 hr =>
      cases hr
      obtain ⟨hz, h⟩ := h
      obtain rfl := RP.strE h1
      obtain ⟨u, rfl, rx⟩ := vals1 r
      obtain ⟨t, rfl⟩ := rx
      obtain ⟨f1, f2⟩ := sign_fits hz
      refine call_list_str (hn := f1) (I.ok.hd hc) x t fun h' tk acc' c' hk e hi => ?_
      exact ⟨.ref s.heap.objs.size, _, I.laid hk (Nat.le_refl _) (show ObjOk X.prog X.w _ _ _ (.lst (signV x)) from ⟨f2, acc'.toList, c', vals_sign hi, by rw [Array.toArray_toList]; exact e⟩), rfl,
        fin.lst (I.hok.fresh (Nat.le_refl _)) (rps_sign x) h⟩
  · rename_i o _
    obtain ⟨r', h1, h2⟩ := callA_listS (X := X)
    exact h1 pins s σ H vs us Q I r (h2 H F vs _ Q Qa hx h fin)
  · exact h.elim
theorem callA_tuple (hc : X.calm = true) : CallA X (.type "tuple") gTupOf := CallA.mk fun pins s σ H F vs xs us Q Qa I r hx h fin => by
  unfold gTupOf at h
  split at h
  · rename_i x
    cases hx with
    | cons h1 hr =>
      cases hr
      obtain ⟨hz, h⟩ := h
      obtain rfl := RP.strE h1
      obtain ⟨u, rfl, rx⟩ := vals1 r
      obtain ⟨t, rfl⟩ := rx
      obtain ⟨f1, f2⟩ := sign_fits hz
      refine call_tuple_strX (I.ok.hd hc) f1 fun h' tk acc hk hi => ?_
      have I2 : Inv X pins σ H { s with heap := h', toks := tk } := I.kept hk
      have eo : (h'.push { cls := .type "tuple", data := .seq acc }).get? h'.objs.size = some (tupO acc.toList) := by
        unfold tupO; rw [Array.toArray_toList]; exact Heap.get?_push_size _ rfl
      exact ⟨.ref h'.objs.size, _, laidT (s := { s with heap := h', toks := tk }) (tk := tk) I2 (vals_sign hi) f2 (fun c o e => Heap.get?_push_of_some _ e) eo (Nat.le_refl _), rfl, fin.tup (I2.hok.fresh (Nat.le_refl _)) (rps_sign x) h⟩
  · rename_i o _
    obtain ⟨r', h1, h2⟩ := callA_tupleS (X := X)
    exact h1 pins s σ H vs us Q I r (h2 H F vs _ Q Qa hx h fin)
  · exact h.elim
end
end DL
set_option Elab.async false
set_option linter.all false
set_option maxRecDepth 100000
set_option maxHeartbeats 4000000
/-! THE DATA LAYER, part 16: sets of ints and texts, as the table that they are. -/
namespace DL
open PySem PySem.Spec L2
open PyProof.Rows hiding St
variable [Tbs] [Bas]
noncomputable instance memDec (k : Key) (ks : List Key) : Decidable (k ∈ ks) := Classical.propDecidable _
/-- a value as a key -/
def keyX : Value → Key
  | .int k _ => .inl k
  | .str x _ => .inr x
  | _ => .inl 0
def GoodX (P : Program) (w : World) (e : Int × Value) : Prop := ∃ k : Key, RelV (kV k) e.2 ∧ e.1 = (mixKind P w).hash k
/-- the set at a has the members ks -/
def SetX (P : Program) (w : World) (h : Heap) (a : Addr) (ks : List Key) : Prop :=
  ∃ o es ep t, h.get? a = some o ∧ o.ExactSet ∧ o.data = .set es ep t ∧ (∀ e ∈ es.toList, GoodX P w e) ∧ (es.toList.map fun e => keyX e.2).Perm ks ∧ ks.Nodup ∧
    es.size < scanBound ∧ t.fits es.size = true ∧ Ris t.place.toList ∧ (w.params.followText "set-order" = true ∨ t.led = true)
section
variable {P : Program} {w : World} {h h' : Heap} {a : Addr} {ks : List Key}
theorem SetX.at (R : SetX P w h a ks) (k : ∀ o, h.get? a = some o → h'.get? a = some o) : SetX P w h' a ks := by
  obtain ⟨o, es, ep, t, ho, r⟩ := R
  exact ⟨o, es, ep, t, k o ho, r⟩
end
end DL
set_option Elab.async false
set_option linter.all false
set_option maxRecDepth 100000
set_option maxHeartbeats 4000000
/-! THE DATA LAYER, part 17: sorted of data, sorted(set(x)), len(set(x)), strip(signs). -/
namespace DL
open PySem PySem.Spec L2
open PyProof.Rows hiding St
variable [Tbs] [Bas]
/-! ### sorted of any data that are alike -/
/-- a comes not behind b -/
def dLe (a b : T) : Bool := !PySem.W.dataLt b a
def gSortD : GN := fun os Q => match os with
  | [o] => match lsO o with
    | some ts => PySem.W.AllAlike ts ∧ PySem.W.Sortable ts ∧ (∀ t ∈ ts, t.depth ≤ 100) ∧ ts.length ≤ 1000000 ∧ Q (.lst (ts.mergeSort dLe))
    | none => False
  | _ => False
theorem paired_zip {α β : Type} {G : α → β → Prop} : ∀ {l : List α} {r : List β}, Paired G l r → (l.zip r).map (·.1) = l ∧ (l.zip r).map (·.2) = r ∧ ∀ p ∈ l.zip r, G p.1 p.2
  | _, _, .nil => ⟨rfl, rfl, fun _ m => by simp at m⟩
  | _, _, .cons h t => by
    obtain ⟨h1, h2, h3⟩ := paired_zip t
    refine ⟨by simp [h1], by simp [h2], fun p m => ?_⟩
    rcases List.mem_cons.mp (by simpa using m) with e | e
    · rw [e]; exact h
    · exact h3 p e
theorem paired_of {α β γ : Type} {G : β → γ → Prop} {f : α → β} {g : α → γ} : ∀ {l : List α}, (∀ a ∈ l, G (f a) (g a)) → Paired G (l.map f) (l.map g)
  | [], _ => .nil
  | a :: l, h => .cons (h a List.mem_cons_self) (paired_of fun b m => h b (List.mem_cons_of_mem _ m))
theorem each_vals {γ : Type} : ∀ {ps : List (V × γ)} {us : List Value}, Vals (ps.map (·.1)) us → PySem.W.EachIs (fun u (p : V × γ) => RelV p.1 u) us ps
  | [], _, .nil => .nil
  | _ :: _, _, .cons h t => .cons h (each_vals t)
theorem vals_each {γ : Type} : ∀ {us : List Value} {ps : List (V × γ)}, PySem.W.EachIs (fun u (p : V × γ) => RelV p.1 u) us ps → Vals (ps.map (·.1)) us
  | _, _, .nil => .nil
  | _, _, .cons h t => .cons h (vals_each t)
theorem each_reads {γ : Type} {R : Value → V × γ → Prop} : ∀ {us : List Value} {ps : List (V × γ)}, PySem.W.EachIs (fun u (p : V × γ) => RelV p.1 u) us ps → (∀ p ∈ ps, ∀ u, RelV p.1 u → R u p) → PySem.W.EachIs R us ps
  | _, _, .nil, _ => .nil
  | _, _, .cons h t, w => .cons (w _ List.mem_cons_self _ h) (each_reads t fun p m => w p (List.mem_cons_of_mem _ m))
theorem sort_snd {γ : Type} (ps : List (γ × T)) : (ps.mergeSort (PySem.W.dataLe false fun p : γ × T => p.2)).map (·.2) = (ps.map (·.2)).mergeSort dLe := by
  have e : PySem.W.dataLe false (fun p : γ × T => p.2) = fun p q => dLe p.2 q.2 := rfl
  rw [e]
  exact (List.map_mergeSort (f := fun p : γ × T => p.2) (fun _ _ _ _ => rfl)).symm ▸ rfl
section
variable {X : Cx}
theorem callA_sortD (hu : X.A.units + 200 < cLine) : CallA X (.builtin "sorted") gSortD := CallA.mk fun pins s σ H F vs xs us Q Qa I r hx h fin => by
  unfold gSortD at h
  split at h
  · cases hx with
    | cons h1 hr =>
      cases hr
      split at h
      · rename_i ts el
        obtain ⟨ha, hk, hd, hz, h⟩ := h
        obtain ⟨a, vs, rfl, hq, r2⟩ := RW.ls h1 el
        obtain ⟨u, rfl, rx⟩ := vals1 r
        cases rx
        obtain ⟨its, rv, pl, _⟩ := I.list hq
        obtain ⟨z1, z2, z3⟩ := paired_zip r2
        have e0 : Vals ((vs.zip ts).map (·.1)) its := by rw [z1]; exact rv
        have e1 := each_vals e0
        have hl : (vs.zip ts).length = ts.length := by rw [← List.length_map (f := (·.2)), z2]
        refine PySem.W.sorted_data (bs := vs.zip ts) (enc := fun p : V × T => p.2) pl.isList e1 (each_reads e1 fun p m u ru => ?_) (by rw [z2]; exact ha) (by rw [z2]; exact hk) (by rw [hl, sizeLine_eq]; omega) (fun p m => ?_) fun out ho e2 => ?_
        · obtain ⟨as, q, _⟩ := z3 p m
          exact RV.reads I q ru
        · have := hd p.2 (by rw [← z2]; exact List.mem_map_of_mem m)
          omega
        · have rr := vals_each e2
          have pm := List.mergeSort_perm (vs.zip ts) (PySem.W.dataLe false fun p : V × T => p.2)
          have hlen : (((vs.zip ts).mergeSort (PySem.W.dataLe false fun p : V × T => p.2)).map (·.1)).length ≤ sizeLine := by
            rw [List.length_map, pm.length_eq, hl, sizeLine_eq]; omega
          obtain ⟨ep, he'⟩ := PyProof.Rows.sortedAll_at s.heap its out.toArray
          refine ⟨.ref _, upd H (s.heap.objs.size + 1) (.lst (((vs.zip ts).mergeSort (PySem.W.dataLe false fun p : V × T => p.2)).map (·.1))), I.laid (t' := s.toks) (fun _ _ => PyProof.Rows.sortedAll_old) (Nat.le_succ _) ⟨hlen, out, ep, rr, he'⟩, rfl, ?_⟩
          refine fin.lst (I.hok.fresh (Nat.le_succ _)) (ts := ts.mergeSort dLe) ?_ h
          rw [← z2, ← sort_snd, z2]
          exact paired_of fun p m => z3 p (pm.mem_iff.mp m)
      · exact h.elim
  · exact h.elim
end
/-! ### strip(signs) -/
/-! ### sets of keys, once made -/
def SetH (P : Program) (w : World) (a : Addr) (ks : List Key) : HO := .ext fun h => SetX P w h a ks
section
variable {X : Cx}
/-- set(x) of a list or a tuple of keys -/
def rSetX (K : PySem.W.Frag) (P : Program) (w : World) : List V → Hp → VK → Prop := fun xs H Q => ∃ (l : Addr) (ls : List Key), xs = [V.ref l] ∧ (SqL K H l (ls.map kV) ∨ SqT K H l (ls.map kV)) ∧ ls.length < 4000 ∧
  ∀ p ks, H p = none → ks.Nodup → (∀ x, x ∈ ks ↔ x ∈ ls) → ks.length ≤ ls.length → Q (.ref p) (upd H p (SetH P w p ks))
/-! ### sorted(set(x)), len(set(x)) -/
def gSortSet : GN := fun os Q => match os with
  | [o] => match seqO o with
    | some ts => ts.length < 4000 ∧ ((∃ ns : List Int, ts = ns.map .int ∧ ∀ ms : List Int, ms.Nodup → (∀ x, x ∈ ms ↔ x ∈ ns) → ms.Pairwise (· ≤ ·) → Q (.lst (ms.map .int))) ∨
      (∃ ns : List Str, ts = ns.map .str ∧ ∀ ms : List Str, ms.Nodup → (∀ x, x ∈ ms ↔ x ∈ ns) → sortedS ms = true → Q (.lst (ms.map .str))))
    | none => False
  | _ => False
theorem RPs.intsE {K : PySem.W.Frag} {H : Hp} {F : Addr → Prop} : ∀ {vs : List V} {ns : List Int}, RPs K H F vs (ns.map PyData.int) → vs = ns.map V.int
  | _, [], .nil => rfl
  | _, n :: ns, .cons h t => by rw [RP.intE h, RPs.intsE t]; rfl
end
section
variable {X : Cx}
/-- sorted of texts, of data that are alike -/
def gSort : GN := fun os Q => gSortS os Q ∨ gSortD os Q
theorem callA_sort (hu : X.A.units + 200 < cLine) : CallA X (.builtin "sorted") gSort := by
  obtain ⟨r1, h1, g1⟩ := callA_sortS (X := X)
  obtain ⟨r2, h2, g2⟩ := callA_sortD hu
  exact ⟨_, CallR.or h1 h2, fun H F vs xs Q Qa hx h fin => h.imp (fun h => g1 H F vs xs Q Qa hx h fin) fun h => g2 H F vs xs Q Qa hx h fin⟩
end
end DL
set_option Elab.async false
set_option linter.all false
set_option maxRecDepth 100000
set_option maxHeartbeats 4000000
/-! THE DATA LAYER, part 18: a chain of comparisons as a value. -/
namespace DL
open PySem PySem.Spec L2
open PyProof.Rows hiding St
variable [Tbs] [Bas]
section
variable {X : Cx}
theorem chain_lt {g g' : G2} {r r' : R2} {ta tb tc : XT} (hg : ∀ H F v u x y Q Qa, RW X.K H F v x → RW X.K H F u y → g x y Qa → FinV X.K H F Qa Q → r v u H Q)
    (hg' : ∀ H F v u x y Q Qa, RW X.K H F v x → RW X.K H F u y → g' x y Qa → FinV X.K H F Qa Q → r' v u H Q) : ∀ (σ : St) (H : Hp) (Q : Bool → Hp → Prop), LT X.K (tChainA g g' ta tb tc) σ H Q → tTest (tChain r r' (LX X.K ta) (LX X.K tb) (LX X.K tc)) σ H Q := by
  rintro σ H Q ⟨ρ, fp, G, Qa, R, h, fin⟩
  refine ⟨ρ, fp, G, _, R, h, fun v p A H1 ρ1 fp1 R1 r1 x1 h1 => ?_⟩
  refine ⟨ρ1, fp1, A ++ G, _, R1, h1, fun u q B H2 ρ2 fp2 R2 r2 x2 h2 => ?_⟩
  unfold g2 at h2
  split at h2
  · rename_i x y e1 e2
    refine hg H2 (Or1 (Fo fp2) (B ++ (A ++ G))) v u x y _ _ (r1.rw R1 x2 R2 e1) (r2.rw0 R2 e2) h2 fun z o C H3 pr ro nC ndC q3 => ?_
    unfold bO at q3
    split at q3
    · rename_i c
      obtain ⟨rfl, ro⟩ := ro
      have ez := RP.boolE ro; subst ez
      refine ⟨c, rfl, ?_⟩
      cases c with
      | true =>
        rw [if_pos rfl] at q3 ⊢
        have R3 : RS X.K σ H3 ρ2 fp2 (B ++ (A ++ G)) := R2.pres pr
        refine ⟨ρ2, fp2, B ++ (A ++ G), _, R3, q3, fun w' r D H4 ρ4 fp4 R4 r4 x4 h4 => ?_⟩
        obtain ⟨hsl, h4⟩ := h4
        split at h4
        · rename_i y' z' e3 e4
          have r2' : ROp X.K σ H3 fp2 ρ2 (A ++ G) u q B := by
            cases q with
            | val o => exact ⟨r2.1.pres pr, r2.2⟩
            | slot j => exact r2
          refine hg' H4 (Or1 (Fo fp4) (D ++ (B ++ (A ++ G)))) u w' y' z' _ _ (r2'.rw R3 x4 R4 e3) (r4.rw0 R4 e4) h4 fun z2 o2 C2 H5 pr5 ro5 nC5 nd5 q5 => ?_
          split at q5
          · obtain ⟨rfl, ro5⟩ := ro5
            have ez := RP.boolE ro5; subst ez
            refine ⟨_, rfl, fin _ H5 ρ4 fp4 ((R4.sub (G' := G) fun a m => by simp [m]).pres pr5) ?_ q5⟩
            exact ((x1.or.trans x2.or).trans (pr.ext (F := Fo fp2))).trans (x4.or.trans pr5.ext)
          · exact q5.elim
        · exact h4.elim
      | false =>
        rw [if_neg Bool.false_ne_true] at q3 ⊢
        exact ⟨false, rfl, fin false H3 ρ2 fp2 ((R2.sub (G' := G) fun a m => by simp [m]).pres pr) ((x1.or.trans x2.or).trans pr.ext) q3⟩
    · exact q3.elim
  · exact h2.elim
/-- a < b < c as a value -/
def tChainE (g g' : G2) (ta tb tc : XT) : XT := fun ρ Q => tChainA g g' ta tb tc ρ fun b ρ1 => Q (.val (.pure (.bool b))) ρ1
theorem ex_chainE {op op' : CmpOp} {g g' : G2} {a b c : Expr} {ta tb tc : XT} {pos : Pos} (ho : OpA X (compareOp op) g) (ho' : OpA X (compareOp op') g') (ha : EX X a ta) (hb : EX X b tb) (hc : EX X c tc)
    (hm : lastMarks [op, op'] [b, c] = false := by with_unfolding_all rfl) : EX X (.Compare a [op, op'] [b, c] pos) (tChainE g g' ta tb tc) := by
  obtain ⟨r, hr, hg⟩ := ho
  obtain ⟨r', hr', hg'⟩ := ho'
  have e := pe_chain (pos := pos) hr hr' ha.pe hb.pe hc.pe hm
  refine ⟨⟨fun pins s σ H Q I h => ?_⟩⟩
  obtain ⟨ρ, fp, G, Qa, R, h, fin⟩ := h
  have h2 : LT X.K (tChainA g g' ta tb tc) σ H fun b H' => Q (.bl b) H' := ⟨ρ, fp, G, _, R, h, fun b H' ρ' fp' R' x' q => by
    have rb : ROp X.K σ H' fp' ρ' G (.bl b) (.val (.pure (.bool b))) [] := rop_pure (RP.bl b)
    refine fin (.bl b) (.val (.pure (.bool b))) [] H' ρ' fp' R' rb ?_ q
    exact x'.weak (fun a z => z) fun a z => z.elim id fun m => nomatch m⟩
  refine wpAny_mono (e.run pins s σ H _ I (chain_lt hg hg' σ H _ h2)) (fun u s' ⟨v, H', I', r', k, ev, q⟩ => ?_) fun _ _ z => z
  subst ev
  exact ⟨_, H', I', r', q⟩
/-- tuple(range(n)), list(range(n)) -/
def rgK (lst : Bool) (ρ : AEnv) (Q : Opd → AEnv → Prop) : Option O → Prop
  | some (.pure (.int n)) => 0 ≤ n ∧ n ≤ 1000000 ∧ Q (.val (if lst = true then .lst (rngItems 0 n.toNat) else .pure (.tuple (rngItems 0 n.toNat)))) ρ
  | _ => False
def tRg (lst : Bool) (ta : XT) : XT := fun ρ Q => ta ρ fun p ρ1 => rgK lst ρ1 Q (p.get ρ1)
/-- text * n -/
def repS (x : Str) (k : Int) : Str := ⟨(List.replicate k.toNat x.cps).foldl (· ++ ·) #[]⟩
def gMulS : G2 := fun x y Q => match x, y with
  | .pure (.str z), .pure (.int k) => 2 ≤ k ∧ k ≤ 10000 ∧ 1 ≤ z.length ∧ z.length ≤ 1000 ∧ Q (.pure (.str (repS z k)))
  | _, _ => False
theorem opA_mulS : OpA X (binaryOp .Mult) gMulS := OpA.mk fun pins s σ H F v u x y a b Q Qa I rx ry hx hy h fin => by
  unfold gMulS at h
  split at h
  · rename_i z k
    obtain ⟨h1, h2, h3, h4, h⟩ := h
    have e1 := RP.strE hx; have e2 := RP.intE hy; subst e1 e2
    obtain ⟨t, rfl⟩ := rx
    obtain ⟨t', rfl⟩ := ry
    have c1 : ¬ k < 1 := by omega
    have c2 : (k == 1 || z.length == 0) = false := by simp; omega
    have hz : z.length * k.toNat ≤ 1000 * 10000 := Nat.mul_le_mul h4 (by omega)
    refine PySem.P.mul_str (by simp; omega) (fun _ _ => ?_) (fun _ _ => ?_) ?_
    · have : (1000 : Int) ≤ (2 ^ 63 - 1) / k := (Int.le_ediv_iff_mul_le (by omega)).mpr (by omega)
      omega
    · exact short24 (by omega)
    · rw [if_neg c1, if_neg (by rw [c2]; decide)]
      refine ⟨?_, ⟨.str (repS z k), H, I.tok _, ⟨_, rfl⟩, fin.str h⟩⟩
      exact fits_reps (short24 (by omega))
  · exact h.elim
def gMul2 : G2 := fun x y Q => match x with
  | .pure (.str z) => gMulS (.pure (.str z)) y Q
  | x => gMul x y Q
theorem gMul2_s {z : Str} {y : O} {Q : O → Prop} : gMul2 (.pure (.str z)) y Q = gMulS (.pure (.str z)) y Q := rfl
theorem gMul2_i {i : Int} {y : O} {Q : O → Prop} : gMul2 (.pure (.int i)) y Q = gMul (.pure (.int i)) y Q := rfl
theorem gMul2_l {ts : List T} {y : O} {Q : O → Prop} : gMul2 (.lst ts) y Q = gMul (.lst ts) y Q := rfl
theorem opA_mul2 : OpA X (binaryOp .Mult) gMul2 := OpA.alt (g := gMulS) (g' := gMul) opA_mulS opA_mul fun x y Qa h => by
  unfold gMul2 at h
  split at h
  · exact .inl h
  · exact .inr h
end
end DL
set_option Elab.async false
set_option linter.all false
set_option maxRecDepth 100000
set_option maxHeartbeats 4000000
/-! THE DATA LAYER, part 19: strip(signs). -/
namespace DL
open PySem PySem.Spec L2
open PyProof.Rows hiding St
variable [Tbs] [Bas]
section
variable {X : Cx}
def strip2K (x : Str) (ρ : AEnv) (Q : Opd → AEnv → Prop) : Option O → Prop
  | some (.pure (.str y)) => x.length ≤ 16777216 ∧ Q (.val (.pure (.str (Txt.stripChars x y)))) ρ
  | _ => False
def strip1K (tc : XT) (ρ : AEnv) (Q : Opd → AEnv → Prop) : Option O → Prop
  | some (.pure (.str x)) => tc ρ fun q ρ2 => strip2K x ρ2 Q (q.get ρ2)
  | _ => False
def tStripX (te tc : XT) : XT := fun ρ Q => te ρ fun p ρ1 => strip1K tc ρ1 Q (p.get ρ1)
theorem ex_stripC {e c : Expr} {te tc : XT} {apos pos : Pos} (he : EX X e te) (hcx : EX X c tc) (hs : starEach [c] X.env = [(false, eval c X.env)] := by rfl) (hbase : attributeBase e "strip" X.env (eval e X.env) = eval e X.env := by rfl) (hline : (apos.endLine == pos.line) = true := by rfl) :
    EX X (.Call (.Attribute e "strip" apos) [c] [] pos) (tStripX te tc) := by
  refine ⟨PE.imp (pe_m1 F.slot_str_strip F.type_str_strip mt_stripChars he.pe hcx.pe hs hbase hline) ?_⟩
  rintro σ H Q ⟨ρ, fp, G, Qa, R, h, fin⟩
  refine ⟨ρ, fp, G, _, R, h, fun v p A H1 ρ1 fp1 R1 r1 x1 h1 => ?_⟩
  unfold strip1K at h1
  split at h1
  · rename_i x e1
    have ev := RP.strE (r1.rw0 R1 e1)
    subst ev
    refine ⟨⟨x, rfl⟩, ρ1, fp1, A ++ G, _, R1, h1, fun u q B H2 ρ2 fp2 R2 r2 x2 h2 => ?_⟩
    unfold strip2K at h2
    split at h2
    · rename_i y e2
      have eu := RP.strE (r2.rw0 R2 e2)
      subst eu
      exact ⟨x, y, rfl, rfl, by rw [sizeLine_eq]; exact h2.1, FinV.str (fin_of (G := G) R2 (fun a m => by simp [m]) (x1.or.trans x2.or) fin) h2.2⟩
    · exact h2.elim
  · exact h1.elim
end
end DL
set_option Elab.async false
set_option linter.all false
set_option maxRecDepth 100000
set_option maxHeartbeats 4000000
/-! THE DATA LAYER, part 20: dicts by key, dict(list of pairs), min and max of two texts. -/
namespace DL
open PySem PySem.Spec L2
open PyProof.Rows hiding St
variable [Tbs] [Bas]
def keyOf : T → Option Key
  | .int i => some (.inl i)
  | .str x => some (.inr x)
  | _ => none
def keysT : List (T × T) → Option (List (Key × T))
  | [] => some []
  | (a, b) :: r => match keyOf a, keysT r with
    | some k, some l => some ((k, b) :: l)
    | _, _ => none
/-- the entries of a dict that is not one of owned lists -/
def dcX : O → Option (List (Key × T))
  | .dct kts => some kts
  | .pure (.dict l) => keysT l
  | _ => none
def klook (l : List (Key × T)) (k : Key) : Option T := (l.find? fun p => decide (p.1 = k)).map (·.2)
/-- the entry, in its place or at the end -/
def kput (l : List (Key × T)) (k : Key) (t : T) : List (Key × T) :=
  if (l.any fun p => decide (p.1 = k)) = true then l.map (fun p => if p.1 = k then (p.1, t) else p) else l ++ [(k, t)]
def kmerge (l more : List (Key × T)) : List (Key × T) := more.foldl (fun acc p => kput acc p.1 p.2) l
theorem keyOf_keyT (k : Key) : keyOf (keyT k) = some k := by cases k <;> rfl
section
variable {K : PySem.W.Frag} {H : Hp} {F : Addr → Prop}
abbrev PKV (K : PySem.W.Frag) (H : Hp) (F : Addr → Prop) : List (Key × V) → List (Key × T) → Prop := Paired (fun (p : Key × V) (q : Key × T) => p.1 = q.1 ∧ RP K H F p.2 q.2)
theorem pkv_zip : ∀ {kvs : List (Key × V)} {ts : List T} {l : List (Key × T)}, RPs K H F (kvs.map (·.2)) ts → keysT (List.zipWith (fun (p : Key × V) (t : T) => (keyT p.1, t)) kvs ts) = some l → PKV K H F kvs l
  | [], ts, l, r, e => by
    cases ts with
    | nil => cases e; exact .nil
    | cons t ts => cases e; exact .nil
  | p :: kvs, [], l, r, e => by cases r
  | p :: kvs, t :: ts, l, r, e => by
    rw [List.map_cons] at r
    cases r with
    | cons h r =>
      rw [List.zipWith_cons_cons, keysT, keyOf_keyT] at e
      cases q : keysT (List.zipWith (fun (p : Key × V) (t : T) => (keyT p.1, t)) kvs ts) with
      | none => rw [q] at e; cases e
      | some m =>
        rw [q] at e; cases e
        exact .cons ⟨rfl, h⟩ (pkv_zip r q)
theorem RW.dc {v : V} {o : O} {l : List (Key × T)} (h : RW K H F v o) (e : dcX o = some l) : ∃ a kvs, v = .ref a ∧ Rd H a (.dK kvs) ∧ PKV K H F kvs l := by
  unfold dcX at e
  split at e
  · cases e
    obtain ⟨a, kvs, rfl, h1, h2⟩ := h
    exact ⟨a, kvs, rfl, .inl h1, h2⟩
  · obtain ⟨a, kvs, ts, rfl, h1, h2, _, e2⟩ := RP.dctE h
    rw [e2] at e
    exact ⟨a, kvs, rfl, h1, pkv_zip h2 e⟩
  · cases e
theorem PKV.look {k : Key} : ∀ {kvs : List (Key × V)} {l : List (Key × T)}, PKV K H F kvs l → match klook l k with
    | some t => ∃ v, valV kvs k = some v ∧ RP K H F v t
    | none => valV kvs k = none
  | _, _, .nil => rfl
  | p :: kvs, q :: l, .cons h r => by
    have ih := PKV.look (k := k) r
    unfold klook at ih ⊢
    by_cases e : p.1 = k
    · rw [List.find?_cons, show decide (q.1 = k) = true by rw [← h.1]; exact decide_eq_true e, Option.map_some]
      exact ⟨p.2, valV_pos e, h.2⟩
    · rw [List.find?_cons, show decide (q.1 = k) = false by rw [← h.1]; exact decide_eq_false e, valV_neg e]
      exact ih
theorem PKV.anyK {k : Key} : ∀ {kvs : List (Key × V)} {l : List (Key × T)}, PKV K H F kvs l → (kvs.any fun p => decide (p.1 = k)) = l.any fun p => decide (p.1 = k)
  | _, _, .nil => rfl
  | _ :: _, _ :: _, .cons h r => by rw [List.any_cons, List.any_cons, PKV.anyK r, h.1]
theorem PKV.mapK {k : Key} {v : V} {t : T} (g : RP K H F v t) : ∀ {kvs : List (Key × V)} {l : List (Key × T)}, PKV K H F kvs l → PKV K H F (kvs.map fun kv => if kv.1 = k then (kv.1, v) else kv) (l.map fun p => if p.1 = k then (p.1, t) else p)
  | _, _, .nil => .nil
  | p :: _, q :: _, .cons h r => by
    rw [List.map_cons, List.map_cons]
    refine .cons ?_ (PKV.mapK g r)
    by_cases e : p.1 = k
    · rw [if_pos e, if_pos (h.1 ▸ e)]; exact ⟨h.1, g⟩
    · rw [if_neg e, if_neg (h.1 ▸ e)]; exact h
theorem PKV.put {k : Key} {v : V} {t : T} {kvs : List (Key × V)} {l : List (Key × T)} (r : PKV K H F kvs l) (g : RP K H F v t) : PKV K H F (putK kvs k v) (kput l k t) := by
  unfold putK kput
  rw [r.anyK]
  split
  · exact r.mapK g
  · exact Paired.app r (.cons ⟨rfl, g⟩ .nil)
theorem PKV.merge : ∀ {more : List (Key × V)} {mt : List (Key × T)} {kvs : List (Key × V)} {l : List (Key × T)}, PKV K H F more mt → PKV K H F kvs l → PKV K H F (mergeK kvs more) (kmerge l mt)
  | _, _, _, _, .nil, r => r
  | p :: more, q :: mt, kvs, l, .cons h m, r => by
    have := PKV.merge m (r.put (k := p.1) h.2)
    unfold mergeK kmerge at this ⊢
    rw [List.foldl_cons, List.foldl_cons, ← h.1]
    exact this
theorem key_kV {v : V} {t : T} {k : Key} (h : RP K H F v t) (e : keyOf t = some k) : v = kV k := by
  cases t with
  | int i => cases e; exact h.intE
  | str x => cases e; exact h.strE
  | _ => cases e
end
/-- d[k] -/
def gIxD : G2 := fun x y Q => match dcX x, y with
  | some l, .pure t => match keyOf t with
    | some k => match klook l k with
      | some t => Q (.pure t)
      | none => False
    | none => False
  | _, _ => False
theorem ixA_dict {X : Cx} (hu : X.A.units + 1 < cLine) : IxA X gIxD := by
  refine ⟨fun x y H Q => ∃ a v, x = .ref a ∧ DGet H a y (some v) ∧ Q v H, ?_, fun H F v u x y Q Qa hx hy h fin => ?_⟩
  · intro value slice pins s σ H x y v u Q I rx ry h hs
    obtain ⟨a, z, rfl, g, q⟩ := h
    obtain rfl : v = Value.ref a := rx
    exact tail_any (dict_typeIs I g) PySem.F.slot_dict_getitem.lookup (d_getItem hu I g ry fun w' s' I' rw' => ⟨z, H, I', rw', q⟩) hs
  · unfold gIxD at h
    split at h
    · rename_i l t e
      split at h
      · rename_i k ek
        obtain ⟨a, kvs, rfl, rd, pk⟩ := hx.dc e
        have lk := pk.look (k := k)
        split at h
        · rename_i t' et
          rw [et] at lk
          obtain ⟨z, e1, e2⟩ := lk
          exact ⟨a, z, rfl, .inl ⟨kvs, k, rd, key_kV hy ek, e1.symm⟩, fin.pure e2 h⟩
        · exact h.elim
      · exact h.elim
    · exact h.elim
/-! ### dict(list of pairs) -/
def pairT : T → Option (Key × T)
  | .tuple [a, b] => match keyOf a with
    | some k => some (k, b)
    | none => none
  | _ => none
def pairsT : List T → Option (List (Key × T))
  | [] => some []
  | t :: r => match pairT t, pairsT r with
    | some p, some l => some (p :: l)
    | _, _ => none
section
variable {K : PySem.W.Frag} {H : Hp} {F : Addr → Prop}
theorem pairsE : ∀ {vs : List V} {ts : List T} {l : List (Key × T)}, RPs K H F vs ts → pairsT ts = some l → ∃ (ps : List Addr) (kvs : List (Key × V)), vs = ps.map V.ref ∧ Paired (fun p (kv : Key × V) => SqT K H p [kV kv.1, kv.2]) ps kvs ∧ PKV K H F kvs l
  | _, _, l, .nil, e => by cases e; exact ⟨[], [], rfl, .nil, .nil⟩
  | v :: vs, t :: ts, l, .cons h r, e => by
    rw [pairsT] at e
    split at e
    · rename_i p m e1 e2
      cases e
      obtain ⟨ps, kvs, rfl, h1, h2⟩ := pairsE r e2
      unfold pairT at e1
      split at e1
      · rename_i a b
        split at e1
        · rename_i k ek
          cases e1
          obtain ⟨q, us, rfl, sq, rr⟩ := h.tupE
          cases rr with
          | cons r1 rr =>
            cases rr with
            | cons r2 rr =>
              cases rr
              have := key_kV r1 ek
              subst this
              exact ⟨q :: ps, (k, _) :: kvs, rfl, .cons sq h1, .cons ⟨rfl, r2⟩ h2⟩
        · cases e1
      · cases e1
    · cases e
end
theorem FinV.dct {K : PySem.W.Frag} {H : Hp} {F : Addr → Prop} {Qa : O → Prop} {Q : VK} (f : FinV K H F Qa Q) {p : Addr} {kvs : List (Key × V)} {l : List (Key × T)} (n : H p = none) (r : PKV K H F kvs l) (q : Qa (.dct l)) : Q (.ref p) (upd H p (.dK kvs)) := by
  refine f _ (.dct l) [p] _ (Pres.upd n) ⟨p, kvs, rfl, rfl, upd_same, ?_⟩ (fun a m => by rw [List.mem_singleton.mp m]; exact n) (by simp) q
  exact Paired.mapP r fun _ _ z => ⟨z.1, (z.2.grow fun a z => z.imp (fun q => q) fun m => by rw [List.mem_singleton.mp m]; exact n).ext (Pres.upd n).ext⟩
/-! ### min, max of two texts -/
/-- f says when the second one is taken -/
def gM2S (f : Str → Str → Bool) : GN := fun os Q => match os with
  | [.pure (.str x), .pure (.str y)] => Q (.pure (.str (if f x y = true then y else x)))
  | _ => False
end DL
set_option Elab.async false
set_option linter.all false
set_option maxRecDepth 100000
set_option maxHeartbeats 4000000
/-! THE DATA LAYER, part 21: found[k].append(y) where found is a dict of lists; comprehensions over found.items(). -/
namespace DL
open PySem PySem.Spec L2
open PyProof.Rows hiding St
variable [Tbs] [Bas] {wk : Bool}
def klk {α : Type} (l : List (Key × α)) (k : Key) : Option α := (l.find? fun p => decide (p.1 = k)).map (·.2)
/-- the first entry at k is changed -/
def kupd {α : Type} : List (Key × α) → Key → α → List (Key × α)
  | [], _, _ => []
  | p :: r, k, y => if p.1 = k then (p.1, y) :: r else p :: kupd r k y
section
variable {K : PySem.W.Frag} {σ : St} {H H1 : Hp} {F : Addr → Prop} {fp : Nat → List Addr} {ρ : AEnv} {v : V} {o o' : O} {j : Nat} {a : Addr} {u u' : HO} {A G : List Addr}
theorem RDL.look {k : Key} {ts : List T} : ∀ {kvs : List (Key × V)} {kts : List (Key × List T)} {bs : List Addr}, RDL K H F kvs kts bs → klk kts k = some ts → ∃ b vs, valV kvs k = some (.ref b) ∧ b ∈ bs ∧ H b = some (.lst vs) ∧ RPs K H F vs ts
  | _, _, _, .nil, e => by cases e
  | _, _, _, .cons (k := k0) (b := b) (vs := vs) (ts := ts0) (kvs := kvs) h q r, e => by
    unfold klk at e
    rw [List.find?_cons] at e
    by_cases c : k0 = k
    · rw [show decide (k0 = k) = true from decide_eq_true c, Option.map_some] at e
      cases e
      exact ⟨b, vs, valV_pos (p := (k0, V.ref b)) c, List.mem_cons_self, h, q⟩
    · rw [show decide (k0 = k) = false from decide_eq_false c] at e
      obtain ⟨b', vs', h1, h2, h3⟩ := RDL.look r e
      exact ⟨b', vs', by rw [valV_neg (p := (k0, V.ref b)) c]; exact h1, List.mem_cons_of_mem _ h2, h3⟩
theorem RDL.put {k : Key} {b : Addr} {vs' : List V} {ts' : List T} (w : ∀ vs ts, RPs K H F vs ts → RPs K (upd H b (.lst vs')) F vs ts) (g : RPs K (upd H b (.lst vs')) F vs' ts') :
    ∀ {kvs : List (Key × V)} {kts : List (Key × List T)} {bs : List Addr}, RDL K H F kvs kts bs → valV kvs k = some (.ref b) → bs.Nodup → RDL K (upd H b (.lst vs')) F kvs (kupd kts k ts') bs
  | _, _, _, .nil, e, _ => by cases e
  | _, _, _, .cons (k := k0) (b := b0) (vs := vs) (ts := ts0) (kvs := kvs) (kts := kts) (bs := bs) h q r, e, nd => by
    obtain ⟨n1, n2⟩ := List.nodup_cons.mp nd
    rw [kupd]
    by_cases c : k0 = k
    · rw [valV_pos (p := (k0, V.ref b0)) c] at e
      injection e with e; injection e with e; subst e
      rw [if_pos c]
      exact .cons upd_same g (r.imp w fun a m us z => by
        have ne : a ≠ b0 := fun y => n1 (by rw [← y]; exact m)
        rw [upd_ne ne]; exact z)
    · rw [valV_neg (p := (k0, V.ref b0)) c] at e
      rw [if_neg c]
      refine .cons ?_ (w _ _ q) (RDL.put w g r e n2)
      rw [upd_ne]
      · exact h
      · rintro rfl
        exact n1 (RDL.val_mem r e)
where RDL.val_mem {k : Key} {b : Addr} : ∀ {kvs : List (Key × V)} {kts : List (Key × List T)} {bs : List Addr}, RDL K H F kvs kts bs → valV kvs k = some (.ref b) → b ∈ bs
  | _, _, _, .nil, e => by cases e
  | _, _, _, .cons (k := k0) (b := b0) (kvs := kvs) h q r, e => by
    by_cases c : k0 = k
    · rw [valV_pos (p := (k0, V.ref b0)) c] at e
      injection e with e; injection e with e; subst e
      exact List.mem_cons_self
    · rw [valV_neg (p := (k0, V.ref b0)) c] at e
      exact List.mem_cons_of_mem _ (RDL.val_mem r e)
end
/-! ### a dict is locked while it is walked -/
section
variable {K : PySem.W.Frag} {σ : St} {H H' : Hp} {F F' : Addr → Prop} {fp : Nat → List Addr} {ρ : AEnv} {v : V} {t : T} {o : O} {A G : List Addr} {d : Addr} {u : HO} {od : Obj}
/-- the entries of an owned dict -/
def dctO : O → Option (List (Key × T))
  | .dct l => some l
  | .dcl l => some (l.map fun p => (p.1, .list p.2))
  | _ => none
def dctT (l : List (Key × T)) : T := .dict (l.map fun p => (keyT p.1, p.2))
def itemT (p : Key × T) : T := .tuple [keyT p.1, p.2]
end
/-- slot j, an owned dict, is a tree from here on; its entries -/
def dctAt (j : Nat) (Q : List (Key × T) → AEnv → Prop) (ρ : AEnv) : Prop := ∃ o l, ρ[j]? = some (some o) ∧ dctO o = some l ∧ Q l (ρ.set j (some (.pure (dctT l))))
def tCompI (j : Nat) (g : GT) (tt : BT) (te : XT) (vs : List Nat) : XT := fun ρ Q => dctAt j (fun l ρ1 => l.length ≤ 16777216 ∧ compW g tt te vs (l.map itemT) [] (wipeA ρ1 vs) fun acc ρ2 => Q (.val (.lst acc)) ρ2) ρ
end DL
set_option Elab.async false
set_option linter.all false
set_option maxRecDepth 100000
set_option maxHeartbeats 4000000
/-! THE DATA LAYER, part 22: dict comprehensions. -/
namespace DL
open PySem PySem.Spec L2
open PyProof.Rows hiding St
variable [Tbs] [Bas] {wk : Bool}
def compDV (g : GT) (tt : BT) (tk tv : XT) (vs : List Nat) : List T → List (Key × T) → AEnv → (List (Key × T) → AEnv → Prop) → Prop
  | [], acc, ρ, Q => Q acc ρ
  | t :: ts, acc, ρ, Q => g t ρ fun ρ1 => tt ρ1 fun b ρ2 => if b = true then tk ρ2 fun p ρ3 => ∃ k, p.get ρ3 = some (.pure (keyT k)) ∧ tv ρ3 fun q ρ4 => take1 q ρ4 fun y ρ5 => compDV g tt tk tv vs ts (kput acc k y) (wipeA ρ5 vs) Q
      else compDV g tt tk tv vs ts acc (wipeA ρ2 vs) Q
def tCompD (ti : IT) (g : GT) (tt : BT) (tk tv : XT) (vs : List Nat) : XT := fun ρ Q => ti ρ fun ts ρ1 => compDV g tt tk tv vs ts [] (wipeA ρ1 vs) fun acc ρ2 => Q (.val (.dct acc)) ρ2
theorem PKV.ext {K : PySem.W.Frag} {H H' : Hp} {F F' : Addr → Prop} {kvs : List (Key × V)} {l : List (Key × T)} (x : Ext H F H' F') (r : PKV K H F kvs l) : PKV K H' F' kvs l := Paired.mapP r fun _ _ z => ⟨z.1, z.2.ext x⟩
theorem PKV.weak {K : PySem.W.Frag} {H : Hp} {F F' : Addr → Prop} {kvs : List (Key × V)} {l : List (Key × T)} (r : PKV K H F kvs l) (w : ∀ a, F' a → F a) : PKV K H F' kvs l := Paired.mapP r fun _ _ z => ⟨z.1, z.2.weak w⟩
def tCompDI (j : Nat) (g : GT) (tt : BT) (tk tv : XT) (vs : List Nat) : XT := fun ρ Q => dctAt j (fun l ρ1 => l.length ≤ 16777216 ∧ compDV g tt tk tv vs (l.map itemT) [] (wipeA ρ1 vs) fun acc ρ2 => Q (.val (.dct acc)) ρ2) ρ
end DL
set_option Elab.async false
set_option linter.all false
set_option maxRecDepth 100000
set_option maxHeartbeats 4000000
/-! THE DATA LAYER, part 23: name = {k: v for ..}; {k: [] for ..}. -/
namespace L2
open PySem PySem.Spec PyProof.Rows
end L2
namespace DL
open PySem PySem.Spec L2
open PyProof.Rows hiding St
variable [Tbs] [Bas] {wk : Bool}
/-! ### {k: [] for ..} -/
def compDN (g : GT) (tk : XT) (vs : List Nat) : List T → List (Key × List T) → AEnv → (List (Key × List T) → AEnv → Prop) → Prop
  | [], acc, ρ, Q => Q acc ρ
  | t :: ts, acc, ρ, Q => g t ρ fun ρ1 => tk ρ1 fun p ρ2 => ∃ k, p.get ρ2 = some (.pure (keyT k)) ∧ klk acc k = none ∧ compDN g tk vs ts (acc ++ [(k, [])]) (wipeA ρ2 vs) Q
def tCompN (ti : IT) (g : GT) (tk : XT) (vs : List Nat) : XT := fun ρ Q => ti ρ fun ts ρ1 => compDN g tk vs ts [] (wipeA ρ1 vs) fun acc ρ2 => Q (.val (.dcl acc)) ρ2
section
variable {K : PySem.W.Frag} {H H' : Hp} {F F' : Addr → Prop}
theorem RDL.none {k : Key} : ∀ {kvs : List (Key × V)} {kts : List (Key × List T)} {bs : List Addr}, RDL K H F kvs kts bs → klk kts k = none → valV kvs k = none
  | _, _, _, .nil, _ => rfl
  | _, _, _, .cons (k := k0) (b := b) (kvs := kvs) h q r, e => by
    unfold klk at e
    rw [List.find?_cons] at e
    by_cases c : k0 = k
    · rw [show decide (k0 = k) = true from decide_eq_true c] at e; cases e
    · rw [show decide (k0 = k) = false from decide_eq_false c] at e
      rw [valV_neg (p := (k0, V.ref b)) c]
      exact RDL.none r e
theorem RDL.len : ∀ {kvs : List (Key × V)} {kts : List (Key × List T)} {bs : List Addr}, RDL K H F kvs kts bs → kvs.length = kts.length
  | _, _, _, .nil => rfl
  | _, _, _, .cons _ _ r => congrArg (· + 1) (RDL.len r)
theorem RDL.ext {bs : List Addr} {kvs : List (Key × V)} {kts : List (Key × List T)} (x : Ext H F H' F') (n : ∀ b ∈ bs, ¬ F b) (r : RDL K H F kvs kts bs) : RDL K H' F' kvs kts bs := r.imp (fun _ _ z => RPs.ext x z) fun b m vs h => x.keep b _ h (n b m) nt_lst
theorem RDL.weak {bs : List Addr} {kvs : List (Key × V)} {kts : List (Key × List T)} (r : RDL K H F kvs kts bs) (w : ∀ a, F' a → F a) : RDL K H F' kvs kts bs := r.imp (fun _ _ z => RPs.weak z w) fun b m vs h => h
end
end DL
set_option Elab.async false
set_option linter.all false
set_option maxRecDepth 100000
set_option maxHeartbeats 4000000
/-! THE DATA LAYER, part 25: list comprehensions with two for's. -/
namespace DL
open PySem PySem.Spec L2
open PyProof.Rows hiding St
variable [Tbs] [Bas] {wk : Bool}
def compW2 (g : GT) (tt : BT) (ti1 : IT) (g1 : GT) (tt1 : BT) (te : XT) (vs vs1 : List Nat) : List T → List T → AEnv → (List T → AEnv → Prop) → Prop
  | [], acc, ρ, Q => Q acc ρ
  | t :: ts, acc, ρ, Q => g t ρ fun ρ1 => tt ρ1 fun b ρ2 => if b = true then ti1 ρ2 fun us ρ3 => acc.length + us.length ≤ 16777216 ∧ compW g1 tt1 te vs1 us acc (wipeA ρ3 vs1) fun acc' ρ4 => compW2 g tt ti1 g1 tt1 te vs vs1 ts acc' (wipeA ρ4 vs) Q
      else compW2 g tt ti1 g1 tt1 te vs vs1 ts acc (wipeA ρ2 vs) Q
def tComp2 (ti : IT) (g : GT) (tt : BT) (ti1 : IT) (g1 : GT) (tt1 : BT) (te : XT) (vs vs1 : List Nat) : XT := fun ρ Q => ti ρ fun ts ρ1 => compW2 g tt ti1 g1 tt1 te vs vs1 ts [] (wipeA ρ1 vs) fun acc ρ2 => Q (.val (.lst acc)) ρ2
end DL
set_option Elab.async false
set_option linter.all false
set_option maxRecDepth 100000
set_option maxHeartbeats 4000000
/-! THE DATA LAYER, part 26: is True, is False; the new transformers, said by what is known. -/
namespace DL
open PySem PySem.Spec L2
open PyProof.Rows hiding St
variable [Tbs] [Bas]
theorem hu1 {n : Nat} (h : n + 200 < cLine) : n + 1 < cLine := by omega
def gIsB (neg : Bool) : G2 := fun x y Q => match x, y with
  | .pure (.bool a), .pure (.bool b) => Q (.pure (.bool (neg ^^ decide (a = b))))
  | _, _ => False
theorem frz_dct (l : List (Key × T)) : O.frz (.dct l) = dctT l := rfl
theorem gIxD_ok {x : O} {t y : T} {l : List (Key × T)} {k : Key} {Q : O → Prop} (h1 : dcX x = some l) (h2 : keyOf t = some k) (h3 : klook l k = some y) (h : Q (.pure y)) : gIxD x (.pure t) Q := by
  unfold gIxD; rw [h1]; dsimp only; rw [h2]; dsimp only; rw [h3]; exact h
end DL
set_option Elab.async false
set_option linter.all false
set_option maxRecDepth 100000
set_option maxHeartbeats 4000000
/-! plain lemmas about the transformers -/
namespace DL
open PySem PySem.Spec L2
open PyProof.Rows hiding St
theorem isT_str (t : T) : isT "str" t = (match t with | .str _ => true | _ => false) := by cases t <;> rfl
theorem isT_bool (t : T) : isT "bool" t = (match t with | .bool _ => true | _ => false) := by cases t <;> rfl
theorem isT_int (t : T) : isT "int" t = (match t with | .int _ => true | .bool _ => true | _ => false) := by cases t <;> rfl
/-- a comprehension whose items do not change what is held -/
theorem compW_map {g : GT} {tt : BT} {te : XT} {vs : List Nat} {ρ : AEnv} {Q : List T → AEnv → Prop} (f : T → T) : ∀ (ts acc : List T),
    (∀ t ∈ ts, ∀ Q' : List T → AEnv → Prop, ∀ acc' ts', (compW g tt te vs ts' (acc' ++ [f t]) ρ Q') → compW g tt te vs (t :: ts') acc' ρ Q') → Q (acc ++ ts.map f) ρ → compW g tt te vs ts acc ρ Q
  | [], acc, _, q => by simpa [compW] using q
  | t :: ts, acc, h, q => h t List.mem_cons_self Q acc ts (compW_map f ts _ (fun t m => h t (List.mem_cons_of_mem _ m)) (by simpa using q))
theorem boolsOf_map (f : T → Bool) : ∀ ts : List T, boolsOf (ts.map fun t => .bool (f t)) = some (ts.map f)
  | [] => rfl
  | t :: ts => by simp [boolsOf, boolsOf_map f ts]
/-- a comprehension by an invariant; N: how many items there are -/
theorem compW_inv {g : GT} {tt : BT} {te : XT} {vs : List Nat} {Q : List T → AEnv → Prop} (Inv : Nat → List T → AEnv → Prop) (N : Nat) : ∀ (ts : List T) (i : Nat) (acc : List T) (ρ : AEnv), i + ts.length = N →
    (∀ i t acc ρ ts' (Q' : List T → AEnv → Prop), t ∈ ts → i < N → Inv i acc ρ → (∀ acc' ρ', Inv (i + 1) acc' ρ' → compW g tt te vs ts' acc' ρ' Q') → compW g tt te vs (t :: ts') acc ρ Q') →
    Inv i acc ρ → (∀ acc' ρ', Inv N acc' ρ' → Q acc' ρ') → compW g tt te vs ts acc ρ Q
  | [], i, acc, ρ, e, _, h, q => by
    unfold compW
    have : i = N := by simpa using e
    subst this
    exact q _ _ h
  | t :: ts, i, acc, ρ, e, st, h, q => st i t acc ρ ts Q List.mem_cons_self (by simp at e; omega) h fun acc' ρ' h' => compW_inv Inv N ts (i + 1) acc' ρ' (by simp at e; omega) (fun i t acc ρ ts' Q' m => st i t acc ρ ts' Q' (List.mem_cons_of_mem _ m)) h' q
/-- a loop by an invariant -/
theorem forW_inv {g : GT} {tb : ST} {D : AEnds} (Inv : Nat → AEnv → Prop) (N : Nat) : ∀ (ts : List T) (i : Nat) (ρ : AEnv), i + ts.length = N →
    (∀ i t ρ (D' : AEnds), t ∈ ts → i < N → Inv i ρ → (∀ ρ', Inv (i + 1) ρ' → D'.nx ρ') → (∀ ρ', Inv (i + 1) ρ' → D'.ct ρ') → D'.rt = D.rt → D'.bk = D.nx → g t ρ fun ρ1 => tb D' ρ1) →
    Inv i ρ → (∀ ρ', Inv N ρ' → D.nx ρ') → forW g tb D ts ρ
  | [], i, ρ, e, _, h, q => by
    unfold forW
    have : i = N := by simpa using e
    subst this
    exact q _ h
  | t :: ts, i, ρ, e, st, h, q => by
    have nxt : ∀ ρ', Inv (i + 1) ρ' → forW g tb D ts ρ' := fun ρ' h' => forW_inv Inv N ts (i + 1) ρ' (by simp at e; omega) (fun i t ρ D' m => st i t ρ D' (List.mem_cons_of_mem _ m)) h' q
    unfold forW
    exact st i t ρ _ List.mem_cons_self (by simp at e; omega) h nxt nxt rfl rfl
end DL
set_option Elab.async false
set_option linter.all false
set_option maxRecDepth 100000
set_option maxHeartbeats 4000000
/-! trees of bounded size, depth, numbers: what repr can show -/
namespace DL
open PySem PySem.Spec L2
open PyProof.Rows hiding St
mutual
def sz : T → Nat
  | .str x => x.length + 1
  | .list xs => szs xs + 1
  | .tuple xs => szs xs + 1
  | .none => 1
  | .bool _ => 1
  | .int _ => 1
  | .dict _ => 1
def szs : List T → Nat
  | [] => 0
  | x :: xs => sz x + szs xs
end
def asc (x : Str) : Bool := x.cps.toList.all fun c => decide (c < 128)
mutual
def lf (b : Nat) : T → Bool
  | .int i => decide (i.natAbs ≤ b)
  | .str x => asc x
  | .list xs => lfs b xs
  | .tuple xs => lfs b xs
  | .none => true
  | .bool _ => true
  | .dict kvs => kvs.isEmpty
def lfs (b : Nat) : List T → Bool
  | [] => true
  | x :: xs => lf b x && lfs b xs
end
theorem szs_app : ∀ (a b : List T), szs (a ++ b) = szs a + szs b
  | [], b => by simp [szs]
  | x :: a, b => by simp [szs, szs_app a b]; omega
theorem lfs_all {b : Nat} : ∀ {ts : List T}, lfs b ts = true ↔ ∀ t ∈ ts, lf b t = true
  | [] => by simp [lfs]
  | x :: ts => by simp [lfs, lfs_all (ts := ts)]
theorem dep_all {d : Nat} : ∀ {ts : List T}, PyData.depthAll ts ≤ d ↔ ∀ t ∈ ts, t.depth ≤ d
  | [] => by simp [PyData.depthAll]
  | x :: ts => by
    have h := dep_all (d := d) (ts := ts)
    simp only [PyData.depthAll, List.mem_cons, forall_eq_or_imp, ← h]
    omega
theorem sz_mem : ∀ {ts : List T} {t : T}, t ∈ ts → sz t ≤ szs ts
  | x :: ts, t, m => by
    simp only [szs]
    rcases List.mem_cons.mp m with rfl | m
    · omega
    · have := sz_mem m; omega
theorem szs_take (n : Nat) (ts : List T) : szs (ts.take n) ≤ szs ts := by
  have := szs_app (ts.take n) (ts.drop n)
  rw [List.take_append_drop] at this
  omega
theorem szs_drop (n : Nat) (ts : List T) : szs (ts.drop n) ≤ szs ts := by
  have := szs_app (ts.take n) (ts.drop n)
  rw [List.take_append_drop] at this
  omega
theorem szs_len {k : Nat} : ∀ {ts : List T}, (∀ t ∈ ts, sz t ≤ k) → szs ts ≤ ts.length * k
  | [], _ => by simp [szs]
  | x :: ts, h => by
    have h1 := h x List.mem_cons_self
    have h2 := szs_len (k := k) (ts := ts) fun t m => h t (List.mem_cons_of_mem _ m)
    simp only [szs, List.length_cons, Nat.add_mul, Nat.one_mul]
    omega
theorem len_szs : ∀ {ts : List T}, ts.length ≤ szs ts
  | [] => by simp
  | x :: ts => by
    have := len_szs (ts := ts)
    have h : 1 ≤ sz x := by cases x <;> simp [sz]
    simp only [szs, List.length_cons]
    omega
/-- a tree within bounds -/
structure Gd (w d b : Nat) (t : T) : Prop where
  w : sz t ≤ w
  d : t.depth ≤ d
  l : lf b t = true
structure Gds (w d b : Nat) (ts : List T) : Prop where
  w : szs ts ≤ w
  d : ∀ t ∈ ts, t.depth ≤ d
  l : ∀ t ∈ ts, lf b t = true
section
variable {w w' d d' b b' : Nat} {t u : T} {ts us : List T}
mutual
theorem lf_mono (h : b ≤ b') : ∀ t : T, lf b t = true → lf b' t = true
  | .int i, e => by simp only [lf, decide_eq_true_eq] at e ⊢; omega
  | .str x, e => by simpa only [lf] using e
  | .list xs, e => by simp only [lf] at e ⊢; exact lfs_mono h xs e
  | .tuple xs, e => by simp only [lf] at e ⊢; exact lfs_mono h xs e
  | .none, _ => by simp only [lf]
  | .bool _, _ => by simp only [lf]
  | .dict kvs, e => by simpa only [lf] using e
theorem lfs_mono (h : b ≤ b') : ∀ ts : List T, lfs b ts = true → lfs b' ts = true
  | [], _ => by simp only [lfs]
  | x :: xs, e => by
    simp only [lfs, Bool.and_eq_true] at e ⊢
    exact ⟨lf_mono h x e.1, lfs_mono h xs e.2⟩
end
theorem Gd.mono (g : Gd w d b t) (h1 : w ≤ w') (h2 : d ≤ d') (h3 : b ≤ b') : Gd w' d' b' t := ⟨Nat.le_trans g.w h1, Nat.le_trans g.d h2, lf_mono h3 _ g.l⟩
theorem Gds.mono (g : Gds w d b ts) (h1 : w ≤ w') (h2 : d ≤ d') (h3 : b ≤ b') : Gds w' d' b' ts := ⟨Nat.le_trans g.w h1, fun t m => Nat.le_trans (g.d t m) h2, fun t m => lf_mono h3 _ (g.l t m)⟩
theorem Gds.nil : Gds 0 0 0 [] := ⟨by simp [szs], by simp, by simp⟩
theorem Gds.nil' : Gds w d b [] := ⟨by simp [szs], by simp, by simp⟩
theorem Gds.cons (g : Gd w d b t) (h : Gds w' d b ts) : Gds (w + w') d b (t :: ts) :=
  ⟨by simp only [szs]; have := g.w; have := h.w; omega, by simpa using ⟨g.d, h.d⟩, by simpa using ⟨g.l, h.l⟩⟩
theorem Gds.sub (g : Gds w d b ts) (h1 : szs us ≤ szs ts) (h2 : ∀ t ∈ us, t ∈ ts) : Gds w d b us := ⟨Nat.le_trans h1 g.w, fun t m => g.d t (h2 t m), fun t m => g.l t (h2 t m)⟩
theorem Gds.take (g : Gds w d b ts) (n : Nat) : Gds w d b (ts.take n) := g.sub (szs_take n ts) fun _ m => List.mem_of_mem_take m
theorem Gds.drop (g : Gds w d b ts) (n : Nat) : Gds w d b (ts.drop n) := g.sub (szs_drop n ts) fun _ m => List.mem_of_mem_drop m
theorem Gds.mem (g : Gds w d b ts) (m : t ∈ ts) : Gd w d b t := ⟨Nat.le_trans (sz_mem m) g.w, g.d t m, g.l t m⟩
theorem Gds.one (g : Gd w d b t) : Gds w d b [t] := ⟨by simp only [szs]; exact g.w, by simpa using g.d, by simpa using g.l⟩
theorem Gds.len (g : Gds w d b ts) : ts.length ≤ w := Nat.le_trans len_szs g.w
theorem Gd.tup (g : Gds w d b ts) : Gd (w + 1) (d + 1) b (.tuple ts) := ⟨by simp only [sz]; have := g.w; omega, by simp only [PyData.depth]; have := dep_all.mpr g.d; omega, by simp only [lf]; exact lfs_all.mpr g.l⟩
theorem Gd.lst (g : Gds w d b ts) : Gd (w + 1) (d + 1) b (.list ts) := ⟨by simp only [sz]; have := g.w; omega, by simp only [PyData.depth]; have := dep_all.mpr g.d; omega, by simp only [lf]; exact lfs_all.mpr g.l⟩
theorem Gd.tupE (g : Gd w d b (.tuple ts)) : Gds (w - 1) (d - 1) b ts := by
  obtain ⟨h1, h2, h3⟩ := g
  simp only [sz, PyData.depth, lf] at h1 h2 h3
  exact ⟨by omega, dep_all.mp (by omega), lfs_all.mp h3⟩
theorem Gd.str {x : Str} (h : x.length < w) (a : asc x = true) : Gd w d b (.str x) := ⟨by simp only [sz]; omega, by simp [PyData.depth], by simpa only [lf] using a⟩
theorem Gd.strE {x : Str} (g : Gd w d b (.str x)) : x.length < w ∧ asc x = true := ⟨by have := g.w; simp only [sz] at this; omega, by simpa only [lf] using g.l⟩
theorem Gd.int {i : Int} (h : i.natAbs ≤ b) : Gd 1 d b (.int i) := ⟨by simp [sz], by simp [PyData.depth], by simpa [lf] using h⟩
theorem Gd.intE {i : Int} (g : Gd w d b (.int i)) : i.natAbs ≤ b := by simpa only [lf, decide_eq_true_eq] using g.l
theorem Gd.bool {c : Bool} : Gd 1 d b (.bool c) := ⟨by simp [sz], by simp [PyData.depth], by simp [lf]⟩
theorem Gd.none : Gd 1 d b .none := ⟨by simp [sz], by simp [PyData.depth], by simp [lf]⟩
end
theorem asc_app {x y : Str} (h : asc x = true) (k : asc y = true) : asc (x ++ y) = true := by
  unfold asc at *
  rw [PySem.Str.cps_append, Array.toList_append, List.all_append, h, k]; rfl
theorem asc_one {c : Nat} (h : c < 128) : asc ⟨#[c]⟩ = true := by simp [asc, h]
mutual
theorem shown_sz {b : Nat} (hb : b < 10 ^ 30) : ∀ t : T, lf b t = true → t.shown.length + 2 ≤ 40 * sz t
  | .int i, e => by
    simp only [lf, decide_eq_true_eq] at e
    have h : i.natAbs < 10 ^ 30 := by omega
    have h2 : (Str.ofString (toString i)).length ≤ 31 := by
      have := int_text_length_le10 (k := 30) (by decide) h
      rw [PySem.ofString_length]
      omega
    have e2 : (PyData.shown (.int i)) = Str.ofString (toString i) := by simp only [PyData.shown]
    rw [e2]
    simp only [sz]
    omega
  | .str x, e => by
    simp only [lf] at e
    have h : ∀ c ∈ x.cps.toList, c < 16 ^ 8 := fun c m => Nat.lt_trans (of_decide_eq_true (List.all_eq_true.mp e c m)) (by decide)
    have h2 := StrLaws.reprText_len x h
    simp only [PyData.shown, sz]
    omega
  | .list xs, e => by
    simp only [lf] at e
    have h1 := shown_szs hb xs e
    have h2 := listText_len_le (PyData.shownAll xs)
    simp only [PyData.shown, sz]
    omega
  | .tuple xs, e => by
    simp only [lf] at e
    have h1 := shown_szs hb xs e
    have h2 := tupleText_len_le (PyData.shownAll xs)
    simp only [PyData.shown, sz]
    omega
  | .none, _ => by
    have e : (PyData.shown .none).length = 4 := rfl
    simp only [sz]; omega
  | .bool c, _ => by
    have e : (PyData.shown (.bool c)).length ≤ 5 := by cases c <;> decide
    simp only [sz]; omega
  | .dict kvs, e => by
    simp only [lf, List.isEmpty_iff] at e
    subst e
    have h2 := dictText_len_le []
    simp only [PyData.shown, PyData.shownKv, sz]
    simp at h2
    omega
theorem shown_szs {b : Nat} (hb : b < 10 ^ 30) : ∀ xs : List T, lfs b xs = true → ((PyData.shownAll xs).map (·.length)).sum + 2 * (PyData.shownAll xs).length ≤ 40 * szs xs
  | [], _ => by simp [PyData.shownAll, szs]
  | x :: xs, e => by
    simp only [lfs, Bool.and_eq_true] at e
    have h1 := shown_sz hb x e.1
    have h2 := shown_szs hb xs e.2
    simp only [PyData.shownAll, szs, List.map_cons, List.sum_cons, List.length_cons]
    omega
end
mutual
theorem lf_showable {b : Nat} (hb : b < 10 ^ 30) : ∀ t : T, lf b t = true → t.showable = true
  | .int i, e => by
    simp only [lf, decide_eq_true_eq] at e
    simp only [PyData.showable, decide_eq_true_eq]
    have : i.natAbs < 2 ^ 100 := Nat.lt_of_le_of_lt e (Nat.lt_trans hb (by decide))
    exact Nat.lt_trans (PySem.Flt.log2_lt_of (by decide) this) (by decide)
  | .str x, e => by simp only [PyData.showable]
  | .list xs, e => by simp only [PyData.showable]; exact lfs_showable hb xs (by simpa only [lf] using e)
  | .tuple xs, e => by simp only [PyData.showable]; exact lfs_showable hb xs (by simpa only [lf] using e)
  | .none, _ => by simp only [PyData.showable]
  | .bool c, _ => by simp only [PyData.showable]
  | .dict kvs, e => by
    simp only [lf, List.isEmpty_iff] at e
    subst e
    simp only [PyData.showable, PyData.showableKv]
theorem lfs_showable {b : Nat} (hb : b < 10 ^ 30) : ∀ xs : List T, lfs b xs = true → PyData.showableAll xs = true
  | [], _ => by simp only [PyData.showableAll]
  | x :: xs, e => by
    simp only [lfs, Bool.and_eq_true] at e
    simp only [PyData.showableAll, lf_showable hb x e.1, lfs_showable hb xs e.2, Bool.and_self]
end
end DL
set_option Elab.async false
set_option linter.all false
set_option maxRecDepth 100000
set_option maxHeartbeats 4000000
/-! the transformers, said so that simp does not open what is not known yet -/
namespace DL
open PySem PySem.Spec L2
open PyProof.Rows hiding St
section
variable {ρ : AEnv} {j i : Nat} {p q : Opd} {ps : List Opd} {o : O} {P : Nat → Bool} {fl : List Bool}
def nameK (j : Nat) (ρ : AEnv) (Q : Opd → AEnv → Prop) : Option (Option O) → Prop
  | some (some (.pure t)) => Q (.val (.pure t)) ρ
  | some (some (.lst ts)) => Q (.slot j) ρ
  | some (some (.dct k)) => Q (.slot j) ρ
  | some (some (.dcl k)) => Q (.slot j) ρ
  | some (some (.exc k)) => Q (.slot j) ρ
  | some (some (.thk k)) => Q (.slot j) ρ
  | some none => False
  | none => False
theorem tName_k {Q : Opd → AEnv → Prop} : tName j ρ Q = nameK j ρ Q ρ[j]? := by
  unfold tName
  rcases ρ[j]? with _ | _ | o
  · rfl
  · rfl
  · cases o <;> rfl
def atK (Q : O → Prop) : Option (Option O) → Prop
  | some (some o) => Q o
  | some none => False
  | none => False
theorem take1_v {Q : T → AEnv → Prop} : take1 (.val o) ρ Q = (o.fz ∧ Q o.frz ρ) := rfl
theorem take1_s {Q : T → AEnv → Prop} : take1 (.slot j) ρ Q = atK (fun o => o.fz ∧ Q o.frz (ρ.set j (some (.pure o.frz)))) ρ[j]? := by
  rw [take1]
  rcases ρ[j]? with _ | _ | o <;> rfl
theorem takeA_v {Q : O → AEnv → Prop} : takeA (.val o) ρ Q = Q o.alias ρ := rfl
theorem takeA_s {Q : O → AEnv → Prop} : takeA (.slot j) ρ Q = atK (fun o => Q o.alias (ρ.set j (some o.alias))) ρ[j]? := by
  rw [takeA]
  rcases ρ[j]? with _ | _ | o <;> rfl
theorem takeO_v {Q : O → AEnv → Prop} : takeO (.val o) ρ Q = Q o ρ := rfl
theorem takeO_s {Q : O → AEnv → Prop} : takeO (.slot j) ρ Q = atK (fun o => Q o.alias (ρ.set j (some o.alias))) ρ[j]? := by
  rw [takeO]
  rcases ρ[j]? with _ | _ | o <;> rfl
theorem takeR_v {Q : O → AEnv → Prop} : takeR P (.val o) ρ Q = Q o ρ := rfl
theorem takeR_s {Q : O → AEnv → Prop} : takeR P (.slot j) ρ Q = atK (fun o => if P j = true then Q o.alias (ρ.set j (some o.alias)) else Q o (ρ.set j none)) ρ[j]? := by
  rw [takeR]
  rcases ρ[j]? with _ | _ | o <;> rfl
theorem prep_n {Q : List O → List (Option Nat) → AEnv → Prop} : prep [] [] ρ Q = Q [] [] ρ := rfl
theorem prep_tv {Q : List O → List (Option Nat) → AEnv → Prop} : prep (true :: fl) (.val o :: ps) ρ Q = prep fl ps ρ fun os js ρ' => Q (o :: os) (none :: js) ρ' := rfl
theorem prep_ts {Q : List O → List (Option Nat) → AEnv → Prop} : prep (true :: fl) (.slot j :: ps) ρ Q = atK (fun o => prep fl ps (ρ.set j none) fun os js ρ' => Q (o :: os) (some j :: js) ρ') ρ[j]? := by
  rw [prep]
  rcases ρ[j]? with _ | _ | o <;> rfl
theorem prep_f {Q : List O → List (Option Nat) → AEnv → Prop} : prep (false :: fl) (p :: ps) ρ Q = takeA p ρ fun o ρ1 => prep fl ps ρ1 fun os js ρ' => Q (o :: os) js ρ' := by
  rw [prep]
def lstK (Q : List T → Prop) : Option (Option O) → Prop
  | some (some (.lst ts)) => Q ts
  | some (some (.pure t)) => False
  | some (some (.dct k)) => False
  | some (some (.dcl k)) => False
  | some (some (.exc k)) => False
  | some (some (.thk k)) => False
  | some none => False
  | none => False
theorem lstAt_k {Q : List T → Prop} : lstAt ρ j Q = lstK Q ρ[j]? := by
  unfold lstAt
  rcases ρ[j]? with _ | _ | o
  · rfl
  · rfl
  · cases o <;> rfl
def g2K (g : G2) (Q : O → Prop) : Option O → Option O → Prop
  | some x, some y => g x y Q
  | none, _ => False
  | some _, none => False
theorem g2_k {g : G2} {Q : O → Prop} : g2 g ρ p q Q = g2K g Q (p.get ρ) (q.get ρ) := by
  unfold g2
  rcases p.get ρ with _ | x
  · rfl
  · rcases q.get ρ with _ | y <;> rfl
def g1K (g : G1) (Q : O → Prop) : Option O → Prop
  | some x => g x Q
  | none => False
theorem g1_k {g : G1} {Q : O → Prop} : g1 g ρ p Q = g1K g Q (p.get ρ) := by
  unfold g1
  rcases p.get ρ with _ | x <;> rfl
def gNK (g : GN) (Q : O → Prop) : Option (List O) → Prop
  | some x => g x Q
  | none => False
theorem gN_k {g : GN} {Q : O → Prop} : gN g ρ ps Q = gNK g Q (getAll ρ ps) := by
  unfold gN
  rcases getAll ρ ps with _ | x <;> rfl
def boK (Q : Bool → Prop) : Option O → Prop
  | some (.pure (.bool b)) => Q b
  | _ => False
theorem bOf_k {Q : Bool → Prop} : bOf ρ p Q = boK Q (p.get ρ) := by
  unfold bOf
  rcases p.get ρ with _ | x
  · rfl
  · cases x with
    | pure t => cases t <;> rfl
    | _ => rfl
def isiK (n : String) (ρ : AEnv) (Q : Opd → AEnv → Prop) : Option O → Prop
  | some o => o.fz ∧ Q (.val (.pure (.bool (isT n o.frz)))) ρ
  | none => False
theorem tIsi_k {n : String} {te : XT} {Q : Opd → AEnv → Prop} : tIsi n te ρ Q = te ρ fun p ρ1 => isiK n ρ1 Q (p.get ρ1) := by
  unfold tIsi
  refine congrArg _ (funext fun p => funext fun ρ1 => ?_)
  rcases p.get ρ1 with _ | x <;> rfl
def partK (ρ : AEnv) (Q : Option Int → AEnv → Prop) : Option O → Prop
  | some (.pure (.int i)) => Q (some i) ρ
  | _ => False
theorem part_n {Q : Option Int → AEnv → Prop} : partT none ρ Q = Q none ρ := rfl
theorem part_s {t : XT} {Q : Option Int → AEnv → Prop} : partT (some t) ρ Q = t ρ fun p ρ1 => partK ρ1 Q (p.get ρ1) := by
  rw [partT]
  refine congrArg _ (funext fun p => funext fun ρ1 => ?_)
  rcases p.get ρ1 with _ | x
  · rfl
  · cases x with
    | pure t => cases t <;> rfl
    | _ => rfl
def slcK (lo hi : Option Int) (ρ : AEnv) (Q : Opd → AEnv → Prop) : Option O → Prop
  | some (.pure (.str z)) => z.length ≤ 16777216 ∧ Q (.val (.pure (.str (cutS z lo hi)))) ρ
  | some (.pure (.tuple ts)) => Q (.val (.pure (.tuple (cutT ts lo hi)))) ρ
  | some (.lst ts) => Q (.val (.lst (cutT ts lo hi))) ρ
  | some (.pure (.list ts)) => Q (.val (.lst (cutT ts lo hi))) ρ
  | _ => False
theorem tSlc_k {te : XT} {tl th : Option XT} {Q : Opd → AEnv → Prop} : tSlc te tl th ρ Q = te ρ fun p ρ1 => partT tl ρ1 fun lo ρ2 => partT th ρ2 fun hi ρ3 => slcK lo hi ρ3 Q (p.get ρ3) := by
  unfold tSlc
  refine congrArg _ (funext fun p => funext fun ρ1 => ?_)
  refine congrArg _ (funext fun lo => funext fun ρ2 => ?_)
  refine congrArg _ (funext fun hi => funext fun ρ3 => ?_)
  rcases p.get ρ3 with _ | x
  · rfl
  · cases x with
    | pure t => cases t <;> rfl
    | _ => rfl
def revK (ρ : AEnv) (Q : Opd → AEnv → Prop) : Option O → Prop
  | some (.pure (.tuple ts)) => Q (.val (.pure (.tuple ts.reverse))) ρ
  | some (.lst ts) => Q (.val (.lst ts.reverse)) ρ
  | some (.pure (.list ts)) => Q (.val (.lst ts.reverse)) ρ
  | _ => False
theorem tRev_k {te : XT} {Q : Opd → AEnv → Prop} : tRev te ρ Q = te ρ fun p ρ1 => revK ρ1 Q (p.get ρ1) := by
  unfold tRev
  refine congrArg _ (funext fun p => funext fun ρ1 => ?_)
  rcases p.get ρ1 with _ | x
  · rfl
  · cases x with
    | pure t => cases t <;> rfl
    | _ => rfl
def strMK (f : Str → Str) (C : Str → Prop) (ρ : AEnv) (Q : Opd → AEnv → Prop) : Option O → Prop
  | some (.pure (.str z)) => C z ∧ Q (.val (.pure (.str (f z)))) ρ
  | _ => False
theorem tStrM_k {f : Str → Str} {C : Str → Prop} {te : XT} {Q : Opd → AEnv → Prop} : tStrM f C te ρ Q = te ρ fun p ρ1 => strMK f C ρ1 Q (p.get ρ1) := by
  unfold tStrM
  refine congrArg _ (funext fun p => funext fun ρ1 => ?_)
  rcases p.get ρ1 with _ | x
  · rfl
  · cases x with
    | pure t => cases t <;> rfl
    | _ => rfl
def itK (Q : List T → Prop) : Option (List T) → Prop
  | some ts => Q ts
  | none => False
theorem tIter_k {te : XT} {Q : List T → AEnv → Prop} : tIter te ρ Q = te ρ fun p ρ1 => take1 p ρ1 fun t ρ2 => itK (fun ts => Q ts ρ2) (itemsOf t) := by
  unfold tIter
  refine congrArg _ (funext fun p => funext fun ρ1 => ?_)
  refine congrArg _ (funext fun t => funext fun ρ2 => ?_)
  rcases itemsOf t with _ | x <;> rfl
def enumK (Q : List T → Prop) : List T → Prop
  | [t] => itK (fun ts => Q (enumItems ts)) (itemsOf t)
  | _ => False
theorem tEnum_k {ts : XTs} {Q : List T → AEnv → Prop} : tEnum ts ρ Q = ts ρ fun ps ρ1 => takeAll ps ρ1 fun ts ρ2 => enumK (fun ts => Q ts ρ2) ts := by
  unfold tEnum
  refine congrArg _ (funext fun p => funext fun ρ1 => ?_)
  refine congrArg _ (funext fun t => funext fun ρ2 => ?_)
  match t with
  | [] => rfl
  | [t] =>
    show (match itemsOf t with
      | some ts => Q (enumItems ts) ρ2
      | none => False) = itK _ (itemsOf t)
    rcases itemsOf t with _ | x <;> rfl
  | _ :: _ :: _ => rfl
def zipK (Q : List T → Prop) : List T → Prop
  | [.list ts, .list us] => Q (zipItems ts us)
  | [.tuple ts, .tuple us] => Q (zipItems ts us)
  | _ => False
theorem tZip_k {ts : XTs} {Q : List T → AEnv → Prop} : tZip ts ρ Q = ts ρ fun ps ρ1 => takeAll ps ρ1 fun ts ρ2 => zipK (fun ts => Q ts ρ2) ts := by
  unfold tZip
  refine congrArg _ (funext fun p => funext fun ρ1 => ?_)
  refine congrArg _ (funext fun t => funext fun ρ2 => ?_)
  unfold zipK
  split <;> simp_all
def intsK (Q : List Int → Prop) : Option (List O) → Prop
  | some [.pure (.int i)] => Q [i]
  | some [.pure (.int i), .pure (.int j)] => Q [i, j]
  | _ => False
theorem intsOf_k {Q : List Int → Prop} : intsOf ρ ps Q = intsK Q (getAll ρ ps) := by
  unfold intsOf intsK
  split <;> simp_all
def endK (Q : List O → Prop) : Option (List O) → Prop
  | some os => Q os
  | none => False
theorem endO_k {Q : List O → Prop} : endO fl ρ Q = endK Q (outsOf fl 0 ρ) := by
  unfold endO
  rcases outsOf fl 0 ρ with _ | x <;> rfl
def extK (j : Nat) (ρ : AEnv) (Q : Opd → AEnv → Prop) : Option O → Prop
  | some (.lst us) => lstK (fun ts => ts.length + us.length ≤ 16777216 ∧ Q (.val (.pure .none)) (ρ.set j (some (.lst (ts ++ us))))) ρ[j]?
  | _ => False
theorem tExtend_k {te : XT} {Q : Opd → AEnv → Prop} : tExtend j te ρ Q = lstK (fun _ => te ρ fun p ρ1 => extK j ρ1 Q (p.get ρ1)) ρ[j]? := by
  unfold tExtend
  rw [lstAt_k]
  refine congrArg (lstK · _) (funext fun _ => ?_)
  refine congrArg _ (funext fun p => funext fun ρ1 => ?_)
  rcases p.get ρ1 with _ | x
  · rfl
  · cases x with
    | lst t => show lstAt _ _ _ = lstK _ _; rw [lstAt_k]
    | _ => rfl
theorem tAppend_k {te : XT} {Q : Opd → AEnv → Prop} : tAppend j te ρ Q = lstK (fun _ => te ρ fun p ρ1 => take1 p ρ1 fun y ρ2 => lstK (fun ts => ts.length < 16777216 ∧ Q (.val (.pure .none)) (ρ2.set j (some (.lst (ts ++ [y]))))) ρ2[j]?) ρ[j]? := by
  unfold tAppend
  rw [lstAt_k]
  refine congrArg (lstK · _) (funext fun _ => ?_)
  refine congrArg _ (funext fun p => funext fun ρ1 => ?_)
  refine congrArg _ (funext fun y => funext fun ρ2 => ?_)
  rw [lstAt_k]
def setIxK (j : Nat) (y : T) (ρ : AEnv) (D : AEnds) : Option O → Prop
  | some (.pure (.int k)) => lstK (fun ts => match ixN ts.length k with
    | some m => D.nx (ρ.set j (some (.lst (ts.set m y))))
    | none => False) ρ[j]?
  | _ => False
theorem sSetIx_k {te ti : XT} {D : AEnds} : sSetIx j te ti D ρ = te ρ fun p ρ1 => take1 p ρ1 fun y ρ2 => lstK (fun _ => ti ρ2 fun q ρ3 => setIxK j y ρ3 D (q.get ρ3)) ρ2[j]? := by
  unfold sSetIx
  refine congrArg _ (funext fun p => funext fun ρ1 => ?_)
  refine congrArg _ (funext fun y => funext fun ρ2 => ?_)
  rw [lstAt_k]
  refine congrArg (lstK · _) (funext fun _ => ?_)
  refine congrArg _ (funext fun q => funext fun ρ3 => ?_)
  rcases q.get ρ3 with _ | x
  · rfl
  · cases x with
    | pure t =>
      cases t with
      | int k => show lstAt _ _ _ = lstK _ _; rw [lstAt_k] <;> rfl
      | _ => rfl
    | _ => rfl
def popAtK (j : Nat) (ρ : AEnv) (Q : Opd → AEnv → Prop) : Option O → Prop
  | some (.pure (.int i)) => lstK (fun ts => match ixN ts.length i with
    | some k => match ts[k]? with
      | some y => Q (.val (.pure y)) (ρ.set j (some (.lst (ts.eraseIdx k))))
      | none => False
    | none => False) ρ[j]?
  | _ => False
theorem tPopAt_k {te : XT} {Q : Opd → AEnv → Prop} : tPopAt j te ρ Q = lstK (fun _ => te ρ fun p ρ1 => popAtK j ρ1 Q (p.get ρ1)) ρ[j]? := by
  unfold tPopAt
  rw [lstAt_k]
  refine congrArg (lstK · _) (funext fun _ => ?_)
  refine congrArg _ (funext fun q => funext fun ρ3 => ?_)
  rcases q.get ρ3 with _ | x
  · rfl
  · cases x with
    | pure t =>
      cases t with
      | int k => show lstAt _ _ _ = lstK _ _; rw [lstAt_k] <;> rfl
      | _ => rfl
    | _ => rfl
theorem at_join {j : Nat} {ρ : AEnv} : ρ.at j = Option.join ρ[j]? := by
  unfold AEnv.at
  rcases ρ[j]? with _ | _ | o <;> rfl
theorem join_some {α : Type} {x : Option α} : Option.join (some x) = x := rfl
theorem back_nil {os : List O} {ρ : AEnv} : back [] os ρ = ρ := by
  cases os <;> rfl
theorem seqO_l {ts : List T} : seqO (.lst ts) = some ts := rfl
theorem seqO_p {ts : List T} : seqO (.pure (.list ts)) = some ts := rfl
theorem seqO_t {ts : List T} : seqO (.pure (.tuple ts)) = some ts := rfl
end
theorem ati0 {α : Type} {a : α} {l : List α} : atI (a :: l) 0 = some a := by simp [atI, ixN]
theorem ati1 {α : Type} {a b : α} {l : List α} : atI (a :: b :: l) 1 = some b := by
  unfold atI ixN
  rw [if_pos (by omega), if_pos (by simp; omega)]
  rfl
theorem ati2 {α : Type} {a b c : α} {l : List α} : atI (a :: b :: c :: l) 2 = some c := by
  unfold atI ixN
  rw [if_pos (by omega), if_pos (by simp; omega)]
  rfl
/-! ### slices -/
theorem cut_take {ts : List T} {i : Int} (h : 0 ≤ i) : cutT ts none (some i) = ts.take i.toNat := by
  unfold cutT
  have e : HT.sIx ts.length ts.length (some i) = min i.toNat ts.length := by
    show (if i < 0 then _ else _) = _
    rw [if_neg (by omega)]
  rw [e, HT.sIx_none, Nat.sub_zero, List.drop_zero]
  by_cases g : i.toNat ≤ ts.length
  · rw [Nat.min_eq_left g]
  · rw [Nat.min_eq_right (by omega), List.take_length, List.take_of_length_le (by omega)]
theorem cut_drop {ts : List T} {i : Int} (h : 0 ≤ i) : cutT ts (some i) none = ts.drop i.toNat := by
  unfold cutT
  have e : HT.sIx ts.length 0 (some i) = min i.toNat ts.length := by
    show (if i < 0 then _ else _) = _
    rw [if_neg (by omega)]
  rw [e, HT.sIx_none]
  have e2 : ts.drop (min i.toNat ts.length) = ts.drop i.toNat := by
    by_cases g : i.toNat ≤ ts.length
    · rw [Nat.min_eq_left g]
    · rw [Nat.min_eq_right (by omega), List.drop_length, List.drop_of_length_le (by omega)]
  rw [e2]
  exact List.take_of_length_le (by rw [List.length_drop]; omega)
end DL
namespace DL
open PySem PySem.Spec L2
open PyProof.Rows hiding St
theorem rps_ints [Tbs] {K : PySem.W.Frag} {H : Hp} {F : Addr → Prop} : ∀ ns : List Int, RPs K H F (ns.map V.int) (ns.map PyData.int)
  | [] => .nil
  | i :: ns => .cons (RP.int i) (rps_ints ns)
/-- the script as the law's argument -/
theorem asp_ints [Tbs] {K : PySem.W.Frag} {H : Hp} {a : Addr} {ns : List Int} {spec : FSpec} {Q : VK} {E : XK} (hT : LamX.Tabs Tbs.T H) (hS : SqL K H a (ns.map V.int)) (h : spec [.pure (.list (ns.map PyData.int))] fun o outs => o = .pure (.bool true)) (q : ∀ H', Q (.bl true) H') : ASp K [false] spec [.ref a] H Q E := by
  refine ⟨[.pure (.list (ns.map PyData.int))], fun _ => [], [], _, rfl, ?_, fun _ _ => rfl, h, fun v o A outs H' fp' R _ r _ _ _ _ e => ?_⟩
  · have nF : ∀ a, ¬ Or1 (Fo fun _ => []) [] a := fun a z => by
      rcases z with ⟨i, m⟩ | m
      · cases m
      · cases m
    refine ⟨fun i o e => ?_, fun _ _ => rfl, fun i j a m => (nomatch m), fun _ => List.nodup_nil, fun a m => (nomatch m), fun a m => (nomatch m), rfl, hT⟩
    match i, e with
    | 0, e =>
      cases e
      refine ⟨.ref a, rfl, rfl, ?_⟩
      rcases hS with hS | ⟨o, its, n, h1, h2, h3, h4, h5, h6⟩
      · exact RP.lst hS (rps_ints ns) (nF a)
      · obtain ⟨as, r, m⟩ := (rps_ints (K := K) (H := H) (F := Or1 (Fo fun _ => []) []) ns).rvs
        exact ⟨as, .lstK h1 h2 h3 h4 h5 h6 r, m⟩
    | i + 1, e => simp at e
  · subst e
    obtain rfl := RP.boolE r.2
    exact q _
end DL
set_option Elab.async false
set_option linter.all false
set_option maxRecDepth 100000
set_option maxHeartbeats 4000000
/-! THE DATA LAYER, part 27: dict of a tuple of pairs. -/
namespace DL
open PySem PySem.Spec L2
open PyProof.Rows hiding St
variable [Tbs] [Bas]
/-- dict(t), t a known tuple of pairs -/
theorem call_dictT {X : Cx} (hc : X.calm = true) : CallR X (.type "dict") (fun xs H Q => ∃ (a : Addr) (ps : List Addr) (kvs : List (Key × V)), xs = [.ref a] ∧ SqP H a (ps.map V.ref) ∧ Paired (fun p (kv : Key × V) => SqT X.K H p [kV kv.1, kv.2]) ps kvs ∧
    ∀ p, H p = none → Q (.ref p) (upd H p (.dK (mergeK [] kvs)))) := by
  rintro pins s σ H xs us Q I r ⟨a, ps, kvs, rfl, ⟨o, hq, oc, od⟩, hp, q⟩
  obtain ⟨u, rfl, rx⟩ := vals1 r
  cases rx
  obtain ⟨ho, hz, its, rv, o', ho', hc', n, hdat⟩ := (show ObjOk X.prog X.w H s.heap a (.frz o (.tup (ps.map V.ref))) from I.hok a _ hq)
  rw [ho] at ho'
  cases ho'
  have ei := refs_at rv
  subst ei
  rw [List.length_map] at hz
  obtain ⟨prs, rel, hl, hpr⟩ := pairs_of I hp
  -- the pairs, with their keys as they stand
  have hk : ∀ j : Nat, ∃ q : Value × Value, j < ps.length → (∃ k, prs[j]? = some (k, q.2) ∧ keyIs k q.1 = true) ∧ IsTup s.heap (ps.getD j 0) #[q.1, q.2] := fun j => by
    by_cases h : j < ps.length
    · obtain ⟨y, ey⟩ : ∃ y, prs[j]? = some y := ⟨prs[j]'(by omega), List.getElem?_eq_getElem (by omega)⟩
      obtain ⟨b, k, e1, e2, e3⟩ := hpr j y ey
      refine ⟨(k, y.2), fun _ => ⟨⟨y.1, ey, e3⟩, ?_⟩⟩
      rw [List.getD_eq_getElem?_getD, e1]
      exact e2
    · exact ⟨(.none, .none), fun z => absurd z h⟩
  let kv : Nat → Value × Value := fun j => (hk j).choose
  have hkv : ∀ j, j < ps.length → (∃ k, prs[j]? = some (k, (kv j).2) ∧ keyIs k (kv j).1 = true) ∧ IsTup s.heap (ps.getD j 0) #[(kv j).1, (kv j).2] := fun j => (hk j).choose_spec
  let pl : List (Value × Value) := (List.range ps.length).map kv
  have pll : pl.length = ps.length := by simp [pl]
  have pat : ∀ {j : Nat} {x : Value × Value}, pl[j]? = some x → j < ps.length ∧ x = kv j := fun {j x} e => by
    have h : j < ps.length := by rw [← pll]; exact (List.getElem?_eq_some_iff.mp e).1
    refine ⟨h, ?_⟩
    simp only [pl] at e
    rw [List.getElem?_map, List.getElem?_range h] at e
    exact (Option.some.inj e).symm
  have P := PairArg.tuple (prog := X.prog) (w := X.w) a ((ps.map fun a => Value.ref a).toArray) (fun j => ps.getD j 0) pl
  refine PySem.call_dict_pairs (knd := mixKind X.prog X.w) (kvs := prs) P (I.ok.hd hc) ⟨⟨o, n, ho, oc, od, hdat⟩, ?_⟩ ⟨by rw [pll]; exact hl, ?_⟩ (by rw [pll]; exact hz) fun h' tk hd' kp => ?_
  · refine ⟨by rw [pll]; simp, fun j k v e => ?_⟩
    obtain ⟨h, ex⟩ := pat e
    obtain ⟨_, e2⟩ := hkv j h
    have ek : (kv j).1 = k := congrArg Prod.fst ex.symm
    have ev : (kv j).2 = v := congrArg Prod.snd ex.symm
    rw [ek, ev] at e2
    refine ⟨?_, .inl e2⟩
    show ((ps.map fun a => Value.ref a).toArray)[j]? = some (.ref (ps.getD j 0))
    rw [List.getElem?_toArray, List.getElem?_map, List.getD_eq_getElem?_getD, List.getElem?_eq_getElem h]
    rfl
  · intro j k v e
    obtain ⟨h, ex⟩ := pat (show pl[j]? = some (k, v) from e)
    obtain ⟨⟨k', e1, e3⟩, _⟩ := hkv j h
    have ek : (kv j).1 = k := congrArg Prod.fst ex.symm
    have ev : (kv j).2 = v := congrArg Prod.snd ex.symm
    rw [ev] at e1
    rw [ek] at e3
    exact ⟨k', e1, e3⟩
  · have hm : (s.heap.objs.size == sysModules) = false := beq_eq_false_iff_ne.mpr (Nat.ne_of_gt I.big)
    have hlen : (mergeK [] kvs).length ≤ sizeLine := by
      refine Nat.le_trans (length_mergeK kvs []) ?_
      rw [List.length_nil, Nat.zero_add, rel.length, hl]
      exact hz
    exact ⟨.ref s.heap.objs.size, _, I.laid (t' := tk) (fun b o e => kp b o (by simp) e) (Nat.le_refl _) (show ObjOk X.prog X.w _ _ _ (.dK (mergeK [] kvs)) from ⟨hlen, hm, merged [] prs, KV.merge rel .nil, hd'⟩), rfl, q _ (I.hok.fresh (Nat.le_refl _))⟩
/-- dict of a list, of a tuple of pairs -/
def gDictP : GN := fun os Q => match os with
  | [o] => match seqO o with
    | some ts => match pairsT ts with
      | some l => Q (.dct (kmerge [] l))
      | none => False
    | none => False
  | _ => False
theorem callA_dictP {X : Cx} (hc : X.calm = true) : CallA X (.type "dict") gDictP := CallA.mk fun pins s σ H F vs xs us Q Qa I r hx h fin => by
  unfold gDictP at h
  split at h
  · rename_i o
    split at h
    · rename_i ts e
      split at h
      · rename_i l el
        cases hx with
        | cons h1 hr =>
          cases hr
          unfold seqO at e
          split at e
          · rename_i us' es
            cases e
            obtain ⟨a, us', rfl, sl, rp⟩ := h1.ls es
            obtain ⟨ps, kvs, rfl, q1, q2⟩ := pairsE rp el
            exact call_dictP hc pins s σ H _ _ Q I r ⟨a, ps, kvs, rfl, sl, q1, fun p hp => fin.dct hp (q2.merge .nil) h⟩
          · obtain ⟨a, us', rfl, sp, rp⟩ : ∃ a us', _ = V.ref a ∧ SqP H a us' ∧ RPs X.K H F us' ts := by
              cases o with
              | pure t =>
                cases t with
                | tuple us2 => cases e; exact RP.tupP h1
                | _ => cases e
              | _ => cases e
            obtain ⟨ps, kvs, rfl, q1, q2⟩ := pairsE rp el
            exact call_dictT hc pins s σ H _ _ Q I r ⟨a, ps, kvs, rfl, sp, q1, fun p hp => fin.dct hp (q2.merge .nil) h⟩
      · exact h.elim
    · exact h.elim
  · exact h.elim
end DL
set_option Elab.async false
set_option linter.all false
set_option maxRecDepth 100000
set_option maxHeartbeats 4000000
/-! THE DATA LAYER, part 28: an exception that is caught is tracked from then on. -/
namespace DL
open PySem PySem.Spec L2
open PyProof.Rows hiding St
variable [Tbs]
section
variable {X : Cx} {pins pn' : List (Addr × Obj)} {σ : St} {H : Hp} {s : Shared} {a : Addr} {oe : Obj} {vs : Array Value} {cls : Value} {d : Option Addr}
/-- an except suite's context, nothing pinned there -/
theorem Inv.inSuite (I : Inv X pins σ H s) (a : Addr) : Inv (X.suite a (X.pn ++ pins)) [] σ H s where
  ok := I.ok.suite _ _
  os := I.os
  bare := I.bare
  base := I.base
  loc := I.loc
  cell := I.cell
  free := I.free
  freeC := I.freeC
  pin p hp := I.pin p (by simpa using hp)
  hok := I.hok
  len := I.len
theorem Inv.outSuite (I : Inv (X.suite a (X.pn ++ pins)) pn' σ H s) (ok : X.Ok) : Inv X pins σ H s where
  ok := ok
  os := I.os
  bare := I.bare
  base := I.base
  loc := I.loc
  cell := I.cell
  free := I.free
  freeC := I.freeC
  pin p hp := I.pin p (List.mem_append_left _ hp)
  hok := I.hok
  len := I.len
/-- an exception's object, untracked so far, is tracked -/
theorem Inv.track (I : Inv X pins σ H s) (na : H a = none) (n0 : X.s_0.heap.get? a = none) (he : s.heap.get? a = some oe) (hz : Zc cls d oe) (hd : oe.data = .fields vs) (nL : a ≠ X.env.locals) (np : ∀ p ∈ X.pn ++ pins, p.1 ≠ a) :
    Inv X pins σ (upd H a (ExT a cls d)) s := by
  have old : ∀ b o, X.s_0.heap.get? b = some o → b ≠ a := fun b o e z => by rw [z, n0] at e; cases e
  have held : ∀ b u, H b = some u → b ≠ a := fun b u e z => by rw [z, na] at e; cases e
  have cne : ∀ x c, X.env.cells.lookup x = some c → c ≠ a := fun x c e z => by
    obtain ⟨v, o, ho, hc⟩ := I.cell x c e
    rw [z, he] at ho
    cases ho
    rw [hd] at hc
    cases hc
  refine ⟨I.ok, I.os, I.bare, ⟨I.base.keep, I.base.slot, fun b o e n hx => ?_, I.base.there, fun b xs e => ?_, fun b o u e => ?_, fun b ps e => ?_⟩, I.loc, I.cell, ?_, fun x c e => ?_, fun p hp => ?_, ?_, I.len⟩
  · rw [upd_ne (old b o e)]; exact I.base.free b o e n hx
  · have q := I.base.tups b xs e
    rw [upd_ne (held b _ q)]; exact q
  · have q := I.base.frzs b o u e
    rw [upd_ne (held b _ q)]; exact q
  · obtain ⟨m, q⟩ := I.base.tbls b ps e
    exact ⟨m, by rw [upd_ne (held b _ q)]; exact q⟩
  · rw [upd_ne (Ne.symm nL)]; exact I.free
  · rw [upd_ne (cne x c e)]; exact I.freeC x c e
  · obtain ⟨e, n, r⟩ := I.pin p hp
    exact ⟨e, by rw [upd_ne (np p hp)]; exact n, r⟩
  · refine I.hok.laidN (fun _ _ e => e) na ⟨⟨oe, vs, he, hz, hd⟩, ⟨oe, he⟩, ?_⟩
    rintro g1 g2 ⟨o, v, e1, e2, e3⟩ k
    exact ⟨o, v, k o e1, e2, e3⟩
end
/-- what 'except c as n: suite' wishes of the body's exceptions; n in slot i -/
def wCat (K : PySem.W.Frag) (c : Value) (i : Nat) (ts : TS) (Wo : L2.WX) (D : Ends) : L2.WX := fun cls d σ H =>
  ∃ b, PySem.W.exmOne K cls c = some b ∧
    (b = true → ∀ a, H a = none → ts { nx := fun σ1 H1 => D.nx (σ1.set i none) H1, rt := D.rt, bk := fun σ1 H1 => D.bk (σ1.set i none) H1, ct := fun σ1 H1 => D.ct (σ1.set i none) H1 } (σ.set i (some (.ref a))) (upd H a (ExT a cls d))) ∧
    (b = false → Wo cls d σ H)
section
variable {X : Cx} {x n : Str} {c : Value} {i : Nat} {body su : List Stmt} {st : Stmt} {np p1 pos : Pos} {tb : L2.WX → TS} {ts : TS} {Wo : L2.WX}
theorem ps_catch (hs : X.stack = X.env :: X.outer) (hf : X.env.frame = some X.env.locals) (hex : X.ex = []) (hN : X.N.Nodup) (hi : X.N[i]? = some n) (hln : X.env.kindOf n = some .local) (hc : Names X x c) (tk : Takes X Wo)
    (hb : ∀ (W : L2.WX) (pn : List (Addr × Obj)) (xe : Value → Shared → Prop), Takes (X.tr pn xe) W → PassesOwn (model X.prog X.w) X.A X.env xe → PSs (X.tr pn xe) body (tb W))
    (hsu : ∀ (a : Addr) (pn : List (Addr × Obj)), PSs (X.suite a pn) (st :: su) ts) :
    PS X (.Try body [.ExceptHandler (some (.Name x np)) (some n) (st :: su) p1] [] [] pos) (fun D σ H => tb (wCat X.K c i ts Wo D) D σ H) := by
  refine ⟨fun pins s σ H D I h => ?_⟩
  have okX := I.ok
  have frX : X.A.frames = some (X.env :: X.outer) := by rw [okX.frames, hs]
  let M := model X.prog X.w
  let hnd : List ExceptHandler := [.ExceptHandler (some (.Name x np)) (some n) (st :: su) p1]
  let look : Value → Shared → Prop := fun e s1 => wpAny M X.A (noteFrame e X.env) (fun _ s2 => wpAny M X.A (setFlight e none) (fun _ s3 => wpAny M X.A (handleBy e X.env hnd) (SP X pins D) X.xe s3) X.xe s2) X.xe s1
  refine wpAny_Try_except (wpAny_mono ((hb (wCat X.K c i ts Wo D) (X.pn ++ pins) look (fun u s1 xx => ?_) PassesOwn.looking).run [] s σ H D (I.toTry _) h) (fun f s1 hsp => ?_) fun e s1 he => he)
  · obtain ⟨a, B, s0, pins0, σ1, H1, cls, d, rfl, J0, nb, up, sky, na, os, ag, b, hb1, yes, no⟩ := xx
    have J : Inv X pins σ1 H1 s0 := J0.ofTry okX
    rw [hs] at sky
    show wpAny M X.A (noteFrame (.ref a) X.env) _ _ _
    refine Sky.land Zc.steady frX hf sky fun g3 fly3 up3 => ?_
    have I3 : Inv X pins σ1 H1 { s1 with heap := g3 } := J.landed nb fly3.1 (up.trans up3) os ag
    obtain ⟨oe, vs, ge, gz, gd⟩ := fly3.there
    have nfr : a ∉ frs (X.env :: X.outer) := fun hm => by
      obtain ⟨_, o', e', hnf⟩ := fly3.2.2.1.mem hm
      rw [ge] at e'
      cases e'
      exact hnf _ gd
    have nL : a ≠ X.env.locals := fun z => nfr (List.mem_filterMap.mpr ⟨X.env, List.mem_cons_self, by rw [hf, z]⟩)
    have nS : s0.heap.get? a = none := by
      cases e : s0.heap.get? a with
      | none => rfl
      | some o =>
        have q := nb a o e (by rw [hs]; exact nfr)
        rw [fly3.2.1] at q
        cases q
    have n0 : X.s_0.heap.get? a = none := by
      cases e : X.s_0.heap.get? a with
      | none => rfl
      | some o =>
        obtain ⟨o', q⟩ := J.base.there a o e (by rw [hex]; simp)
        rw [nS] at q
        cases q
    have npn : ∀ p ∈ X.pn ++ pins, p.1 ≠ a := fun p hp z => by
      have q := (J.pin p hp).1
      rw [z, nS] at q
      cases q
    have S3 := Inv.inSuite I3 a
    refine wpAny_handleBy_cons (codeAny_handlers_test ?_) (by intro q; cases q)
    have LT : PySem.W.Looks M g3 (typeOf (.ref a)) cls := fun A Q E s k q => wpAny_typeOf_ref (k _ _ ge) (by rw [gz.1]; exact q)
    have LM := PySem.W.exm_one (M := M) I3.kIn LT hb1
    have test : ∀ {Q : Value → Shared → Prop} {E : Value → Shared → Prop}, Q c { s1 with heap := g3 } → wpAny M (X.A.mark (some (.ref a))) (eval (.Name x np) X.env) Q E { s1 with heap := g3 } := fun {Q E} q => by
      obtain ⟨g1, g2, g4 | ⟨g4, g5, g6⟩⟩ := hc
      · exact ld_glob (X := X.suite a (X.pn ++ pins)) S3 g1 g4 q g2
      · exact ld_blt (X := X.suite a (X.pn ++ pins)) S3 g1 g4 g5 q g6 g2
    refine test (LM.here ?_)
    cases b with
    | true =>
      refine codeAny_handlers_suite_as (HandSPX.lands_againZ fly3 fun g4 fly4 up4 => ?_)
      have I4 : Inv X pins σ1 H1 { s1 with heap := g4 } := J.landed nb fly4.1 ((up.trans up3).trans up4) os ag
      obtain ⟨oe4, vs4, ge4, gz4, gd4⟩ := fly4.there
      have S4 := Inv.inSuite (Inv.track I4 na n0 ge4 gz4 gd4 nL npn) a
      refine store_ok (X := X.suite a (X.pn ++ pins)) (v := .ref a) S4 hN hi (.inl hln) rfl (fun s5 S5 => ?_) (.inr hln)
      refine wpAny_mono ((hsu a (X.pn ++ pins)).run [] s5 _ _ _ S5 (yes rfl a na)) (fun f s6 hsp => ?_) fun _ _ z => False.elim z
      have fin : ∀ {σ6 : St} {H6 : Hp} {Q : Shared → Prop}, Inv (X.suite a (X.pn ++ pins)) [] σ6 H6 s6 → (∀ s7, Inv X pins (σ6.set i none) H6 s7 → Q s7) →
          wpAny M X.A (do bindName X.env n .none; unbindBehindTheSuite X.env n p1) (fun _ s7 => Q s7) X.xe s6 := fun {σ6 H6 Q} S6 hq => gone_ok (Inv.outSuite S6 okX) hN hi hln hq
      match f, hsp with
      | .next, ⟨σ6, H6, S6, q6⟩ => exact fin S6 fun s7 I7 => ⟨_, _, I7, q6⟩
      | .brk, ⟨σ6, H6, S6, q6⟩ => exact fin S6 fun s7 I7 => ⟨_, _, I7, q6⟩
      | .cont, ⟨σ6, H6, S6, q6⟩ => exact fin S6 fun s7 I7 => ⟨_, _, I7, q6⟩
      | .ret u, ⟨v6, σ6, H6, S6, r6, q6⟩ => exact fin S6 fun s7 I7 => ⟨_, _, _, I7, r6, q6⟩
    | false =>
      show wpAny M X.A (handleBy (.ref a) X.env []) _ _ _
      refine wpAny_handleBy_nil ?_
      obtain ⟨k1, k2, k3, oe, vs, T, oT, ts', he, hz, hd, h1, hr⟩ := id fly3
      unfold PySem.passOn
      refine wpAny_bind (wpAny_field he hd h1 ?_)
      rw [if_neg (show ¬ ((Value.ref T == Value.none) = true) from by simp)]
      have on : wpAny M X.A (setFlight (.ref a) X.env.frame) (fun _ s4 => wpAny M X.A (throw (.ref a) : Sem Flow) (SP X pins D) X.xe s4) X.xe { s1 with heap := g3 } := by
        rw [hf]
        refine HandSPX.setFlight_upZ fly3 fun g4 held4 up4 => wpAny_throw (tk _ _ ?_)
        exact ⟨a, B, s0, pins, σ1, H1, cls, d, rfl, J, nb, (up.trans up3).trans up4, .inr (.inr (by rw [hs]; exact held4)), na, os, ag, no rfl⟩
      first
        | exact wpAny_bind (wpAny_pure (wpAny_bind on))
        | exact wpAny_bind on
  · match f, hsp with
    | .next, ⟨σ1, H1, J1, q⟩ => exact wpAny_execs_nil ⟨σ1, H1, J1.ofTry okX, q⟩
    | .brk, ⟨σ1, H1, J1, q⟩ => exact ⟨σ1, H1, J1.ofTry okX, q⟩
    | .cont, ⟨σ1, H1, J1, q⟩ => exact ⟨σ1, H1, J1.ofTry okX, q⟩
    | .ret u, ⟨v, σ1, H1, J1, r, q⟩ => exact ⟨v, σ1, H1, J1.ofTry okX, r, q⟩
end
end DL
set_option Elab.async false
set_option linter.all false
set_option maxRecDepth 100000
set_option maxHeartbeats 4000000
/-! THE DATA LAYER, part 29: defs that may raise, calls of them, try. -/
namespace DL
open PySem PySem.Spec L2
open PyProof.Rows hiding St
section
variable [Tbs]
/-- an exception in the air: its class cls, its dict d -/
def XOk (K : PySem.W.Frag) (H : Hp) (F : Addr → Prop) (cls : Value) (d : Option Addr) (e : Exc) : Prop :=
  cls = .ref (Tbs.cad e.nm) ∧ e.nm ∈ Tbs.nms ∧ (e.arg = none → d = none) ∧ ∀ f t, e.arg = some (f, t) → ∃ dd fs u, d = some dd ∧ H dd = some (.xd fs) ∧ ¬ F dd ∧ fs.lookup f = some u ∧ RP K H F u t
theorem XOk.weak {K : PySem.W.Frag} {H : Hp} {F F' : Addr → Prop} {cls : Value} {d : Option Addr} {e : Exc} (h : XOk K H F cls d e) (w : ∀ a, F' a → F a) : XOk K H F' cls d e :=
  ⟨h.1, h.2.1, h.2.2.1, fun f t q => let ⟨dd, fs, u, h1, h2, h3, h4, h5⟩ := h.2.2.2 f t q; ⟨dd, fs, u, h1, h2, fun z => h3 (w _ z), h4, h5.weak w⟩⟩
/-- caught: tracked at a -/
theorem XOk.rx {K : PySem.W.Frag} {H : Hp} {F : Addr → Prop} {cls : Value} {d : Option Addr} {e : Exc} {a : Addr} (h : XOk K H F cls d e) (na : H a = none) (nf : ¬ F a) : RX K (upd H a (ExT a cls d)) F (.ref a) e := by
  obtain ⟨rfl, hm, m0, h⟩ := h
  refine ⟨a, d, rfl, upd_same, nf, hm, m0, fun f t q => ?_⟩
  obtain ⟨dd, fs, u, h1, h2, h3, h4, h5⟩ := h f t q
  exact ⟨dd, fs, u, h1, Pres.upd na dd _ h2, h3, h4, h5.pres (Pres.upd na)⟩
/-- what a def does that may raise, of arguments that it does not change: what it returns, what it raises -/
abbrev FSpecE := List O → (O → Prop) → (Exc → Prop) → Prop
def NoF : Addr → Prop := Fo fun _ => []
theorem noF {a : Addr} : ¬ NoF a := fun ⟨_, m⟩ => nomatch m
def ASpE (K : PySem.W.Frag) (n : Nat) (spec : FSpecE) : Sp := fun vs H Q E => ∃ os G Qa Ea, vs.length = n ∧ RS0 K (vs.map some) H (os.map some) (fun _ => []) G ∧ spec os Qa Ea ∧
  (∀ v o A H', RO K H' (Or1 NoF (A ++ G)) v o A → A.Nodup → (∀ a ∈ A, a ∉ G) → Ext H NoF H' (Or1 NoF A) → Qa o → Q v H') ∧
  ∀ cls d e H', XOk K H' (Or1 NoF G) cls d e → Ext H NoF H' NoF → Ea e → E cls d H'
end
section
variable [Tbs] [Bas]
/-- the wish about exceptions, by the environment in which they rise -/
def WE (K : PySem.W.Frag) (Ea : Exc → AEnv → Prop) : L2.WX := fun cls d σ H => ∃ e ρ fp G, RS K σ H ρ fp G ∧ XOk K H (Or1 (Fo fp) G) cls d e ∧ Ea e ρ
def tCallE (fl : List Bool) (spec : FSpecE) (Ea : Exc → AEnv → Prop) (ts : XTs) : XT := fun ρ Q => ts ρ fun ps ρ1 => prep fl ps ρ1 fun os _ ρ2 => spec os (fun o => Q (.val o) ρ2) fun e => Ea e ρ2
theorem callE_go {K : PySem.W.Frag} {n : Nat} {fl : List Bool} {spec : FSpecE} {Ea : Exc → AEnv → Prop} {ts : XTs} {σ : St} {H : Hp} {Q : VK} (hfl : ∀ i, fl.getD i false = false) (h : LX K (tCallE fl spec Ea ts) σ H Q) :
    LA K n ts σ H fun vs H1 => ASpE K fl.length spec vs H1 Q fun cls d H' => WE K Ea cls d σ H' := by
  obtain ⟨ρ, fp, G, Qa, R, h, fin⟩ := h
  refine ⟨ρ, fp, G, _, R, h, fun vs ps A H1 ρ1 fp1 hl R1 r1 nd1 ng1 x1 h1 => ?_⟩
  obtain ⟨os, js, ρ2, fp2, Bs, R2, r2, d2, g2, i2, l2, z2, n2, h2⟩ := prep_ok r1 R1 R.g0 (fun a z => z) ng1 nd1 h1
  have hB : Bs.flatten = [] := List.eq_nil_iff_forall_not_mem.mpr fun a m => by
    obtain ⟨i, m⟩ := mem_flat.mp m
    rw [z2 i (hfl i)] at m
    cases m
  have hB' : (fun i => Bs.getD i []) = fun _ : Nat => ([] : List Addr) := funext fun i => z2 i (hfl i)
  have hG : ∀ a, a ∈ allFp ρ2 fp2 ++ G ↔ Fo fp2 a ∨ a ∈ G := fun a => by rw [List.mem_append, R2.all]
  have R0 := RCs.rs R2 r2 d2 g2 hG
  rw [hB'] at R0
  have R2' : RS K σ H1 ρ2 fp2 ([] ++ G) := by rw [hB] at R2; exact R2
  have x2 : Ext H (Fo fp) H1 (Fo fp2) := x1.weak (fun _ z => z) fun a z => (i2 a (.inl z))
  have thru : ∀ {H' : Hp} {A' : List Addr}, Ext H1 NoF H' (Or1 NoF A') → (∀ a ∈ A', ∃ u, H' a = some u) → RS K σ H' ρ2 fp2 (A' ++ G) ∧ Ext H1 (Fo fp2) H' (Or1 (Fo fp2) A') := fun {H' A'} x hi => by
    have xs : Ext H1 (· ∈ ([] : List Addr)) H' (· ∈ A') := x.weak (fun a z => (noF z).elim) fun a z => .inr z
    exact ⟨R2'.thru xs (fun a _ z => nomatch z) hi, (x.addP (Fo fp2)).weak (fun a z => z.elim (fun q => q) fun q => (noF q).elim) fun a z => z.imp (fun q => q) .inr⟩
  refine ⟨os, allFp ρ2 fp2 ++ G, _, _, n2, R0, h2, fun v o A' H' ro nd' ng' x' q => ?_, fun cls d e H' xo x' q => ?_⟩
  · obtain ⟨R3, x3⟩ := thru x' fun a m => let ⟨u, e, _⟩ := ro.there a m; ⟨u, e⟩
    refine fin v (.val o) A' H' ρ2 fp2 R3 ⟨ro.weak fun a z => ?_, nd', fun a m z => ng' a m (List.mem_append_right _ z)⟩ (x2.trans x3) q
    rcases z with z | z
    · exact .inr (List.mem_append_right _ ((hG a).mpr (.inl z)))
    · rcases List.mem_append.mp z with z | z
      · exact .inr (List.mem_append_left _ z)
      · exact .inr (List.mem_append_right _ ((hG a).mpr (.inr z)))
  · obtain ⟨R3, x3⟩ := thru (A' := []) (x'.weak (fun _ z => z) fun a z => z.elim (fun q => q) fun m => nomatch m) fun a m => nomatch m
    exact ⟨e, ρ2, fp2, G, R3, xo.weak fun a z => .inr ((hG a).mpr z), q⟩
end
/-! ### a def that may raise keeps its promise -/
section
variable [Tbs]
def endsE (Qa : O → Prop) : AEnds := { nx := fun _ => Qa (.pure .none), rt := fun o _ => Qa o }
variable {P : Program} {w : World} {K : PySem.W.Frag} {mg : Str → Option Value} {base : Heap} {x qual : Str} {params : Arguments} {body : List Stmt} {scope : Scope} {f : Addr} {fd : FuncData}
end
end DL
set_option Elab.async false
set_option linter.all false
set_option maxRecDepth 100000
set_option maxHeartbeats 4000000
/-! THE DATA LAYER, part 30: raise C(x), C a class of one's own whose __init__ calls the base's and keeps x. -/
namespace DL
open PySem PySem.Spec L2
open PyProof.Rows hiding St
/-- what is known of the base class, of which the others are made -/
structure BaseC (K : PySem.W.Frag) (mg : Str → Option Value) (x : Str) (C : Addr) : Prop where
  gl : mg x = some (.ref C)
  ga : PySem.W.specialIn K (.ref C) "__getattribute__" = some (some (.builtin "type.__getattribute__"))
  it : ∃ mc, PySem.W.readsIn K C mc = true ∧ PySem.W.findCls K (.ref C) mc "__init__" = some (.val (.builtin "ValueError.__init__"))
/-- B.__init__(self, ..) -/
theorem pe_binit {X : Cx} {e : Expr} {es : List Expr} {ta : TA} {x : Str} {C : Addr} {p1 p2 pos : Pos} {pl : Sem Bool} (T : BaseC X.K X.mg x C) (hg : Gl X x) (ha : PA X (e :: es) ta)
    (hc : eval (.Call (.Attribute (.Name x p1) "__init__" p2) (e :: es) [] pos) X.env = (do
      let ov ← eval (.Name x p1) X.env
      standAt p2.atName
      let (f, first) ← holding [ov] (getMethod ov "__init__" pl)
      callWith pos f first (backTo pos (starEach (e :: es) X.env)) (backToKw pos (keywordEach [] X.env))) := by rfl)
    (hdb : (x == ("__debug__" : Str)) = false := by decide) (he : starEach (e :: es) X.env = (false, eval e X.env) :: starEach es X.env := by rfl) (hpl : (backTo pos (starEach es X.env)).any (·.1) = false := by rfl) :
    PE X (.Call (.Attribute (.Name x p1) "__init__" p2) (e :: es) [] pos) (tVeI X.K ta) := by
  refine ⟨fun pins s σ H Q I h => ?_⟩
  obtain ⟨mc, hr, hf⟩ := T.it
  refine PySem.W.methodCall_KW (ld_glob I hg T.gl ?_ hdb) hc
  refine PySem.W.method_cls I.kIn T.ga (PySem.W.cls_value I.kIn hr hf (by decide +kernel) ?_)
  show wpAny _ _ (callWith pos (Value.builtin "ValueError.__init__") [] (backTo pos (starEach (e :: es) X.env)) []) _ _ _
  refine PyProof.Rows.callWith_method1 (thn (ha.run pos pins _ σ H _ (I.tok _) h) fun us s1 ⟨vs, H1, I1, r1, a, C', ws, ev, hl, T', ea, q⟩ => ?_) he hpl
  subst ev
  cases r1 with
  | @cons _ u0 _ ur ra rw' =>
    obtain rfl : u0 = Value.ref a := ra
    exact oinit_ok T' I1 ea (by rw [← Paired.length rw', sizeLine_eq]; omega) fun s' J => ⟨.non, H1, J, rfl, q⟩
/-- the promise of such an __init__ -/
def spInit (K : PySem.W.Frag) (C : Addr) (fld : Str) : Sp := fun vs H Q _ => ∃ a y, vs = [.ref a, y] ∧ H a = some (exo a C none) ∧
  ∀ dx, H dx = none → dx ≠ a → Q .non (upd (upd H dx (exd dx [(fld, y)])) a (exo a C (some dx)))
/-- what is known of a class: its own facts, its __init__ -/
structure ExcC1 (K : PySem.W.Frag) (C fI : Addr) (fld : Str) : Prop where
  ox : OexC K C
  no : PySem.W.findIn K (.ref C) fld = some none
  ini : PySem.W.findIn K (.ref C) "__init__" = some (some (.ref fI))
  ti : PySem.W.typeIn K (.ref fI) = some (.type "function")
section
variable {P : Program} {w : World} {K : PySem.W.Frag} {mg : Str → Option Value} {base : Heap} {qual : Str} {scope : Scope} {params : Arguments} {f C fI B : Addr} {fd : FuncData} {fld txt bx prm : Str} {p1 p2 p3 p4 p5 p6 p7 p8 p9 p10 : Pos} {kk : Nat}
theorem init_ok (bT : BaseC K mg bx B) (cT : ExcC1 K C fI fld)
    (F : FunD K "__init__" qual params [.Expr (.Call (.Attribute (.Name bx p1) "__init__" p2) [.Name "self" p3, .Constant (.str txt) kk p4] [] p5) p6, .Assign [.Attribute (.Name "self" p7) fld p8] (.Name prm p9) p10] scope [] [] f fd)
    (S : FnScope ["self", prm] ["self", prm] scope) (hb : ∀ (cdv : Value) (L f : Addr), (envOfC qual scope L f cdv).kindOf bx = some .globalImplicit)
    (hd1 : (bx == ("__debug__" : Str)) = false) (hd2 : (prm == ("__debug__" : Str)) = false) (hd3 : (prm == ("__classdict__" : Str)) = false)
    (v0 : ∀ (cdv : Value) (L f : Addr), Vis (envOfC qual scope L f cdv).scope "self") (v1 : ∀ (cdv : Value) (L f : Addr), Vis (envOfC qual scope L f cdv).scope prm)
    (hc : ∀ (env : Env), ∃ pl, eval (.Call (.Attribute (.Name bx p1) "__init__" p2) [.Name "self" p3, .Constant (.str txt) kk p4] [] p5) env = (do
      let ov ← eval (.Name bx p1) env
      standAt p2.atName
      let (f, first) ← holding [ov] (getMethod ov "__init__" pl)
      callWith p5 f first (backTo p5 (starEach [.Name "self" p3, .Constant (.str txt) kk p4] env)) (backToKw p5 (keywordEach [] env))))
    (hs : ∀ env, swapsWith (.Call (.Attribute (.Name bx p1) "__init__" p2) [.Name "self" p3, .Constant (.str txt) kk p4] [] p5) none p6.line env = pure false) (hs2 : ∀ env, swapsWith (.Name prm p9) (some (.Attribute (.Name "self" p7) fld p8)) p10.line env = pure false) :
    FnOk P w K mg base CX0 1 f fd ["self", prm] (spInit K C fld) := by
  refine F.ok S (fun vs H Q E ⟨a, y, h, _⟩ => by rw [h]; rfl) fun cdv A outer s H vs Q E hr h => ?_
  obtain ⟨a, y, rfl, ha, q⟩ := h
  obtain ⟨pl, hc⟩ := hc (cxOf CX0 P w K mg base ["self", prm] qual scope f cdv A outer s H E).nox.env
  let X := (cxOf CX0 P w K mg base ["self", prm] qual scope f cdv A outer s H E).nox
  have n0 : X.N[0]? = some ("self" : Str) := rfl
  have n1 : X.N[1]? = some prm := rfl
  have e0 : ∀ {pos : Pos}, PE X (.Name "self" pos) (tVar 0) := fun {pos} => pe_var n0 (v0 cdv _ _) (by decide) (by decide)
  have e1 : ∀ {pos : Pos}, PE X (.Name prm pos) (tVar 1) := fun {pos} => pe_var n1 (v1 cdv _ _) hd2 hd3
  have st1 : PS X (.Expr (.Call (.Attribute (.Name bx p1) "__init__" p2) [.Name "self" p3, .Constant (.str txt) kk p4] [] p5) p6) _ :=
    ps_expr (pe_binit (X := X) (pl := pl) bT (hb cdv _ _) (pa_cons e0 (pa_cons pe_str pa_nil)) hc hd1) (hs _)
  have st2 : PS X (.Assign [.Attribute (.Name "self" p7) fld p8] (.Name prm p9) p10) _ := ps_ost e0 e1 (hs2 _)
  refine ⟨_, PSs.nox (pss_cons st1 (pss_one st2)), ?_⟩
  have g0 : (L2.start ["self", prm] [V.ref a, y])[0]? = some (some (V.ref a)) := rfl
  have g1 : (L2.start ["self", prm] [V.ref a, y])[1]? = some (some y) := rfl
  refine ⟨_, g0, ?_⟩
  refine ⟨a, C, [.str txt], rfl, by simp, cT.ox, ha, ?_⟩
  refine ⟨y, g1, .ref a, g0, a, C, rfl, cT.ox, cT.no, .inl ⟨ha, fun dx n ne => ?_⟩⟩
  exact q dx n ne
end
end DL
set_option Elab.async false
set_option linter.all false
set_option maxRecDepth 100000
set_option maxHeartbeats 4000000
/-! THE DATA LAYER, part 31: raise, try in the layer. -/
namespace DL
open PySem PySem.Spec L2
open PyProof.Rows hiding St
section
variable [Tbs] [Bas]
/-- raise C(x) -/
def sRaise (nm fld : Str) (Ea : Exc → AEnv → Prop) (ts : XTs) : ST := fun D ρ => ts ρ fun ps ρ1 => takeAll ps ρ1 fun us ρ2 => match us with
  | [t] => Ea ⟨nm, some (fld, t)⟩ ρ2
  | _ => False
theorem del_upd {H : Hp} {a dx : Addr} {u u' u2 v : HO} (ha : H a = none) (hd : dx ≠ a) : upd (del (upd (upd (upd H a u) dx u2) a u') a) dx v = upd H dx v := by
  funext b
  by_cases q : b = dx
  · rw [q, upd_same, upd_same]
  · rw [upd_ne q, upd_ne q]
    by_cases q2 : b = a
    · rw [q2, del_same, ha]
    · rw [del_ne q2, upd_ne q2, upd_ne q, upd_ne q2]
theorem sx_raise {X : Cx} {P : Nat → Bool} {k : Nat} {nm fld x : Str} {fI : Addr} {fd : FuncData} {ps : List Str} {e : Expr} {ts : XTs} {Ea : Exc → AEnv → Prop} {p p2 pos : Pos} (hc : X.calm = true) (tk : Takes X (WE X.K Ea)) (T : ExcC1 X.K (Tbs.cad nm) fI fld) (hn : nm ∈ Tbs.nms)
    (F : FnOk X.prog X.w X.K X.mg X.base CX0 k fI fd ps (spInit X.K (Tbs.cad nm) fld)) (hr : Room (k + 1) X.A) (hb : Binds X.K fd ps []) (hg : Gl X x) (hm : X.mg x = some (.ref (Tbs.cad nm))) (ha : EXs X [e] ts)
    (hdb : (x == ("__debug__" : Str)) = false := by decide) (he : starEach [e] X.env = (false, eval e X.env) :: starEach [] X.env := by rfl) (hpl : (backTo p2 (starEach [] X.env)).any (·.1) = false := by rfl) :
    SX X P (.Raise (some (.Call (.Name x p) [e] [] p2)) none pos) (sRaise nm fld Ea ts) := by
  refine ⟨PS.imp (ps_raise hc tk (pmk_oex (dvs := []) T.ox T.ini T.ti F hr hb .nil pass0 hg hm ha.pa hdb he hpl)) ?_⟩
  rintro D σ H ⟨ρ, fp, G, Da, R, h, f⟩
  refine ⟨ρ, fp, G, _, R, h, fun vs qs A H1 ρ1 fp1 hl R1 r1 nd1 ng1 x1 h1 => ?_⟩
  obtain ⟨us, ρ2, fp2, R2, q2, i2, h2⟩ := takeAll_ok R.g0 r1 R1 (fun a z => z) (fun j o e => ⟨o, e⟩) ng1 nd1 h1
  split at h2
  · rename_i t
    cases q2 with
    | @cons v _ _ _ qv qr =>
      cases qr
      refine ⟨by simp, fun a na => ?_⟩
      refine ⟨a, v, rfl, upd_same, fun dx n ne => ?_⟩
      have n1 : H1 dx = none := by rw [upd_ne ne] at n; exact n
      refine ⟨rfl, dx, [(fld, v)], upd_same, by rw [upd_ne ne, upd_same], n1, ?_⟩
      rw [del_upd na ne]
      refine ⟨⟨nm, some (fld, t)⟩, ρ2, fp2, G, R2.pres (Pres.upd n1), ⟨rfl, hn, fun z => (by cases z), fun f' t' e' => ?_⟩, h2⟩
      cases e'
      exact ⟨dx, _, v, rfl, upd_same, R2.fresh n1, by simp [List.lookup], qv.pres (Pres.upd n1)⟩
  · exact h2.elim
end
/-! ### try: body, except c as n: suite -/
section
variable [Tbs]
theorem RS.rebase {K : PySem.W.Frag} {σ σ' : L2.St} {H H' : Hp} {ρ ρ' : AEnv} {fp fp' : Nat → List Addr} {A G : List Addr} [Bas] (R : RS K σ H ρ fp G) (R' : RS0 K σ' H' ρ' fp' (A ++ G)) (x : Ext H (Fo fp) H' (Or1 (Fo fp') A)) : RS K σ' H' ρ' fp' (A ++ G) := by
  refine ⟨R', R.bs.trans ((x.addP (fun a => Or1 (Fo fp) G a ∧ a ∉ Bas.G0)).weak (fun a z => z.elim (fun z => z) fun z => ⟨.inl z, fun m => R.gf a (R.g0 a m) z⟩) fun a z => ?_), fun a m => List.mem_append_right _ (R.g0 a m)⟩
  rcases z.1 with q | q
  · exact .inr (.inl q)
  · rcases List.mem_append.mp q with q | q
    · exact .inr (.inr q)
    · exact .inl ⟨.inr q, z.2⟩
def sTry (i : Nat) (isC : Str → Bool) (tb : (Exc → AEnv → Prop) → ST) (th : ST) (Eo : Exc → AEnv → Prop) : ST := fun D ρ =>
  tb (fun e ρ1 => if isC e.nm = true then (Nat.blt i ρ1.length = true) ∧ th { nx := fun ρ2 => D.nx (ρ2.set i none), bk := fun ρ2 => D.bk (ρ2.set i none), ct := fun ρ2 => D.ct (ρ2.set i none), rt := D.rt } (ρ1.set i (some (.exc e))) else Eo e ρ1) D ρ
theorem sx_try [B0 : Bas] {X : Cx} {P : Nat → Bool} {x n : Str} {c : Value} {i : Nat} {body su : List Stmt} {st : Stmt} {np p1 pos : Pos} {isC : Str → Bool} {tb : (Exc → AEnv → Prop) → ST} {th : ST} {Eo : Exc → AEnv → Prop}
    (hs : X.stack = X.env :: X.outer) (hf : X.env.frame = some X.env.locals) (hex : X.ex = []) (hN : X.N.Nodup) (hi : X.N[i]? = some n) (hln : X.env.kindOf n = some .local) (hc : Names X x c) (tk : Takes X (WE X.K Eo))
    (hP : ∀ j, P j = false) (hx : ∀ m ∈ Tbs.nms, PySem.W.exmOne X.K (.ref (Tbs.cad m)) c = some (isC m))
    (hb : ∀ (B : Bas) (pn : List (Addr × Obj)) (xe : Value → Shared → Prop) (Eb : Exc → AEnv → Prop), Takes (X.tr pn xe) (@WE _ B X.K Eb) → PassesOwn (model X.prog X.w) X.A X.env xe → @SXs _ B (X.tr pn xe) P body (tb Eb))
    (hsu : ∀ (a : Addr) (pn : List (Addr × Obj)), SXs (X.suite a pn) P (st :: su) th) :
    SX X P (.Try body [.ExceptHandler (some (.Name x np)) (some n) (st :: su) p1] [] [] pos) (sTry i isC tb th Eo) := by
  have pq : ∀ {σ σ' : L2.St}, PinEq P σ σ' := fun {σ σ'} j m => by rw [hP j] at m; cases m
  -- the body's reading: from a wish that is at least the layer's
  let tbW : L2.WX → TS := fun W D σ H => ∃ (B : Bas) (Eb : Exc → AEnv → Prop), (∀ cls d σ' H', @WE _ B X.K Eb cls d σ' H' → W cls d σ' H') ∧ @LS _ B X.K P (tb Eb) D σ H
  refine ⟨PS.imp (ps_catch (c := c) (i := i) (tb := tbW) (ts := LS X.K P th) hs hf hex hN hi hln hc tk (fun W pn xe tkW hp => ⟨fun pins s σ H D I h => ?_⟩) fun a pn => (hsu a pn).pss) ?_⟩
  · obtain ⟨B, Eb, hW, h⟩ := h
    exact (hb B pn xe Eb (tkW.imp hW) hp).pss.run pins s σ H D I h
  · rintro D σ H ⟨ρ, fp, G, Da, R, h, f⟩
    have x0 : ∀ {H' : Hp} {fp1 : Nat → List Addr}, Ext H (Fo fp) H' (Fo fp1) → Ext H (Fo fp) H' (Or1 (Fo fp1) []) := fun {H' fp1} x => x.weak (fun _ z => z) fun a z => z.elim (fun q => q) fun m => nomatch m
    have back : ∀ {σ' : L2.St} {H' : Hp} {ρ1 : AEnv} {fp1 : Nat → List Addr}, RS0 X.K σ' H' ρ1 fp1 G → Ext H (Fo fp) H' (Fo fp1) → RS X.K σ' H' ρ1 fp1 G := fun {σ' H' ρ1 fp1} r x => R.rebase (A := []) r (x0 x)
    refine ⟨⟨H, Fo fp, G⟩, fun e ρ1 => if isC e.nm = true then (Nat.blt i ρ1.length = true) ∧ th { nx := fun ρ2 => Da.nx (ρ2.set i none), bk := fun ρ2 => Da.bk (ρ2.set i none), ct := fun ρ2 => Da.ct (ρ2.set i none), rt := Da.rt } (ρ1.set i (some (.exc e))) else Eo e ρ1, fun cls d σ' H' hw => ?_, ?_⟩
    · obtain ⟨e, ρ1, fp1, G1, R1, xo, q⟩ := hw
      have sub : ∀ a ∈ G, a ∈ G1 := @RS.g0 _ (⟨H, Fo fp, G⟩ : Bas) _ _ _ _ _ _ R1
      have b1 := @RS.bs _ (⟨H, Fo fp, G⟩ : Bas) _ _ _ _ _ _ R1
      have R1 := @RS.toRS0 _ (⟨H, Fo fp, G⟩ : Bas) _ _ _ _ _ _ R1
      have x1 : Ext H (Fo fp) H' (Fo fp1) := b1.weak (fun _ z => z) fun a z => ⟨.inl z, fun m => R1.gf a (sub a m) z⟩
      have R2 : RS X.K σ' H' ρ1 fp1 G := back ⟨fun j o e => let ⟨v, h1, h2⟩ := R1.ex j o e; ⟨v, h1, h2.weak fun a z => z.imp (fun q => q) (sub a)⟩, R1.non, R1.dj, R1.nd, fun a m => R1.gf a (sub a m), fun a m => R1.gi a (sub a m), R1.len, R1.tb⟩ x1
      have xo2 : XOk X.K H' (Or1 (Fo fp1) G) cls d e := xo.weak fun a z => z.imp (fun q => q) (sub a)
      have hcl : cls = .ref (Tbs.cad e.nm) := xo.1
      refine ⟨isC e.nm, by rw [hcl]; exact hx e.nm xo.2.1, fun hy a na => ?_, fun hno => ?_⟩
      · rw [if_pos hy] at q
        obtain ⟨hil, q⟩ := q
        have rx := xo2.rx na (R2.fresh na)
        have R3 : RS X.K σ' (upd H' a (ExT a cls d)) ρ1 fp1 G := R2.pres (Pres.upd na)
        have R4 := RS.put (A := []) (j := i) (v := .ref a) (o := .exc e) R3 (Nat.le_of_ble_eq_true hil) ⟨rfl, rx⟩ .nil noMem
        have x4 : Ext H (Fo fp) (upd H' a (ExT a cls d)) (Fo (fpSet fp1 i [])) := (x1.trans (Pres.upd na).ext).weak (fun _ z => z) fun a z => z.set.elim (fun q => q) fun m => nomatch m
        have goes : ∀ {σ2 : L2.St} {H2 : Hp} {ρ2 : AEnv} {fp2 : Nat → List Addr}, RS X.K σ2 H2 ρ2 fp2 G → Ext (upd H' a (ExT a cls d)) (Fo (fpSet fp1 i [])) H2 (Fo fp2) → RS X.K (σ2.set i none) H2 (ρ2.set i none) (fpSet fp2 i []) G ∧ Ext H (Fo fp) H2 (Fo (fpSet fp2 i [])) := fun {σ2 H2 ρ2 fp2} r x =>
          ⟨r.drop (fun j v n e => by rw [List.getElem?_set_ne (Ne.symm n)]; exact e) (by rw [List.length_set]), (x4.trans x).weak (fun _ z => z) fun a z => z.set.elim (fun q => q) fun m => nomatch m⟩
        refine ⟨_, _, G, _, R4, q, fun σ2 H2 ρ2 fp2 r x p q => ?_, fun σ2 H2 ρ2 fp2 r x p q => ?_, fun σ2 H2 ρ2 fp2 r x p q => ?_, fun v o A σ2 H2 ρ2 fp2 r ro nd ng x p q => f.rt v o A σ2 H2 ρ2 fp2 r ro nd ng (x4.trans x) pq q⟩
        · obtain ⟨r', x'⟩ := goes r x
          exact f.nx _ H2 _ _ r' x' pq q
        · obtain ⟨r', x'⟩ := goes r x
          exact f.bk _ H2 _ _ r' x' pq q
        · obtain ⟨r', x'⟩ := goes r x
          exact f.ct _ H2 _ _ r' x' pq q
      · rw [if_neg (by rw [hno]; exact Bool.false_ne_true)] at q
        exact ⟨e, ρ1, fp1, G, R2, xo2, q⟩
    · have fnx := f.nx; have fbk := f.bk; have fct := f.ct; have frt := f.rt
      have reb : ∀ {σ2 : L2.St} {H2 : Hp} {ρ2 : AEnv} {fp2 : Nat → List Addr} {A : List Addr}, RS0 X.K σ2 H2 ρ2 fp2 (A ++ G) → Ext H (Fo fp) H2 (Or1 (Fo fp2) A) → RS X.K σ2 H2 ρ2 fp2 (A ++ G) := fun {σ2 H2 ρ2 fp2 A} r x => R.rebase r x
      have R0 := R.toRS0
      letI B : Bas := ⟨H, Fo fp, G⟩
      refine ⟨ρ, fp, G, Da, ⟨R0, Ext.refl.weak (fun _ z => z) fun a z => z.1.elim (fun q => q) fun m => absurd m z.2, fun _ m => m⟩, h, fun σ2 H2 ρ2 fp2 r x p q => ?_, fun σ2 H2 ρ2 fp2 r x p q => ?_, fun σ2 H2 ρ2 fp2 r x p q => ?_, fun v o A σ2 H2 ρ2 fp2 r ro nd ng x p q => ?_⟩
      · exact fnx σ2 H2 ρ2 fp2 (back r.toRS0 x) x p q
      · exact fbk σ2 H2 ρ2 fp2 (back r.toRS0 x) x p q
      · exact fct σ2 H2 ρ2 fp2 (back r.toRS0 x) x p q
      · exact frt v o A σ2 H2 ρ2 fp2 (reb r.toRS0 x) ro nd ng x p q
end
end DL
set_option Elab.async false
set_option linter.all false
set_option maxRecDepth 100000
set_option maxHeartbeats 4000000
/-! THE DATA LAYER, part 32: isinstance(e, C), e.value, e an exception that was caught. -/
namespace DL
open PySem PySem.Spec L2
open PyProof.Rows hiding St
/-- an exception's object, tracked at a, of the class at C -/
structure ExAt (K : PySem.W.Frag) (H : Hp) (a C : Addr) : Prop where
  cl : ExcC K C
  at_ : ∃ d, H a = some (ExT a (.ref C) d) ∧ (d = none ∨ ∃ dd fs, d = some dd ∧ H dd = some (.xd fs))
theorem ExAt.pres {K : PySem.W.Frag} {H H' : Hp} {a C : Addr} (h : ExAt K H a C) (p : Pres H H') : ExAt K H' a C :=
  ⟨h.cl, let ⟨d, h1, h2⟩ := h.at_; ⟨d, p _ _ h1, h2.imp (fun z => z) fun ⟨dd, fs, e, h3⟩ => ⟨dd, fs, e, p _ _ h3⟩⟩⟩
section
variable {X : Cx}
theorem kit_exc {pins : List (Addr × Obj)} {σ : L2.St} {H : Hp} {s : Shared} {a C : Addr} (I : Inv X pins σ H s) (h : ExAt X.K H a C) : ∃ P : Heap → Prop, PySem.W.KitX X.K (.ref a) (.ref C) P ∧ P s.heap := by
  obtain ⟨F, d, ha, hd⟩ := h
  obtain ⟨oe, vs, h1, h2, h3⟩ := (show ∃ (oe : Obj) (vs : Array Value), s.heap.get? a = some oe ∧ Zc (.ref C) d oe ∧ oe.data = .fields vs from (show ObjOk X.prog X.w H s.heap a (ExT a (.ref C) d) from I.hok a _ ha).1)
  have hcl : (PySem.W.clsIn X.K C).isSome = true := by
    obtain ⟨cd, hc, _⟩ := PySem.W.any_some F.hd
    rw [hc]; rfl
  have hno : PySem.W.notCls oe = true := by unfold PySem.W.notCls; rw [h3]
  rcases hd with rfl | ⟨dd, fs, rfl, hx⟩
  · exact ⟨_, PySem.W.handS_kitx_exc F.hg F.hk F.hs F.hd F.ha F.hn F.ht F.hm, ⟨h1, h2.1, hno, by rw [h2.2]; exact True.intro⟩⟩
  · obtain ⟨mA, hns, hr⟩ := (show ObjOk X.prog X.w H s.heap dd (.xd fs) from I.hok dd _ hx)
    obtain ⟨od, ho, hl⟩ := lookIn_ns hns
    exact ⟨_, PySem.W.kitx_exc hcl F.hg F.hk F.hs F.ha F.hn F.ht F.hm, (⟨h1, h2.1, hno, by rw [h2.2]; exact ho⟩ : PySem.W.InstAt s.heap a oe C (some od))⟩
/-- isinstance(e, c) and isinstance(e, (c1, c2, ..)) -/
def rIsX (K : PySem.W.Frag) : List V → Hp → VK → Prop := fun xs H Q => ∃ (a C : Addr) (c : V) (b : Bool), xs = [.ref a, c] ∧ ExAt K H a C ∧
  ((∃ u, ClsV c u ∧ PySem.W.kitOne K (.ref C) u = some b) ∨ ∃ tp cs us, c = .ref tp ∧ H tp = some (.tup cs) ∧ Paired ClsV cs us ∧ PySem.W.kitAny K (.ref C) us = some b) ∧ Q (.bl b) H
theorem call_isX : CallR X (.builtin "isinstance") (rIsX X.K) := by
  intro pins s σ H xs us Q I r h
  obtain ⟨a, C, c, b, rfl, ea, hc, q⟩ := h
  obtain ⟨u1, u2, rfl, r1, r2⟩ := vals2 r
  cases (show u1 = Value.ref a from r1)
  obtain ⟨P, Z, p⟩ := kit_exc I ea
  rcases hc with ⟨u, k, e⟩ | ⟨tp, cs, us, rfl, hT, k, e⟩
  · have e2 := k.eq r2
    subst e2
    exact PySem.W.kia_one Z I.kIn p e (fun z => nomatch z) fun tk => ⟨.bl b, H, I.tok tk, rfl, q⟩
  · cases (show u2 = Value.ref tp from r2)
    obtain ⟨_, its, rv, o, h1, h2, n, h3⟩ := (show ObjOk X.prog X.w H s.heap tp (.tup cs) from I.hok tp _ hT)
    have e3 := ClsV.all k rv
    subst e3
    obtain ⟨oc, od, dt, sl⟩ := o
    simp only at h2 h3
    subst h2 h3
    exact PySem.W.kia_tup Z I.kIn p h1 e (fun z => nomatch z) fun tk => ⟨.bl b, H, I.tok tk, rfl, q⟩
end
/-- an expression that is a class -/
structure CE (X : Cx) (e : Expr) (v : V) (u : Value) : Prop where
  pe : PE X e (tC v)
  cl : ClsV v u
theorem ce_own {X : Cx} {x : Str} {C : Addr} {p : Pos} (hg : Gl X x) (hm : X.mg x = some (.ref C)) (hd : (x == ("__debug__" : Str)) = false := by decide) : CE X (.Name x p) (.ref C) (.ref C) := ⟨pe_glob hg hm rfl hd, .own C⟩
theorem ce_bi {X : Cx} {x : Str} {n : String} {p : Pos} (hg : Gl X x) (hm : X.mg x = none) (hb : bootBuiltins x = some (.type n)) (hx : x ≠ "__name__" := by decide) (hd : (x == ("__debug__" : Str)) = false := by decide) : CE X (.Name x p) (.ty n) (.type n) := ⟨pe_bltn hg hm hb rfl hx hd, .ty n⟩
section
variable [Tbs] [Bas] {X : Cx}
def tIsX (f : Str → Bool) (te : XT) : XT := fun ρ Q => te ρ fun p ρ1 => match p.get ρ1 with
  | some (.exc e) => Q (.val (.pure (.bool (f e.nm)))) ρ1
  | _ => False
theorem RX.at_ {K : PySem.W.Frag} {H : Hp} {F : Addr → Prop} {v : V} {e : Exc} (hE : ∀ m ∈ Tbs.nms, ExcC K (Tbs.cad m)) (r : RX K H F v e) : ∃ a, v = .ref a ∧ ExAt K H a (Tbs.cad e.nm) := by
  obtain ⟨a, d, rfl, h1, _, hm, m0, h2⟩ := r
  refine ⟨a, rfl, hE _ hm, d, h1, ?_⟩
  cases q : e.arg with
  | none => exact .inl (m0 q)
  | some ft =>
    obtain ⟨dd, fs, u, h3, h4, _⟩ := h2 ft.1 ft.2 q
    exact .inr ⟨dd, fs, h3, h4⟩
theorem ex_isX {e : Expr} {c : Expr} {cv : V} {cu : Value} {te : XT} {f : Str → Bool} {p pos : Pos} (hE : ∀ m ∈ Tbs.nms, ExcC X.K (Tbs.cad m)) (hf : ∀ m ∈ Tbs.nms, PySem.W.kitOne X.K (.ref (Tbs.cad m)) cu = some (f m)) (hg : Gl X "isinstance") (hm : X.mg "isinstance" = none) (he : EX X e te) (hc : CE X c cv cu)
    (hs : starEach [e, c] X.env = (false, eval e X.env) :: starEach [c] X.env := by rfl) (hs2 : starEach [c] X.env = (false, eval c X.env) :: starEach [] X.env := by rfl)
    (hpl : (backTo pos (starEach [c] X.env)).any (·.1) = false := by rfl) : EX X (.Call (.Name "isinstance" p) [e, c] [] pos) (tIsX f te) := by
  refine ⟨PE.imp (pe_callB call_isX hg hm (by decide +kernel) (pa_cons he.pe (pa_cons hc.pe pa_nil hs2) hs) (by decide) (by decide) hs hpl) ?_⟩
  rintro σ H Q ⟨ρ, fp, G, Qa, R, h, fin⟩
  refine ⟨ρ, fp, G, _, R, h, fun v p A H1 ρ1 fp1 R1 r1 x1 h1 => ?_⟩
  split at h1
  · rename_i ex eo
    have w := r1.rw0 R1 eo
    obtain ⟨a, rfl, ha⟩ := RX.at_ hE w
    have hn : ex.nm ∈ Tbs.nms := let ⟨_, _, _, _, _, hm, _⟩ := (show RX _ _ _ _ _ from w); hm
    exact ⟨a, _, cv, _, rfl, ha, .inl ⟨cu, hc.cl, hf _ hn⟩, FinV.bl (fin_of (G := G) R1 (fun a m => List.mem_append_right _ m) x1.or fin) h1⟩
  · exact h1.elim
/-- isinstance(e, (C1, C2)) -/
theorem ex_isX2 {e : Expr} {c1 c2 : Expr} {v1 v2 : V} {u1 u2 : Value} {te : XT} {f : Str → Bool} {x1 : Nat} {p p2 pos : Pos} (hE : ∀ m ∈ Tbs.nms, ExcC X.K (Tbs.cad m)) (hf : ∀ m ∈ Tbs.nms, PySem.W.kitAny X.K (.ref (Tbs.cad m)) [u1, u2] = some (f m)) (hg : Gl X "isinstance") (hm : X.mg "isinstance" = none) (he : EX X e te) (h1 : CE X c1 v1 u1) (h2 : CE X c2 v2 u2)
    (hs : starEach [e, .Tuple [c1, c2] x1 p2] X.env = (false, eval e X.env) :: starEach [.Tuple [c1, c2] x1 p2] X.env := by rfl) (hs2 : starEach [.Tuple [c1, c2] x1 p2] X.env = (false, eval (.Tuple [c1, c2] x1 p2) X.env) :: starEach [] X.env := by rfl)
    (hs3 : starEach [c1, c2] X.env = (false, eval c1 X.env) :: starEach [c2] X.env := by rfl) (hs4 : starEach [c2] X.env = (false, eval c2 X.env) :: starEach [] X.env := by rfl)
    (hpl : (backTo pos (starEach [.Tuple [c1, c2] x1 p2] X.env)).any (·.1) = false := by rfl) : EX X (.Call (.Name "isinstance" p) [e, .Tuple [c1, c2] x1 p2] [] pos) (tIsX f te) := by
  refine ⟨PE.imp (pe_callB call_isX hg hm (by decide +kernel) (pa_cons he.pe (pa_cons (pe_tup (pa_cons h1.pe (pa_cons h2.pe pa_nil hs4) hs3)) pa_nil hs2) hs) (by decide) (by decide) hs hpl) ?_⟩
  rintro σ H Q ⟨ρ, fp, G, Qa, R, h, fin⟩
  refine ⟨ρ, fp, G, _, R, h, fun v p A H1 ρ1 fp1 R1 r1 x1 q1 => ?_⟩
  split at q1
  · rename_i ex eo
    have w := r1.rw0 R1 eo
    obtain ⟨a, rfl, ha⟩ := RX.at_ hE w
    have hn : ex.nm ∈ Tbs.nms := let ⟨_, _, _, _, _, hm, _⟩ := (show RX _ _ _ _ _ from w); hm
    refine ⟨by rw [sizeLine_eq]; simp, fun tp nt => ?_⟩
    refine ⟨a, _, .ref tp, _, rfl, ha.pres (Pres.upd nt), .inr ⟨tp, _, _, rfl, upd_same, .cons h1.cl (.cons h2.cl .nil), hf _ hn⟩, ?_⟩
    exact FinV.bl (fin_of (G := G) (R1.pres (Pres.upd nt)) (fun a m => List.mem_append_right _ m) (x1.or.trans (Pres.upd nt).ext) fin) q1
  · exact q1.elim
/-- e.n, an exception's own field -/
def tXfl (n : Str) (te : XT) : XT := fun ρ Q => te ρ fun p ρ1 => match p.get ρ1 with
  | some (.exc e) => match e.arg with
    | some (f, t) => f = n ∧ Q (.val (.pure t)) ρ1
    | none => False
  | _ => False
def tXfE (K : PySem.W.Frag) (n : Str) (te : TE) : TE := fun σ H Q => te σ H fun x H1 => ∃ (a C dd : Addr) (fs : List (Str × V)) (v : V), x = .ref a ∧ ExcC K C ∧ PySem.W.findIn K (.ref C) n = some none ∧ H1 a = some (ExT a (.ref C) (some dd)) ∧ H1 dd = some (.xd fs) ∧ fs.lookup n = some v ∧ Q v H1
theorem pe_xfE {e : Expr} {te : TE} {pos : Pos} {n : Str} (he : PE X e te) (hb : attributeBase e n X.env (eval e X.env) = eval e X.env := by rfl) : PE X (.Attribute e n pos) (tXfE X.K n te) := by
  refine ⟨fun pins s σ H Q I h => ?_⟩
  refine attr_of hb (thn (he.run pins s σ H _ I h) fun u s1 hh => ?_)
  obtain ⟨x, H1, I1, rx, a, C, dd, fs, v, ex, T, hno, ea, ed, l, q⟩ := hh
  subst ex
  obtain rfl : u = Value.ref a := rx
  obtain ⟨oe, vs, ha, hz, hd⟩ := (show ∃ (oe : Obj) (vs : Array Value), s1.heap.get? a = some oe ∧ Zc (.ref C) (some dd) oe ∧ oe.data = .fields vs from (show ObjOk X.prog X.w H1 s1.heap a (ExT a (.ref C) (some dd)) from I1.hok a _ ea).1)
  have hx : ObjOk X.prog X.w H1 s1.heap dd (.xd fs) := I1.hok dd _ ed
  obtain ⟨mA, hns, hr⟩ := hx
  obtain ⟨od, ho, hl⟩ := lookIn_ns hns
  obtain ⟨u, hu, ru⟩ := RelO.some_of (v := v) (o := mA n) (by rw [← l]; exact hr n)
  have J : PySem.W.InstAt s1.heap a oe C (some od) := ⟨ha, hz.1, by unfold PySem.W.notCls; rw [hd] <;> rfl, by rw [hz.2]; exact ho⟩
  exact HandSPX.exc_get I1.kIn J T.hg T.hk T.hs (PySem.W.findObj_own T.hd hno rfl (by rw [hl, hu])) (handed_of ru) ⟨v, H1, I1.tok _, ru, q⟩
theorem ex_xfl {e : Expr} {te : XT} {pos : Pos} {n : Str} (hE : ∀ m ∈ Tbs.nms, ExcC X.K (Tbs.cad m)) (hno : ∀ m ∈ Tbs.nms, PySem.W.findIn X.K (.ref (Tbs.cad m)) n = some none) (he : EX X e te) (hb : attributeBase e n X.env (eval e X.env) = eval e X.env := by rfl) :
    EX X (.Attribute e n pos) (tXfl n te) := by
  refine ⟨PE.imp (pe_xfE he.pe hb) ?_⟩
  rintro σ H Q ⟨ρ, fp, G, Qa, R, h, fin⟩
  refine ⟨ρ, fp, G, _, R, h, fun v p A H1 ρ1 fp1 R1 r1 x1 q1 => ?_⟩
  split at q1
  · rename_i ex eo
    have w := r1.rw0 R1 eo
    obtain ⟨a, d, rfl, h1, _, hm, m0, h2⟩ := (show RX _ _ _ _ _ from w)
    split at q1
    · rename_i f t ea
      obtain ⟨rfl, q1⟩ := q1
      obtain ⟨dd, fs, u, rfl, h4, h5, h6, h7⟩ := h2 f t ea
      refine ⟨a, _, dd, fs, u, rfl, hE _ hm, hno _ hm, h1, h4, h6, ?_⟩
      exact FinV.pure (fin_of (G := G) R1 (fun a m => List.mem_append_right _ m) x1.or fin) h7 q1
    · exact q1.elim
  · exact q1.elim
end
end DL
set_option Elab.async false
set_option linter.all false
set_option maxRecDepth 100000
set_option maxHeartbeats 4000000
/-! THE DATA LAYER, part 33: g(lambda: e), g a def that calls what it is given. -/
namespace DL
open PySem PySem.Spec L2 LamX
open PyProof.Rows hiding St
section
variable {X : Cx} {pins : List (Addr × Obj)} {σ : L2.St} {H : Hp} {s : Shared}
/-- a lambda is made, and every table stays one -/
theorem lam_make3 {T : List (Addr × Str)} {c P : Addr} {params : Arguments} {body : Expr} {scope : Scope} {pos : Pos} {E : Value → Shared → Prop} {Q : Value → Shared → Prop} (I : Inv X pins σ H s) (TB : TabB X.base X.mg c P) (hcode : X.env.code = .ref c)
    (hm : (P, X.env.qual ++ "<lambda>") ∈ T) (hu : ∀ p ∈ T, p.1 = P → p.2 = X.env.qual ++ "<lambda>") (hT : LamX.Tabs T H) (hdef : defaultsOf params X.env = ([], [])) (hfree : ∀ y ∈ scope.names, y.2 = .free → ∃ c, X.env.cells.lookup y.1 = some c)
    (h : ∀ (f c' : Addr) (pm ctv : Value) (H1 : Hp) (s' : Shared), Inv X pins σ H1 s' → ExtN H H1 → LamX.Tabs T H1 → (∀ b, H1 b = none → H b = none) →
      s'.heap.get? f = some (PySem.W.kla_obj "<lambda>" (X.env.qual ++ "<lambda>") params body scope (cloFrom X.env.cells scope.names []) pm c' ctv) → H1 f = none → f ∉ frs X.stack → H1 c' = some (CodeO c' (X.env.qual ++ "<lambda>")) → Q (.ref f) s') :
    wpAny (model X.prog X.w) X.A (eval (.Lambda params body scope pos) X.env) Q E s := by
  let HT : Hp := fun b => match H b with
    | some (.tbl ps) => some (.tbl ps)
    | _ => X.H_0 b
  have t1 : ∀ {b : Addr} {ps : Array Value}, H b = some (.tbl ps) → HT b = some (.tbl ps) := fun {b ps} e => by show (match H b with | some (HO.tbl ps) => some (HO.tbl ps) | _ => X.H_0 b) = _; rw [e]
  have t2 : ∀ {b : Addr}, (∀ ps, H b ≠ some (.tbl ps)) → HT b = X.H_0 b := fun {b} n => by
    show (match H b with | some (HO.tbl ps) => some (HO.tbl ps) | _ => X.H_0 b) = _
    split
    · rename_i ps e; exact (n ps e).elim
    · rfl
  have t3 : ∀ {b : Addr}, HT b = none → X.H_0 b = none := fun {b} e => by
    by_cases z : ∃ ps, H b = some (.tbl ps)
    · obtain ⟨ps, z⟩ := z; rw [t1 z] at e; cases e
    · rw [← t2 fun ps e => z ⟨ps, e⟩]; exact e
  have hn : ∀ {b : Addr}, H b = none → HT b = X.H_0 b := fun {b} e => t2 fun ps z => by rw [e] at z; cases z
  let X' : Cx := { X with H_0 := HT }
  have u1 : Un X.fs X.ex HT H X.s_0.heap s.heap := by
    refine ⟨fun b o q n hc hx => I.base.keep b o q (t3 n) hc hx, fun b o q n hc hx => I.base.slot b o q (t3 n) hc hx, fun b o q n hx => I.base.free b o q (t3 n) hx, I.base.there, fun b xs e => ?_, fun b o u e => ?_, fun b ps e => ?_⟩
    all_goals
      by_cases z : ∃ ps, H b = some (.tbl ps)
    · obtain ⟨ps, z⟩ := z; rw [t1 z] at e; cases e
    · rw [t2 fun ps e => z ⟨ps, e⟩] at e; exact I.base.tups b xs e
    · obtain ⟨ps, z⟩ := z; rw [t1 z] at e; cases e
    · rw [t2 fun ps e => z ⟨ps, e⟩] at e; exact I.base.frzs b o u e
    · obtain ⟨ps', z⟩ := z
      rw [t1 z] at e; cases e
      exact ⟨#[], by rw [Array.append_empty]; exact z⟩
    · rw [t2 fun ps e => z ⟨ps, e⟩] at e; exact I.base.tbls b ps e
  have fsN : ∀ b ∈ X.fs, H b = none := fun b m => by
    obtain ⟨_, o, e, _⟩ := I.ok.funs.mem m
    exact I.base.free b o e (I.ok.frf b m) fun hx => I.ok.exfs b hx m
  have ok' : X'.Ok := { I.ok with
    bs := fun b o e => ⟨(I.ok.bs b o e).1, (hn (I.bs b o e).2).trans (I.ok.bs b o e).2⟩
    frf := fun b m => (hn (fsN b m)).trans (I.ok.frf b m) }
  have I' : Inv X' pins σ H s := ⟨ok', I.os, I.bare, u1, I.loc, I.cell, I.free, I.freeC, I.pin, I.hok, I.len⟩
  refine lam_make2 (X := X') I' TB hcode hm hu hT hdef hfree fun f c' pm ctv H1 s' I1 eN T1 hf hfn hfr hco => ?_
  have old : ∀ {b : Addr} {o : Obj}, X.s_0.heap.get? b = some o → X.H_0 b = none → b ∉ X.ex → HT b = none := fun {b o} q n hx => (hn (I.base.free b o q n hx)).trans n
  have I2 : Inv X pins σ H1 s' := by
    refine ⟨I.ok, I1.os, I1.bare, ⟨fun b o q n hc hx => I1.base.keep b o q (old q n hx) hc hx, fun b o q n hc hx => I1.base.slot b o q (old q n hx) hc hx, fun b o q n hx => I1.base.free b o q (old q n hx) hx, I1.base.there, fun b xs e => ?_, fun b o u e => ?_, fun b ps e => ?_⟩, I1.loc, I1.cell, I1.free, I1.freeC, I1.pin, I1.hok, I1.len⟩
    · refine I1.base.tups b xs ((t2 fun ps z => ?_).trans e)
      rw [I.base.tups b xs e] at z; cases z
    · refine I1.base.frzs b o u ((t2 fun ps z => ?_).trans e)
      rw [I.base.frzs b o u e] at z; cases z
    · obtain ⟨m, z⟩ := I.base.tbls b ps e
      obtain ⟨m', z'⟩ := I1.base.tbls b _ (t1 z)
      exact ⟨m ++ m', by rw [z', Array.append_assoc]⟩
  refine h f c' pm ctv H1 s' I2 eN T1 (fun b e => ?_) hf hfn hfr hco
  cases q : H b with
  | none => rfl
  | some u =>
    by_cases z : ∃ ps, u = .tbl ps
    · obtain ⟨ps, rfl⟩ := z
      obtain ⟨m, z⟩ := I1.base.tbls b ps (t1 q)
      rw [e] at z; cases z
    · rw [eN b u q fun ps e2 => z ⟨ps, e2⟩] at e; cases e
/-- a(), in the def that got the lambda, where no repr is under way -/
theorem act_run {CXg : CXT} {Eg : XK} {Ng : List Str} {qg : Str} {sg : Scope} {g f c' : Addr} {cdg pm ctv : Value} {params : Arguments} {body : Expr} {scope : Scope} {k i : Nat} {a : Str} {pn : List (Addr × Obj)} {xe : Value → Shared → Prop} {E : XK} {tb : TE} {p1 p2 : Pos}
    (I : Inv X pins σ H s) (L : LamS X.env.scope scope) (hf : s.heap.get? f = some (PySem.W.kla_obj "<lambda>" (X.env.qual ++ "<lambda>") params body scope (cloFrom X.env.cells scope.names []) pm c' ctv)) (hfn : H f = none) (hfr : f ∉ frs X.stack)
    (hbind : bindArgs (PySem.W.kla_fn "<lambda>" (X.env.qual ++ "<lambda>") params body scope (cloFrom X.env.cells scope.names []) pm (.ref c') ctv) ⟨[], []⟩ = pure [])
    (hr : Rm (k + 1) (X.A.deeper (envOfC qg sg s.heap.objs.size g cdg)))
    (hbody : ∀ (A : Around) (outer : List Env) (s : Shared) (H : Hp), Rm k (A.deeper (lamEnv X scope s.heap.objs.size f c')) → PE (lamCx X A outer s H E scope f c') body tb)
    (hN : Ng[i]? = some a) (hv : Vis sg a) {pinsZ : List (Addr × Obj)} {sZ : Shared} {σZ : L2.St} {HZ : Hp} {Q : VK} (IZ : Inv ((cxOf CXg X.prog X.w X.K X.mg X.base Ng qg sg g cdg X.A X.stack s H Eg).tr pn xe) pinsZ σZ HZ sZ)
    (hx : PassesAt (L2.CX X.prog X.w) ((cxOf CXg X.prog X.w X.K X.mg X.base Ng qg sg g cdg X.A X.stack s H Eg).tr pn xe) σZ E) (hs : σZ[i]? = some (some (.ref f))) (hc : HZ c' = some (CodeO c' (X.env.qual ++ "<lambda>"))) (ht : tb σ HZ Q)
    (hd : (a == ("__debug__" : Str)) = false := by decide) (hcd : (a == ("__classdict__" : Str)) = false := by decide) :
    wpAny (model X.prog X.w) ((cxOf CXg X.prog X.w X.K X.mg X.base Ng qg sg g cdg X.A X.stack s H Eg).tr pn xe).A (eval (.Call (.Name a p1) [] [] p2) ((cxOf CXg X.prog X.w X.K X.mg X.base Ng qg sg g cdg X.A X.stack s H Eg).tr pn xe).env) (EP ((cxOf CXg X.prog X.w X.K X.mg X.base Ng qg sg g cdg X.A X.stack s H Eg).tr pn xe) pinsZ σZ Q) ((cxOf CXg X.prog X.w X.K X.mg X.base Ng qg sg g cdg X.A X.stack s H Eg).tr pn xe).xe sZ := by
  refine wpAny_Call_Name_kw (thn ((pe_var (pos := p1) (i := i) hN hv hd hcd).run pinsZ sZ σZ HZ (fun v H1 => v = .ref f ∧ H1 = HZ) IZ ⟨.ref f, hs, rfl, rfl⟩) fun u s1 ⟨v, H1, I1, r1, q1⟩ => ?_)
  obtain ⟨rfl, eH⟩ := q1
  rw [eH] at I1
  obtain rfl : u = Value.ref f := r1
  have of1 := I1.base.keep f _ hf hfn hfr (fun z => nomatch (show f ∈ ([] : List Addr) from z))
  refine PySem.W.callWith_F0 ⟨_, _, _, _, of1⟩ ?_
  have un : Un (frs X.stack) [] H HZ s.heap s1.heap := I1.base
  obtain ⟨⟨oc, vs, t, hoc, hdc, hvc⟩, _, _⟩ := I1.hok c' _ hc
  have rc : codeAny (model X.prog X.w) (X.A.deeper (envOfC qg sg s.heap.objs.size g cdg)) (.call (.ref f) ⟨[], []⟩) (CR (L2.CX X.prog X.w) (envOfC qg sg s.heap.objs.size g cdg :: X.stack) X.prog X.w HZ s1 Q E) s1 := by
    refine PySem.W.kla_callFunE hr.room.depth of1 rfl L.co L.gen rfl ⟨c', oc, vs, t, rfl, hoc, hdc, hvc⟩ ?_
    rw [hbind]
    refine wpAny_pure (wpAny_newFunctionEnv (fun y hy => (L.own y hy).2) (fun y hy => absurd hy (by simp)) (fun h₁ hns hsb => ⟨I1.nolimit.fresh _ hsb, ?_⟩) L.kind)
    show codeAny _ _ (.expr body (lamEnv X scope s1.heap.objs.size f c')) _ _
    have kp : ∀ b o, s1.heap.get? b = some o → h₁.get? b = some o := fun b o e => hsb.extBut b o (Nat.ne_of_lt (Heap.lt_size e)) (Heap.get?_push_of_some _ e)
    have J : Inv (lamCx X (X.A.deeper (envOfC qg sg s.heap.objs.size g cdg)) (envOfC qg sg s.heap.objs.size g cdg :: X.stack) s1 HZ E scope f c') [] σ HZ { s1 with heap := h₁, toks := s1.toks + ([] : List (Str × Value)).length } :=
      lam_start2 I L I1.env0 hr.room.hd un hns kp
    refine PySem.W.kla_codeExpr (wpAny_mono ((hbody _ _ s1 HZ (hr.deeper _)).run [] _ _ HZ Q J ht) (fun v s' hq => ?_) fun e s' hq => hq)
    obtain ⟨w', H', J', rv, q⟩ := hq
    exact ⟨w', H', J'.os, J'.bare, J'.base, J'.hok, rv, q⟩
  refine wpAny_call (codeAny_mono rc fun r s' hq => ?_)
  cases r with
  | error e => exact hx pinsZ HZ s1 e s' I1 hq
  | ok fl =>
    cases fl with
    | ret u => exact I1.after hq
    | next => exact False.elim hq
    | brk => exact False.elim hq
    | cont => exact False.elim hq
end
/-! ### in the layer -/
/-- what the call of a lambda does: what it returns, what it raises -/
abbrev TkSpec := (O → Prop) → (Exc → Prop) → Prop
/-- the trees among what the names hold -/
def pureT : Option O → Option T
  | some (.pure t) => some t
  | _ => none
def vws (ρ : AEnv) : List (Option T) := ρ.map pureT
def vwE (ts : List (Option T)) : AEnv := ts.map (Option.map .pure)
def tAct (k : Thk) (spec : TkSpec) (Ea : Exc → AEnv → Prop) : XT := fun ρ Q => ρ[0]? = some (some (.thk k)) ∧ spec (fun o => Q (.val o) ρ) fun e => Ea e ρ
/-- the reading of a lambda's body as a promise -/
def lamSpec (tb : (Exc → AEnv → Prop) → XT) (ts : List (Option T)) : TkSpec := fun Qa Ea => tb (fun e _ => Ea e) (vwE ts) fun p ρ' => ρ' = vwE ts ∧ ∃ o, p = .val o ∧ Qa o
/-- g(lambda: e): Cg is g's own promise -/
def tLamC (Cg : TkSpec → (O → Prop) → Prop) (tb : (Exc → AEnv → Prop) → XT) : XT := fun ρ Q => Cg (lamSpec tb (vws ρ)) fun o => Q (.val o) ρ
theorem ExtN.toExt [Tbs] {H H1 : Hp} {F : Addr → Prop} (e : ExtN H H1) (t : LamX.Tabs Tbs.T H1) (dm : ∀ a, H1 a = none → H a = none) : Ext H F H1 F :=
  ⟨fun a o h _ n => e a o h n, fun a xs h => e a _ h (fun _ z => (nomatch z)), fun a o u h => e a _ h (fun _ z => (nomatch z)), fun a z => .inl z, dm, fun _ => t, fun a φ h => e a _ h (fun _ z => (nomatch z))⟩
section
variable [Tbs]
/-- what is seen of the names from elsewhere -/
theorem RS0.vw {K : PySem.W.Frag} {σ : L2.St} {H : Hp} {F : Addr → Prop} {ts : List (Option T)} {G : List Addr} (hl : ts.length = σ.length) (h : ∀ (i : Nat) (t : T), ts[i]? = some (some t) → ∃ u, σ[i]? = some (some u) ∧ RP K H F u t) (w : ∀ a ∈ G, F a) (gi : ∀ a ∈ G, ∃ u, H a = some u) (tb : LamX.Tabs Tbs.T H) :
    RS0 K σ H (vwE ts) (fun _ => []) G := by
  refine ⟨fun i o e => ?_, fun i e => rfl, fun i j a m => (nomatch m), fun i => .nil, fun a m z => (let ⟨_, m⟩ := z; nomatch m), gi, by unfold vwE; rw [List.length_map, hl], tb⟩
  unfold vwE at e
  rw [List.getElem?_map] at e
  cases q : ts[i]? with
  | none => rw [q] at e; cases e
  | some u =>
    rw [q] at e
    cases u with
    | none => cases e
    | some t =>
      cases e
      obtain ⟨v, h1, h2⟩ := h i t q
      exact ⟨v, h1, rfl, h2.weak fun a z => z.elim (fun ⟨_, m⟩ => nomatch m) (w a)⟩
theorem vws_at {ρ : AEnv} {i : Nat} {t : T} (h : (vws ρ)[i]? = some (some t)) : ρ[i]? = some (some (.pure t)) := by
  unfold vws at h
  rw [List.getElem?_map] at h
  cases q : ρ[i]? with
  | none => rw [q] at h; cases h
  | some o =>
    rw [q] at h
    cases o with
    | none => cases h
    | some o =>
      cases o with
      | pure u => cases h; rfl
      | _ => cases h
/-- the wish as the lambda's reading takes it -/
def lamTE (K : PySem.W.Frag) (tb : (Exc → AEnv → Prop) → XT) (E : XK) : TE := fun σ H Q => ∃ (B : Bas) (Ea : Exc → AEnv → Prop), (∀ cls d σ' H', @WE _ B K Ea cls d σ' H' → E cls d H') ∧ @LX _ B K (tb Ea) σ H Q
theorem pe_lamTE {X : Cx} {A : Around} {outer : List Env} {s : Shared} {H : Hp} {E : XK} {scope : Scope} {f c' : Addr} {body : Expr} {tb : (Exc → AEnv → Prop) → XT}
    (h : ∀ (B : Bas) (Ea : Exc → AEnv → Prop), Takes (lamCx X A outer s H E scope f c') (@WE _ B X.K Ea) → @EX _ B (lamCx X A outer s H E scope f c') body (tb Ea)) : PE (lamCx X A outer s H E scope f c') body (lamTE X.K tb E) := by
  refine ⟨fun pins s' σ' H' Q I h' => ?_⟩
  obtain ⟨B, Ea, hW, h'⟩ := h'
  exact (h B Ea (Takes.imp (takes_of (X := lamCx X A outer s H E scope f c') (E := E) rfl rfl rfl rfl) hW)).pe.run pins s' σ' H' Q I h'
/-- the promise of g: what it makes of the thing that it is given -/
def GivesT (P : Program) (w : World) (K : PySem.W.Frag) (mg : Str → Option Value) (base : Heap) (Ng : List Str) (x : Str) (sg : Scope) (a : Str) (bg : List Stmt) (tg : Thk → TkSpec → ST) : Prop :=
  ∀ (g : Addr) (cdg : Value) (A : Around) (outer : List Env) (s : Shared) (H : Hp) (k : Thk) (spec : TkSpec),
    (∀ (B : Bas) (pn : List (Addr × Obj)) (xe : Value → Shared → Prop) (Eb : Exc → AEnv → Prop) (p1 p2 : Pos), Takes ((cxOf C8.CX0 P w K mg base Ng x sg g cdg A outer s H C8.E0).tr pn xe) (@WE _ B K Eb) →
      @EX _ B ((cxOf C8.CX0 P w K mg base Ng x sg g cdg A outer s H C8.E0).tr pn xe) (.Call (.Name a p1) [] [] p2) (tAct k spec Eb)) →
    ∀ B : Bas, @SXs _ B (cxOf C8.CX0 P w K mg base Ng x sg g cdg A outer s H C8.E0).nox (fun _ => false) bg (tg k spec)
/-- where a def's lambdas have their table -/
structure LamD (base : Heap) (mg : Str → Option Value) (cd : Value) (q : Str) (c P : Addr) : Prop where
  cd : cd = .ref c
  tb : TabB base mg c P
  mem : (P, q) ∈ Tbs.T
  one : ∀ p ∈ Tbs.T, p.1 = P → p.2 = q
theorem ex_lamcall [B0 : Bas] {X : Cx} {Cg : TkSpec → (O → Prop) → Prop} {tb : (Exc → AEnv → Prop) → XT} {tg : Thk → TkSpec → ST} {x a : Str} {g c P : Addr} {k : Nat} {pg : Arguments} {bg : List Stmt} {sg : Scope} {fd : FuncData} {Ng : List Str}
    {params : Arguments} {body : Expr} {scope : Scope} {p lpos pos : Pos} (hg : Gl X x) (hm : X.mg x = some (.ref g)) (F : FunD X.K x x pg bg sg [] [] g fd) (hb : L2.Binds X.K fd [a] []) (Sg : FnScope Ng [a] sg) (hNg : Ng[0]? = some a) (hva : Vis sg a)
    (GT : GivesT X.prog X.w X.K X.mg X.base Ng x sg a bg tg) (rd : ∀ k spec Qa, Cg spec Qa → tg k spec (endsE Qa) (startA Ng.length [.thk k]))
    (LD : LamD X.base X.mg X.env.code (X.env.qual ++ "<lambda>") c P) (hr : Rm (k + 2) X.A) (L : LamS X.env.scope scope) (hdef : defaultsOf params X.env = ([], []))
    (hbind : ∀ (q : Str) (cl : List (Str × Addr)) (pm cv ctv : Value), bindArgs (PySem.W.kla_fn "<lambda>" q params body scope cl pm cv ctv) ⟨[], []⟩ = pure [])
    (hbody : ∀ (A : Around) (outer : List Env) (s : Shared) (H : Hp) (E : XK) (f c' : Addr), Rm k (A.deeper (lamEnv X scope s.heap.objs.size f c')) →
      ∀ (B : Bas) (Ea : Exc → AEnv → Prop), Takes (lamCx X A outer s H E scope f c') (@WE _ B X.K Ea) → @EX _ B (lamCx X A outer s H E scope f c') body (tb Ea))
    (hdb : (x == ("__debug__" : Str)) = false := by decide) (hd : (a == ("__debug__" : Str)) = false := by decide) (hcd : (a == ("__classdict__" : Str)) = false := by decide) :
    EX X (.Call (.Name x p) [.Lambda params body scope lpos] [] pos) (tLamC Cg tb) := by
  refine ⟨⟨fun pins s σ H Q I h => ?_⟩⟩
  obtain ⟨ρ, fp, G, Qa, R, h, fin⟩ := h
  obtain ⟨oc, od, dV, kV, doc, pm, an, cdv, ct, osl, rfl, lk, hcg, _, _⟩ := F.ex
  refine wpAny_Call_Name_kw (ld_glob I hg hm ?_ hdb)
  refine PySem.W.callWith_K (h₀ := X.base) I.ok.mod.kin F.kp ?_ (by rfl) (by rfl)
  show wpAny _ _ (spliced ((false, eval (.Lambda params body scope lpos) X.env) :: backTo pos (starEach [] X.env))) _ _ s
  refine Calls.spliced_cons (lam_make3 I LD.tb LD.cd LD.mem LD.one R.tb hdef (L.has I.ok) fun f c' pm' ctv H1 s' I1 eN T1 dm hf hfn hfr hco => ?_)
  refine Calls.spliced_nil ⟨I1.kIn, ?_⟩
  -- the maker's names, later
  have R1 : RS X.K σ H1 ρ fp G := by
    have x : Ext H (· ∈ ([] : List Addr)) H1 (· ∈ ([] : List Addr)) := ExtN.toExt eN T1 dm
    exact (show RS X.K σ H ρ fp ([] ++ G) from R).thru x (fun a _ z => nomatch z) fun a m => nomatch m
  have x1 : Ext H (Fo fp) H1 (Fo fp) := ExtN.toExt eN T1 dm
  let kk : Thk := ⟨f, c', X.env.qual ++ "<lambda>", σ, vws ρ⟩
  let GM : List Addr := allFp ρ fp ++ G
  have hGM : ∀ a, a ∈ GM ↔ Fo fp a ∨ a ∈ G := fun a => by rw [List.mem_append, R.all]
  have rc : codeAny (model X.prog X.w) X.A (.call (.ref g) ⟨[.ref f], []⟩) (CR C8.CX0 X.stack X.prog X.w H1 s' Q C8.E0) s' := by
    refine run_ofS (N := Ng) (ps := [a]) (us := [.ref f]) (vs := [.ref f]) lk hcg Sg hr.room I1.env0 (hb s' [.ref f] I1.kIn rfl) (.cons rfl .nil) rfl fun _ => ?_
    have hrZ := hr.deeper (envOfC x sg s'.heap.objs.size g cdv)
    let BZ : Unit → Bas := fun _ => ⟨H1, NoF, GM⟩
    refine ⟨@LS _ (BZ ()) X.K (fun _ => false) (tg kk (lamSpec tb (vws ρ))), (@SXs.pss _ (BZ ()) _ _ _ _ (GT g cdv X.A X.stack s' H1 kk (lamSpec tb (vws ρ)) (fun B pn xe Eb p1 p2 tk => ?_) (BZ ()))).nox, ?_⟩
    · -- the lambda is called
      refine @EX.mk _ B _ _ _ ⟨fun pinsZ sZ σZ HZ QZ IZ hZ => ?_⟩
      obtain ⟨ρZ, fpZ, GZ, QaZ, RZ, ⟨h0, hs⟩, finZ⟩ := hZ
      obtain ⟨v0, hv0, _, rk⟩ := RZ.ex 0 _ h0
      obtain ⟨ev, hc2, hl2, ht2⟩ := rk
      subst ev
      have hGL : ∀ a, a ∈ allFp ρZ fpZ ++ GZ ↔ Fo fpZ a ∨ a ∈ GZ := fun a => by rw [List.mem_append, RZ.all]
      have thru : ∀ {H' : Hp} {A' : List Addr}, Ext HZ NoF H' (Or1 NoF A') → (∀ a ∈ A', ∃ u, H' a = some u) → @RS _ B X.K σZ H' ρZ fpZ (A' ++ GZ) ∧ Ext HZ (Fo fpZ) H' (Or1 (Fo fpZ) A') := fun {H' A'} x hi => by
        have xs : Ext HZ (· ∈ ([] : List Addr)) H' (· ∈ A') := x.weak (fun a z => (noF z).elim) fun a z => .inr z
        exact ⟨(show @RS _ B X.K σZ HZ ρZ fpZ ([] ++ GZ) from RZ).thru xs (fun a _ z => nomatch z) hi, (x.addP (Fo fpZ)).weak (fun a z => z.elim (fun q => q) fun q => (noF q).elim) fun a z => z.imp (fun q => q) .inr⟩
      refine act_run (k := k) (E := fun cls d H' => @WE _ B X.K Eb cls d σZ H') (tb := lamTE X.K tb fun cls d H' => @WE _ B X.K Eb cls d σZ H') (i := 0) I1 L hf hfn hfr (hbind _ _ _ _ _) hrZ (fun A outer s H hr2 => pe_lamTE (hbody A outer s H _ f c' hr2)) hNg hva IZ (passAt tk σZ) hv0 hc2 ?_ hd hcd
      let BL : Unit → Bas := fun _ => ⟨HZ, NoF, allFp ρZ fpZ ++ GZ⟩
      have RL0 : RS0 X.K σ HZ (vwE (vws ρ)) (fun _ => []) (allFp ρZ fpZ ++ GZ) := RS0.vw (F := Or1 (Fo fpZ) GZ) hl2 ht2 (fun a m => (hGL a).mp m) (fun a m => ?_) RZ.tb
      · refine ⟨BL (), fun e _ => Eb e ρZ, fun cls d σ' H' hw => ?_, vwE (vws ρ), fun _ => [], allFp ρZ fpZ ++ GZ, _, @RS.mk _ (BL ()) _ _ _ _ _ _ RL0 (Ext.refl.weak (fun _ z => z) fun a z => z.1.elim (fun q => q) fun m => absurd m z.2) (fun _ m => m), hs, fun v p A H' ρ' fp' R' ro x' hq => ?_⟩
        · obtain ⟨e, ρ', fp', G', R', xo, q⟩ := hw
          have b1 := @RS.bs _ (BL ()) _ _ _ _ _ _ R'
          have g1 := @RS.g0 _ (BL ()) _ _ _ _ _ _ R'
          obtain ⟨R3, x3⟩ := thru (A' := []) (b1.weak (fun _ z => z) fun a z => z.elim (fun q => (noF q).elim) fun m => nomatch m) fun a m => nomatch m
          exact ⟨e, ρZ, fpZ, GZ, R3, xo.weak fun a z => .inr (g1 a ((hGL a).mpr z)), q⟩
        · obtain ⟨rfl, o, rfl, q⟩ := hq
          obtain ⟨ro, nd, ng⟩ := ro
          obtain ⟨R3, x3⟩ := thru (x'.weak (fun a z => (noF z).elim) fun a z => z.elim (fun z => (noF z).elim) .inr) fun a m => let ⟨u, e, _⟩ := ro.there a m; ⟨u, e⟩
          refine finZ v (.val o) A H' ρZ fpZ R3 ⟨ro.weak fun a z => ?_, nd, fun a m z => ng a m ((hGL a).mpr (.inr z))⟩ x3 q
          rcases z with z | z
          · exact .inr (List.mem_append_right _ ((hGL a).mpr (.inl z)))
          · rcases List.mem_append.mp z with z | z
            · exact .inr (List.mem_append_left _ z)
            · exact .inr (List.mem_append_right _ ((hGL a).mpr (.inr z)))
      · rcases (hGL a).mp m with z | z
        · exact let ⟨u, e, _⟩ := RZ.toRS0.there a z; ⟨u, e⟩
        · exact RZ.gi a z
    · -- g from its start
      have R' : RS0 X.K ([V.ref f].map some) H1 ([O.thk kk].map some) (fun _ => []) GM := by
        refine ⟨fun i o e => ?_, fun i e => rfl, fun i j a m => (nomatch m), fun i => .nil, fun a m z => (let ⟨_, m⟩ := z; nomatch m), fun a m => ?_, rfl, T1⟩
        · cases i with
          | succ i => simp at e
          | zero =>
            cases e
            refine ⟨.ref f, rfl, rfl, rfl, hco, by show (vws ρ).length = σ.length; unfold vws; rw [List.length_map, R.len], fun j t ej => ?_⟩
            obtain ⟨u, h1, _, h2⟩ := R1.ex j _ (vws_at ej)
            exact ⟨u, h1, h2.weak fun a z => z.elim (fun ⟨_, m⟩ => nomatch m) (hGM a).mp⟩
        · rcases (hGM a).mp m with z | z
          · exact let ⟨u, e, _⟩ := R1.toRS0.there a z; ⟨u, e⟩
          · exact R1.gi a z
      have R0 : @RS _ (BZ ()) X.K (L2.start Ng [.ref f]) H1 (startA Ng.length [.thk kk]) (fun _ => []) GM := by
        unfold L2.start startA
        refine @RS.mk _ (BZ ()) _ _ _ _ _ _ ⟨fun i o e => ?_, fun i e => rfl, R'.dj, R'.nd, R'.gf, R'.gi, by simp, R'.tb⟩ (Ext.refl.weak (fun _ z => z) fun a z => z.1.elim (fun q => q) fun m => absurd m z.2) fun _ m => m
        obtain ⟨v, hv, r⟩ := R'.ex i o (get_pad.mp e)
        exact ⟨v, get_pad.mpr hv, r⟩
      have done : ∀ v o A' σ' H' ρ' fp', @RS _ (BZ ()) X.K σ' H' ρ' fp' (A' ++ GM) → RO X.K H' (Or1 (Fo fp') (A' ++ GM)) v o A' → A'.Nodup → (∀ a ∈ A', a ∉ GM) → Ext H1 (Fo fun _ => []) H' (Or1 (Fo fp') A') → Qa (.val o) ρ → Q v H' := fun v o A' σ' H' ρ' fp' R' ro nd ng x' q => by
        have xx : Ext H1 NoF H' (Or1 NoF A') := x'.weak (fun a z => z) fun a z => z.elim (fun z => (noF z).elim) .inr
        have xs : Ext H1 (· ∈ ([] : List Addr)) H' (· ∈ A') := xx.weak (fun a z => (noF z).elim) fun a z => .inr z
        have R3 := (show RS X.K σ H1 ρ fp ([] ++ G) from R1).thru xs (fun a _ z => nomatch z) fun a m => let ⟨u, e, _⟩ := ro.there a m; ⟨u, e⟩
        have x3 : Ext H1 (Fo fp) H' (Or1 (Fo fp) A') := (xx.addP (Fo fp)).weak (fun a z => z.elim (fun q => q) fun q => (noF q).elim) fun a z => z.imp (fun q => q) .inr
        refine fin v (.val o) A' H' ρ fp R3 ⟨ro.weak fun a z => ?_, nd, fun a m z => ng a m ((hGM a).mpr (.inr z))⟩ (x1.trans x3) q
        rcases z with z | z
        · exact .inr (List.mem_append_right _ ((hGM a).mpr (.inl z)))
        · rcases List.mem_append.mp z with z | z
          · exact .inr (List.mem_append_left _ z)
          · exact .inr (List.mem_append_right _ ((hGM a).mpr (.inr z)))
      let DD : AEnds := endsE fun o => Qa (.val o) ρ
      refine ⟨startA Ng.length [.thk kk], fun _ => [], GM, DD, R0, rd kk _ _ h, @FinS.mk _ (BZ ()) _ _ _ _ _ _ _ _ (fun σ' H' ρ' fp' R' x' pe hq => ?_) (fun _ _ _ _ _ _ _ hq => False.elim hq) (fun _ _ _ _ _ _ _ hq => False.elim hq) (fun v o A' σ' H' ρ' fp' R' ro nd ng x' pe hq => ?_)⟩
      · exact done .non (.pure .none) [] σ' H' ρ' fp' R' (ro_pure RP.non) .nil noMem (x'.weak (fun _ y => y) fun a y => y.elim (fun q => q) fun m => (List.not_mem_nil m).elim) hq
      · exact done v o A' σ' H' ρ' fp' R' ro nd ng x' hq
  refine wpAny_call (codeAny_mono rc fun r s2 hq => ?_)
  cases r with
  | error e => exact (show False from hq).elim
  | ok fl =>
    cases fl with
    | ret u => exact I1.after hq
    | next => exact False.elim hq
    | brk => exact False.elim hq
    | cont => exact False.elim hq
end
end DL
set_option Elab.async false
set_option linter.all false
set_option maxRecDepth 100000
set_option maxHeartbeats 4000000
/-! THE DATA LAYER, part 34: the end of a law whose defs make lambdas. -/
namespace DL
open PySem PySem.Spec L2
open PyProof.Rows hiding St
/-- nothing but the script and the tables is tracked -/
def OnlyT (cs : List (Addr × Addr)) (H : Hp) : Prop := (∀ p ∈ cs, H p.2 = some (.tbl #[])) ∧ ∀ b, H b = none ∨ b ∈ cs.map (·.2) ∨ ∃ o xs, H b = some (.frz o (.lst xs))
theorem end_callT {P : Program} {w : World} {K : PySem.W.Frag} {mg mb : Str → Option Value} {k : Nat} {fa a : Addr} {cs : List (Addr × Addr)} {fd : FuncData} {x : Str} {sp : Sp} {s1 : Shared} {vs : List Value} {ns : List Int}
    (KX : K.In s1.heap) (hns : s1.heap.Ns mainGlobals mg) (hb : s1.heap.Ns builtinsNs mb) (hbb : ∀ x : Str, x ≠ "__name__" → mb x = bootBuiltins x) (hlim : s1.heap.NoLimit) (hg : s1.gens = #[])
    (hT : ∀ p ∈ cs, s1.heap.get? p.2 = some { cls := .none, data := .fields #[] }) (nT : ∀ p ∈ cs, K.lookup p.2 = none) (C : ∀ p ∈ cs, PySem.W.CodeHd s1.heap p.1 p.2)
    (hbm : ∃ (bm : Addr) (ob : Obj), mg "__builtins__" = some (.ref bm) ∧ bm ≠ builtinsNs ∧ s1.heap.get? bm = some ob ∧ ob.cls = .type "module" ∧ ob.dict = some builtinsNs ∧ ob.data = .plain)
    (ha : s1.heap.get? a = some { cls := .type "list", data := .seq vs.toArray }) (hi : IntsAre vs ns) (hl : ns.length ≤ sizeLine) (hr : Room k callerA)
    (F : ∀ base : Heap, K.In base → base.Ns mainGlobals mg → (∀ p ∈ cs, LamX.TabB base mg p.1 p.2) → FnG P w K mg base CX0 k fa fd [x] sp) (hbind : ∀ (s : Shared) (u : Value), BindsTo s fd ⟨[u], []⟩ [(x, u)])
    (hsp : ∀ H : Hp, OnlyT cs H → SqL K H a (ns.map V.int) → sp [.ref a] H (fun v _ => v = .bl true) fun _ _ _ => False) :
    codeAny (model P w) callerA (.call (.ref fa) ⟨[.ref a], []⟩) (fun r s' => r = .ok (.ret (.bool true)) ∧ OldK s1.heap s'.heap ∧ s'.os = s1.os ∧ AllBare s'.gens) s1 := by
  have rv := vals_ints hi
  have isT : ∀ b : Addr, b ∈ cs.map (·.2) → s1.heap.get? b = some { cls := .none, data := .fields #[] } := fun b hb => by
    obtain ⟨p, hp, e⟩ := List.mem_map.mp hb
    exact e ▸ hT p hp
  have aT : a ∉ cs.map (·.2) := fun z => by
    have q := isT a z
    rw [ha] at q
    exact nomatch (show Data.seq vs.toArray _ = Data.fields #[] from congrArg Obj.data (Option.some.inj q))
  have memT : ∀ p ∈ cs, p.2 ∈ cs.map (·.2) := fun p hp => List.mem_map.mpr ⟨p, hp, rfl⟩
  have go : ∀ H : Hp, OnlyT cs H → SqL K H a (ns.map V.int) → HOk P w H s1.heap → (∀ b, H b ≠ none → b = a ∨ b ∈ cs.map (·.2)) → (H a ≠ none → K.lookup a = none) →
      codeAny (model P w) callerA (.call (.ref fa) ⟨[.ref a], []⟩) (fun r s' => r = .ok (.ret (.bool true)) ∧ OldK s1.heap s'.heap ∧ s'.os = s1.os ∧ AllBare s'.gens) s1 := by
    intro H hO hS hok hA hK
    -- what is neither a row nor a table is not tracked
    have noD : ∀ {b : Addr} {o : Obj}, s1.heap.get? b = some o → (∀ vs n, o.data ≠ .seq vs n) → o.data ≠ .fields #[] → H b = none := fun {b o} e h1 h2 => by
      cases q : H b with
      | none => rfl
      | some u =>
        rcases hA b (by rw [q]; simp) with e' | e'
        · subst e'; rw [ha] at e; cases e; exact (h1 _ _ rfl).elim
        · rw [isT b e'] at e; cases e; exact (h2 rfl).elim
    have dictN : ∀ {b : Addr} {o : Obj} {es : Array DictEntry} {ep : Nat}, s1.heap.get? b = some o → o.data = .dict es ep → H b = none := fun {b o es ep} e d => noD e (fun vs n z => by rw [d] at z; cases z) fun z => by rw [d] at z; cases z
    have ns2 : ∀ {b : Addr} {m : Str → Option Value}, s1.heap.Ns b m → (hidT s1.heap H).Ns b m := fun {b m} ⟨o, es, ep, e, d, r⟩ => ⟨o, es, ep, hidT_get e (dictN e d), d, r⟩
    have kin2 : K.In (hidT s1.heap H) := fun b o e => hidT_get (KX b o e) (by
      cases q : H b with
      | none => rfl
      | some u =>
        rcases hA b (by rw [q]; simp) with e' | e'
        · subst e'; rw [hK (by rw [q]; simp)] at e; cases e
        · obtain ⟨p, hp, ep⟩ := List.mem_map.mp e'
          rw [← ep, nT p hp] at e; cases e)
    have TB : ∀ p ∈ cs, LamX.TabB (hidT s1.heap H) mg p.1 p.2 := fun p hp => by
      have hTp := hT p hp
      refine ⟨?_, ?_, fun z => ?_⟩
      · obtain ⟨o, us, file, tf, flags, tg, inF, text, tt, e1, r1, r2, r3, r4, r5, r6, r7, r8, hne⟩ := C p hp
        refine ⟨o, us, file, tf, flags, tg, inF, text, tt, hidT_get e1 (noD e1 (fun vs n z => ?_) fun z => ?_), r1, r2, r3, r4, r5, r6, r7, r8, hne⟩
        · rw [r2] at z; cases z
        · rw [r2] at z; cases z; simp at r3
      · obtain ⟨bm, ob, b1, b2, b3, b4, b5, b6⟩ := hbm
        have nG : bm ≠ mainGlobals := fun q => by
          obtain ⟨o, es, ep, e, hd, _⟩ := hns
          rw [q, e] at b3; cases b3; rw [hd] at b6; cases b6
        have nP : bm ≠ p.2 := fun q => by
          rw [q, hTp] at b3; cases b3; cases b6
        refine ⟨bm, ob, b1, b2, nG, nP, hidT_get b3 (noD b3 (fun vs n z => ?_) fun z => ?_), b4, b5, b6⟩
        · rw [b6] at z; cases z
        · rw [b6] at z; cases z
      · obtain ⟨o, es, ep, e, hd, _⟩ := hns
        rw [z, hTp] at e; cases e; cases hd
    have e0 : Env0 P w K mg (hidT s1.heap H) callerA [] s1 H := ⟨rfl, ⟨kin2, ns2 hns, ⟨mb, ns2 hb, hbb⟩, let ⟨mc, h1, h2⟩ := hlim; ⟨mc, ns2 h1, h2⟩⟩, fun b o e => of_hidT e, Nat.le_of_eq (hidT_size _ _), trivial, fun b hb => absurd (show b ∈ ([] : List Addr) from hb) (by simp), hok, .of_eq hg⟩
    refine codeAny_mono ((F _ kin2 (ns2 hns) TB).run callerA [] s1 H ⟨[.ref a], []⟩ [.ref a] [.ref a] _ _ ⟨hr, rfl⟩ e0 (hbind s1 (.ref a)) (.cons rfl .nil) (hsp H hO hS)) fun r s' h => ?_
    match r, h with
    | .error e, h => exact h.elim
    | .ok (.ret u), ⟨v, H', os, bare, un, hok', r', q⟩ =>
      obtain rfl : v = .bl true := q
      obtain rfl : u = Value.bool true := r'
      have key : ∀ b o, b ∉ cs.map (·.2) → s1.heap.get? b = some o → s'.heap.get? b = some o := fun b o nb e => by
        rcases hO.2 b with z | z | ⟨ob, xs, z⟩
        · exact un.keep b o e z (by intro y; exact absurd (show b ∈ ([] : List Addr) from y) (by simp)) (by simp)
        · exact absurd z nb
        · obtain ⟨e1, _⟩ := hok b _ z
          obtain ⟨e2, _⟩ := hok' b _ (un.frzs b ob _ z)
          rw [e] at e1; cases e1
          exact e2
      have grown : ∀ p ∈ cs, ∃ more : Array Value, s'.heap.get? p.2 = some { cls := .none, data := .fields more } := fun p hp => by
        obtain ⟨more, z⟩ := un.tbls p.2 #[] (hO.1 p hp)
        exact ⟨_, hok' p.2 _ z⟩
      refine ⟨rfl, ⟨fun b o e => ?_, fun b o e => ?_⟩, os, bare⟩
      · by_cases hb : b ∈ cs.map (·.2)
        · obtain ⟨p, hp, ep⟩ := List.mem_map.mp hb
          obtain ⟨more, hm⟩ := grown p hp
          rw [← ep] at e ⊢
          rw [hT p hp] at e; cases e
          exact .inr (.inl ⟨((C p hp).tab (hT p hp)).isCodeTable, rfl, #[], more, rfl, by rw [Array.empty_append]; exact hm⟩)
        · exact .inl (key b o hb e)
      · by_cases hb : b ∈ cs.map (·.2)
        · obtain ⟨p, hp, ep⟩ := List.mem_map.mp hb
          obtain ⟨more, hm⟩ := grown p hp
          exact ⟨_, ep ▸ hm⟩
        · exact ⟨o, key b o hb e⟩
  let HB : Option HO → Hp := fun u b => if b = a then u else if b ∈ cs.map (·.2) then some (.tbl #[]) else none
  have hBa : ∀ {u}, HB u a = u := fun {u} => if_pos rfl
  have hBt : ∀ {u b}, b ∈ cs.map (·.2) → HB u b = some (.tbl #[]) := fun {u b} m => (if_neg (fun (z : b = a) => aT (z ▸ m))).trans (if_pos m)
  have hBn : ∀ {u b}, b ≠ a → b ∉ cs.map (·.2) → HB u b = none := fun {u b} n m => (if_neg n).trans (if_neg m)
  have three : ∀ (u : Option HO) (b : Addr), (b = a ∧ HB u b = u) ∨ (b ∈ cs.map (·.2) ∧ HB u b = some (.tbl #[])) ∨ (b ≠ a ∧ b ∉ cs.map (·.2) ∧ HB u b = none) := fun u b => by
    by_cases q : b = a
    · exact .inl ⟨q, q ▸ hBa⟩
    · by_cases m : b ∈ cs.map (·.2)
      · exact .inr (.inl ⟨m, hBt m⟩)
      · exact .inr (.inr ⟨q, m, hBn q m⟩)
  cases hk : K.lookup a with
  | some o =>
    have e := KX a o hk
    rw [ha] at e; cases e
    refine go (HB none) ⟨fun p hp => hBt (memT p hp), fun b => ?_⟩ (.inr ⟨_, vs.toArray, _, hk, rfl, rfl, rfl, by rw [List.size_toArray, hi.length]; exact hl, by simpa using rv⟩) (fun b u z => ?_) (fun b z => ?_) fun z => absurd hBa z
    all_goals rcases three none b with ⟨e, q⟩ | ⟨m, q⟩ | ⟨n, m, q⟩
    · exact .inl q
    · exact .inr (.inl m)
    · exact .inl q
    · rw [q] at z; cases z
    · rw [q] at z; cases z; exact isT b m
    · rw [q] at z; cases z
    · exact absurd q z
    · exact .inr m
    · exact absurd q z
  | none =>
    refine go (HB (some (.frz { cls := .type "list", data := .seq vs.toArray } (.lst (ns.map V.int))))) ⟨fun p hp => hBt (memT p hp), fun b => ?_⟩ (.inl (.inr ⟨_, hBa⟩)) (fun b u z => ?_) (fun b z => ?_) fun _ => hk
    all_goals rcases three (some (.frz { cls := .type "list", data := .seq vs.toArray } (.lst (ns.map V.int)))) b with ⟨e, q⟩ | ⟨m, q⟩ | ⟨n, m, q⟩
    · exact .inr (.inr ⟨_, _, q⟩)
    · exact .inr (.inl m)
    · exact .inl q
    · rw [q] at z; cases z
      rw [e]; exact ⟨ha, by rw [List.length_map]; exact hl, vs, _, rv, ha⟩
    · rw [q] at z; cases z; exact isT b m
    · rw [q] at z; cases z
    · exact .inl e
    · exact .inr m
    · exact absurd q z
theorem walk_ofGT {l : PySem.W.OpenLaw} {n k : Nat} {q : Program} {loose : List Str} {XP : (Str → Option Value) → Heap → Prop} {YP : World → Heap → Prop} {d : DefRec} {x : Str}
    (hn : l.most = some n) (hn2 : n ≤ sizeLine) (hdf : d.params.defaults = []) (hr : Room k callerA)
    (F : ∀ (w : World) (mg : Str → Option Value) (fa : Addr) (h : Heap), YP w h → h.Ns mainGlobals mg → mg d.name = some (.ref fa) →
      ∃ (K : PySem.W.Frag) (fd : FuncData) (cs : List (Addr × Addr)) (sp : Sp), K.In h ∧ (∀ p ∈ cs, h.get? p.2 = some { cls := .none, data := .fields #[] }) ∧ (∀ p ∈ cs, K.lookup p.2 = none) ∧ (∀ p ∈ cs, PySem.W.CodeHd h p.1 p.2) ∧
        (∀ (s : Shared) (u : Value), BindsTo s fd ⟨[u], []⟩ [(x, u)]) ∧
        (∀ (H : Hp) (a : Addr) (ns : List Int), ns.length ≤ n → OnlyT cs H → SqL K H a (ns.map V.int) → sp [.ref a] H (fun v _ => v = .bl true) fun _ _ _ => False) ∧
        ∀ base : Heap, K.In base → base.Ns mainGlobals mg → (∀ p ∈ cs, LamX.TabB base mg p.1 p.2) → FnG l.prog w K mg base CX0 k fa fd [x] sp) :
    PySem.W.WalkO q loose XP YP l.row.toRowW d [] (fun f vs => PySem.call f vs) := by
  refine Att.attach_call hn hdf fun w s₀ s₁ mg mb fa o pm cd doc a vs ns G Y ho hd hcd hmg hobj hints hlen hg => ?_
  obtain ⟨K, fd, cs, sp, KX, hT, nT, C, hb, hsp, hF⟩ := F w mg fa _ Y G.T.g hmg
  exact end_callT KX G.T.g G.T.b G.T.builtins G.T.nolimit hg hT nT C G.T.bmain hobj hints (Nat.le_trans hlen hn2) hr hF hb fun H hO hS => hsp H a ns hlen hO hS
/-- the tables, empty at the start -/
theorem tabs_start [Tbs] {cs : List (Addr × Addr)} {H : Hp} (hO : OnlyT cs H) (h : ∀ p ∈ Tbs.T, p.1 ∈ cs.map (·.2)) : LamX.Tabs Tbs.T H := fun p hp => by
  obtain ⟨c, hc, e⟩ := List.mem_map.mp (h p hp)
  exact LamX.TabS.nil (e ▸ hO.1 c hc)
end DL
set_option Elab.async false
set_option linter.all false
set_option maxRecDepth 100000
set_option maxHeartbeats 4000000
/-! THE DATA LAYER, part 35: defs whose code object is known; what the head tells of exception classes. -/
namespace DL
open PySem PySem.Spec L2
open PyProof.Rows hiding St
section
variable {P : Program} {w : World} {K : PySem.W.Frag} {mg : Str → Option Value} {base : Heap} {x qual : Str} {params : Arguments} {body : List Stmt} {scope : Scope} {f : Addr} {fd : FuncData} {CX : CXT} {sp : Sp}
theorem FunD.code (F : FunD K x qual params body scope [] [] f fd) : ∃ c, fd.code = .ref c := by
  obtain ⟨oc, od, dV, kV, doc, pm, an, cdv, ct, osl, rfl, lk, hcd, _, _⟩ := F.ex
  exact He.codeIn_ref hcd
theorem fnG_of1 {oc : Value} {od : Option Addr} {dV kV doc pm : Value} {an : Option Addr} {cdv ct : Value} {osl : Array (Option Value)} {N ps : List Str} {k : Nat} (lk : K.lookup f = some ⟨oc, od, .func (PySem.W.fnOf x qual params body scope dV kV doc pm an cdv ct), osl⟩) (hcd : PySem.W.codeIn K cdv qual = true) (S : FnScope N ps scope) (len : ∀ vs H Q E, sp vs H Q E → vs.length = ps.length)
    (hbody : ∀ (A : Around) (outer : List Env) (s : Shared) (H : Hp) (vs : List V) (Q : VK) (E : XK), Rm k (A.deeper (envOfC qual scope s.heap.objs.size f cdv)) → sp vs H Q E →
      ∃ t, PSs (cxOf CX P w K mg base N qual scope f cdv A outer s H E) body t ∧ t { nx := fun _ H' => Q .non H', rt := Q } (L2.start N vs) H) : FnG P w K mg base CX (k + 1) f (PySem.W.fnOf x qual params body scope dV kV doc pm an cdv ct) ps sp := by
  refine ⟨len, fun A outer s H args us vs Q E hr e0 hb r hsp => ?_⟩
  have hl := len _ _ _ _ hsp
  have up : ∀ b o, base.get? b = some o → s.heap.get? b = some o := fun b o e => (e0.bs b o e).1
  have kin : K.In s.heap := e0.mod.kin.keeps up
  have nol : s.heap.NoLimit := e0.mod.nolimit.keeps up
  refine codeAny_call_function hr.room.depth (kin _ _ lk) rfl S.co S.gen rfl (PySem.W.codeRec_of kin hcd) (hb _ _ _ _ ?_)
  refine wpAny_newFunctionEnv_cells S.kind (fun ⟨n, v⟩ hy => (S.par n (List.of_mem_zip hy).1).imp (fun q => q) fun q => ⟨q, PySem.W.cellsFrom_some _ _ _ (.inl q)⟩) fun env he s1 x => ?_
  subst he
  obtain ⟨t, ht, hq⟩ := hbody A outer s H vs Q E (hr.deeper _) hsp
  refine ⟨nol.keeps x.toInCall.keep, codeAny_func (wpAny_mono (ht.run [] s1 (L2.start N vs) H _ (inv_start S hr.room.hd e0 hl r x) hq) (fun fl s' hs => ?_) fun e s' hs => hs)⟩
  cases fl with
  | ret u => obtain ⟨v, σ', H', J, rv, q⟩ := hs; exact ⟨v, H', J.os, J.bare, J.base, J.hok, rv, q⟩
  | next => obtain ⟨σ', H', J, q⟩ := hs; exact ⟨V.non, H', J.os, J.bare, J.base, J.hok, rfl, q⟩
  | brk => obtain ⟨_, _, _, q⟩ := hs; exact q.elim
  | cont => obtain ⟨_, _, _, q⟩ := hs; exact q.elim
/-- as fng_ok, the code object known -/
theorem fng_okC [Tbs] {N ps : List Str} {k : Nat} {spec : FSpec} (fl : List Bool) (tb : ST) (F : FunD K x qual params body scope [] [] f fd) (S : FnScope N ps scope) (hfl : fl.length = ps.length)
    (hbody : ∀ (cdv : Value) (A : Around) (outer : List Env) (s : Shared) (H : Hp) (E : XK), fd.code = cdv → Rm k (A.deeper (envOfC qual scope s.heap.objs.size f cdv)) →
      ∀ B : Bas, @SXs _ B (cxOf CX0 P w K mg base N qual scope f cdv A outer s H E).nox (fun j => fl.getD j false) body tb)
    (rd : ∀ os Qa, os.length = fl.length → spec os Qa → tb (endsOf fl Qa) (startA N.length os)) : FnG P w K mg base CX0 (k + 1) f fd ps (ASp K fl spec) := by
  obtain ⟨oc, od, dV, kV, doc, pm, an, cdv, ct, osl, rfl, lk, hcd, hd, hk⟩ := F.ex
  refine ⟨fun vs H Q E h => ?_, fun A outer s H args us vs Q E hr e0 hb r h => ?_⟩
  · obtain ⟨os, fp, G, Qa, h, _⟩ := h
    rw [h, hfl]
  -- the walk of the body for this very code object
  have G : FnG P w K mg base CX0 (k + 1) f (PySem.W.fnOf x qual params body scope dV kV doc pm an cdv ct) ps (ASp K fl spec) := by
    refine fnG_of1 lk hcd S (fun vs H Q E h => ?_) fun A outer s H vs Q E hr h => let ⟨B, hB⟩ := def_body fl tb S rd h; ⟨@LS _ B K (fun j => fl.getD j false) tb, PSs.nox (hbody cdv A outer s H E rfl hr B).pss, hB⟩
    obtain ⟨os, fp, G, Qa, h, _⟩ := h
    rw [h, hfl]
  exact G.run A outer s H args us vs Q E hr e0 hb r h
end
theorem tkNo [Tbs] [Bas] {X : Cx} {K : PySem.W.Frag} : Takes X (WE K fun _ _ => False) := LamX.takes0.imp fun c d σ H ⟨_, _, _, _, _, _, q⟩ => q
/-! ### what the head tells of exception classes -/
section
variable {K : PySem.W.Frag}
def eqS (a b : Option (Option Value)) : Bool := decide (a = b)
def excB (K : PySem.W.Frag) (D : Addr) : Bool :=
  eqS (PySem.W.findIn K (.ref D) "__getattribute__") (some (some (.builtin "BaseException.__getattribute__"))) && (eqS (PySem.W.findIn K (.ref D) "__getattr__") (some none) && (decide (PySem.W.subIn K (.ref D) (.type "BaseException") = some true) && (PySem.W.hasDictIn K D && (eqS (PySem.W.findIn K (.ref D) "__class__") (some (some (.builtin "object.__class__"))) &&
    (eqS (PySem.W.specialIn K (.builtin "object.__class__") "__get__") (some (some (.builtin "getset_descriptor.__get__"))) && (decide (PySem.W.takesIn K (.builtin "object.__class__") = some true) && decide (PySem.W.mroIn K D (.type "object") = some true)))))))
theorem ba2 {a b : Bool} (h : (a && b) = true) : a = true ∧ b = true := Bool.and_eq_true_iff.mp h
theorem excB_ok {D : Addr} (h : excB K D = true) : ExcC K D := by
  obtain ⟨h1, h⟩ := ba2 h
  obtain ⟨h2, h⟩ := ba2 h
  obtain ⟨h3, h⟩ := ba2 h
  obtain ⟨h4, h⟩ := ba2 h
  obtain ⟨h5, h⟩ := ba2 h
  obtain ⟨h6, h⟩ := ba2 h
  obtain ⟨h7, h8⟩ := ba2 h
  exact ⟨of_decide_eq_true h1, of_decide_eq_true h2, of_decide_eq_true h3, h4, of_decide_eq_true h5, of_decide_eq_true h6, of_decide_eq_true h7, of_decide_eq_true h8⟩
def clsB (K : PySem.W.Frag) (C : Addr) : Bool := match K.lookup C with
  | some ⟨.type t, _, .cls cd, sl⟩ => decide (t = "type") && (match cd.mro, sl.toList with
    | .ref C' :: bm, [_, _, _, _, some (.builtin n), _] => decide (C' = C) && (decide (n = "ValueError.__new__") && (cd.hasDict && (!cd.hasDel && PySem.HandSPX.refsVE bm)))
    | _, _ => false)
  | _ => false
theorem clsB_ok {C : Addr} (h : clsB K C = true) : ∃ nm q N bs bm sn sub ab col dd k0 k1 k2 k3 k5, K.lookup C = some (excClassObj nm q C N bs bm true sn sub ab col dd k0 k1 k2 k3 k5 "ValueError.__new__") ∧ PySem.HandSPX.refsVE bm = true := by
  unfold clsB at h
  split at h
  · rename_i t dd cd sl e
    obtain ⟨h1, h⟩ := ba2 h
    split at h
    · rename_i C' bm k0 k1 k2 k3 n k5 e1 e2
      obtain ⟨h2, h⟩ := ba2 h
      obtain ⟨h3, h⟩ := ba2 h
      obtain ⟨h4, h⟩ := ba2 h
      obtain ⟨h5, h6⟩ := ba2 h
      obtain ⟨nm, bs, mro, N, q, hd, sn, sub, ab, col, hl⟩ := cd
      have e2' : sl = #[k0, k1, k2, k3, some (.builtin n), k5] := by
        cases sl; simpa using e2
      simp only at e1 h4 h5
      simp only [Bool.not_eq_true'] at h5
      refine ⟨nm, q, N, bs, bm, sn, sub, ab, col, dd, k0, k1, k2, k3, k5, ?_, h6⟩
      rw [e, e1, e2', h4, h5, of_decide_eq_true h1, of_decide_eq_true h2, of_decide_eq_true h3]
    · cases h
  · cases h
/-- .. of a class that keeps its one argument under fld -/
def exc1B (K : PySem.W.Frag) (C : Addr) (fld : Str) : Bool :=
  clsB K C && (eqS (PySem.W.findIn K (.ref C) "__setattr__") (some (some (.builtin "object.__setattr__"))) && (decide (PySem.W.subIn K (.ref C) (.type "BaseException") = some true) && (decide (PySem.W.typeIn K (.ref C) = some (.type "type")) && (PySem.W.keepIn K (.ref C) &&
    (eqS (PySem.W.findIn K (.ref C) fld) (some none) && (eqS (PySem.W.findIn K (.ref C) "__init__") (some (some (.ref (He.ma K C "__init__")))) && decide (PySem.W.typeIn K (.ref (He.ma K C "__init__")) = some (.type "function"))))))))
theorem exc1B_ok {C : Addr} {fld : Str} (h : exc1B K C fld = true) : ExcC1 K C (He.ma K C "__init__") fld := by
  obtain ⟨h1, h⟩ := ba2 h
  obtain ⟨h2, h⟩ := ba2 h
  obtain ⟨h3, h⟩ := ba2 h
  obtain ⟨h4, h⟩ := ba2 h
  obtain ⟨h5, h⟩ := ba2 h
  obtain ⟨h6, h⟩ := ba2 h
  obtain ⟨h7, h8⟩ := ba2 h
  exact ⟨⟨clsB_ok h1, of_decide_eq_true h2, of_decide_eq_true h3, of_decide_eq_true h4, h5⟩, of_decide_eq_true h6, of_decide_eq_true h7, of_decide_eq_true h8⟩
def baseB (K : PySem.W.Frag) (C : Addr) : Bool := eqS (PySem.W.specialIn K (.ref C) "__getattribute__") (some (some (.builtin "type.__getattribute__"))) && (PySem.W.readsIn K C (.type "type") && match PySem.W.findCls K (.ref C) (.type "type") "__init__" with
  | some (.val v) => decide (v = .builtin "ValueError.__init__")
  | _ => false)
theorem baseB_ok {C : Addr} {x : Str} {mg : Str → Option Value} (hm : mg x = some (.ref C)) (h : baseB K C = true) : BaseC K mg x C := by
  obtain ⟨h1, h⟩ := ba2 h
  obtain ⟨h2, h3⟩ := ba2 h
  refine ⟨hm, of_decide_eq_true h1, .type "type", h2, ?_⟩
  split at h3
  · rename_i v e
    rw [e, of_decide_eq_true h3]
  · cases h3
/-- except x: which of the names are caught -/
def exmB (K : PySem.W.Frag) (nms : List Str) (u : Value) (f : Str → Bool) : Bool := nms.all fun m => decide (PySem.W.exmOne K (.ref (He.ga K m)) u = some (f m))
theorem exmB_ok {nms : List Str} {u : Value} {f : Str → Bool} (h : exmB K nms u f = true) : ∀ m ∈ nms, PySem.W.exmOne K (.ref (He.ga K m)) u = some (f m) := fun m hm => of_decide_eq_true (List.all_eq_true.mp h m hm)
def kitB1 (K : PySem.W.Frag) (nms : List Str) (u : Value) (f : Str → Bool) : Bool := nms.all fun m => decide (PySem.W.kitOne K (.ref (He.ga K m)) u = some (f m))
theorem kitB1_ok {nms : List Str} {u : Value} {f : Str → Bool} (h : kitB1 K nms u f = true) : ∀ m ∈ nms, PySem.W.kitOne K (.ref (He.ga K m)) u = some (f m) := fun m hm => of_decide_eq_true (List.all_eq_true.mp h m hm)
theorem kitAny2 {t u1 u2 : Value} {a b : Bool} (h1 : PySem.W.kitOne K t u1 = some a) (h2 : PySem.W.kitOne K t u2 = some b) : PySem.W.kitAny K t [u1, u2] = some (a || b) := by
  refine kitAny_cons h1 (fun e => ?_) fun e => by rw [e]; rfl
  rw [e]
  refine kitAny_cons h2 (fun e => ?_) fun e => by rw [e]; rfl
  rw [e]; exact kitAny_nil
end
end DL
set_option Elab.async false
set_option linter.all false
set_option maxRecDepth 100000
set_option maxHeartbeats 4000000
/-! THE DATA LAYER, part 36: len(set(x)); names of classes. -/
namespace DL
open PySem PySem.Spec L2
open PyProof.Rows hiding St
variable [Tbs] [Bas]
/-- which of the classes' names are below -/
def exSub (l : List Str) (m : Str) : Bool := l.contains m
end DL
set_option Elab.async false
set_option linter.all false
set_option maxRecDepth 100000
set_option maxHeartbeats 4000000
/-! THE DATA LAYER, part 37: the head of a law with classes and lambdas. -/
namespace DL
open PySem PySem.Spec L2
open PyProof.Rows hiding St
theorem lamD_of [Tbs] {K : PySem.W.Frag} {base : Heap} {mg : Str → Option Value} {p : Str × Option Str} {x qual q : Str} {params : Arguments} {body : List Stmt} {scope : Scope} {fd : FuncData}
    (F : FunD K x qual params body scope [] [] (He.fAd K p) fd) (tb : LamX.TabB base mg (He.cT K p).1 (He.cT K p).2) (mem : ((He.cT K p).2, q) ∈ Tbs.T) (one : ∀ z ∈ Tbs.T, z.1 = (He.cT K p).2 → z.2 = q) :
    LamD base mg fd.code q (He.cT K p).1 (He.cT K p).2 := by
  obtain ⟨oc, od, dV, kV, doc, pm, an, cdv, ct, osl, rfl, lk, hcd, _, _⟩ := F.ex
  obtain ⟨c, e⟩ := He.codeIn_ref hcd
  have e2 := He.codeOf_eq lk (c := c) e
  refine ⟨?_, tb, mem, one⟩
  show cdv = .ref (He.codeOf K p)
  rw [e2, e]
/-- a class's first statement -/
def clsSt : Stmt → Nat → Stmt
  | .ClassDef _ _ _ b _ _ _ _ _ _ _, i => b.getD i (.Pass ⟨0, 0, 0, 0⟩)
  | _, _ => .Pass ⟨0, 0, 0, 0⟩
theorem all_mem {α : Type} {p : α → Bool} {l : List α} (h : l.all p = true) : ∀ a ∈ l, p a = true := List.all_eq_true.mp h
/-! ### a Hook as He.hookX, the statics of classes among what is looked at -/
section
open He
def asY (g : Addr → Option Obj) (n : Nat) : List Addr := asD g n ++ [cStatics]
def obsY (n : Nat) (fa : List Fa) (fn : List DefD) (tf : List Defn) (ex : PySem.W.Frag → Bool) (g : Addr → Option Obj) : AlX := (obsT fa fn [] (frT g (asY g n)), ex (frT g (asY g n)) && tabsB g tf (frT g (asY g n)))
theorem saysY_of {as : List Addr} {fa : List Fa} {fn : List DefD} {tf : List Defn} {ex : PySem.W.Frag → Bool} {w : World} {h : Heap} (e1 : obsT fa fn [] (frT h.get? as) = valT fn [] w) (e2 : (ex (frT h.get? as) && tabsB h.get? tf (frT h.get? as)) = true) : SaysX fa fn [] tf ex w h (frT h.get? as) := by
  obtain ⟨h1, h2⟩ := ba2 e2
  have key : ∀ p ∈ tf, PySem.W.codeHdIn (frT h.get? as) (cT (frT h.get? as) p).1 (cT (frT h.get? as) p).2 = true ∧ ∃ o, h.get? (cT (frT h.get? as) p).2 = some o ∧ emptyTab o = true := fun p hp => by
    obtain ⟨h3, h4⟩ := ba2 (List.all_eq_true.mp h2 p hp)
    refine ⟨h3, ?_⟩
    split at h4
    · rename_i o q; exact ⟨o, q, h4⟩
    · cases h4
  exact ⟨e1, h1, fun p hp => (key p hp).1, fun p hp => let ⟨_, o, q, z⟩ := key p hp; frT_none q z, fun p hp => by
    obtain ⟨_, o, q, z⟩ := key p hp
    rw [q, emptyTab_eq z]⟩
def hookY (n : Nat) (fa : List Fa) (fn : List DefD) (tf : List Defn) (ex : PySem.W.Frag → Bool) : PySem.W.Hook where
  α := AlX
  obs := fun s => obsY n fa fn tf ex s.heap.get?
  val := fun w => valX fn [] w
  says := fun w h => ∃ K : PySem.W.Frag, K.In h ∧ SaysX fa fn [] tf ex w h K
  of := fun _ _ e => ⟨_, frT_in, saysY_of (congrArg (fun z : AlX => z.1) e) (congrArg (fun z : AlX => z.2) e)⟩
  keeps := fun _ _ _ ⟨K, hK, c⟩ k => ⟨K, PySem.W.Frag.In.keeps hK k, ⟨c.t, c.more, c.hd, c.out, fun p hp => k _ _ (c.empty p hp)⟩⟩
theorem obsY_eq {n : Nat} {fa : List Fa} {fn : List DefD} {tf : List Defn} {ex : PySem.W.Frag → Bool} {g : Addr → Option Obj} {s : Shared} (h : ∀ a, g a = s.heap.get? a) : obsY n fa fn tf ex g = (hookY n fa fn tf ex).obs s := by
  have e : g = s.heap.get? := funext h
  rw [e] <;> rfl
end
end DL
set_option Elab.async false
set_option linter.all false
set_option maxRecDepth 100000
set_option maxHeartbeats 4000000
/-! THE DATA LAYER, part 38: dict(zip(a, b)), dict(list(zip(a, b))) of two tuples. -/
namespace DL
open PySem PySem.Spec L2 RZ
open PyProof.Rows hiding St
theorem nolen_zip : typeLookup (.type "zip") "__len__" = pure none := by rw [typeLookup_type, builtinLookup_eq_fast]; kernel_rfl
theorem nohint_zip : typeLookup (.type "zip") "__length_hint__" = pure none := by rw [typeLookup_type, builtinLookup_eq_fast]; kernel_rfl
theorem notin4 {a z TO i1 i2 : Addr} (h1 : a ≠ z) (h2 : a ≠ TO) (h3 : a ≠ i1) (h4 : a ≠ i2) : a ∉ [z, TO, i1, i2] := fun m => by
  simp only [List.mem_cons, List.not_mem_nil, or_false] at m
  rcases m with e | e | e | e
  · exact h1 e
  · exact h2 e
  · exact h3 e
  · exact h4 e
theorem sub47 {d z TI TO i1 i2 l1 l2 : Addr} (h : d ∉ [z, TI, TO, i1, i2, l1, l2]) : d ∉ [z, TO, i1, i2] := by
  simp only [List.mem_cons, List.not_mem_nil, or_false, not_or] at h
  exact notin4 h.1 h.2.2.1 h.2.2.2.1 h.2.2.2.2.1
theorem below4 {b n z TO i1 i2 : Addr} (h : b < n) (h1 : n ≤ z) (h2 : n ≤ TO) (h3 : n ≤ i1) (h4 : n ≤ i2) : b ∉ [z, TO, i1, i2] :=
  notin4 (Nat.ne_of_lt (Nat.lt_of_lt_of_le h h1)) (Nat.ne_of_lt (Nat.lt_of_lt_of_le h h2)) (Nat.ne_of_lt (Nat.lt_of_lt_of_le h h3)) (Nat.ne_of_lt (Nat.lt_of_lt_of_le h h4))
theorem apart_new {n a b : Nat} (ha : a < n) (hb : b < n) : ZipApart (n + 4) (n + 2) (n + 3) n (n + 1) a b := by
  constructor
  all_goals exact fun e => absurd (show (_ : Nat) = _ from e) (by omega)
/-- a zip of two tuples at turn k; d: what is filled meanwhile -/
structure ZS (d z TI TO i1 i2 l1 l2 : Addr) (xs ys : Array Value) (k : Nat) (h : Heap) : Prop where
  ti : IsPair h TI (.ref i1) (.ref i2)
  n1 : h.IsTupleIter i1 l1 k
  n2 : h.IsTupleIter i2 l2 k
  t1 : h.IsTuple l1 xs
  t2 : h.IsTuple l2 ys
  out : (IsZip h z TI TO .none ∧ ∃ a b, IsPair h TO a b) ∨ ∃ T f oT, IsZipHeld h z TI TO T f ∧ h.get? T = some oT ∧ T ≠ z ∧ T ≠ i1 ∧ T ≠ i2 ∧ T ≠ d
section
variable {prog : Program} {w : World} {A : Around} {E : Value → Shared → Prop} {s : Shared} {d z TI TO i1 i2 l1 l2 : Addr} {xs ys : Array Value} {k : Nat} {h h' : Heap}
theorem ZS.frame (st : ZS d z TI TO i1 i2 l1 l2 xs ys k h) (hd : d ∉ [z, TI, TO, i1, i2, l1, l2]) (kp : ∀ b o, b ≠ d → h.get? b = some o → h'.get? b = some o) : ZS d z TI TO i1 i2 l1 l2 xs ys k h' := by
  simp only [List.mem_cons, List.not_mem_nil, or_false, not_or] at hd
  obtain ⟨dz, dTI, dTO, d1, d2, dl1, dl2⟩ := hd
  refine ⟨kp _ _ (Ne.symm dTI) st.ti, st.n1.at fun o e => kp _ o (Ne.symm d1) e, st.n2.at fun o e => kp _ o (Ne.symm d2) e, st.t1.at fun o e => kp _ o (Ne.symm dl1) e, st.t2.at fun o e => kp _ o (Ne.symm dl2) e, ?_⟩
  rcases st.out with ⟨h1, a, b, h2⟩ | ⟨T, f, oT, h1, h2, q1, q2, q3, q4⟩
  · exact .inl ⟨kp _ _ (Ne.symm dz) h1, a, b, kp _ _ (Ne.symm dTO) h2⟩
  · exact .inr ⟨T, f, oT, kp _ _ (Ne.symm dz) h1, kp _ _ q4 h2, q1, q2, q3, q4⟩
theorem zheld_item {T : Addr} {f : Bool} {oT : Obj} {x y : Value} {Q : Value → Shared → Prop} (D : ZipApart z TI TO i1 i2 l1 l2)
    (hz : IsZipHeld s.heap z TI TO T f) (hT : s.heap.get? T = some oT) (hTI : IsPair s.heap TI (.ref i1) (.ref i2))
    (h1 : s.heap.IsTupleIter i1 l1 k) (h2 : s.heap.IsTupleIter i2 l2 k) (hl1 : s.heap.IsTuple l1 xs) (hl2 : s.heap.IsTuple l2 ys) (hx : xs[k]? = some x) (hy : ys[k]? = some y)
    (hQ : ∀ h', IsZipHeld h' z TI TO T true → h'.IsTupleIter i1 l1 (k + 1) → h'.IsTupleIter i2 l2 (k + 1) → IsPair h' s.heap.objs.size x y → h'.objs.size = s.heap.objs.size + 1 →
      (∀ c o, c ≠ z → c ≠ i1 → c ≠ i2 → s.heap.get? c = some o → h'.get? c = some o) → Q (.ref s.heap.objs.size) { s with heap := h' }) :
    wpAny (model prog w) A (Builtin.«zip.__next__» ⟨[.ref z], []⟩) (fun fin s' => ∃ v, fin = .done (.ret v) ∧ Q v s') E s := by
  show wpAny _ _ (field (.ref z) 2 >>= _) _ _ _
  refine wpAny_bind (wpAny_field (x := .bool false) hz rfl rfl ?_)
  show wpAny _ _ (field (.ref z) 3 >>= _) _ _ _
  refine wpAny_bind (wpAny_field (x := .ref TI) hz rfl rfl ?_)
  refine wpAny_bind (wpAny_seqItems (s := s) hTI rfl ?_)
  show wpAny _ _ (Builtin.SmallTypes.ownedTupleIsFree (.ref z) >>= _) _ _ _
  refine wpAny_bind (wpAny_tupleHeld_zip (oT := oT) hz hT fun g1 hz1 e1 => ?_)
  simp only [Bool.false_eq_true, if_false]
  refine wpAny_bind ?_
  rw [← Array.forIn_toList]
  simp only [List.forIn_cons, List.forIn_nil]
  refine wpAny_bind (wpAny_bind (wpAny_holding ?_))
  show wpAny _ _ (Builtin.SmallTypes.nextOf (.ref i1) >>= _) _ _ _
  refine wpAny_bind (nextOf_tuple_item (s := { s with heap := g1 }) (x := x) (h1.extBut e1.extBut D.i1z) (hl1.extBut e1.extBut D.l1z) hx fun g2 n2 e2 => wpAny_pure ?_)
  refine wpAny_pure ?_
  refine wpAny_bind (wpAny_bind (wpAny_holding ?_))
  show wpAny _ _ (Builtin.SmallTypes.nextOf (.ref i2) >>= _) _ _ _
  refine wpAny_bind (nextOf_tuple_item (s := { s with heap := g2 }) (x := y) ((h2.extBut e1.extBut D.i2z).extBut e2.extBut D.i12.symm) ((hl2.extBut e1.extBut D.l2z).extBut e2.extBut D.l2i1) hy fun g3 n3 e3 => wpAny_pure ?_)
  refine wpAny_pure (wpAny_pure ?_)
  show wpAny _ _ (newTuple [x, y] >>= _) _ _ _
  refine wpAny_bind (wpAny_newTuple ?_)
  have sz : g3.objs.size = s.heap.objs.size := by rw [e3.1, e2.1, e1.1]
  have hz3 : IsZipHeld g3 z TI TO T true := e3.extBut _ _ D.i2z.symm (e2.extBut _ _ D.i1z.symm hz1)
  have kp : ∀ c o, c ≠ z → c ≠ i1 → c ≠ i2 → s.heap.get? c = some o → g3.get? c = some o := fun c o c1 c2 c3 e => e3.extBut _ _ c3 (e2.extBut _ _ c2 (e1.extBut _ _ c1 e))
  have n4 : g3.IsTupleIter i1 l1 (k + 1) := n2.extBut e3.extBut D.i12
  refine wpAny_pure ⟨_, rfl, ?_⟩
  show Q (.ref g3.objs.size) _
  have hp : IsPair (g3.push { cls := .type "tuple", data := .seq #[x, y] }) g3.objs.size x y := Heap.get?_push_size _ rfl
  have s4 : (g3.push { cls := .type "tuple", data := .seq #[x, y] }).objs.size = g3.objs.size + 1 := Heap.size_push ..
  rw [sz] at hp s4 ⊢
  exact hQ _ (Heap.get?_push_of_some _ hz3) (n4.at fun o e => Heap.get?_push_of_some _ e) (n3.at fun o e => Heap.get?_push_of_some _ e) hp s4 fun c o c1 c2 c3 e => Heap.get?_push_of_some _ (kp c o c1 c2 c3 e)
theorem zheld_end {T : Addr} {f : Bool} {oT : Obj} {Q : Fin → Shared → Prop} (hh : A.handled = none) (D : ZipApart z TI TO i1 i2 l1 l2)
    (hz : IsZipHeld s.heap z TI TO T f) (hT : s.heap.get? T = some oT) (hTI : IsPair s.heap TI (.ref i1) (.ref i2))
    (h1 : s.heap.IsTupleIter i1 l1 k) (h2 : s.heap.IsTupleIter i2 l2 k) (hl1 : s.heap.IsTuple l1 xs) (hl2 : s.heap.IsTuple l2 ys) (hend : xs[k]? = none ∨ ys[k]? = none)
    (hE : ∀ h' e, (∀ c o, c ≠ z → c ≠ i1 → c ≠ i2 → s.heap.get? c = some o → h'.get? c = some o) → (∃ o, h'.get? e = some o ∧ o.cls = .type "StopIteration") → E (.ref e) { s with heap := h' }) :
    wpAny (model prog w) A (Builtin.«zip.__next__» ⟨[.ref z], []⟩) Q E s := by
  show wpAny _ _ (field (.ref z) 2 >>= _) _ _ _
  refine wpAny_bind (wpAny_field (x := .bool false) hz rfl rfl ?_)
  show wpAny _ _ (field (.ref z) 3 >>= _) _ _ _
  refine wpAny_bind (wpAny_field (x := .ref TI) hz rfl rfl ?_)
  refine wpAny_bind (wpAny_seqItems (s := s) hTI rfl ?_)
  show wpAny _ _ (Builtin.SmallTypes.ownedTupleIsFree (.ref z) >>= _) _ _ _
  refine wpAny_bind (wpAny_tupleHeld_zip (oT := oT) hz hT fun g1 hz1 e1 => ?_)
  simp only [Bool.false_eq_true, if_false]
  refine wpAny_bind ?_
  rw [← Array.forIn_toList]
  simp only [List.forIn_cons, List.forIn_nil]
  refine wpAny_bind (wpAny_bind (wpAny_holding ?_))
  show wpAny _ _ (Builtin.SmallTypes.nextOf (.ref i1) >>= _) _ _ _
  cases hx : xs[k]? with
  | none =>
    refine wpAny_bind (nextOf_tuple_end (s := { s with heap := g1 }) hh (h1.extBut e1.extBut D.i1z) (hl1.extBut e1.extBut D.l1z) hx fun g2 e e2 he => ?_)
    exact hE g2 e (fun c o c1 c2 _ x => e2 _ _ c2 (e1.extBut _ _ c1 x)) he
  | some x =>
    have hy : ys[k]? = none := by rcases hend with q | q; rw [hx] at q; cases q; exact q
    refine wpAny_bind (nextOf_tuple_item (s := { s with heap := g1 }) (x := x) (h1.extBut e1.extBut D.i1z) (hl1.extBut e1.extBut D.l1z) hx fun g2 n2 e2 => wpAny_pure ?_)
    refine wpAny_pure ?_
    refine wpAny_bind (wpAny_bind (wpAny_holding ?_))
    show wpAny _ _ (Builtin.SmallTypes.nextOf (.ref i2) >>= _) _ _ _
    refine wpAny_bind (nextOf_tuple_end (s := { s with heap := g2 }) hh ((h2.extBut e1.extBut D.i2z).extBut e2.extBut D.i12.symm) ((hl2.extBut e1.extBut D.l2z).extBut e2.extBut D.l2i1) hy fun g3 e e3 he => ?_)
    exact hE g3 e (fun c o c1 c2 c3 x => e3 _ _ c3 (e2.extBut _ _ c2 (e1.extBut _ _ c1 x))) he
/-- a turn -/
theorem ZS.item {x y : Value} {Q : Option Value → Shared → Prop} (D : ZipApart z TI TO i1 i2 l1 l2) (st : ZS d z TI TO i1 i2 l1 l2 xs ys k s.heap) (hd : d < s.heap.objs.size) (hx : xs[k]? = some x) (hy : ys[k]? = some y)
    (hQ : ∀ h', ZS d z TI TO i1 i2 l1 l2 xs ys (k + 1) h' → IsPair h' s.heap.objs.size x y → (∀ c o, c ∉ [z, TO, i1, i2] → s.heap.get? c = some o → h'.get? c = some o) → Q (some (.ref s.heap.objs.size)) { s with heap := h' }) :
    wpAny (model prog w) A (pyNext (.ref z)) Q E s := by
  have ne : ∀ {c o}, s.heap.get? c = some o → s.heap.objs.size ≠ c := fun e => Nat.ne_of_gt (Heap.lt_size e)
  have m1 : s.heap.objs.size ≠ i1 := let ⟨_, e, _⟩ := st.n1; ne e
  have m2 : s.heap.objs.size ≠ i2 := let ⟨_, e, _⟩ := st.n2; ne e
  rcases st.out with ⟨hz, a, b, hTO⟩ | ⟨T, f, oT, hz, hT, q1, q2, q3, q4⟩
  · refine pyNext_zipT_item D hz st.ti hTO st.n1 st.n2 st.t1 st.t2 hx hy fun g a1 a2 a3 a4 a5 a6 kp => hQ g ⟨kp _ _ D.TIz D.TITO D.TIi1 D.TIi2 st.ti, a3, a4, ?_, ?_, .inr ⟨_, false, _, a1, a5, ne hz, m1, m2, Nat.ne_of_gt hd⟩⟩ a5 fun c o hc e => ?_
    · exact st.t1.at fun o e => kp _ o D.l1z D.l1TO D.l1i1 D.l1i2 e
    · exact st.t2.at fun o e => kp _ o D.l2z D.l2TO D.l2i1 D.l2i2 e
    · exact kp c o (fun q => hc (by simp [q])) (fun q => hc (by simp [q])) (fun q => hc (by simp [q])) (fun q => hc (by simp [q])) e
  · have hTy : s.TypeIs (.ref z) "zip" := ⟨_, hz, rfl⟩
    unfold pyNext
    refine wpAny_bind (wpAny_attempt (wpAny_callSpecial?_slot (name := "__next__") hTy F.slot_zip_next (wpAny_call_entry F.slot_zip_next hTy F.entry_zip_next (zheld_item D hz hT st.ti st.n1 st.n2 st.t1 st.t2 hx hy fun g a1 a3 a4 a5 a6 kp => wpAny_pure (hQ g ⟨kp _ _ D.TIz D.TIi1 D.TIi2 st.ti, a3, a4, ?_, ?_, .inr ⟨T, true, oT, a1, kp _ _ q1 q2 q3 hT, q1, q2, q3, q4⟩⟩ a5 fun c o hc e => ?_)) (F.args_zip_next_1 _))))
    · exact st.t1.at fun o e => kp _ o D.l1z D.l1i1 D.l1i2 e
    · exact st.t2.at fun o e => kp _ o D.l2z D.l2i1 D.l2i2 e
    · exact kp c o (fun q => hc (by simp [q])) (fun q => hc (by simp [q])) (fun q => hc (by simp [q])) e
theorem ZS.done {Q : Option Value → Shared → Prop} (hh : A.handled = none) (D : ZipApart z TI TO i1 i2 l1 l2) (st : ZS d z TI TO i1 i2 l1 l2 xs ys k s.heap) (hend : xs[k]? = none ∨ ys[k]? = none)
    (hQ : ∀ h', (∀ c o, c ∉ [z, TO, i1, i2] → s.heap.get? c = some o → h'.get? c = some o) → Q none { s with heap := h' }) : wpAny (model prog w) A (pyNext (.ref z)) Q E s := by
  rcases st.out with ⟨hz, a, b, hTO⟩ | ⟨T, f, oT, hz, hT, q1, q2, q3, q4⟩
  · exact pyNext_zipT_end hh D hz st.ti hTO st.n1 st.n2 st.t1 st.t2 hend fun g kp => hQ g fun c o hc e => kp c o (fun q => hc (by simp [q])) (fun q => hc (by simp [q])) (fun q => hc (by simp [q])) (fun q => hc (by simp [q])) e
  · have hTy : s.TypeIs (.ref z) "zip" := ⟨_, hz, rfl⟩
    unfold pyNext
    refine wpAny_bind (wpAny_attempt (wpAny_callSpecial?_slot (name := "__next__") hTy F.slot_zip_next (wpAny_call_entry F.slot_zip_next hTy F.entry_zip_next (zheld_end hh D hz hT st.ti st.n1 st.n2 st.t1 st.t2 hend fun g e kp he => ?_) (F.args_zip_next_1 _))))
    obtain ⟨o, ho, hc⟩ := he
    refine wpAny_bind (wpAny_isInstance (T := "StopIteration") (b := true) ⟨o, ho, hc⟩ isSubtype_stop ?_)
    exact wpAny_pure (hQ _ fun c o hc e => kp c o (fun q => hc (by simp [q])) (fun q => hc (by simp [q])) (fun q => hc (by simp [q])) e)
theorem ends_min (xs ys : Array Value) : xs[min xs.size ys.size]? = none ∨ ys[min xs.size ys.size]? = none := by
  rcases Nat.le_total xs.size ys.size with q | q
  · exact .inl (by rw [Nat.min_eq_left q]; simp)
  · exact .inr (by rw [Nat.min_eq_right q]; simp)
end
/-- the pairs laid so far, as items of a list -/
def PrAt (h : Heap) (xs ys : Array Value) (lo : Nat) (acc : Array Value) (i : Nat) : Prop := acc.size = i ∧ ∀ j, j < i → ∃ T x y, acc[j]? = some (.ref T) ∧ xs[j]? = some x ∧ ys[j]? = some y ∧ IsPair h T x y ∧ lo ≤ T
/-- one behind the other -/
def Asc (acc : Array Value) : Prop := ∀ (a b : Nat) (Ta Tb : Addr), a < b → acc[a]? = some (.ref Ta) → acc[b]? = some (.ref Tb) → Ta < Tb
theorem Asc.push {acc : Array Value} {T : Addr} (h : Asc acc) (k : ∀ (a : Nat) (Ta : Addr), acc[a]? = some (.ref Ta) → Ta < T) : Asc (acc.push (.ref T)) := fun a b Ta Tb lt ea eb => by
  rw [Array.getElem?_push] at ea eb
  split at eb
  · cases eb
    rw [if_neg (by omega)] at ea
    exact k a Ta ea
  · split at ea
    · rename_i e1
      have : b < acc.size := (Array.getElem?_eq_some_iff.mp eb).1
      omega
    · exact h a b Ta Tb lt ea eb
theorem PrAt.keep {h h' : Heap} {xs ys acc : Array Value} {lo i : Nat} (p : PrAt h xs ys lo acc i) (kp : ∀ b o, lo ≤ b → h.get? b = some o → h'.get? b = some o) : PrAt h' xs ys lo acc i :=
  ⟨p.1, fun j hj => let ⟨T, x, y, a1, a2, a3, a4, a5⟩ := p.2 j hj; ⟨T, x, y, a1, a2, a3, kp _ _ a5 a4, a5⟩⟩
theorem PrAt.push {h : Heap} {xs ys acc : Array Value} {lo i : Nat} {T : Addr} {x y : Value} (p : PrAt h xs ys lo acc i) (hx : xs[i]? = some x) (hy : ys[i]? = some y) (hp : IsPair h T x y) (le : lo ≤ T) : PrAt h xs ys lo (acc.push (.ref T)) (i + 1) := by
  refine ⟨by rw [Array.size_push, p.1], fun j hj => ?_⟩
  by_cases e : j = i
  · subst e
    exact ⟨T, x, y, by rw [Array.getElem?_push, if_pos p.1.symm], hx, hy, hp, le⟩
  · obtain ⟨T', x', y', a1, a2, a3, a4, a5⟩ := p.2 j (by omega)
    exact ⟨T', x', y', by rw [Array.getElem?_push, if_neg (by rw [p.1]; exact e)]; exact a1, a2, a3, a4, a5⟩
section
variable {prog : Program} {w : World} {A : Around} {E : Value → Shared → Prop} {s : Shared} {S z TI TO i1 i2 l1 l2 : Addr} {xs ys : Array Value} {k : Nat} {h h' : Heap}
theorem ext_loopZ {R : Result → Shared → Prop} {lo : Nat} {res : Value} (hh : A.handled = none) (D : ZipApart z TI TO i1 i2 l1 l2) (hn : min xs.size ys.size ≤ sizeLine) (hS : S ∉ [z, TI, TO, i1, i2, l1, l2]) (hlo : ∀ c ∈ [S, z, TO, i1, i2], c < lo) :
    ∀ (m i : Nat) (s : Shared) (acc : Array Value) (c : Nat), min xs.size ys.size - i = m → i ≤ min xs.size ys.size → ZS S z TI TO i1 i2 l1 l2 xs ys i s.heap → s.heap.get? S = some (lstObj acc c) → lo ≤ s.heap.objs.size → PrAt s.heap xs ys lo acc i → Asc acc →
    (∀ h' acc' c', h'.get? S = some (lstObj acc' c') → PrAt h' xs ys lo acc' (min xs.size ys.size) → Asc acc' → (∀ b o, b ∉ [S, z, TO, i1, i2] → s.heap.get? b = some o → h'.get? b = some o) → R (.ok (.ret res)) { s with heap := h' }) →
    codeAny (model prog w) A (.builtin "list.extend.loop" ⟨[.ref S, .ref z, res], []⟩) R s := by
  have hSw : S ∉ [z, TO, i1, i2] := sub47 hS
  intro m
  induction m with
  | zero =>
    intro i s acc c hm hi st hL _ hp ha hR
    obtain rfl : i = min xs.size ys.size := by omega
    refine codeAny_builtin F.entry_extend_loop ?_
    rw [Around.under_plainId F.plain_extend_loop _]
    show wpAny _ A.in1 (pyNext (.ref z) >>= _) _ _ s
    refine wpAny_bind (st.done hh D (ends_min xs ys) fun g kp => ?_)
    exact wpAny_pure (hR g acc c (kp S _ hSw hL) (hp.keep fun b o le e => kp b o (fun q => absurd (hlo b (List.mem_cons_of_mem _ q)) (Nat.not_lt.mpr le)) e) ha fun b o hb e => kp b o (fun q => hb (List.mem_cons_of_mem _ q)) e)
  | succ m ih =>
    intro i s acc c hm hi st hL hsz hp ha hR
    have hSl : S < s.heap.objs.size := Heap.lt_size hL
    have ix : i < xs.size := by omega
    have iy : i < ys.size := by omega
    have ex := Array.getElem?_eq_getElem ix
    have ey := Array.getElem?_eq_getElem iy
    refine codeAny_builtin F.entry_extend_loop ?_
    rw [Around.under_plainId F.plain_extend_loop _]
    show wpAny _ A.in1 (pyNext (.ref z) >>= _) _ _ s
    refine wpAny_bind (st.item D hSl ex ey fun g st' hpr kp => ?_)
    have hLg := kp S _ hSw hL
    show wpAny _ A.in1 (updateSeq S (·.push (.ref s.heap.objs.size)) >>= _) _ _ _
    refine wpAny_bind ?_
    have up : ∀ b o, b ≠ S → g.get? b = some o → (g.update S (Obj.mapSeq (·.push (Value.ref s.heap.objs.size)))).get? b = some o := fun b o hb e => (Heap.get?_update_other _ _ (Ne.symm hb)).trans e
    refine wpAny_updateSeq (s := { s with heap := g }) hLg rfl (wpAny_pure ⟨plainId_quiet F.plain_extend_loop _, ih (i + 1) _ (acc.push (.ref s.heap.objs.size)) _ (by omega) (by omega) (st'.frame hS up) (Heap.get?_update_self _ hLg rfl) ?_ ?_ ?_ fun g2 acc' c' q1 q2 q2a q3 => ?_⟩)
      (by rw [hp.1]; omega) (by show (acc.push _).size ≤ sizeLine + 1; rw [Array.size_push, hp.1]; omega)
    · have := Heap.lt_size (up _ _ (Nat.ne_of_gt hSl) hpr)
      exact Nat.le_of_lt (Nat.lt_of_le_of_lt hsz this)
    · exact (((hp.keep fun b o le e => kp b o (fun q => absurd (hlo b (List.mem_cons_of_mem _ q)) (Nat.not_lt.mpr le)) e).push ex ey hpr hsz).keep fun b o le e => up b o (fun q => absurd (hlo S List.mem_cons_self) (Nat.not_lt.mpr (q ▸ le))) e)
    · refine ha.push fun a Ta ea => ?_
      have ha2 : a < i := by have := (Array.getElem?_eq_some_iff.mp ea).1; rw [hp.1] at this; exact this
      obtain ⟨T, x, y, a1, _, _, a4, _⟩ := hp.2 a ha2
      rw [a1] at ea
      cases ea
      exact Heap.lt_size a4
    · exact hR g2 acc' c' q1 q2 q2a fun b o hb e => q3 b o hb (up b o (fun q => hb (by simp [q])) (kp b o (fun q => hb (List.mem_cons_of_mem _ q)) e))
/-- list(z), z a zip of two tuples -/
theorem call_listZ {Q : Value → Shared → Prop} (hh : A.handled = none) (D : ZipApart z TI TO i1 i2 l1 l2) (hn : min xs.size ys.size ≤ sizeLine) (hz : IsZip s.heap z TI TO .none) (hTI : IsPair s.heap TI (.ref i1) (.ref i2)) (hTO : ∃ a b, IsPair s.heap TO a b) (n1 : s.heap.IsTupleIter i1 l1 0) (n2 : s.heap.IsTupleIter i2 l2 0) (t1 : s.heap.IsTuple l1 xs) (t2 : s.heap.IsTuple l2 ys)
    (hQ : ∀ h' acc c, h'.get? s.heap.objs.size = some (lstObj acc c) → PrAt h' xs ys (s.heap.objs.size + 1) acc (min xs.size ys.size) → Asc acc → (∀ b o, b ∉ [z, TO, i1, i2] → s.heap.get? b = some o → h'.get? b = some o) → Q (.ref s.heap.objs.size) { s with heap := h' }) :
    wpAny (model prog w) A (call (.type "list") [.ref z]) Q E s := by
  obtain ⟨ta, tb, hTO⟩ := hTO
  have lt : ∀ {c o}, s.heap.get? c = some o → c < s.heap.objs.size := fun e => Heap.lt_size e
  have b1 := lt hz
  have b2 := lt hTI
  have b3 := lt hTO
  have b4 : i1 < s.heap.objs.size := let ⟨_, e, _⟩ := n1; lt e
  have b5 : i2 < s.heap.objs.size := let ⟨_, e, _⟩ := n2; lt e
  have b6 : l1 < s.heap.objs.size := let ⟨_, e, _⟩ := t1; lt e
  have b7 : l2 < s.heap.objs.size := let ⟨_, e, _⟩ := t2; lt e
  have hS : s.heap.objs.size ∉ [z, TI, TO, i1, i2, l1, l2] := by
    simp only [List.mem_cons, List.not_mem_nil, or_false, not_or]
    exact ⟨Nat.ne_of_gt b1, Nat.ne_of_gt b2, Nat.ne_of_gt b3, Nat.ne_of_gt b4, Nat.ne_of_gt b5, Nat.ne_of_gt b6, Nat.ne_of_gt b7⟩
  refine callType_codes (Q₁ := fun obj s' => obj = .ref s.heap.objs.size ∧ s' = { s with heap := s.heap.push { cls := .type "list", data := .seq #[] } }) F.called_list (F.typeCall_list_1 _) F.entry_list_init (code_list_new _ ⟨rfl, rfl⟩) fun obj s' hs' => ?_
  obtain ⟨rfl, rfl⟩ := hs'
  have g0 : (s.heap.push { cls := .type "list", data := .seq #[] }).get? s.heap.objs.size = some { cls := .type "list", data := .seq #[] } := Heap.get?_push_size _ rfl
  refine ⟨⟨_, g0, rfl⟩, F.args_list_init_2 _ _, ?_⟩
  show wpAny _ A.in1.in1 (Builtin.List.listItems (.ref s.heap.objs.size) >>= fun old => Builtin.List.listUpdate (.ref s.heap.objs.size) (fun _ => #[]) >>= fun _ => letGo old.toList.reverse >>= fun _ => Builtin.List.listExtendWith (.ref s.heap.objs.size) (.ref z) .none) _ _ _
  refine wpAny_bind ?_
  unfold Builtin.List.listItems
  refine wpAny_bind (wpAny_seqItems (s := { s with heap := s.heap.push _ }) g0 rfl (wpAny_pure ?_))
  show wpAny _ A.in1.in1 (updateSeq s.heap.objs.size (fun _ => #[]) >>= fun _ => letGo (#[] : Array Value).toList.reverse >>= fun _ => Builtin.List.listExtendWith (.ref s.heap.objs.size) (.ref z) .none) _ _ _
  refine wpAny_bind (wpAny_updateSeq (s := { s with heap := s.heap.push _ }) g0 rfl ?_)
  have g1 := Heap.get?_update_self (Obj.mapSeq (fun _ => (#[] : Array Value))) g0 rfl
  refine wpAny_bind (wpAny_letGo ?_)
  unfold Builtin.List.listExtendWith
  have up : ∀ (h : Heap) (f : Obj → Obj), (∀ b o, s.heap.get? b = some o → h.get? b = some o) → ∀ b o, s.heap.get? b = some o → (h.update s.heap.objs.size f).get? b = some o := fun h f q b o e =>
    (Heap.get?_update_other _ _ (Ne.symm (Nat.ne_of_lt (lt e)))).trans (q b o e)
  have k1 := up _ (Obj.mapSeq (fun _ => (#[] : Array Value))) fun b o e => Heap.get?_push_of_some { cls := .type "list", data := .seq #[] } e
  have ty : ∀ {h : Heap} {t : Nat}, (∀ b o, s.heap.get? b = some o → h.get? b = some o) → ({ s with heap := h, toks := t } : Shared).TypeIs (.ref z) "zip" := fun {h t} q => ⟨_, q _ _ hz, rfl⟩
  refine wpAny_bind (wpAny_typeOf (ty k1) ?_)
  have c1 : Builtin.List.listSameRef (.ref s.heap.objs.size) (.ref z) = false := by simp [Builtin.List.listSameRef]; exact Nat.ne_of_gt b1
  have c2 : (Value.type "zip" == Value.type "list") = false := by decide
  have c3 : (Value.type "zip" == Value.type "tuple") = false := by decide
  simp only [c1, c2, c3, Bool.or_false, Bool.false_eq_true, if_false]
  refine wpAny_bind (wpAny_pyIter_zip (k1 _ _ hz) ?_)
  refine wpAny_bind (wpAny_holding ?_)
  unfold Builtin.List.listLengthHint
  refine wpAny_bind (wpAny_specialOf (ty k1) nolen_zip ?_)
  show wpAny _ A.in1.in1 (specialOf (Value.ref z) (Str.ofString "__length_hint__") >>= _) _ _ _
  refine wpAny_bind (wpAny_specialOf (ty k1) nohint_zip ?_)
  refine wpAny_pure ?_
  show wpAny _ A.in1.in1 (rule "list.extend.makes-room" >>= fun _ => Builtin.List.listTouch (.ref s.heap.objs.size) >>= fun _ => again (.builtin "list.extend.loop" ⟨[.ref s.heap.objs.size, .ref z, .none], []⟩)) _ _ _
  refine wpAny_bind (wpAny_rule ?_)
  refine wpAny_bind ?_
  show wpAny _ A.in1.in1 (updateSeq s.heap.objs.size (·.push .none) >>= fun _ => updateSeq s.heap.objs.size (·.pop)) _ _ _
  refine wpAny_bind (wpAny_updateSeq (s := { s with heap := _ }) g1 rfl ?_)
  have g2 := Heap.get?_update_self (Obj.mapSeq (·.push Value.none)) g1 rfl
  refine wpAny_updateSeq (hz := by seq_fits) (s := { s with heap := _ }) g2 rfl ?_
  have g3 := Heap.get?_update_self (Obj.mapSeq (·.pop)) g2 rfl
  have k3 := up _ (Obj.mapSeq (·.pop)) (up _ (Obj.mapSeq (·.push Value.none)) k1)
  refine wpAny_pure ⟨plainId_quiet F.plain_extend_loop _, ext_loopZ (lo := s.heap.objs.size + 1) (A := A.in1) (S := s.heap.objs.size) hh D hn hS (fun c m => ?_) _ 0 _ _ _ rfl (Nat.zero_le _) ?_ g3 (Heap.lt_size g3) ⟨rfl, fun j hj => absurd hj (Nat.not_lt_zero _)⟩ (fun a b Ta Tb _ ea _ => by simp at ea) fun h' acc c q1 q2 q2a q3 => ⟨rfl, hQ h' acc c q1 q2 q2a fun b o hb e => q3 b o (fun m => ?_) (k3 b o e)⟩⟩
  · simp only [List.mem_cons, List.not_mem_nil, or_false] at m
    rcases m with rfl | rfl | rfl | rfl | rfl
    · exact Nat.lt_succ_self _
    · exact Nat.lt_succ_of_lt b1
    · exact Nat.lt_succ_of_lt b3
    · exact Nat.lt_succ_of_lt b4
    · exact Nat.lt_succ_of_lt b5
  · exact ⟨k3 _ _ hTI, n1.at fun o e => k3 _ o e, n2.at fun o e => k3 _ o e, t1.at fun o e => k3 _ o e, t2.at fun o e => k3 _ o e, .inl ⟨k3 _ _ hz, ta, tb, k3 _ _ hTO⟩⟩
  · rcases List.mem_cons.mp m with q | q
    · exact Nat.ne_of_lt (lt e) q
    · exact hb q
end
/-! ### as expressions -/
section
variable {X : Cx} {e e2 : Expr} {ta : TA} {p p2 p3 q q3 pos : Pos}
theorem zip_look {α β : Type} {xs : List α} {ys : List β} {j : Nat} {x : α} {y : β} (h1 : xs[j]? = some x) (h2 : ys[j]? = some y) : (xs.zip ys)[j]? = some (x, y) := by
  rw [List.getElem?_zip_eq_some]; exact ⟨h1, h2⟩
/-- zip(e, e2) of two tuples, as it stands -/
theorem zip_eval {pins : List (Addr × Obj)} {s : Shared} {σ : St} {H : Hp} {R : Hp → List V → List V → Prop} (hg : Gl X "zip") (hm : X.mg "zip" = none) (ha : PA X [e, e2] ta) (I : Inv X pins σ H s) (h : ta σ H fun vs H1 => ∃ a b xs ys, vs = [.ref a, .ref b] ∧ SqT X.K H1 a xs ∧ SqT X.K H1 b ys ∧ R H1 xs ys)
    (hs : starEach [e, e2] X.env = (false, eval e X.env) :: starEach [e2] X.env := by rfl) (hpl : (backTo pos (starEach [e2] X.env)).any (·.1) = false := by rfl) :
    wpAny (model X.prog X.w) X.A (eval (.Call (.Name "zip" p) [e, e2] [] pos) X.env) (fun u s2 => ∃ (s1 : Shared) (H1 : Hp) (xs ys : List V) (us vs : List Value) (a b : Addr) (h' : Heap), Inv X pins σ H1 s1 ∧ R H1 xs ys ∧ Vals xs us ∧ Vals ys vs ∧ xs.length ≤ sizeLine ∧ s2 = { s1 with heap := h' } ∧
      u = .ref (s1.heap.objs.size + 4) ∧ ZipApart (s1.heap.objs.size + 4) (s1.heap.objs.size + 2) (s1.heap.objs.size + 3) s1.heap.objs.size (s1.heap.objs.size + 1) a b ∧
      IsZip h' (s1.heap.objs.size + 4) (s1.heap.objs.size + 2) (s1.heap.objs.size + 3) .none ∧ IsPair h' (s1.heap.objs.size + 2) (.ref s1.heap.objs.size) (.ref (s1.heap.objs.size + 1)) ∧ IsPair h' (s1.heap.objs.size + 3) .none .none ∧
      h'.IsTupleIter s1.heap.objs.size a 0 ∧ h'.IsTupleIter (s1.heap.objs.size + 1) b 0 ∧ h'.IsTuple a us.toArray ∧ h'.IsTuple b vs.toArray ∧ h'.objs.size = s1.heap.objs.size + 5 ∧ ∀ c o, s1.heap.get? c = some o → h'.get? c = some o) X.xe s := by
  refine Call_ (ld_blt I hg hm PyProof.Rows.boot_zip (PyProof.Rows.callWith_type1 (thn (ha.run pos pins s σ H _ I h) fun us s1 ⟨vs, H1, I1, r1, q1⟩ => ?_) hs hpl))
  obtain ⟨a, b, xs, ys, ex, qx, qy, q⟩ := q1
  subst ex
  cases r1 with
  | cons r rr =>
    cases rr with
    | cons r' rr =>
      cases rr
      cases r
      cases r'
      obtain ⟨us, rv, p1, z1⟩ := I1.tuple qx
      obtain ⟨ws, rw', p2, z2⟩ := I1.tuple qy
      have la : a < s1.heap.objs.size := p1.lt
      have lb : b < s1.heap.objs.size := p2.lt
      refine call_zipT p1 p2 fun h' hz hTI hTO h1 h2 hsz hk => ⟨s1, H1, xs, ys, us, ws, a, b, h', I1, q, rv, rw', z1, rfl, rfl, ?_, hz, hTI, hTO, h1, h2, Heap.IsTuple.at p1 fun o e => hk _ o e, Heap.IsTuple.at p2 fun o e => hk _ o e, hsz, hk⟩
      exact apart_new la lb
theorem zip_min {α : Type} (us vs : List α) : min us.toArray.size vs.toArray.size = min us.length vs.length := by simp
end
end DL
set_option Elab.async false
set_option linter.all false
set_option maxRecDepth 100000
set_option maxHeartbeats 4000000
/-! THE DATA LAYER, part 39: tuple * int, sign.join(texts). -/
namespace DL
open PySem PySem.Spec L2
open PyProof.Rows hiding St
theorem tuple_mul1x (l : Addr) (items : Array Value) (n : Nat) (sl : Array (Option Value)) (u : Tok) :
    Meets (Builtin.«tuple.__mul__» ⟨[.ref l, .int 1 u], []⟩) (fun _ R s => s.heap.get? l = some { cls := .type "tuple", data := .seq items n, slots := sl } ∧ R (.ok (.ret (Value.ref l))) s) :=
  .of_wp fun prog w A R s h => by
    obtain ⟨hp, g, d, tk, os⟩ := s
    obtain ⟨hl, h⟩ := h
    have f1 := AutoSeq1.idx_int
    wp_walk using wpAny_loadPart' hl
    repeat (first
      | (refine wpAny_ite_false (by decide) ?_; wp_walk using wpAny_loadPart' hl)
      | (refine wpAny_ite_true (by simp) ?_; wp_walk using wpAny_loadPart' hl))
    all_goals first | exact ⟨_, rfl, h⟩ | skip
section
variable [Tbs] [Bas] {X : Cx}
def gMulT : G2 := fun x y Q => match x, y with
  | .pure (.tuple ts), .pure (.int k) => 1 ≤ k ∧ k ≤ 1000 ∧ 1 ≤ ts.length ∧ ts.length ≤ 1000 ∧ Q (.pure (.tuple (repL k ts)))
  | _, _ => False
theorem repL_one {ts : List T} : repL 1 ts = ts := by simp [repL]
theorem opA_mulT : OpA X (binaryOp .Mult) gMulT := OpA.mk fun pins s σ H F v u x y a b Q Qa I rx ry hx hy h fin => by
  unfold gMulT at h
  split at h
  · rename_i ts k
    obtain ⟨k1, k2, n1, n2, h⟩ := h
    obtain ⟨l, xs, rfl, sq, rp⟩ := RP.tupP hx
    have e2 := RP.intE hy; subst e2
    obtain ⟨t, rfl⟩ := ry
    cases rx
    obtain ⟨o0, ho0, oc, od⟩ := sq
    obtain ⟨ho, hz, its, rv, o', ho', hc', n, hdat⟩ := (show ObjOk X.prog X.w H s.heap l (.frz o0 (.tup xs)) from I.hok l _ ho0)
    rw [ho] at ho'
    cases ho'
    obtain ⟨cls, dd, data, sl⟩ := o0
    simp only at oc od hdat
    subst oc od hdat
    have ll := Paired.len rp
    have hle : its.length = xs.length := rv.length.symm
    have hi : its.toArray.isEmpty = false := by
      cases its with
      | nil => rw [List.length_nil] at hle; omega
      | cons a b => rfl
    have hsz0 : its.toArray.size = xs.length := by rw [List.size_toArray, hle]
    by_cases hk : k = 1
    · subst hk
      rw [repL_one] at h
      refine wpAny_binaryOp_repeat_ref (T := "tuple") (U := "int") (by decide) ⟨_, ho, rfl⟩ (fun s' => typeIs_int s' 1 t) noFill_tuple_mul PySem.F.fills_int_mul PySem.F.slot_int_rmul repeat_tuple PySem.F.slot_int_index.lookup
        (call_meets PySem.F.slot_int_rmul (typeIs_int s 1 t) PySem.F.entry_int_rmul (PySem.F.args_int_rmul_2 _ _) (int_rmul_tuple 1 t l its.toArray n none sl)
          ⟨ho, rfl, ⟨_, ho, rfl⟩, call_meets PySem.F.slot_tuple_mul ⟨_, ho, rfl⟩ PySem.F.entry_tuple_mul (PySem.F.args_tuple_mul_2 _ _) (tuple_mul1x l its.toArray n sl t) ⟨ho, ?_⟩⟩)
      exact ⟨.ref l, H, I, rfl, fin.pure hx h⟩
    · have hm : ((its.toArray.size : Nat) : Int) * k ≤ 1000000 := by
        rw [hsz0]
        have a1 : ((xs.length : Nat) : Int) * k ≤ 1000 * k := Int.mul_le_mul_of_nonneg_right (by omega) (by omega)
        omega
      have a2 : k.toNat * xs.length ≤ 1000 * 1000 := Nat.mul_le_mul (by omega) (by omega)
      have fl : (List.replicate k.toNat its).flatten.length ≤ sizeLine := by
        rw [PyProof.Rows.lm_len_rep_flat, hle, sizeLine_eq]; omega
      have c0 : (decide (k < -(2 ^ 63)) || decide (k ≥ 2 ^ 63)) = false := by
        rw [decide_eq_false (by omega), decide_eq_false (by omega)] <;> rfl
      have c1 : (its.toArray.isEmpty || k == 1) = false := by
        rw [hi, Bool.false_or]
        exact beq_eq_false_iff_ne.mpr hk
      have c2 : (decide (k ≤ 0) || its.toArray.isEmpty) = false := by
        rw [hi, Bool.or_false]
        exact decide_eq_false (by omega)
      have c4 : Builtin.Tuple.tupleTooMany (((its.toArray.size : Nat) : Int) * k) = false := by
        unfold Builtin.Tuple.tupleTooMany
        rw [sizeLine_eq]
        exact decide_eq_false (by omega)
      refine wpAny_binaryOp_repeat_ref (T := "tuple") (U := "int") (by decide) ⟨_, ho, rfl⟩ (fun s' => typeIs_int s' k t) noFill_tuple_mul PySem.F.fills_int_mul PySem.F.slot_int_rmul repeat_tuple PySem.F.slot_int_index.lookup
        (call_meets PySem.F.slot_int_rmul (typeIs_int s k t) PySem.F.entry_int_rmul (PySem.F.args_int_rmul_2 _ _) (int_rmul_tuple k t l its.toArray n none sl)
          ⟨ho, rfl, ⟨_, ho, rfl⟩, call_meets PySem.F.slot_tuple_mul ⟨_, ho, rfl⟩ PySem.F.entry_tuple_mul (PySem.F.args_tuple_mul_2 _ _) (tuple_mulW l its.toArray n none sl k t c0 c1 c2 (by omega) c4 (by rw [size_rep, List.size_toArray]; exact fl)) ⟨ho, ?_⟩⟩)
      rw [size_rep]
      refine ⟨.ref s.heap.objs.size, _, laidT (tk := s.toks) I (rv.rep k.toNat) (by rw [PyProof.Rows.lm_len_rep_flat, sizeLine_eq]; omega) (fun b ob q => Heap.get?_push_of_some _ q) (Heap.get?_push_size _ rfl) (Nat.le_refl _), rfl, fin.tup (I.hok.fresh (Nat.le_refl _)) (Paired.rep rp _) h⟩
  · exact h.elim
def gMul3 : G2 := fun x y Q => match x with
  | .pure (.tuple ts) => gMulT (.pure (.tuple ts)) y Q
  | x => gMul2 x y Q
theorem gMul3_t {ts : List T} {y : O} {Q : O → Prop} : gMul3 (.pure (.tuple ts)) y Q = gMulT (.pure (.tuple ts)) y Q := rfl
theorem gMul3_s {z : Str} {y : O} {Q : O → Prop} : gMul3 (.pure (.str z)) y Q = gMulS (.pure (.str z)) y Q := rfl
theorem gMul3_i {i : Int} {y : O} {Q : O → Prop} : gMul3 (.pure (.int i)) y Q = gMul (.pure (.int i)) y Q := rfl
theorem gMul3_l {ts : List T} {y : O} {Q : O → Prop} : gMul3 (.lst ts) y Q = gMul (.lst ts) y Q := rfl
theorem opA_mul3 : OpA X (binaryOp .Mult) gMul3 := OpA.alt (g := gMulT) (g' := gMul2) opA_mulT opA_mul2 fun x y Qa h => by
  unfold gMul3 at h
  split at h
  · exact .inl h
  · exact .inr h
/-! ### sign.join(texts) -/
def join2K (x : Str) (ρ : AEnv) (Q : Opd → AEnv → Prop) : Option O → Prop
  | some o => match seqO o with
    | some ts => match strsOf ts with
      | some ys => (ys.map (·.length)).sum + ys.length * x.length ≤ 16777216 ∧ Q (.val (.pure (.str (Txt.join x ys)))) ρ
      | none => False
    | none => False
  | none => False
def join1K (tc : XT) (ρ : AEnv) (Q : Opd → AEnv → Prop) : Option O → Prop
  | some (.pure (.str x)) => tc ρ fun q ρ2 => join2K x ρ2 Q (q.get ρ2)
  | _ => False
def tJoin (te tc : XT) : XT := fun ρ Q => te ρ fun p ρ1 => join1K tc ρ1 Q (p.get ρ1)
end
end DL
set_option Elab.async false
set_option linter.all false
set_option maxRecDepth 100000
set_option maxHeartbeats 4000000
/-! THE DATA LAYER, part 40: t.index(x), a tuple of texts. -/
namespace DL
open PySem PySem.Spec L2
open PyProof.Rows hiding St
section
variable [Tbs] [Bas] {X : Cx}
def tix2K (ts : List T) (ρ : AEnv) (Q : Opd → AEnv → Prop) : Option O → Prop
  | some (.pure (.str x)) => match strsOf ts with
    | some ys => x ∈ ys ∧ Q (.val (.pure (.int (ys.idxOf x : Nat)))) ρ
    | none => False
  | _ => False
def tix1K (tc : XT) (ρ : AEnv) (Q : Opd → AEnv → Prop) : Option O → Prop
  | some (.pure (.tuple ts)) => tc ρ fun q ρ2 => tix2K ts ρ2 Q (q.get ρ2)
  | _ => False
def tTindex (te tc : XT) : XT := fun ρ Q => te ρ fun p ρ1 => tix1K tc ρ1 Q (p.get ρ1)
end
end DL
set_option Elab.async false
set_option linter.all false
set_option maxRecDepth 100000
set_option maxHeartbeats 4000000
/-! THE DATA LAYER, part 41: text.split(mark). -/
namespace DL
open PySem PySem.Spec L2
open PyProof.Rows hiding St
section
variable [Tbs] [Bas] {X : Cx}
def spl2K (x : Str) (ρ : AEnv) (Q : Opd → AEnv → Prop) : Option O → Prop
  | some (.pure (.str y)) => y.length ≠ 0 ∧ x.length ≤ 16000000 ∧ Q (.val (.lst ((Txt.split x y).map PyData.str))) ρ
  | _ => False
def spl1K (tc : XT) (ρ : AEnv) (Q : Opd → AEnv → Prop) : Option O → Prop
  | some (.pure (.str x)) => tc ρ fun q ρ2 => spl2K x ρ2 Q (q.get ρ2)
  | _ => False
def tSplit (te tc : XT) : XT := fun ρ Q => te ρ fun p ρ1 => spl1K tc ρ1 Q (p.get ρ1)
/-! ### text or text -/
def orSK (tb : XT) (ρ : AEnv) (Q : Opd → AEnv → Prop) : Option O → Prop
  | some (.pure (.str z)) => z.length ≤ 16777216 ∧ if z.length = 0 then tb ρ Q else Q (.val (.pure (.str z))) ρ
  | _ => False
def tOrS (ta tb : XT) : XT := fun ρ Q => ta ρ fun p ρ1 => orSK tb ρ1 Q (p.get ρ1)
end
end DL
set_option Elab.async false
set_option linter.all false
set_option maxRecDepth 100000
set_option maxHeartbeats 4000000
/-! THE DATA LAYER, part 42: int(text), text.count(text), text.index(text), sign.join(text). -/
namespace DL
open PySem PySem.Spec L2
open PyProof.Rows hiding St
section
variable [Tbs] [Bas] {X : Cx}
def gIntT : GN := fun os Q => match os with
  | [.pure (.str x)] => ∃ n, PySem.intText? x = some n ∧ x.length ≤ 640 ∧ Q (.pure (.int n))
  | _ => False
/-! ### of a text and a text -/
def txt2K (ok : Str → Str → Prop) (f : Str → Str → T) (x : Str) (ρ : AEnv) (Q : Opd → AEnv → Prop) : Option O → Prop
  | some (.pure (.str y)) => ok x y ∧ Q (.val (.pure (f x y))) ρ
  | _ => False
def txt1K (ok : Str → Str → Prop) (f : Str → Str → T) (tc : XT) (ρ : AEnv) (Q : Opd → AEnv → Prop) : Option O → Prop
  | some (.pure (.str x)) => tc ρ fun q ρ2 => txt2K ok f x ρ2 Q (q.get ρ2)
  | _ => False
def tTxt2 (ok : Str → Str → Prop) (f : Str → Str → T) (te tc : XT) : XT := fun ρ Q => te ρ fun p ρ1 => txt1K ok f tc ρ1 Q (p.get ρ1)
end
/-! ### a, b = a list -/
def tgUnl (n : Nat) (h : GTs) : GT := fun t ρ Q => match t with
  | .list ts => ts.length = n ∧ h ts ρ Q
  | _ => False
section
variable [Tbs] [Bas] {X : Cx} {P : Nat → Bool} {pos : Pos} {es : List Expr} {h : GTs}
theorem gx_unl {k : Nat} {n : Nat} (hc : X.calm = true) (h1 : GXs X P es h) (hn : (assignEach es X.env).length = n := by rfl) (hst : (assignEach es X.env).findIdx? (·.1) = none := by rfl) : GX true X P (.Tuple es k pos) (tgUnl n h) := by
  refine ⟨PG.imp (pg_unl hc h1.pg hn hst) ?_⟩
  rintro v σ H Q ⟨ρ, fp, G, Qa, t, R, r | ⟨e, _⟩, h, fin⟩
  · unfold tgUnl at h
    split at h
    · obtain ⟨a, vs, rfl, hq, rr, _⟩ := r.lstE
      exact ⟨a, vs, rfl, hq, by rw [Paired.len rr, h.1], ρ, fp, G, Qa, _, R, rr, h.2, fin⟩
    · exact h.elim
  · cases e
end
end DL
set_option Elab.async false
set_option linter.all false
set_option maxRecDepth 100000
set_option maxHeartbeats 4000000
/-! THE DATA LAYER, part 43: sets of tuples of texts and ints, nested: small questions asked of keys. -/
namespace DL
open PySem PySem.Spec L2
open PyProof.Rows hiding St
end DL
set_option Elab.async false
set_option linter.all false
set_option maxRecDepth 100000
set_option maxHeartbeats 4000000
/-! THE DATA LAYER, part 44: sets of nested keys that are tuples: what stands in the table, the search. -/
namespace DL
open PySem PySem.Spec L2
open PyProof.Rows hiding St
/-- the tuple at a is the key k -/
abbrev IsN (h : Heap) (k : NestedKey) (a : Addr) : Prop := NestedIs h k (.ref a) ∧ k.depth ≤ 8
abbrev Row := Addr × NestedKey
def hRow (w : World) (p : Row) : Int × Value := (p.2.hash w, .ref p.1)
/-- the set at a, its rows L in the table's order -/
structure SetN (P : Program) (w : World) (h : Heap) (a : Addr) (L : List Row) (es : Array (Int × Value)) (ep : Nat) (t : SetTable) : Prop where
  ob : ∃ o, h.get? a = some o ∧ o.ExactSet ∧ o.data = .set es ep t
  rows : es.toList = L.map (hRow w)
  tab : TabOk t (L.map fun p => p.2.hash w)
  nd : (L.map (·.2)).Nodup
  tup : ∀ p ∈ L, IsN h p.2 p.1
  led : w.params.followText "set-order" = true ∨ t.led = true
  room : L.length * 5 < t.mask * 3
  few : L.length < 76
section
variable {P : Program} {w : World} {A : Around} {E : Value → Shared → Prop} {s : Shared} {a : Addr} {L : List Row} {es : Array (Int × Value)} {ep : Nat} {t : SetTable}
theorem SetN.size (R : SetN P w s.heap a L es ep t) : es.size = L.length := by
  rw [← Array.length_toList, R.rows, List.length_map]
theorem SetN.place (R : SetN P w s.heap a L es ep t) : t.place.toList.length = L.length := by
  have := R.tab.sz
  rw [List.length_map] at this
  rw [Array.length_toList, this]
theorem SetN.fits (R : SetN P w s.heap a L es ep t) : t.fits es.size = true := by
  have h1 := R.place
  rw [Array.length_toList] at h1
  have h2 := R.size
  have h3 := R.room
  unfold SetTable.fits SetTable.fill
  rw [R.tab.dm, Bool.and_eq_true, beq_iff_eq, decide_eq_true_eq]
  show t.place.size = es.size ∧ t.place.size + 0 ≤ t.mask
  omega
end
end DL
set_option Elab.async false
set_option linter.all false
set_option maxRecDepth 100000
set_option maxHeartbeats 4000000
/-! THE DATA LAYER, part 45: sets of nested keys: the table laid anew, adding. -/
namespace DL
open PySem PySem.Spec L2
open PyProof.Rows hiding St
end DL
set_option Elab.async false
set_option linter.all false
set_option maxRecDepth 100000
set_option maxHeartbeats 4000000
/-! THE DATA LAYER, part 46: set(x) of a list of nested keys. -/
namespace DL
open PySem PySem.Spec L2
open PyProof.Rows hiding St
section
variable {P : Program} {w : World} {A : Around} {E : Value → Shared → Prop} {s : Shared}
/-- of so few different ones -/
def Few (ls : List NestedKey) : Prop := ∃ us : List NestedKey, us.length < 75 ∧ ∀ k ∈ ls, k ∈ us
theorem SetN.at {h h' : Heap} {a : Addr} {L : List Row} {es : Array (Int × Value)} {ep : Nat} {t : SetTable} (R : SetN P w h a L es ep t) (ha : ∀ o, h.get? a = some o → h'.get? a = some o) (ht : ∀ p ∈ L, IsN h' p.2 p.1) : SetN P w h' a L es ep t := by
  obtain ⟨o, ho, hx, hd⟩ := R.ob
  exact ⟨⟨o, ha o ho, hx, hd⟩, R.rows, R.tab, R.nd, ht, R.led, R.room, R.few⟩
end
end DL
set_option Elab.async false
set_option linter.all false
set_option maxRecDepth 100000
set_option maxHeartbeats 4000000
/-! THE DATA LAYER, part 47: set(x), x a list of nested keys. -/
namespace DL
open PySem PySem.Spec L2
open PyProof.Rows hiding St
end DL
set_option Elab.async false
set_option linter.all false
set_option maxRecDepth 100000
set_option maxHeartbeats 4000000
/-! THE DATA LAYER, part 48: sorted(s), s a set of nested keys; its sort is given. -/
namespace DL
open PySem PySem.Spec L2
open PyProof.Rows hiding St
end DL
set_option Elab.async false
set_option linter.all false
set_option maxRecDepth 100000
set_option maxHeartbeats 4000000
/-! THE DATA LAYER, part 49: set(x), x a tuple of nested keys. -/
namespace DL
open PySem PySem.Spec L2
open PyProof.Rows hiding St
end DL
set_option Elab.async false
set_option linter.all false
set_option maxRecDepth 100000
set_option maxHeartbeats 4000000
/-! THE DATA LAYER, part 50: sorted(set(x)), len(set(x)), x a list or a tuple of keys that are tuples. -/
namespace DL
open PySem PySem.Spec L2
open PyProof.Rows hiding St
variable [Tbs] [Bas]
/-- a key that is a tuple -/
def TupK (k : NestedKey) : Prop := (∃ l, k = .tup l) ∧ k.depth ≤ 8
/-! ### the set, but for its members' tuples -/
def SetN0 (P : Program) (w : World) (h : Heap) (a : Addr) (L : List Row) : Prop := ∃ es ep t, (∃ o, h.get? a = some o ∧ o.ExactSet ∧ o.data = .set es ep t) ∧ es.toList = L.map (hRow w) ∧ TabOk t (L.map fun p => p.2.hash w) ∧ (L.map (·.2)).Nodup ∧
  (w.params.followText "set-order" = true ∨ t.led = true) ∧ L.length * 5 < t.mask * 3 ∧ L.length < 76
def SetNH (P : Program) (w : World) (a : Addr) (L : List Row) : HO := .ext fun h => SetN0 P w h a L
/-- the row's tuple -/
def RowT (K : PySem.W.Frag) (H : Hp) (q : Row) : Prop := RV K H (.ref q.1) q.2.data [] ∧ TupK q.2
section
variable {X : Cx}
/-- set(x) -/
def rSetN (K : PySem.W.Frag) (P : Program) (w : World) : List V → Hp → VK → Prop := fun xs H Q => ∃ (l : Addr) (vs : List V) (ls : List NestedKey), xs = [V.ref l] ∧ (SqL K H l vs ∨ SqT K H l vs) ∧ Paired (fun v k => (∃ as, RV K H v k.data as) ∧ TupK k) vs ls ∧ Few ls ∧
  ∀ p L, H p = none → (L.map (·.2)).Nodup → (∀ k, k ∈ L.map (·.2) ↔ k ∈ ls) → (∀ q ∈ L, RowT K H q) → Q (.ref p) (upd H p (SetNH P w p L))
end
end DL
set_option Elab.async false
set_option linter.all false
set_option maxRecDepth 100000
set_option maxHeartbeats 4000000
/-! THE DATA LAYER, part 51: sorted(set(x)), len(set(x)), x of texts, ints or tuples of them. -/
namespace DL
open PySem PySem.Spec L2
open PyProof.Rows hiding St
variable [Tbs] [Bas]
abbrev dT (k : NestedKey) : T := k.data
section
variable {X : Cx}
theorem RowT.pres {K : PySem.W.Frag} {H H' : Hp} {q : Row} (h : RowT K H q) (p : Pres H H') : RowT K H' q := ⟨RV.ext (p.ext (F := fun _ => False)) h.1 (fun _ m => nomatch m), h.2⟩
theorem rSetX.mono {K : PySem.W.Frag} {P : Program} {w : World} {xs : List V} {H : Hp} {Q Q' : VK} (h : rSetX K P w xs H Q) (k : ∀ v H, Q v H → Q' v H) : rSetX K P w xs H Q' := by
  obtain ⟨l, ls, e, a, b, q⟩ := h
  exact ⟨l, ls, e, a, b, fun p ks h1 h2 h3 h4 => k _ _ (q p ks h1 h2 h3 h4)⟩
theorem rSetN.mono {K : PySem.W.Frag} {P : Program} {w : World} {xs : List V} {H : Hp} {Q Q' : VK} (h : rSetN K P w xs H Q) (k : ∀ v H, Q v H → Q' v H) : rSetN K P w xs H Q' := by
  obtain ⟨l, vs, ls, e, a, b, c, q⟩ := h
  exact ⟨l, vs, ls, e, a, b, c, fun p L h1 h2 h3 h4 => k _ _ (q p L h1 h2 h3 h4)⟩
end
end DL
set_option Elab.async false
set_option linter.all false
set_option maxRecDepth 100000
set_option maxHeartbeats 4000000
/-! THE DATA LAYER, part 52: a comprehension over an owned list that stays owned: [.. for x in xs], xs a name that the turns do not look at. -/
namespace DL
open PySem PySem.Spec L2
open PyProof.Rows hiding St
variable [Tbs] [Bas] {wk : Bool}
/-- slot j's list, hidden from the turns -/
def tCompL (j : Nat) (g : GT) (tt : BT) (te : XT) (vs : List Nat) : XT := fun ρ Q => lstAt ρ j fun ts => ts.length ≤ 16777216 ∧ compW g tt te vs ts [] (wipeA (ρ.set j none) vs) fun acc ρ2 => Q (.val (.lst acc)) (ρ2.set j (some (.lst ts)))
end DL
set_option Elab.async false
set_option linter.all false
set_option maxRecDepth 100000
set_option maxHeartbeats 4000000
/-! THE DATA LAYER, part 54: a `for` in a generator's body, its suite may hand out. -/
namespace DL
open PySem PySem.Spec L2 GenW
open PyProof.Rows hiding St
end DL
set_option Elab.async false
set_option linter.all false
set_option maxRecDepth 100000
set_option maxHeartbeats 4000000
/-! THE DATA LAYER, part 55: bodies of generators; a generator's promise; list(g(..)). -/
namespace DL
open PySem PySem.Spec L2 GenW
open PyProof.Rows hiding St
section
variable [Tbs] [Bas]
/-- what is wanted behind a statement of a generator; the trees: what is out so far -/
structure YEnds where
  nx : List T → AEnv → Prop
  bk : List T → AEnv → Prop := fun _ _ => False
  ct : List T → AEnv → Prop := fun _ _ => False
structure FinY (K : PySem.W.Frag) (H : Hp) (fp : Nat → List Addr) (G : List Addr) (Da : YEnds) (D : GEnds) : Prop where
  nx : ∀ vs ts σ' H' ρ' fp', RS K σ' H' ρ' fp' G → Ext H (Fo fp) H' (Fo fp') → RPs K H' (Or1 (Fo fp') G) vs ts → Da.nx ts ρ' → D.nx vs σ' H'
  bk : ∀ vs ts σ' H' ρ' fp', RS K σ' H' ρ' fp' G → Ext H (Fo fp) H' (Fo fp') → RPs K H' (Or1 (Fo fp') G) vs ts → Da.bk ts ρ' → D.bk vs σ' H'
  ct : ∀ vs ts σ' H' ρ' fp', RS K σ' H' ρ' fp' G → Ext H (Fo fp) H' (Fo fp') → RPs K H' (Or1 (Fo fp') G) vs ts → Da.ct ts ρ' → D.ct vs σ' H'
theorem FinY.later {K : PySem.W.Frag} {H H1 : Hp} {fp fp1 : Nat → List Addr} {G : List Addr} {Da : YEnds} {D : GEnds} (f : FinY K H fp G Da D) (x : Ext H (Fo fp) H1 (Fo fp1)) : FinY K H1 fp1 G Da D :=
  ⟨fun vs ts σ' H' ρ' fp' R y r h => f.nx vs ts σ' H' ρ' fp' R (x.trans y) r h, fun vs ts σ' H' ρ' fp' R y r h => f.bk vs ts σ' H' ρ' fp' R (x.trans y) r h, fun vs ts σ' H' ρ' fp' R y r h => f.ct vs ts σ' H' ρ' fp' R (x.trans y) r h⟩
end
/-! ### the promise of a generator -/
/-! ### list(g(..)) -/
/-! a def that may raise, the wish told without names too -/
end DL
set_option Elab.async false
set_option linter.all false
set_option maxRecDepth 100000
set_option maxHeartbeats 4000000
/-! THE DATA LAYER, part 58: dicts that grow: {k: v}, d[k] = v, d.get(k), d.get(k, x). -/
namespace DL
open PySem PySem.Spec L2
open PyProof.Rows hiding St
variable [Tbs] [Bas]
/-! ### {k: v} -/
/-! ### d[k] = v -/
def sSetIxD (j : Nat) (te ti : XT) : ST := fun D ρ => te ρ fun p ρ1 => take1 p ρ1 fun y ρ2 => (∃ l, ρ2[j]? = some (some (.dct l))) ∧ ti ρ2 fun q ρ3 => ∃ l kt k, ρ3[j]? = some (some (.dct l)) ∧ q.get ρ3 = some (.pure kt) ∧ keyOf kt = some k ∧ l.length < 16777216 ∧
  D.nx (ρ3.set j (some (.dct (kput l k y))))
section
variable {X : Cx} {P : Nat → Bool} {e ei : Expr} {te ti : XT} {x : Str} {px pos spos : Pos}
theorem RS.dctE {K : PySem.W.Frag} {σ : St} {H : Hp} {ρ : AEnv} {fp : Nat → List Addr} {G : List Addr} {j : Nat} {l : List (Key × T)} (R : RS K σ H ρ fp G) (e : ρ[j]? = some (some (.dct l))) :
    ∃ a kvs, σ[j]? = some (some (.ref a)) ∧ fp j = [a] ∧ H a = some (.dK kvs) ∧ PKV K H (Or1 (Fo fp) G) kvs l := by
  obtain ⟨v, hv, a, kvs, rfl, hf, h, r⟩ := R.ex j _ e
  exact ⟨a, kvs, hv, hf, h, r⟩
theorem sx_setIxD (j : Nat) (hu : X.A.units + 1 < cLine) (hN : X.N[j]? = some x) (he : EX X e te) (hi : EX X ei ti)
    (hv : Vis X.env.scope x := by first | exact Or.inl rfl | exact Or.inr (Or.inl rfl) | exact Or.inr (Or.inr rfl)) (hd : (x == ("__debug__" : Str)) = false := by decide) (hcd : (x == ("__classdict__" : Str)) = false := by decide)
    (hs : swapsWith e (some (.Subscript (.Name x px) ei spos)) pos.line X.env = pure false := by rfl) :
    SX X P (.Assign [.Subscript (.Name x px) ei spos] e pos) (sSetIxD j te ti) := by
  refine ⟨PS.imp (ps_dput hu (pe_var hN hv hd hcd) hi.pe he.pe hs) ?_⟩
  rintro D σ H ⟨ρ, fp, G, Da, R, h, f⟩
  refine ⟨ρ, fp, G, _, R, h, fun v p A H1 ρ1 fp1 R1 r1 x1 h1 => ?_⟩
  obtain ⟨y, ρ2, fp2, R2, r2, i2, ⟨l0, e0⟩, h2⟩ := take1_ok R1 r1 h1
  obtain ⟨a, kvs0, hv0, f0, h0, r0⟩ := R2.dctE e0
  have x2 : Ext H (Fo fp) H1 (Fo fp2) := x1.or.weak (fun _ z => z) i2
  refine ⟨.ref a, hv0, ρ2, fp2, G, _, R2, h2, fun u q B H3 ρ3 fp3 R3 r3 x3 h3 => ?_⟩
  obtain ⟨l, kt, k, e3, eq, ek, hl, h4⟩ := h3
  have R3' : RS X.K σ H3 ρ3 fp3 G := R3.sub fun a m => List.mem_append_right _ m
  obtain ⟨b, kvs, hv3, f3, hb, rb⟩ := R3'.dctE e3
  rw [hv0] at hv3; cases hv3
  have eu : u = kV k := key_kV (r3.rw0 R3 eq) ek
  subst eu
  have ux : Ext H3 (Fo fp3) (upd H3 a (.dK (putK kvs k v))) (Fo fp3) := upd_ext hb trivial ⟨j, by rw [f3]; exact List.mem_singleton.mpr rfl⟩ fun _ z => z
  have rv : RP X.K (upd H3 a (.dK (putK kvs k v))) (Or1 (Fo fp3) G) v y := ((r2.ext (x3.or.addG G)).ext (ux.addG G))
  obtain ⟨R4, x4⟩ := R3'.mut (u' := .dK (putK kvs k v)) (o' := .dct (kput l k y)) e3 hv0 f3 hb trivial ⟨a, _, rfl, rfl, upd_same, PKV.put (PKV.ext (ux.addG G) rb) rv⟩
  refine ⟨a, _, rfl, DPut.k hb (by rw [Paired.len rb, sizeLine_eq]; exact hl), ?_⟩
  exact f.nx σ _ _ fp3 R4 ((x2.trans x3.or).trans x4) .refl h4
end
end DL
set_option Elab.async false
set_option linter.all false
set_option maxRecDepth 100000
set_option maxHeartbeats 4000000
/-! THE DATA LAYER, part 59: sorted(d), d a dict: its keys, ascending. -/
namespace DL
open PySem PySem.Spec L2
open PyProof.Rows hiding St
variable [Tbs] [Bas]
abbrev keysOf (l : List (Key × T)) : List T := l.map fun p => keyT p.1
def gSortK : GN := fun os Q => match os with
  | [o] => match dcX o with
    | some l => PySem.W.AllAlike (keysOf l) ∧ PySem.W.Sortable (keysOf l) ∧ l.length ≤ 1000000 ∧ Q (.lst ((keysOf l).mergeSort dLe))
    | none => False
  | _ => False
theorem keyIs_relV {k : Key} {v : Value} (h : keyIs k v = true) : RelV (kV k) v := by
  rcases keyIs_shape h with ⟨i, t, rfl, rfl⟩ | ⟨x, t, rfl, rfl⟩
  · exact ⟨t, rfl⟩
  · exact ⟨t, rfl⟩
theorem each_at {β : Type} {R : Value → β → Prop} : ∀ {us : List Value} {bs : List β}, us.length = bs.length → (∀ (i : Nat) (u : Value), us[i]? = some u → ∃ b, bs[i]? = some b ∧ R u b) → PySem.W.EachIs R us bs
  | [], [], _, _ => .nil
  | [], b :: bs, e, _ => by simp at e
  | u :: us, [], e, _ => by simp at e
  | u :: us, b :: bs, e, h => by
    obtain ⟨b', e1, r⟩ := h 0 u rfl
    simp at e1
    subst e1
    exact .cons r (each_at (by simpa using e) fun i v e2 => by simpa using h (i + 1) v (by simpa using e2))
theorem each_kvals : ∀ {us : List Value} {ks : List Key}, PySem.W.EachIs (fun u k => RelV (kV k) u) us ks → Vals (ks.map kV) us
  | _, _, .nil => .nil
  | _, _, .cons h t => .cons h (each_kvals t)
theorem pkv_keys {K : PySem.W.Frag} {H : Hp} {F : Addr → Prop} : ∀ {kvs : List (Key × V)} {l : List (Key × T)}, PKV K H F kvs l → kvs.map (·.1) = l.map (·.1)
  | _, _, .nil => rfl
  | _, _, .cons h r => by rw [List.map_cons, List.map_cons, h.1, pkv_keys r]
section
variable {X : Cx}
theorem callA_sortK (hc : X.calm = true) (hu : X.A.units + 200 < cLine) : CallA X (.builtin "sorted") gSortK := CallA.mk fun pins s σ H F vs xs us Q Qa I r hx h fin => by
  unfold gSortK at h
  split at h
  · cases hx with
    | cons h1 hr =>
      cases hr
      split at h
      · rename_i l el
        obtain ⟨hal, hk, hz, h⟩ := h
        obtain ⟨a, kvs, rfl, rd, pk⟩ := h1.dc el
        obtain ⟨u, rfl, rx⟩ := vals1 r
        cases rx
        obtain ⟨hle, lo, ds, kv, dd⟩ := dk_rd I.hok rd
        obtain ⟨ep, hat⟩ := dd.dictAt
        have ek : ds.map (·.1) = l.map (·.1) := by
          rw [← pkv_keys pk]
          have : ∀ {kvs : List (Key × V)} {ds : List (Key × Value)}, KV kvs ds → ds.map (·.1) = kvs.map (·.1) := fun {kvs ds} q => by
            unfold KV at q
            induction q with
            | nil => rfl
            | cons h _ ih => rw [List.map_cons, List.map_cons, ih, h.1]
          exact this kv
        have hdl : ds.length = l.length := by simpa using congrArg List.length ek
        refine Calls.call_function_entry kind_sorted plain_sorted entry_sorted (args_sorted1 _) ?_
        unfold Builtin.«sorted»
        refine wpAny_bind (m := checkCount "sorted" 1 1 _) (wpAny_pure ?_)
        refine wpAny_bind (PySem.W.kdu_collect (A := X.A.in1) (PySem.W.kdl_dict (knd := mixKind X.prog X.w) (kvs := ds) (ep := ep) lo) (I.ok.hd hc) hat (by rw [hdl, sizeLine_eq]; omega) fun h' tk acc hk' hacc => ?_)
        have hal2 : acc.toList.length = (l.map (·.1)).length := by rw [Array.length_toList, hacc.1, hdl, List.length_map]
        have e1 : PySem.W.EachIs (fun u k => RelV (kV k) u) acc.toList (l.map (·.1)) := each_at hal2 fun i v e => by
          obtain ⟨k, x, hx, hkv⟩ := hacc.2 i v (by rw [← Array.getElem?_toList]; exact e)
          refine ⟨k, ?_, keyIs_relV hkv⟩
          rw [← ek, List.getElem?_map, hx]; rfl
        have hzl : acc.toList.length ≤ sizeLine := by rw [hal2, List.length_map, sizeLine_eq]; omega
        refine wpAny_bind (wpAny_newList ?_ hzl)
        have hoL : (h'.push (seqObj "list" acc.toList.toArray 0)).get? h'.objs.size = some (seqObj "list" acc.toList.toArray 0) := Heap.get?_push_size _ rfl
        have er : PySem.W.EachIs (fun v (b : Key) => ∃ as, Reads (h'.push (seqObj "list" acc.toList.toArray 0)) v (keyT b) as ∧ h'.objs.size ∉ as) acc.toList (l.map (·.1)) := by
          have w : ∀ {us : List Value} {ks : List Key}, PySem.W.EachIs (fun u k => RelV (kV k) u) us ks → PySem.W.EachIs (fun v (b : Key) => ∃ as, Reads (h'.push (seqObj "list" acc.toList.toArray 0)) v (keyT b) as ∧ h'.objs.size ∉ as) us ks := fun {us ks} q => by
            induction q with
            | nil => exact .nil
            | @cons u k us ks hh _ ih =>
              refine .cons ?_ ih
              cases k with
              | inl i => obtain ⟨t, rfl⟩ := hh; exact ⟨[], .int _ _, by simp⟩
              | inr x => obtain ⟨t, rfl⟩ := hh; exact ⟨[], .str _ _, by simp⟩
          exact w e1
        have ee : (l.map (·.1)).map keyT = keysOf l := by rw [List.map_map]; rfl
        refine wpAny_bind (wpAny_holding (PySem.W.list_sort_data (enc := keyT) (bs := l.map (·.1)) (s := { s with heap := h'.push (seqObj "list" acc.toList.toArray 0), toks := tk }) hoL e1 er (by rw [ee]; exact hal) (by rw [ee]; exact hk) (by rw [← hal2]; exact hzl) (fun b _ => ?_) fun out ho eo => ?_))
        · have : (keyT b).depth = 0 := by cases b <;> simp [keyT, PyData.depth]
          rw [this]
          show X.A.units + 1 + 1 + 0 < cLine
          omega
        · obtain ⟨c, hc2⟩ := sortedHeap_at (vs := acc.toList) (out := out.toArray) hoL
          have vo := each_kvals eo
          have I1 : Inv X pins σ H { s with heap := h', toks := tk } := I.kept (t' := tk) hk'
          have hlen : (((l.map (·.1)).mergeSort (PySem.W.dataLe false keyT)).map kV).length ≤ sizeLine := by
            rw [List.length_map, List.length_mergeSort, ← hal2]; exact hzl
          refine wpAny_pure ⟨_, rfl, .ref h'.objs.size, upd H h'.objs.size (.lst (((l.map (·.1)).mergeSort (PySem.W.dataLe false keyT)).map kV)), ?_, rfl, ?_⟩
          · refine I1.laid (t' := tk) (fun b u e => ?_) (Nat.le_refl _) ⟨hlen, out, c, vo, hc2⟩
            have hlt := Heap.lt_size e
            show (sortedHeap (h'.push (seqObj "list" acc.toList.toArray 0)) h'.objs.size acc.toList out.toArray).get? b = some u
            rw [sortedHeap_old (Nat.ne_of_lt hlt) (by rw [size_push']; exact Nat.lt_succ_of_lt hlt)]
            exact Heap.get?_push_of_some _ e
          · refine fin.lst (I1.hok.fresh (Nat.le_refl _)) (ts := (keysOf l).mergeSort dLe) ?_ h
            have em : ((l.map (·.1)).mergeSort (PySem.W.dataLe false keyT)).map keyT = (keysOf l).mergeSort dLe := by
              rw [← ee]
              exact (List.map_mergeSort (f := keyT) (fun _ _ _ _ => rfl)).symm ▸ rfl
            rw [← em]
            exact paired_of fun k _ => (by cases k with
              | inl i => exact RP.int i
              | inr x => exact RP.str x)
      · exact h.elim
  · exact h.elim
end
end DL
set_option Elab.async false
set_option linter.all false
set_option maxRecDepth 100000
set_option maxHeartbeats 4000000
/-! THE DATA LAYER, part 66: xs.index(x), a list of texts; d.get(k, x). -/
namespace DL
open PySem PySem.Spec L2
open PyProof.Rows hiding St
section
variable [Tbs] [Bas] {X : Cx}
/-- d.get(k, x), d a name -/
def tGetD (j : Nat) (tk td : XT) : XT := fun ρ Q => (∃ l, ρ[j]? = some (some (.dct l))) ∧ tk ρ fun p ρ1 => td ρ1 fun q ρ2 => ∃ l kt k z, ρ2[j]? = some (some (.dct l)) ∧ p.get ρ2 = some (.pure kt) ∧ DL.keyOf kt = some k ∧ q.get ρ2 = some (.pure z) ∧ Q (.val (.pure ((klook l k).getD z))) ρ2
theorem ex_getD {ek ed : Expr} {tk td : XT} {x : Str} {px apos cpos : Pos} (j : Nat) (hu : X.A.units + 1 < cLine) (hN : X.N[j]? = some x) (hk : EX X ek tk) (hd0 : EX X ed td) (m : M2 X (.Name x px) "get" apos ek ed cpos)
    (hv : Vis X.env.scope x := by first | exact Or.inl rfl | exact Or.inr (Or.inl rfl) | exact Or.inr (Or.inr rfl)) (hd : (x == ("__debug__" : Str)) = false := by decide) (hcd : (x == ("__classdict__" : Str)) = false := by decide) :
    EX X (.Call (.Attribute (.Name x px) "get" apos) [ek, ed] [] cpos) (tGetD j tk td) := by
  refine ⟨PE.imp (pe_dget2 hu (pe_var hN hv hd hcd) hk.pe hd0.pe m) ?_⟩
  rintro σ H Q ⟨ρ, fp, G, Qa, R, ⟨⟨l0, e0⟩, h⟩, fin⟩
  obtain ⟨a, kvs0, hv0, f0, h0, r0⟩ := R.dctE e0
  refine ⟨.ref a, hv0, a, rfl, .inl ⟨kvs0, .inl h0⟩, ρ, fp, G, _, R, h, fun v p A H1 ρ1 fp1 R1 r1 x1 h1 => ?_⟩
  refine ⟨ρ1, fp1, A ++ G, _, R1, h1, fun u q B H2 ρ2 fp2 R2 r2 x2 h2 => ?_⟩
  obtain ⟨l, kt, k, z, e1, e2, ek', e3, h3⟩ := h2
  obtain ⟨a', kvs, hv2, f2, ha, rk⟩ := R2.dctE e1
  rw [hv0] at hv2; cases hv2
  have ev := key_kV (r1.rw R1 x2 R2 e2) ek'
  have rz : RP X.K H2 (Or1 (Fo fp2) (B ++ (A ++ G))) u z := r2.rw0 R2 e3
  have fz := fin_of (G := G) R2 (fun a m => List.mem_append_right _ (List.mem_append_right _ m)) (x1.or.trans x2.or) fin
  have lk := rk.look (k := k)
  subst ev
  refine ⟨valV kvs k, DGet.k ha, ?_⟩
  cases w : klook l k with
  | none =>
    rw [w] at lk h3
    rw [lk]
    exact fz.pure rz h3
  | some t =>
    rw [w] at lk h3
    obtain ⟨y, e4, e5⟩ := lk
    rw [e4]
    exact fz.pure e5 h3
end
end DL
set_option Elab.async false
set_option linter.all false
set_option maxRecDepth 100000
set_option maxHeartbeats 4000000
/-! THE DATA LAYER, part 67: {k: v for .. for ..}: a dict comprehension with two for's. The library has the rule for lists (HandS.Comp, pe_lc2) and for one for (HandS.DictComp); statement and proof follow these. -/
namespace DL
open PySem PySem.Spec L2
open PyProof.Rows hiding St
end DL
set_option Elab.async false
set_option linter.all false
set_option maxRecDepth 100000
set_option maxHeartbeats 4000000
/-! THE DATA LAYER, part 69: dict comprehensions with two for's, the second over the items of a dict. -/
namespace DL
open PySem PySem.Spec L2
open PyProof.Rows hiding St
end DL
set_option Elab.async false
set_option linter.all false
set_option maxRecDepth 100000
set_option maxHeartbeats 4000000
/-! THE DATA LAYER, part 70: {k: v for .. for ..}, the second walk under a lock. -/
namespace DL
open PySem PySem.Spec L2
open PyProof.Rows hiding St
end DL
set_option Elab.async false
set_option linter.all false
set_option maxRecDepth 100000
set_option maxHeartbeats 4000000
/-! THE DATA LAYER, part 71: dict comprehensions with two for's, the second over the items of a dict that the first gives: it is locked meanwhile. -/
namespace DL
open PySem PySem.Spec L2
open PyProof.Rows hiding St
variable [Tbs] [Bas] {wk wk1 : Bool}
section
variable {K : PySem.W.Frag} {σ : St} {H : Hp}
theorem LX.mono {t : XT} {Q Q' : VK} (h : LX K t σ H Q) (w : ∀ v H, Q v H → Q' v H) : LX K t σ H Q' :=
  let ⟨ρ, fp, G, Qa, R, q, f⟩ := h; ⟨ρ, fp, G, Qa, R, q, fun v p A H' ρ' fp' a b c d => w _ _ (f v p A H' ρ' fp' a b c d)⟩
theorem LT.mono {t : BT} {Q Q' : Bool → Hp → Prop} (h : LT K t σ H Q) (w : ∀ v H, Q v H → Q' v H) : LT K t σ H Q' :=
  let ⟨ρ, fp, G, Qa, R, q, f⟩ := h; ⟨ρ, fp, G, Qa, R, q, fun b H' ρ' fp' a c d => w _ _ (f b H' ρ' fp' a c d)⟩
theorem LG.mono {P : Nat → Bool} {g : GT} {v : V} {Q Q' : St → Hp → Prop} (h : LG wk K P g v σ H Q) (w : ∀ σ H, Q σ H → Q' σ H) : LG wk K P g v σ H Q' :=
  let ⟨ρ, fp, G, Qa, t, R, r, q, f⟩ := h; ⟨ρ, fp, G, Qa, t, R, r, q, fun σ' ρ' fp' a b c d e => w _ _ (f σ' ρ' fp' a b c d e)⟩
end
end DL
set_option Elab.async false
set_option linter.all false
set_option maxRecDepth 100000
set_option maxHeartbeats 4000000
/-! THE DATA LAYER, part 76: an own class called, its __init__ raises; what stands behind a raise. -/
namespace DL
open PySem PySem.Spec L2
open PyProof.Rows hiding St
section
variable [Tbs]
theorem RS0.pres0 {K : PySem.W.Frag} {σ : L2.St} {H H' : Hp} {ρ : AEnv} {fp : Nat → List Addr} {G : List Addr} (R : RS0 K σ H ρ fp G) (p : Pres H H') : RS0 K σ H' ρ fp G :=
  ⟨fun i o e => let ⟨v, h, r⟩ := R.ex i o e; ⟨v, h, r.pres p⟩, R.non, R.dj, R.nd, R.gf, fun a m => let ⟨u, e⟩ := R.gi a m; ⟨u, p a u e⟩, R.len, R.tb.ext p⟩
theorem ASpE.pres {K : PySem.W.Frag} {n : Nat} {spec : FSpecE} {vs : List V} {H H2 : Hp} {E : XK} (h : ASpE K n spec vs H (fun _ _ => False) E) (p : Pres H H2) : ASpE K n spec vs H2 (fun _ _ => False) E := by
  obtain ⟨os, G, Qa, Ea, hl, R, hs, fin, finE⟩ := h
  exact ⟨os, G, Qa, Ea, hl, R.pres0 p, hs, fun v o A H' ro nd ng x q => fin v o A H' ro nd ng (p.ext.trans x) q, fun cls d e H' xo x q => finE cls d e H' xo (p.ext.trans x) q⟩
variable [Bas]
theorem LA.mono {K : PySem.W.Frag} {n : Nat} {ts : XTs} {σ : L2.St} {H : Hp} {P P' : List V → Hp → Prop} (h : LA K n ts σ H P) (g : ∀ vs H1, P vs H1 → P' vs H1) : LA K n ts σ H P' := by
  obtain ⟨ρ, fp, G, Qa, R, h, fin⟩ := h
  exact ⟨ρ, fp, G, Qa, R, h, fun vs ps A H1 ρ1 fp1 hl R1 r1 nd1 ng1 x1 h1 => g _ _ (fin vs ps A H1 ρ1 fp1 hl R1 r1 nd1 ng1 x1 h1)⟩
end
/-! ### an __init__ that raises -/
end DL
set_option Elab.async false
set_option linter.all false
set_option maxRecDepth 100000
set_option maxHeartbeats 4000000
/-! THE DATA LAYER, part 77: list(zip(a, b)) of two tuples. -/
namespace DL
open PySem PySem.Spec L2
open PyProof.Rows hiding St
variable [Tbs]
/-- many new things laid -/
def upds : Hp → List (Addr × HO) → Hp
  | H, [] => H
  | H, (a, u) :: r => upds (upd H a u) r
theorem upds_spec {P : Program} {w : World} {h : Heap} : ∀ (L : List (Addr × HO)) (H : Hp), HOk P w H h → (L.map (·.1)).Nodup → (∀ p ∈ L, H p.1 = none) → (∀ p ∈ L, ∀ H', ObjOk P w H' h p.1 p.2) →
    HOk P w (upds H L) h ∧ Pres H (upds H L) ∧ (∀ p ∈ L, upds H L p.1 = some p.2) ∧ ∀ b, b ∉ L.map (·.1) → upds H L b = H b
  | [], H, ok, _, _, _ => ⟨ok, Pres.refl, (fun _ m => nomatch m), fun _ _ => rfl⟩
  | (a, u) :: r, H, ok, nd, hn, ho => by
    have na : H a = none := hn (a, u) List.mem_cons_self
    rw [List.map_cons, List.nodup_cons] at nd
    obtain ⟨i1, i2, i3, i4⟩ := upds_spec r (upd H a u) (ok.laidN (fun _ _ e => e) na (ho (a, u) List.mem_cons_self _)) nd.2 (fun p m => by
      have ne : p.1 ≠ a := fun e => nd.1 (show a ∈ r.map (·.1) from e ▸ List.mem_map_of_mem (f := fun x : Addr × HO => x.1) m)
      rw [upd_ne ne]; exact hn p (List.mem_cons_of_mem _ m)) fun p m => ho p (List.mem_cons_of_mem _ m)
    refine ⟨i1, (Pres.upd na).trans i2, fun p m => ?_, fun b hb => ?_⟩
    · rcases List.mem_cons.mp m with rfl | m
      · show upds (upd H a u) r a = some u
        rw [i4 a nd.1, upd_same]
      · exact i3 p m
    · show upds (upd H a u) r b = H b
      rw [List.map_cons, List.mem_cons, not_or] at hb
      rw [i4 b hb.2, upd_ne hb.1]
section
variable {X : Cx} {e e2 : Expr} {ta : TA} {p p2 p3 q q3 pos : Pos}
/-- list(zip(e, e2)) -/
def tLZ (K : PySem.W.Frag) (ta : TA) : TE := fun σ H Q => ta σ H fun vs H1 => ∃ a b xs ys, vs = [.ref a, .ref b] ∧ SqT K H1 a xs ∧ SqT K H1 b ys ∧
  ∀ (l : Addr) (Ts : List Addr) (H2 : Hp), Pres H1 H2 → H1 l = none → H2 l = some (.lst (Ts.map V.ref)) → Paired (fun T (p : V × V) => SqP H2 T [p.1, p.2]) Ts (xs.zip ys) → Q (.ref l) H2
theorem pe_listZip (hc : X.calm = true) (hg3 : Gl X "list") (hm3 : X.mg "list" = none) (hg2 : Gl X "zip") (hm2 : X.mg "zip" = none) (ha : PA X [e, e2] ta)
    (hs : starEach [e, e2] X.env = (false, eval e X.env) :: starEach [e2] X.env := by rfl) (hpl : (backTo q (starEach [e2] X.env)).any (·.1) = false := by rfl) (na : starEach [.Call (.Name "zip" p2) [e, e2] [] q] X.env = (false, eval (.Call (.Name "zip" p2) [e, e2] [] q) X.env) :: starEach [] X.env := by rfl) :
    PE X (.Call (.Name "list" p3) [.Call (.Name "zip" p2) [e, e2] [] q] [] q3) (tLZ X.K ta) := by
  refine ⟨fun pins s σ H Q I h => ?_⟩
  refine Call_ (ld_blt I hg3 hm3 boot_list (PyProof.Rows.callWith_type1 (args_cons (thn (zip_eval (R := fun H1 xs ys => ∀ (l : Addr) (Ts : List Addr) (H2 : Hp), Pres H1 H2 → H1 l = none → H2 l = some (.lst (Ts.map V.ref)) → Paired (fun T (p : V × V) => SqP H2 T [p.1, p.2]) Ts (xs.zip ys) → Q (.ref l) H2) hg2 hm2 ha I h hs hpl) fun u s2 g => args_nil ?_) na) na))
  obtain ⟨s1, H1, xs, ys, us, vs, a, b, h', I1, qq, rx, ry, hz, rfl, rfl, D, z1, z2, z3, n1, n2, t1, t2, sz, hk⟩ := g
  have lk : xs.length = us.length := rx.length
  have ly : ys.length = vs.length := ry.length
  have mn : min us.toArray.size vs.toArray.size = min us.length vs.length := zip_min us vs
  refine call_listZ (I1.ok.hd hc) D (by rw [mn]; omega) z1 z2 ⟨_, _, z3⟩ n1 n2 t1 t2 fun h2 acc c hL pr asc kp => ?_
  have hk2 : ∀ b o, s1.heap.get? b = some o → h2.get? b = some o := fun b o e => kp b o (below4 (Heap.lt_size e) (Nat.le_add_right _ _) (Nat.le_add_right _ _) (Nat.le_refl _) (Nat.le_add_right _ _)) (hk b o e)
  have hsz : s1.heap.objs.size ≤ h'.objs.size := by omega
  let tT : Value → Addr := fun v => match v with
    | .ref T => T
    | _ => 0
  let vV : List (V × V) := xs.zip ys
  let uU : List (Value × Value) := us.zip vs
  let Ts : List Addr := acc.toList.map tT
  have al : acc.size = min us.length vs.length := by rw [pr.1, mn]
  have tl : Ts.length = min us.length vs.length := by show (acc.toList.map tT).length = _; rw [List.length_map, Array.length_toList, al]
  have at_ : ∀ j, j < min us.length vs.length → ∃ T x y vx vy, acc[j]? = some (.ref T) ∧ us[j]? = some x ∧ vs[j]? = some y ∧ xs[j]? = some vx ∧ ys[j]? = some vy ∧ RelV vx x ∧ RelV vy y ∧ IsPair h2 T x y ∧ h'.objs.size + 1 ≤ T := fun j hj => by
    obtain ⟨T, x, y, a1, a2, a3, a4, a5⟩ := pr.2 j (by rw [mn]; exact hj)
    rw [List.getElem?_toArray] at a2 a3
    have l1 : j < xs.length := by omega
    have l2 : j < ys.length := by omega
    obtain ⟨x', ex, rx'⟩ := rx.get (List.getElem?_eq_getElem l1)
    obtain ⟨y', ey, ry'⟩ := ry.get (List.getElem?_eq_getElem l2)
    rw [a2] at ex; cases ex
    rw [a3] at ey; cases ey
    exact ⟨T, x, y, _, _, a1, a2, a3, List.getElem?_eq_getElem l1, List.getElem?_eq_getElem l2, rx', ry', a4, a5⟩
  have tsat : ∀ j T, Ts[j]? = some T → acc[j]? = some (.ref T) ∧ j < min us.length vs.length := fun j T e => by
    have lj : j < min us.length vs.length := by rw [← tl]; exact (List.getElem?_eq_some_iff.mp e).1
    obtain ⟨T', _, _, _, _, a1, _⟩ := at_ j lj
    have : Ts[j]? = some T' := by show (acc.toList.map tT)[j]? = _; rw [List.getElem?_map, Array.getElem?_toList, a1]; rfl
    rw [e] at this; cases this
    exact ⟨a1, lj⟩
  let L : List (Addr × HO) := List.zipWith (fun T (p : (V × V) × (Value × Value)) => (T, HO.frz (tupO [p.2.1, p.2.2]) (.tup [p.1.1, p.1.2]))) Ts (vV.zip uU)
  have vl : vV.length = min us.length vs.length := by show (xs.zip ys).length = _; rw [List.length_zip, lk, ly]
  have ul : uU.length = min us.length vs.length := by show (us.zip vs).length = _; rw [List.length_zip]
  have Lm : L.map (·.1) = Ts := by
    refine List.ext_getElem? fun j => ?_
    rw [List.getElem?_map, List.getElem?_zipWith]
    cases e : Ts[j]? with
    | none => rfl
    | some T =>
      have lj := (tsat j T e).2
      rw [List.getElem?_eq_getElem (l := vV.zip uU) (by rw [List.length_zip, vl, ul, Nat.min_self]; exact lj)]
      rfl
  have Lat : ∀ pr2 ∈ L, ∃ T x y vx vy j, pr2 = (T, HO.frz (tupO [x, y]) (.tup [vx, vy])) ∧ Ts[j]? = some T ∧ vV[j]? = some (vx, vy) ∧ RelV vx x ∧ RelV vy y ∧ IsPair h2 T x y ∧ h'.objs.size + 1 ≤ T := fun pr2 m => by
    obtain ⟨j, hj, e⟩ := List.getElem_of_mem m
    have lj : j < min us.length vs.length := by rw [← tl, ← Lm, List.length_map]; exact hj
    obtain ⟨T, x, y, vx, vy, a1, a2, a3, a4, a5, a6, a7, a8, a9⟩ := at_ j lj
    have t1 : Ts[j]? = some T := by show (acc.toList.map tT)[j]? = _; rw [List.getElem?_map, Array.getElem?_toList, a1]; rfl
    have v1 : vV[j]? = some (vx, vy) := zip_look a4 a5
    have u1 : uU[j]? = some (x, y) := zip_look a2 a3
    refine ⟨T, x, y, vx, vy, j, ?_, t1, v1, a6, a7, a8, a9⟩
    have : L[j]? = some (T, HO.frz (tupO [x, y]) (.tup [vx, vy])) := by
      show (List.zipWith _ Ts (vV.zip uU))[j]? = _
      rw [List.getElem?_zipWith, t1, zip_look v1 u1]
    rw [List.getElem?_eq_getElem hj, e] at this
    exact Option.some.inj this
  have Tnd : Ts.Nodup := by
    refine List.pairwise_iff_getElem.mpr fun i j hi hj lt e => ?_
    have q1 := (tsat i _ (List.getElem?_eq_getElem hi)).1
    have q2 := (tsat j _ (List.getElem?_eq_getElem hj)).1
    have := asc i j _ _ lt q1 q2
    rw [e] at this
    exact absurd this (Nat.lt_irrefl _)
  have hl0 : H1 h'.objs.size = none := I1.hok.fresh hsz
  have hlen : Ts.length ≤ sizeLine := by rw [tl]; omega
  have ok1 : HOk X.prog X.w (upd H1 h'.objs.size (.lst (Ts.map V.ref))) h2 := by
    refine I1.hok.laidN hk2 hl0 (show ObjOk X.prog X.w _ _ _ (.lst (Ts.map V.ref)) from ⟨by rw [List.length_map]; exact hlen, acc.toList, c, ?_, by rw [Array.toArray_toList]; exact hL⟩)
    have go : ∀ (l : List Value), (∀ v ∈ l, ∃ T, v = .ref T) → Vals ((l.map tT).map V.ref) l := fun l => by
      induction l with
      | nil => exact fun _ => .nil
      | cons v l ih =>
        intro h
        obtain ⟨T, rfl⟩ := h v List.mem_cons_self
        exact .cons rfl (ih fun v m => h v (List.mem_cons_of_mem _ m))
    refine go _ fun v m => ?_
    obtain ⟨j, hj, ej⟩ := List.getElem_of_mem m
    have lj : j < min us.length vs.length := by rw [← al]; simpa using hj
    obtain ⟨T, _, _, _, _, a1, _⟩ := at_ j lj
    refine ⟨T, ?_⟩
    rw [← Array.getElem?_toList, List.getElem?_eq_getElem hj, ej] at a1
    exact Option.some.inj a1
  have Lnew : ∀ pr2 ∈ L, h'.objs.size + 1 ≤ pr2.1 := fun pr2 m => by
    obtain ⟨T, _, _, _, _, _, rfl, _, _, _, _, _, z⟩ := Lat pr2 m
    exact z
  obtain ⟨ok2, pres2, at2, off2⟩ := upds_spec (P := X.prog) (w := X.w) (h := h2) L _ ok1 (by rw [Lm]; exact Tnd) (fun pr2 m => by
      have z := Lnew pr2 m
      rw [upd_ne (Nat.ne_of_gt (Nat.lt_of_succ_le z))]
      exact I1.hok.fresh (Nat.le_trans hsz (Nat.le_of_lt (Nat.lt_of_succ_le z)))) fun pr2 m H' => by
    obtain ⟨T, x, y, vx, vy, j, rfl, _, _, r1, r2, r3, _⟩ := Lat pr2 m
    exact ⟨r3, by show 2 ≤ sizeLine; decide, [x, y], .cons r1 (.cons r2 .nil), ⟨_, r3, rfl, _, rfl⟩⟩
  have presA : Pres H1 (upds (upd H1 h'.objs.size (.lst (Ts.map V.ref))) L) := (Pres.upd hl0).trans pres2
  have lOff : h'.objs.size ∉ L.map (·.1) := fun m => by
    obtain ⟨pr2, m2, e⟩ := List.mem_map.mp m
    have := Lnew pr2 m2
    rw [e] at this
    exact absurd this (Nat.not_succ_le_self _)
  have U : Un X.fs [] H1 (upds (upd H1 h'.objs.size (.lst (Ts.map V.ref))) L) s1.heap h2 :=
    ⟨fun b o e _ _ _ => hk2 b o e, fun b o e _ _ _ => ⟨o.slots, hk2 b o e⟩, fun b o e n _ => by
        have lb := Heap.lt_size e
        rw [off2 b (fun m => by
          obtain ⟨pr2, m2, e⟩ := List.mem_map.mp m
          have := Lnew pr2 m2
          rw [e] at this
          exact absurd (Nat.lt_of_lt_of_le lb hsz) (Nat.not_lt.mpr (Nat.le_of_lt (Nat.lt_of_succ_le this)))), upd_ne (Nat.ne_of_lt (Nat.lt_of_lt_of_le lb hsz))]
        exact n, fun b o e _ => ⟨o, hk2 b o e⟩, fun b xs e => presA b _ e, fun b o u e => presA b _ e, fun b ps e => ⟨#[], by rw [Array.append_empty]; exact presA b _ e⟩⟩
  refine ⟨.ref h'.objs.size, _, I1.un (t' := s1.toks) U ok2, rfl, qq h'.objs.size Ts _ presA hl0 (by rw [off2 _ lOff, upd_same]) ?_⟩
  have pr3 : ∀ (A : List Addr) (B : List (V × V)), A.length = B.length → (∀ (j : Nat) (T : Addr) (p : V × V), A[j]? = some T → B[j]? = some p → SqP (upds (upd H1 h'.objs.size (.lst (Ts.map V.ref))) L) T [p.1, p.2]) → Paired (fun T (p : V × V) => SqP (upds (upd H1 h'.objs.size (.lst (Ts.map V.ref))) L) T [p.1, p.2]) A B := fun A => by
    induction A with
    | nil =>
      intro B hB _
      cases B with
      | nil => exact .nil
      | cons _ _ => cases hB
    | cons T A ih =>
      intro B hB h
      cases B with
      | nil => cases hB
      | cons p B => exact .cons (h 0 T p rfl rfl) (ih B (by simpa using hB) fun j T p e1 e2 => h (j + 1) T p e1 e2)
  refine pr3 Ts vV (by rw [tl, vl]) fun j T p e1 e2 => ?_
  obtain ⟨a0, lj⟩ := tsat j T e1
  have hjL : j < L.length := by rw [← List.length_map (f := (·.1)), Lm, tl]; exact lj
  have mL := List.getElem_mem hjL
  obtain ⟨T', x, y, vx, vy, j', e3, t3, v3, _, _, _, _⟩ := Lat _ mL
  have eT : T' = T := by
    have : (L.map (·.1))[j]? = some T' := by rw [List.getElem?_map, List.getElem?_eq_getElem hjL, e3]; rfl
    rw [Lm, e1] at this
    exact (Option.some.inj this).symm
  subst eT
  have ej : j' = j := by
    have l1 := (List.getElem?_eq_some_iff.mp t3)
    have l2 := (List.getElem?_eq_some_iff.mp e1)
    obtain ⟨l1, f1⟩ := l1
    obtain ⟨l2, f2⟩ := l2
    exact (List.getElem_inj Tnd).mp (f1.trans f2.symm)
  subst ej
  rw [e2] at v3
  cases v3
  have := at2 _ mL
  rw [e3] at this
  exact SqP.new this
end
section
variable [Bas]
variable {X : Cx} {e e2 : Expr} {ts : XTs} {p2 p3 q q3 : Pos}
/-- list(zip(a, b)) of two tuples -/
def gListZ : GN := fun os Q => match os with
  | [.pure (.tuple ts), .pure (.tuple rs)] => Q (.lst (zipItems ts rs))
  | _ => False
theorem rps_zip {K : PySem.W.Frag} {H H2 : Hp} {F : Addr → Prop} (p : Pres H H2) : ∀ {us us2 : List V} {ts rs : List T} {Ts : List Addr}, RPs K H F us ts → RPs K H F us2 rs → Paired (fun T (p : V × V) => SqP H2 T [p.1, p.2]) Ts (us.zip us2) → RPs K H2 F (Ts.map V.ref) (zipItems ts rs)
  | [], _, _, _, _, .nil, _, h => by
    rw [List.zip_nil_left] at h
    cases h
    exact .nil
  | _ :: _, [], _, _, _, .cons _ _, .nil, h => by
    rw [List.zip_nil_right] at h
    cases h
    exact .nil
  | u :: us, u2 :: us2, _, _, _, .cons r1 t1, .cons r2 t2, h => by
    rw [List.zip_cons_cons] at h
    cases h with
    | cons h1 h2 => exact .cons (RP.tup h1 (.cons (r1.pres p) (.cons (r2.pres p) .nil))) (rps_zip p t1 t2 h2)
theorem lz_go {σ : St} {H : Hp} {Q : VK} (h : LX X.K (tCallB gListZ ts) σ H Q) : tLZ X.K (LA X.K 2 ts) σ H Q := by
  obtain ⟨ρ, fp, G, Qa, R, h, fin⟩ := h
  refine ⟨ρ, fp, G, _, R, h, fun vs ps A H1 ρ1 fp1 hl R1 r1 nd1 ng1 x1 h1 => ?_⟩
  unfold gN at h1
  split at h1
  · rename_i os e1
    have rw1 := getAll_rw R1 r1 e1
    unfold gListZ at h1
    split at h1
    · rename_i ts' rs
      cases rw1 with
      | cons g1 rr =>
        cases rr with
        | cons g2 rr =>
          cases rr
          obtain ⟨a, us, rfl, sa, ra⟩ := RP.tupP g1
          obtain ⟨b, us2, rfl, sb, rb⟩ := RP.tupP g2
          exact ⟨a, b, us, us2, rfl, sa.t, sb.t, fun l Ts H2 p hl0 hl2 pr => (fin_of R1 (fun a m => List.mem_append_right _ m) x1.or fin) (.ref l) (.lst (zipItems ts' rs)) [l] H2 p
            ⟨l, _, rfl, rfl, hl2, rps_zip p (Paired.mapP ra fun _ _ r => r.grow fun a z => z.elim .inl fun m => .inr (by rw [List.mem_singleton.mp m]; exact hl0)) (Paired.mapP rb fun _ _ r => r.grow fun a z => z.elim .inl fun m => .inr (by rw [List.mem_singleton.mp m]; exact hl0)) pr⟩ (fun a m => by rw [List.mem_singleton.mp m]; exact hl0) (by simp) h1⟩
    · exact h1.elim
  · exact h1.elim
end
end DL
set_option Elab.async false
set_option linter.all false
set_option maxRecDepth 100000
set_option maxHeartbeats 4000000
/-! THE DATA LAYER, part 78: def f(**d), which may raise, called with keywords alone. -/
namespace DL
open PySem PySem.Spec L2
open PyProof.Rows hiding St
def storeKw (d : Addr) : List (Str × Value) → Sem Unit
  | [] => pure ()
  | p :: r => nsSet d p.1 p.2 >>= fun _ => storeKw d r
theorem forIn_kw {α β : Type} {f : α → β → Sem (ForInStep β)} {g : α → β → β} (hf : ∀ p s, f p s = pure (.yield (g p s))) : ∀ (l : List α) (s : β), (forIn l s f : Sem β) = pure (l.foldl (fun s p => g p s) s)
  | [], s => rfl
  | p :: l, s => by
    rw [List.forIn_cons, hf]
    exact forIn_kw hf l (g p s)
theorem fold_app {β : Type} : ∀ (kw : List β) (a : List (Str × Value)) (b : List β), kw.foldl (fun s p => (s.1, s.2 ++ [p])) (a, b) = (a, b ++ kw)
  | [], a, b => by simp
  | p :: kw, a, b => by
    rw [List.foldl_cons]
    have := fold_app kw a (b ++ [p])
    dsimp only at this ⊢
    rw [this]; simp
theorem forIn_store {d : Addr} : ∀ (l : List (Str × Value)) (u : PUnit), (forIn l u (fun (x : Str × Value) (_ : PUnit) => (match x with | (k, v) => nsSet d k v >>= fun _ => pure (ForInStep.yield PUnit.unit) : Sem (ForInStep PUnit))) : Sem PUnit) = storeKw d l
  | [], u => rfl
  | (k, v) :: l, u => by
    rw [List.forIn_cons]
    dsimp only
    rw [bind_assoc]
    unfold storeKw
    rw [← forIn_store (d := d) l PUnit.unit]
    refine congrArg _ (funext fun _ => ?_)
    rw [pure_bind]
theorem bind_kw {name qual : Str} {params : Arguments} {body : List Stmt} {scope : Scope} {kV doc pm : Value} {an : Option Addr} {cdv ct : Value} {x : Arg}
    (h1 : params.posonlyargs = []) (h2 : params.args = []) (h3 : params.kwonlyargs = []) (h4 : params.vararg = none) (h5 : params.kwarg = some x) (kw : List (Str × Value)) (hl : kw.length ≤ 64) :
    bindArgs (PySem.W.fnOf name qual params body scope .none kV doc pm an cdv ct) ⟨[], kw⟩ =
      ((alloc ({ cls := .type "dict", data := .dict #[] } : Obj) : Sem Addr) >>= fun d => storeKw d kw >>= fun _ => pure [(x.arg, Value.ref d)]) := by
  obtain ⟨po, ar, va, ko, kd, ka, df⟩ := params
  dsimp only at h1 h2 h3 h4 h5
  subst h1 h2 h3 h4 h5
  have nl : ¬ kw.length > sizeLine + 1 := by rw [sizeLine_eq]; omega
  unfold bindArgs
  dsimp only [PySem.W.fnOf]
  have hf : ∀ (l : List (Str × Value)) (s : List (Str × Value) × List (Str × Value)) (f : Str × Value → List (Str × Value) × List (Str × Value) → Sem (ForInStep (List (Str × Value) × List (Str × Value)))), (∀ p s, f p s = pure (.yield (s.1, s.2 ++ [p]))) → (forIn l s f : Sem _) = pure (s.1, s.2 ++ l) := fun l s f h => by
    rw [forIn_kw (g := fun p s => (s.1, s.2 ++ [p])) h]
    obtain ⟨a, b⟩ := s
    rw [fold_app]
  rw [hf _ _ _ (fun p s => by rfl)]
  rw [pure_bind]
  show (if kw.length > sizeLine + 1 then _ else _) = _
  rw [if_neg nl]
  simp only [forIn_store]
  rfl
section
variable {P : Program} {w : World} {A : Around} {E : Value → Shared → Prop} {s : Shared}
theorem pairs_mem {es : List DictEntry} {kvs : List (Key × Value)} (h : Pairs (mixKind P w) es kvs) : ∀ e ∈ es, ∃ kv ∈ kvs, (mixKind P w).is kv.1 e.key = true := by
  induction h with
  | nil => exact fun e m => nomatch m
  | cons h1 _ _ ih => exact fun e m => (List.mem_cons.mp m).elim (fun q => ⟨_, List.mem_cons_self, q ▸ h1⟩) fun m => let ⟨kv, h2, h3⟩ := ih e m; ⟨kv, List.mem_cons_of_mem _ h2, h3⟩
theorem nsSet_ok {d : Addr} {kvs : List (Key × Value)} {x : Str} {v : Value} {Q : Unit → Shared → Prop} (hm : s.heap.DictOf (mixKind P w) d kvs) (hn : Sum.inr x ∉ kvs.map (·.1))
    (hQ : ∀ h', h'.DictOf (mixKind P w) d (kvs ++ [(Sum.inr x, v)]) → Heap.SameBut d s.heap h' → Q () { s with heap := h', toks := s.toks + 1 }) :
    wpAny (model P w) A (nsSet d x v) Q E s := by
  obtain ⟨o, es, ep, ho, hc, hd, hk, hp, hnd⟩ := hm
  intro Γ p _
  simp only [nsSet, strHash, Sem.wp_bind', Sem.wp_cmd_ask, Sem.wp_pure', Sem.wp_cmd_mkText]
  rw [Sem.wp_loadPart_of (model P w) Γ (fun e _ s => E e s) p { s with toks := s.toks + 1 } (o := o) _ ho]
  have hany : es.any (·.refKey) = false := by
    rw [Array.any_eq_false']
    intro e he
    obtain ⟨k, h, _⟩ := hk e he
    rcases keyIs_shape h with ⟨i, t, _, q⟩ | ⟨y, t, _, q⟩ <;> simp [DictEntry.refKey, q]
  have hidx : (es.findIdx? fun e => e.key.isStr x) = none := by
    rw [Array.findIdx?_eq_none_iff]
    intro e he
    obtain ⟨kv, hkv, h1⟩ := pairs_mem hp e (Array.mem_toList_iff.mpr he)
    rcases keyIs_shape h1 with ⟨i, t, _, q⟩ | ⟨y, t, q1, q⟩
    · rw [q]; rfl
    · rw [q]
      have ne : y ≠ x := fun z => hn (List.mem_map.mpr ⟨kv, hkv, by rw [q1, z]⟩)
      simpa [Value.isStr] using ne
  simp only [hd, aRefKeyMayBeTheName_eq, aRefKeyMayBeTheNameByArray, hany, Bool.and_false, Bool.false_eq_true, if_false, Sem.wp_cmd_updatePart]
  refine ⟨by rw [ho]; rfl, hQ _ ?_ (Heap.SameBut.update ..)⟩
  obtain ⟨c, d', dt, sl⟩ := o
  subst hd
  have hkey : (mixKind P w).is (Sum.inr x) (.str x s.toks) = true := mixKind_str P w x _
  refine ⟨_, _, ep + 1, Heap.get?_update_self _ ho (by simp only [Obj.putName_eq, Obj.putNameByArray, hidx]; rfl), ?_, by simp only [Obj.putName_eq, Obj.putNameByArray, hidx]; rfl, hk.push hkey v, ?_, ?_⟩
  · simp only [Obj.putName_eq, Obj.putNameByArray, hidx]; exact hc
  · have := hp.append hkey ((mixKind P w).hash (Sum.inr x)) v
    obtain ⟨l⟩ := es
    simpa using this
  · rw [List.map_append, List.nodup_append]
    refine ⟨hnd, by simp, ?_⟩
    intro a ha b hb
    simp only [List.map_cons, List.map_nil, List.mem_singleton] at hb
    subst hb
    exact fun e => hn (e ▸ ha)
theorem storeKw_ok {d : Addr} : ∀ {kw : List (Str × Value)} {acc : List (Key × Value)} {s : Shared} {Q : Unit → Shared → Prop}, s.heap.DictOf (mixKind P w) d acc → (acc.map (·.1) ++ kw.map fun p => (Sum.inr p.1 : Key)).Nodup →
    (∀ h' n, h'.DictOf (mixKind P w) d (acc ++ kw.map fun p => (Sum.inr p.1, p.2)) → Heap.SameBut d s.heap h' → Q () { s with heap := h', toks := n }) → wpAny (model P w) A (storeKw d kw) Q E s
  | [], acc, s, Q, hm, hn, hQ => wpAny_pure (by have := hQ s.heap s.toks (by simpa using hm) (Heap.SameBut.refl ..); exact this)
  | p :: kw, acc, s, Q, hm, hn, hQ => by
    have n1 : (Sum.inr p.1 : Key) ∉ acc.map (·.1) := fun m => by
      have := List.nodup_append.mp hn
      exact this.2.2 _ m _ (by simp) rfl
    unfold storeKw
    refine wpAny_bind (nsSet_ok hm n1 fun h1 m1 sb1 => storeKw_ok (kw := kw) m1 (by simpa using hn) fun h2 n m2 sb2 => ?_)
    exact hQ h2 n (by simpa using m2) (sb1.trans sb2)
end
/-! ### the call -/
def kwK (ks : List Str) {α : Type} (vs : List α) : List (Key × α) := (ks.zip vs).map fun p => (Sum.inr p.1, p.2)
theorem kwK_len {ks : List Str} {α : Type} {vs : List α} (h : vs.length = ks.length) : (kwK ks vs).length = ks.length := by
  unfold kwK; rw [List.length_map, List.length_zip, h]; omega
theorem kv_kwK : ∀ {ks : List Str} {vs : List V} {us : List Value}, Vals vs us → KV (kwK ks vs) (kwK ks us)
  | [], _, _, _ => .nil
  | _ :: _, _, _, .nil => .nil
  | _ :: ks, _, _, .cons r h => .cons ⟨rfl, r⟩ (kv_kwK (ks := ks) h)
theorem kwK_keys : ∀ {ks : List Str} {α : Type} {vs : List α}, vs.length = ks.length → (kwK ks vs).map (·.1) = ks.map Sum.inr
  | [], _, _, _ => rfl
  | _ :: _, _, [], h => nomatch h
  | k :: ks, _, v :: vs, h => by
    show Sum.inr k :: (kwK ks vs).map (·.1) = _
    rw [kwK_keys (by simpa using h)]; rfl
structure FnW (P : Program) (w : World) (K : PySem.W.Frag) (mg : Str → Option Value) (base : Heap) (CX : CXT) (k : Nat) (f : Addr) (ks : List Str) (sp : Sp) : Prop where
  run : ∀ (A : Around) (outer : List Env) (s : Shared) (H : Hp) (us : List Value) (vs : List V) (Q : VK) (E : XK), Rm k A → Env0 P w K mg base A outer s H → Vals vs us → vs.length = ks.length → sp vs H Q E →
    codeAny (model P w) A (.call (.ref f) ⟨[], ks.zip us⟩) (CR CX outer P w H s Q E) s
section
variable {CX : CXT} {P : Program} {w : World} {K : PySem.W.Frag} {mg : Str → Option Value} {base : Heap} {k : Nat} {f : Addr} {x qual : Str} {params : Arguments} {body : List Stmt} {scope : Scope} {fd : FuncData} {N : List Str} {sp : Sp} {pd : Arg} {ks : List Str}
theorem fnw_of (F : FunD K x qual params body scope [] [] f fd) (S : FnScope N [pd.arg] scope) (hCX : StX.CXUp CX) (h1 : params.posonlyargs = []) (h2 : params.args = []) (h3 : params.kwonlyargs = []) (h4 : params.vararg = none) (h5 : params.kwarg = some pd)
    (hnd : ks.Nodup) (hl : ks.length ≤ 64)
    (hbody : ∀ (cdv : Value) (A : Around) (outer : List Env) (s : Shared) (H : Hp) (d : Addr) (vs : List V) (Q : VK) (E : XK), Rm k (A.deeper (envOfC qual scope s.heap.objs.size f cdv)) → H d = none → vs.length = ks.length → sp vs H Q E →
      ∃ t, PSs (cxOf CX P w K mg base N qual scope f cdv A outer s (upd H d (.dK (kwK ks vs))) E) body t ∧ t { nx := fun _ H' => Q .non H', rt := Q } (L2.start N [V.ref d]) (upd H d (.dK (kwK ks vs)))) : FnW P w K mg base CX (k + 1) f ks sp := by
  obtain ⟨oc, od, dV, kV, doc, pm, an, cdv, ct, osl, rfl, lk, hcd, hD, hK⟩ := F.ex
  refine ⟨fun A outer s H us vs Q E hr e0 r hlv hsp => ?_⟩
  have hdV : dV = .none := by
    rcases hD with ⟨_, h⟩ | ⟨e, _⟩
    · exact h
    · exact absurd rfl e
  subst hdV
  have hn : H s.heap.objs.size = none := e0.hok.fresh (Nat.le_refl _)
  have hlu : us.length = ks.length := by rw [← r.length]; exact hlv
  refine StX.run_bnd (ps := [pd.arg]) lk hcd S hr.room e0 (G := fun xs H2 => ∃ d, H d = none ∧ xs = [V.ref d] ∧ H2 = upd H d (.dK (kwK ks vs))) (fun A' Ex Q' h => ?_) fun s2 H2 xs ⟨d, hd, ex, eH⟩ hr' => ?_
  · rw [bind_kw h1 h2 h3 h4 h5 (ks.zip us) (by rw [List.length_zip]; omega)]
    refine wpAny_bind (wpAny_alloc (wpAny_bind (storeKw_ok (P := P) (w := w) (acc := []) (Heap.DictOf.new _) ?_ fun h' n dm sb => wpAny_pure ?_)))
    · rw [List.map_nil, List.nil_append]
      have e : (ks.zip us).map (fun p => (Sum.inr p.1 : Key)) = ks.map Sum.inr := by
        have := kwK_keys (ks := ks) hlu
        unfold kwK at this
        rw [List.map_map] at this
        exact this
      rw [e]
      exact List.Pairwise.map _ (fun a b q z => q (Sum.inr.inj z)) hnd
    · rw [List.nil_append] at dm
      have kp : ∀ b o, s.heap.get? b = some o → h'.get? b = some o := fun b o e => by
        have := Heap.get?_push_of_some ({ cls := .type "dict", data := .dict #[] } : Obj) e
        exact (sb.2 b (Nat.ne_of_lt (Heap.lt_size e))).trans this
      have new : ObjOk P w (upd H s.heap.objs.size (.dK (kwK ks vs))) h' s.heap.objs.size (.dK (kwK ks vs)) := ⟨by rw [kwK_len hlv, sizeLine_eq]; omega, beq_eq_false_iff_ne.mpr (Nat.ne_of_gt (StX.env0_big e0)), kwK ks us, kv_kwK r, dm⟩
      have un : Un (frs outer) [] H (upd H s.heap.objs.size (.dK (kwK ks vs))) s.heap h' := Un.laid kp (Nat.le_refl _) hn
      refine h { s with heap := h', toks := n } _ [V.ref s.heap.objs.size] [Value.ref s.heap.objs.size] ⟨e0.frames, e0.mod, fun b o e => ⟨kp b o (e0.bs b o e).1, ?_⟩, ?_, Heap.FunFrames.of_keeps (fun b o e _ => ⟨o, kp b o e, rfl⟩) e0.funs, fun b hb => ?_, e0.hok.laid kp (Nat.le_refl _) new, e0.bare⟩ un rfl
        (fun e s' => hCX outer s H _ _ E e s' un kp rfl) (.cons rfl .nil) rfl ⟨_, hn, rfl, rfl⟩
      · rw [upd_ne (Nat.ne_of_lt (Heap.lt_size (e0.bs b o e).1))]
        exact (e0.bs b o e).2
      · show base.objs.size ≤ h'.objs.size
        rw [sb.1, Heap.size_push]
        exact Nat.le_succ_of_le e0.bsz
      · obtain ⟨_, o, ho, _⟩ := e0.funs.mem hb
        rw [upd_ne (Nat.ne_of_lt (Heap.lt_size ho))]
        exact e0.frf b hb
  · subst ex eH
    exact hbody cdv A outer s2 H d vs Q E (hr.deeper _) hd hlv hsp
end
/-! ### in the layer -/
/-- what such a def does: of the trees by their names -/
abbrev FSpecK := List (Key × T) → (O → Prop) → (Exc → Prop) → Prop
def kwSp (ks : List Str) (spec : FSpecK) : FSpecE := fun os Qa Ea => ∃ ts : List T, os = ts.map .pure ∧ ts.length = ks.length ∧ spec (kwK ks ts) Qa Ea
section
variable [Tbs]
theorem kwK_rel {K : PySem.W.Frag} {H : Hp} {F : Addr → Prop} : ∀ {ks : List Str} {vs : List V} {ts : List T}, Paired (RP K H F) vs ts → Paired (fun (p : Key × V) (q : Key × T) => p.1 = q.1 ∧ RP K H F p.2 q.2) (kwK ks vs) (kwK ks ts)
  | [], _, _, _ => .nil
  | _ :: _, _, _, .nil => .nil
  | _ :: ks, _, _, .cons r h => .cons ⟨rfl, r⟩ (kwK_rel (ks := ks) h)
theorem rs0_trees {K : PySem.W.Frag} {H : Hp} {F : Addr → Prop} : ∀ {vs : List V} {ts : List T}, vs.length = ts.length → (∀ (i : Nat) (t : T), ts[i]? = some t → ∃ v, vs[i]? = some v ∧ RP K H F v t) → Paired (RP K H F) vs ts
  | [], [], _, _ => .nil
  | v :: vs, t :: ts, hl, h => by
    obtain ⟨u, h1, h2⟩ := h 0 t rfl
    cases h1
    exact .cons h2 (rs0_trees (by simpa using hl) fun i t e => h (i + 1) t e)
theorem fnkw_ok {P : Program} {w : World} {K : PySem.W.Frag} {mg : Str → Option Value} {base : Heap} {k : Nat} {f : Addr} {x qual : Str} {params : Arguments} {body : List Stmt} {scope : Scope} {fd : FuncData} {N : List Str} {pd : Arg} {ks : List Str} {spec : FSpecK}
    (tb : (Exc → Prop) → ST) (F : FunD K x qual params body scope [] [] f fd) (S : FnScope N [pd.arg] scope) (h1 : params.posonlyargs = []) (h2 : params.args = []) (h3 : params.kwonlyargs = []) (h4 : params.vararg = none) (h5 : params.kwarg = some pd)
    (hbody : ∀ (cdv : Value) (A : Around) (outer : List Env) (s : Shared) (H : Hp) (E : XK), Rm k (A.deeper (envOfC qual scope s.heap.objs.size f cdv)) →
      ∀ (B : Bas) (Ea : Exc → Prop), Takes (cxOf (L2.CX P w) P w K mg base N qual scope f cdv A outer s H E) (@WE _ B K fun e _ => Ea e) →
        PassesOwn (model P w) (cxOf (L2.CX P w) P w K mg base N qual scope f cdv A outer s H E).A (cxOf (L2.CX P w) P w K mg base N qual scope f cdv A outer s H E).env (cxOf (L2.CX P w) P w K mg base N qual scope f cdv A outer s H E).xe →
        @SXs _ B (cxOf (L2.CX P w) P w K mg base N qual scope f cdv A outer s H E) (fun _ => false) body (tb Ea))
    (rd : ∀ kts Qa Ea, spec kts Qa Ea → tb Ea (endsE Qa) (startA N.length [.dct kts])) (hnd : ks.Nodup) (hl : ks.length ≤ 64) : FnW P w K mg base (L2.CX P w) (k + 1) f ks (ASpE K ks.length (kwSp ks spec)) := by
  refine fnw_of F S StX.cxUp h1 h2 h3 h4 h5 hnd hl fun cdv A outer s H d vs Q E hr hd hlv h => ?_
  obtain ⟨os, G, Qa, Ea, _, R, ⟨ts, rfl, hlt, hs⟩, fin, finE⟩ := h
  letI B : Bas := ⟨H, NoF, G⟩
  let fp : Nat → List Addr := fun i => if i = 0 then [d] else []
  have fpm : ∀ {i : Nat} {a : Addr}, a ∈ fp i → i = 0 ∧ a = d := fun {i a} m => by
    by_cases q : i = 0
    · rw [show fp i = [d] from if_pos q] at m; exact ⟨q, List.mem_singleton.mp m⟩
    · rw [show fp i = [] from if_neg q] at m; cases m
  have dG : d ∉ G := fun m => by obtain ⟨u, e⟩ := R.gi d m; rw [hd] at e; cases e
  have pr : Pres H (upd H d (.dK (kwK ks vs))) := Pres.upd hd
  have prs : Paired (RP K (upd H d (.dK (kwK ks vs))) (Or1 (Fo fp) G)) vs ts := rs0_trees (hlv.trans hlt.symm) fun i t e => by
    obtain ⟨v, hv, r⟩ := R.ex i (.pure t) (by simp [e])
    obtain ⟨_, r⟩ := r
    refine ⟨v, by simpa using hv, (r.grow fun a z => ?_).pres pr⟩
    rcases z with ⟨j, m⟩ | m
    · exact .inr (by rw [(fpm m).2]; exact hd)
    · exact .inl (.inr m)
  have lN : 1 ≤ N.length := by
    have := congrArg List.length S.pre
    rw [List.length_take] at this
    simp at this; omega
  have R0 : RS K (L2.start N [V.ref d]) (upd H d (.dK (kwK ks vs))) (startA N.length [.dct (kwK ks ts)]) fp G := by
    unfold L2.start startA
    refine ⟨⟨fun i o e => ?_, fun i e => ?_, fun i j a m1 m2 => (fpm m1).1.trans (fpm m2).1.symm, fun i => ?_, fun a m ⟨j, z⟩ => dG ((fpm z).2 ▸ m), fun a m => let ⟨u, e⟩ := R.gi a m; ⟨u, pr a u e⟩, by simp, R.tb.ext pr⟩, ?_, fun _ m => m⟩
    · have e := get_pad.mp e
      cases i with
      | succ i => simp at e
      | zero =>
        cases e
        exact ⟨.ref d, get_pad.mpr rfl, d, kwK ks vs, rfl, rfl, upd_same, kwK_rel prs⟩
    · by_cases q : i = 0
      · subst q
        exact absurd rfl (e (.dct (kwK ks ts)))
      · exact if_neg q
    · by_cases q : i = 0
      · rw [show fp i = [d] from if_pos q]; simp
      · rw [show fp i = [] from if_neg q]; exact .nil
    · refine (pr.extA (F := NoF) (A := [d]) fun a m => by rw [List.mem_singleton.mp m]; exact hd).weak (fun _ z => z) fun a z => ?_
      rcases z.1 with ⟨j, m⟩ | m
      · exact .inr (List.mem_singleton.mpr (fpm m).2)
      · exact absurd m z.2
  have done : ∀ v o A' σ' H' ρ' fp', RS K σ' H' ρ' fp' (A' ++ G) → RO K H' (Or1 (Fo fp') (A' ++ G)) v o A' → A'.Nodup → (∀ a ∈ A', a ∉ G) → Ext (upd H d (.dK (kwK ks vs))) (Fo fp) H' (Or1 (Fo fp') A') → Qa o → Q v H' := fun v o A' σ' H' ρ' fp' R' ro nd ng x' q =>
    fin v o A' H' (ro.weak fun a z => z.elim (fun z => (noF z).elim) .inr) nd ng (R'.bs.weak (fun _ z => z) fun a z => z.elim (fun z => (noF z).elim) fun m => ⟨.inr (List.mem_append_left _ m), ng a m⟩) q
  refine ⟨LS K (fun _ => false) (tb Ea), (hbody cdv A outer s _ E hr B Ea ?_ ?_).pss, startA N.length [.dct (kwK ks ts)], fp, G, endsE Qa, R0, rd _ _ _ hs, fun σ' H' ρ' fp' R' x' pe hq => ?_, fun _ _ _ _ _ _ _ hq => hq.elim, fun _ _ _ _ _ _ _ hq => hq.elim, fun v o A' σ' H' ρ' fp' R' ro nd ng x' pe hq => ?_⟩
  · refine Takes.imp (takes_of (X := cxOf (L2.CX P w) P w K mg base N qual scope f cdv A outer s _ E) (E := E) rfl rfl rfl rfl) fun cls dd σ' H' hw => ?_
    obtain ⟨e, ρ', fp', G', R', xo, q⟩ := hw
    refine finE cls dd e H' (xo.weak fun a z => z.elim (fun z => (noF z).elim) fun m => .inr (R'.g0 a m)) (R'.bs.weak (fun _ z => z) fun a z => (noF z).elim) q
  · exact passes_of rfl
  · exact done .non (.pure .none) [] σ' H' ρ' fp' R' (ro_pure RP.non) .nil noMem (x'.weak (fun _ y => y) fun a y => y.elim (fun q => q) fun m => (List.not_mem_nil m).elim) hq
  · exact done v o A' σ' H' ρ' fp' R' ro nd ng x' hq
end
/-! ### the keywords' values, the call -/
section
variable [Tbs] [Bas] {X : Cx} {kws : List Keyword} {e : Expr} {t : XT} {ts : XTs} {nm : Option Str} {kpos : Pos}
structure KXs (X : Cx) (kws : List Keyword) (ts : XTs) : Prop where
  pk : L2.PK X kws (LA X.K kws.length ts)
omit [Tbs] [Bas] in
theorem PK_imp {t t' : TA} (h : L2.PK X kws t) (w : ∀ σ H Q, t' σ H Q → t σ H Q) : L2.PK X kws t' := ⟨fun pos pins s σ H Q I q => h.run pos pins s σ H Q I (w σ H Q q)⟩
theorem kxs_nil : KXs X [] tNilA := by
  refine ⟨PK_imp pk_nil ?_⟩
  rintro σ H Q ⟨ρ, fp, G, Qa, R, h, fin⟩
  exact fin [] [] [] H ρ fp rfl R .nil .nil (fun _ m => nomatch m) (Ext.refl.weak (fun _ z => z) fun a z => z.elim (fun q => q) fun m => nomatch m) h
theorem kxs_cons (h1 : EX X e t) (h2 : KXs X kws ts) : KXs X (⟨nm, e, kpos⟩ :: kws) (tConsA t ts) := by
  refine ⟨PK_imp (pk_cons h1.pe h2.pk) ?_⟩
  rintro σ H Q ⟨ρ, fp, G, Qa, R, h, fin⟩
  refine ⟨ρ, fp, G, _, R, h, fun v p A H1 ρ1 fp1 R1 r1 x1 h1 => ?_⟩
  refine ⟨ρ1, fp1, A ++ G, _, R1, h1, fun vs ps B H2 ρ2 fp2 hl R2 r2 nd2 ng2 x2 h2 => ?_⟩
  have m1 : ∀ a, a ∈ B ++ (A ++ G) ↔ a ∈ A ++ (B ++ G) := fun a => by simp only [List.mem_append]; exact ⟨fun z => by rcases z with z | z | z <;> simp [z], fun z => by rcases z with z | z | z <;> simp [z]⟩
  have w1 : ∀ a, Or1 (Fo fp2) ((A ++ B) ++ G) a → Or1 (Fo fp2) (B ++ (A ++ G)) a := fun a z => z.imp (fun q => q) fun m => (m1 a).mpr (by rw [List.append_assoc] at m; exact m)
  have x' : Ext H (Fo fp) H2 (Or1 (Fo fp2) (A ++ B)) := by
    have := x1.trans (x2.addG A)
    exact this.weak (fun _ z => z) fun a z => Or1.app.mp (Or1.perm.mp z)
  have R2' : RS X.K σ H2 ρ2 fp2 ((A ++ B) ++ G) := R2.sub fun a m => (m1 a).mpr (by rw [List.append_assoc] at m; exact m)
  have low : ∀ {vs : List V} {ps : List Opd} {C : List Addr}, RArgs X.K σ H2 (Or1 (Fo fp2) (B ++ (A ++ G))) ρ2 vs ps C → RArgs X.K σ H2 (Or1 (Fo fp2) ((A ++ B) ++ G)) ρ2 vs ps C := fun r => by
    induction r with
    | nil => exact .nil
    | val r _ ih => exact .val (r.weak w1) ih
    | slot a b _ ih => exact .slot a b ih
  cases p with
  | val o =>
    have ndA : (A ++ B).Nodup := List.nodup_append.mpr ⟨r1.2.1, nd2, fun a m b n e => ng2 b n (e ▸ List.mem_append_left _ m)⟩
    refine fin (v :: vs) (.val o :: ps) (A ++ B) H2 ρ2 fp2 (congrArg (· + 1) hl) R2' (.val ?_ (low r2)) ndA (fun a m z => ?_) x' h2.2
    · exact (RO.step r1.1 x2 fun a m => R1.gf a (List.mem_append_left _ m)).weak w1
    · exact (List.mem_append.mp m).elim (fun m => r1.2.2 a m z) fun m => ng2 a m (List.mem_append_right _ z)
  | slot j =>
    obtain ⟨rfl, hv, _⟩ := r1
    exact fin (v :: vs) (.slot j :: ps) B H2 ρ2 fp2 (congrArg (· + 1) hl) R2' (.slot hv (h2.1 j rfl) (low r2)) nd2 (fun a m z => ng2 a m (by simpa using z)) x' h2.2
end
section
variable [Tbs] [Bas] {X : Cx} {k : Nat} {f : Addr} {ks : List Str} {spec : FSpecK} {x : Str} {p pos : Pos} {kws : List Keyword} {ts : XTs} {fl : List Bool} {Ea : Exc → AEnv → Prop}
theorem ex_callKw (F : FnW X.prog X.w X.K X.mg X.base (L2.CX X.prog X.w) k f ks (ASpE X.K ks.length (kwSp ks spec))) (hr : Rm k X.A) (hg : Gl X x) (hm : X.mg x = some (.ref f)) (hk : PySem.W.keepIn X.K (.ref f) = true)
    (tk : Takes X (WE X.K Ea)) (ha : KXs X kws ts) (hfk : fl.length = ks.length := by rfl) (hfl : (fl.all fun b => !b) = true := by rfl) (hall : (backToKw pos (keywordEach kws X.env)).all (·.1.isSome) = true := by rfl) (hks : (backToKw pos (keywordEach kws X.env)).filterMap (·.1) = ks := by rfl)
    (hdb : (x == ("__debug__" : Str)) = false := by decide) (hpl : ((backTo pos (starEach [] X.env)).any (·.1) || (backToKw pos (keywordEach kws X.env)).any (·.1.isNone)) = false := by rfl) :
    EX X (.Call (.Name x p) [] kws pos) (tCallE fl (kwSp ks spec) Ea ts) := by
  have go : PE X (.Call (.Name x p) [] kws pos) (fun σ H Q => LA X.K kws.length ts σ H fun vs H1 => ASpE X.K ks.length (kwSp ks spec) vs H1 Q fun cls d H' => WE X.K Ea cls d σ H') := by
    refine ⟨fun pins s σ H Q I h => ?_⟩
    refine wpAny_Call_Name_kw (ld_glob I hg hm ?_ hdb)
    refine PySem.W.callWith_KW0 (h₀ := X.base) I.ok.mod.kin hk hall ?_ hpl
    refine thn (ha.pk.run pos pins s σ H _ I h) fun ws s2 ⟨zs, H2, I2, rz, q2⟩ => ⟨I2.kIn, ?_⟩
    rw [hks]
    have hl : zs.length = ks.length := let ⟨_, _, _, _, e, _⟩ := q2; e
    refine wpAny_call (codeAny_mono (F.run X.A X.stack s2 H2 ws zs Q _ hr I2.env0 rz hl q2) fun r s' hq => ?_)
    match r, hq with
    | .error e, hq => exact passAt tk σ pins H2 s2 e s' I2 hq
    | .ok (.ret u), hq => exact I2.after hq
  refine ⟨PE.imp go fun σ H Q h => ?_⟩
  have := callE_go (n := kws.length) (fl := fl) (fun i => ?_) h
  · rw [hfk] at this; exact this
  · rw [List.getD_eq_getElem?_getD]
    cases q : fl[i]? with
    | none => rfl
    | some b =>
      have := List.all_eq_true.mp hfl b (List.mem_of_getElem? q)
      simpa using this
end
end DL
set_option Elab.async false
set_option linter.all false
set_option maxRecDepth 100000
set_option maxHeartbeats 4000000
/-! THE DATA LAYER, part 79: sorted(d.items()), d a name. -/
namespace DL
open PySem PySem.Spec L2
open PyProof.Rows hiding St
variable [Tbs]
/-- a view of a dict's items -/
def ItV (p d : Addr) : HO := .ext fun h => h.IsItemsView p d
theorem itV_new {P : Program} {w : World} {H : Hp} {h : Heap} {p d : Addr} (R : h.IsItemsView p d) : ObjOk P w H h p (ItV p d) := by
  obtain ⟨o, ho, r⟩ := id R
  exact ⟨R, ⟨o, ho⟩, fun h1 h2 ⟨o1, e1, r1⟩ k => ⟨o1, k _ e1, r1⟩⟩
section
variable {X : Cx} {o : Expr} {to : TE} {apos cpos : Pos}
def tItV (to : TE) : TE := fun σ H Q => to σ H fun x H1 => ∃ d kvs, x = .ref d ∧ Rd H1 d (.dK kvs) ∧ ∀ p, H1 p = none → Q (.ref p) (upd H1 p (ItV p d))
theorem pe_itV (ho : PE X o to) (hbase : attributeBase o "items" X.env (eval o X.env) = eval o X.env := by rfl) (hline : (apos.endLine == cpos.line) = true := by rfl) :
    PE X (.Call (.Attribute o "items" apos) [] [] cpos) (tItV to) := by
  refine ⟨fun pins s σ H Q I h => ?_⟩
  refine wpAny_Call_method (T := "dict") (id := "dict.items") hbase rfl hline F.plainAttrs_dict F.slot_dict_items F.type_dict_items (thn (ho.run pins s σ H _ I h) fun v s1 ⟨x, H1, I1, r, d, kvs, e, rd, q⟩ => ?_)
  subst e
  cases r
  obtain ⟨hle, lo, ds, kv, dd⟩ := dk_rd I1.hok rd
  refine ⟨dd.typeIs, dd.mapOf.noDict, ?_⟩
  refine method_meetsIn F.slot_dict_items F.entry_dict_items rfl (PySem.evalArgs_none ⟨rfl, dd.typeIs, F.args_dict_items_1 _, _, meets_dict_items (mixKind X.prog X.w) d lo, ⟨ds, dd⟩, ?_⟩)
  have R : (s1.heap.push { cls := .type "dict_items", data := .fields #[.ref d] }).IsItemsView s1.heap.objs.size d := ⟨_, Heap.get?_push_size _ rfl, rfl, rfl⟩
  exact ⟨.ref s1.heap.objs.size, _, I1.laid (t' := s1.toks) (fun b o e => Heap.get?_push_of_some _ e) (Nat.le_refl _) (itV_new R), rfl, q _ (I1.hok.fresh (Nat.le_refl _))⟩
end
/-! ### pairs that were made are laid -/
theorem lay_pairs {P : Program} {w : World} {h' : Heap} : ∀ {as : List Addr} {ps : List (V × V)} {H1 : Hp}, HOk P w H1 h' → as.Nodup → (∀ a ∈ as, H1 a = none) →
    Paired (fun (a : Addr) (p : V × V) => ∃ x y, RelV p.1 x ∧ RelV p.2 y ∧ h'.get? a = some ({ cls := .type "tuple", data := .seq #[x, y] } : Obj)) as ps →
    ∃ H2, HOk P w H2 h' ∧ Pres H1 H2 ∧ (∀ b, b ∉ as → H2 b = H1 b) ∧ Paired (fun T (p : V × V) => SqP H2 T [p.1, p.2]) as ps
  | _, _, H1, ok, _, _, .nil => ⟨H1, ok, Pres.refl, fun _ _ => rfl, .nil⟩
  | a :: as, p :: ps, H1, ok, nd, hn, .cons hp r => by
    obtain ⟨x, y, rx, ry, hg⟩ := hp
    rw [List.nodup_cons] at nd
    have na := hn a List.mem_cons_self
    obtain ⟨H2, ok2, pr2, off2, r2⟩ := lay_pairs (ok.laidN (h' := h') (o := HO.frz (tupO [x, y]) (.tup [p.1, p.2])) (fun _ _ e => e) na ⟨hg, by show 2 ≤ sizeLine; decide, [x, y], .cons rx (.cons ry .nil), ⟨_, hg, rfl, _, rfl⟩⟩) nd.2 (fun b m => by
      have ne : b ≠ a := fun z => nd.1 (by rw [← z]; exact m)
      rw [upd_ne ne]; exact hn b (List.mem_cons_of_mem _ m)) r
    refine ⟨H2, ok2, (Pres.upd na).trans pr2, fun b hb => ?_, .cons (SqP.new (pr2 a _ upd_same)) r2⟩
    rw [List.mem_cons, not_or] at hb
    rw [off2 b hb.2, upd_ne hb.1]
theorem inv_pairs {X : Cx} {pins : List (Addr × Obj)} {σ : St} {H : Hp} {s : Shared} {h' : Heap} {tk : Nat} {as : List Addr} {ps : List (V × V)} (I : Inv X pins σ H s) (hk : ∀ b o, s.heap.get? b = some o → h'.get? b = some o) (nd : as.Nodup) (hs : ∀ a ∈ as, s.heap.objs.size ≤ a)
    (hp : Paired (fun (a : Addr) (p : V × V) => ∃ x y, RelV p.1 x ∧ RelV p.2 y ∧ h'.get? a = some ({ cls := .type "tuple", data := .seq #[x, y] } : Obj)) as ps) :
    ∃ H2, Inv X pins σ H2 { s with heap := h', toks := tk } ∧ Pres H H2 ∧ Paired (fun T (p : V × V) => SqP H2 T [p.1, p.2]) as ps := by
  obtain ⟨H2, ok2, pr, off, r⟩ := lay_pairs (I.kept (t' := tk) hk).hok nd (fun a m => I.hok.fresh (hs a m)) hp
  have U : Un X.fs [] H H2 s.heap h' :=
    ⟨fun b o e _ _ _ => hk b o e, fun b o e _ _ _ => ⟨o.slots, hk b o e⟩, fun b o e n _ => by
        rw [off b fun m => absurd (Heap.lt_size e) (Nat.not_lt.mpr (hs b m))]
        exact n, fun b o e _ => ⟨o, hk b o e⟩, fun b xs e => pr b _ e, fun b o u e => pr b _ e, fun b ps e => ⟨#[], by rw [Array.append_empty]; exact pr b _ e⟩⟩
  exact ⟨H2, I.un (t' := tk) U ok2, pr, r⟩
section
variable [Bas] {X : Cx}
theorem kv_at : ∀ {kvs : List (Key × V)} {ds : List (Key × Value)}, KV kvs ds → ∀ (j : Nat) (k : Key) (u : Value), ds[j]? = some (k, u) → ∃ v, kvs[j]? = some (k, v) ∧ RelV v u
  | _, _, .nil, j, k, u, e => by simp at e
  | p :: kvs, q :: ds, .cons h r, 0, k, u, e => by
    simp at e
    subst e
    exact ⟨p.2, by obtain ⟨p1, p2⟩ := p; cases h.1; rfl, h.2⟩
  | p :: kvs, q :: ds, .cons h r, j + 1, k, u, e => by
    simpa using kv_at (kvs := kvs) (ds := ds) r j k u (by simpa using e)
theorem dil_at {es : Array DictEntry} {lo : Addr} {h : Heap} {as : List Addr} (g : PySem.W.DilG es lo h as) {kvs : List (Key × V)} {ds : List (Key × Value)} (kv : KV kvs ds) (hs : es.size = ds.length)
    (he : ∀ i (hi : i < es.size) k v, ds[i]? = some (k, v) → keyIs k es[i].key = true ∧ es[i].val = v) :
    ∀ (j : Nat) (a : Addr), as[j]? = some a → ∃ (p : Key × V) (x y : Value), kvs[j]? = some p ∧ RelV (kV p.1) x ∧ RelV p.2 y ∧ h.get? a = some { cls := .type "tuple", data := .seq #[x, y] } := fun j a e => by
  obtain ⟨hj, h1⟩ := g.pairs j a e
  have lj : j < ds.length := by omega
  obtain ⟨v, e2, r2⟩ := kv_at kv j ds[j].1 ds[j].2 (by rw [List.getElem?_eq_getElem lj])
  obtain ⟨e3, e4⟩ := he j hj ds[j].1 ds[j].2 (by rw [List.getElem?_eq_getElem lj])
  exact ⟨_, _, _, e2, keyIs_relV e3, e4 ▸ r2, h1⟩
theorem paired_at {α β : Type} {G : α → β → Prop} : ∀ {l : List α} {r : List β}, l.length = r.length → (∀ (j : Nat) (a : α), l[j]? = some a → ∃ b, r[j]? = some b ∧ G a b) → Paired G l r
  | [], [], _, _ => .nil
  | a :: l, b :: r, hl, h => by
    obtain ⟨b', e, g⟩ := h 0 a rfl
    simp at e
    subst e
    exact .cons g (paired_at (by simpa using hl) fun j a e => by simpa using h (j + 1) a (by simpa using e))
/-- sorted(d.items()) -/
def rSortI (K : PySem.W.Frag) : List V → Hp → VK → Prop := fun xs H Q => ∃ (p d : Addr) (kvs : List (Key × V)) (l : List (Key × T)) (F : Addr → Prop), xs = [.ref p] ∧ H p = some (ItV p d) ∧ Rd H d (.dK kvs) ∧ PKV K H F kvs l ∧
  PySem.W.AllAlike (l.map itemT) ∧ PySem.W.Sortable (l.map itemT) ∧ (∀ t ∈ l.map itemT, t.depth ≤ 100) ∧ l.length ≤ 1000000 ∧ ∀ r ws H3, Pres H H3 → H r = none → H3 r = some (.lst ws) → RPs K H3 (Or1 F [r]) ws ((l.map itemT).mergeSort dLe) → Q (.ref r) H3
theorem pkv_len {K : PySem.W.Frag} {H : Hp} {F : Addr → Prop} : ∀ {kvs : List (Key × V)} {l : List (Key × T)}, PKV K H F kvs l → kvs.length = l.length
  | _, _, .nil => rfl
  | _, _, .cons _ r => congrArg (· + 1) (pkv_len r)
theorem kv_len : ∀ {kvs : List (Key × V)} {ds : List (Key × Value)}, KV kvs ds → kvs.length = ds.length
  | _, _, .nil => rfl
  | _, _, .cons _ r => congrArg (· + 1) (kv_len r)
theorem keyRP {K : PySem.W.Frag} {H : Hp} {F : Addr → Prop} (k : Key) : RP K H F (kV k) (keyT k) := by
  cases k with
  | inl i => exact RP.int i
  | inr x => exact RP.str x
theorem rps_items {K : PySem.W.Frag} {H H2 : Hp} {F : Addr → Prop} (p : Pres H H2) : ∀ {kvs : List (Key × V)} {l : List (Key × T)} {Ts : List Addr}, PKV K H F kvs l → Paired (fun T (p : V × V) => SqP H2 T [p.1, p.2]) Ts (kvs.map fun p => (kV p.1, p.2)) → RPs K H2 F (Ts.map V.ref) (l.map itemT)
  | _, _, _, .nil, h => by cases h; exact .nil
  | _ :: _, _ :: _, _, .cons r t, h => by
    cases h with
    | cons h1 h2 =>
      refine .cons (RP.tup h1 (.cons ?_ (.cons (r.2.pres p) .nil))) (rps_items p t h2)
      rw [← r.1]
      exact keyRP _
theorem cr_sortI (hc : X.calm = true) (hu : X.A.units + 200 < cLine) : CallR X (.builtin "sorted") (rSortI X.K) := by
  intro pins s σ H xs us Q I r h
  obtain ⟨p, d, kvs, l, F, rfl, hp, rd, pk, hal, hk, hd, hz, q⟩ := h
  obtain ⟨u, rfl, rx⟩ := vals1 r
  cases rx
  have hv : s.heap.IsItemsView p d := (I.hok p _ hp).1
  obtain ⟨hle, lo, ds, kv, dd⟩ := dk_rd I.hok rd
  obtain ⟨es, ep, hr, hs, he⟩ := dd.raw
  have l1 := pkv_len pk
  have l2 := kv_len kv
  refine Calls.call_function_entry kind_sorted plain_sorted entry_sorted (args_sorted1 _) ?_
  unfold Builtin.«sorted»
  refine wpAny_bind (m := checkCount "sorted" 1 1 _) (wpAny_pure ?_)
  refine wpAny_bind (PySem.W.dil_collect (A := X.A.in1) (I.ok.hd hc) hv hr (by rw [sizeLine_eq]; omega) fun h' tk as hk' hal2 hG => ?_)
  have at_ := dil_at hG kv hs he
  have pas : Paired (fun (a : Addr) (p : V × V) => ∃ x y, RelV p.1 x ∧ RelV p.2 y ∧ h'.get? a = some ({ cls := .type "tuple", data := .seq #[x, y] } : Obj)) as (kvs.map fun p => (kV p.1, p.2)) :=
    paired_at (by rw [List.length_map]; omega) fun j a e => by
      obtain ⟨p, x, y, e2, r1, r2, g⟩ := at_ j a e
      exact ⟨(kV p.1, p.2), by rw [List.getElem?_map, e2]; rfl, x, y, r1, r2, g⟩
  obtain ⟨H2, I2, pr2, sq2⟩ := inv_pairs (tk := tk) I hk' (hG.rise.imp fun lt e => absurd (e ▸ lt) (Nat.lt_irrefl _)) (fun a m => Nat.le_of_lt (hG.above a m)) pas
  have rps := rps_items pr2 pk sq2
  have fr : H2 h'.objs.size = none := I2.hok.fresh (Nat.le_refl _)
  have hl : as.length = l.length := by omega
  have hzl : (as.map Value.ref).length ≤ sizeLine := by rw [List.length_map, sizeLine_eq]; omega
  refine wpAny_bind (wpAny_newList ?_ hzl)
  have hoL : (h'.push (seqObj "list" (as.map Value.ref).toArray 0)).get? h'.objs.size = some (seqObj "list" (as.map Value.ref).toArray 0) := Heap.get?_push_size _ rfl
  obtain ⟨z1, z2, z3⟩ := paired_zip rps
  have rv : Vals (as.map V.ref) (as.map Value.ref) := by
    have : ∀ as : List Addr, Vals (as.map V.ref) (as.map Value.ref) := fun as => by
      induction as with
      | nil => exact .nil
      | cons a as ih => exact .cons rfl ih
    exact this as
  have e0 : Vals (((as.map V.ref).zip (l.map itemT)).map (·.1)) (as.map Value.ref) := by rw [z1]; exact rv
  have e1 := each_vals e0
  have er : PySem.W.EachIs (fun v (b : V × T) => ∃ bs, Reads (h'.push (seqObj "list" (as.map Value.ref).toArray 0)) v b.2 bs ∧ h'.objs.size ∉ bs) (as.map Value.ref) ((as.map V.ref).zip (l.map itemT)) := each_reads e1 fun p m u ru => by
    obtain ⟨cs, q, _⟩ := z3 p m
    obtain ⟨bs, rd⟩ := RV.reads I2 q ru
    refine ⟨bs, Reads.keeps (fun b o e => Heap.get?_push_of_some _ e) rd, fun m => ?_⟩
    obtain ⟨o, e⟩ := PyProof.On.reads_mem_get rd _ m
    exact absurd (Heap.lt_size e) (Nat.lt_irrefl _)
  have hl2 : ((as.map V.ref).zip (l.map itemT)).length = l.length := by rw [List.length_zip, List.length_map, List.length_map]; omega
  refine wpAny_bind (wpAny_holding (PySem.W.list_sort_data (enc := fun p : V × T => p.2) (bs := (as.map V.ref).zip (l.map itemT)) (s := { s with heap := h'.push (seqObj "list" (as.map Value.ref).toArray 0), toks := tk }) hoL e1 er (by rw [z2]; exact hal) (by rw [z2]; exact hk) (by rw [hl2, sizeLine_eq]; omega) (fun b m => ?_) fun out ho eo => ?_))
  · have := hd b.2 (by rw [← z2]; exact List.mem_map_of_mem m)
    show X.A.units + 1 + 1 + b.2.depth < cLine
    omega
  · obtain ⟨c, hc2⟩ := sortedHeap_at (vs := as.map Value.ref) (out := out.toArray) hoL
    have vo := vals_each eo
    have pm := List.mergeSort_perm ((as.map V.ref).zip (l.map itemT)) (PySem.W.dataLe false fun p : V × T => p.2)
    have hlen : ((((as.map V.ref).zip (l.map itemT)).mergeSort (PySem.W.dataLe false fun p : V × T => p.2)).map (·.1)).length ≤ sizeLine := by
      rw [List.length_map, pm.length_eq, hl2, sizeLine_eq]; omega
    have pr3 : Pres H2 (upd H2 h'.objs.size (.lst ((((as.map V.ref).zip (l.map itemT)).mergeSort (PySem.W.dataLe false fun p : V × T => p.2)).map (·.1)))) := Pres.upd fr
    refine wpAny_pure ⟨_, rfl, .ref h'.objs.size, upd H2 h'.objs.size (.lst ((((as.map V.ref).zip (l.map itemT)).mergeSort (PySem.W.dataLe false fun p : V × T => p.2)).map (·.1))), I2.laid (t' := tk) (fun b u e => ?_) (Nat.le_refl _) ⟨hlen, out, c, vo, hc2⟩, rfl, q _ _ _ (pr2.trans pr3) ?_ upd_same ?_⟩
    · have hlt := Heap.lt_size e
      show (sortedHeap (h'.push (seqObj "list" (as.map Value.ref).toArray 0)) h'.objs.size (as.map Value.ref) out.toArray).get? b = some u
      rw [sortedHeap_old (Nat.ne_of_lt hlt) (by rw [size_push']; exact Nat.lt_succ_of_lt hlt)]
      exact Heap.get?_push_of_some _ e
    · cases e : H h'.objs.size with
      | none => rfl
      | some u =>
        rw [pr2 _ u e] at fr
        cases fr
    · have : RPs X.K (upd H2 h'.objs.size (.lst ((((as.map V.ref).zip (l.map itemT)).mergeSort (PySem.W.dataLe false fun p : V × T => p.2)).map (·.1)))) (Or1 F [h'.objs.size]) ((((as.map V.ref).zip (l.map itemT)).mergeSort (PySem.W.dataLe false fun p : V × T => p.2)).map (·.1)) ((((as.map V.ref).zip (l.map itemT)).mergeSort (PySem.W.dataLe false fun p : V × T => p.2)).map (·.2)) := paired_of fun p m => ((z3 p (pm.mem_iff.mp m)).grow fun a z => z.imp (fun q => q) fun m => by rw [List.mem_singleton.mp m]; exact fr).pres pr3
      rw [sort_snd, z2] at this
      exact this
def tSortI (j : Nat) : XT := fun ρ Q => ∃ l, ρ[j]? = some (some (.dct l)) ∧ PySem.W.AllAlike (l.map itemT) ∧ PySem.W.Sortable (l.map itemT) ∧ (∀ t ∈ l.map itemT, t.depth ≤ 100) ∧ l.length ≤ 1000000 ∧ Q (.val (.lst ((l.map itemT).mergeSort dLe))) ρ
theorem ex_sortItems {x : Str} {p px apos cpos pos : Pos} (j : Nat) (hc : X.calm = true) (hu : X.A.units + 200 < cLine) (hN : X.N[j]? = some x) (hg : Gl X "sorted") (hm : X.mg "sorted" = none) (hb : bootBuiltins "sorted" = some (.builtin "sorted"))
    (he : starEach [.Call (.Attribute (.Name x px) "items" apos) [] [] cpos] X.env = (false, eval (.Call (.Attribute (.Name x px) "items" apos) [] [] cpos) X.env) :: starEach [] X.env := by rfl)
    (hbase : attributeBase (.Name x px) "items" X.env (eval (.Name x px) X.env) = eval (.Name x px) X.env := by rfl) (hline : (apos.endLine == cpos.line) = true := by rfl)
    (hv : Vis X.env.scope x := by first | exact Or.inl rfl | exact Or.inr (Or.inl rfl) | exact Or.inr (Or.inr rfl)) (hd : (x == ("__debug__" : Str)) = false := by decide) (hcd : (x == ("__classdict__" : Str)) = false := by decide) :
    EX X (.Call (.Name "sorted" p) [.Call (.Attribute (.Name x px) "items" apos) [] [] cpos] [] pos) (tSortI j) := by
  refine ⟨PE.imp (pe_callB (cr_sortI hc hu) hg hm hb (pa_cons (pe_itV (pe_var hN hv hd hcd) hbase hline) pa_nil he) (by decide) (by decide) he (by rfl)) ?_⟩
  rintro σ H Q ⟨ρ, fp, G, Qa, R, ⟨l, e, hal, hk, hd, hz, h⟩, fin⟩
  obtain ⟨a, kvs, hv0, f0, h0, r0⟩ := R.dctE e
  refine ⟨.ref a, hv0, a, kvs, rfl, .inl h0, fun p np => ⟨p, a, kvs, l, Or1 (Fo fp) G, rfl, upd_same, ?_, ?_, hal, hk, hd, hz, fun r ws H3 pr nr hr rs => ?_⟩⟩
  · have ne : a ≠ p := fun z => by rw [z, np] at h0; cases h0
    exact .inl (by rw [upd_ne ne]; exact h0)
  · exact Paired.mapP r0 fun _ _ z => ⟨z.1, z.2.pres (Pres.upd np)⟩
  · have hrn : H r = none := by
      cases e2 : H r with
      | none => rfl
      | some u => rw [Pres.upd np r u e2] at nr; cases nr
    refine (fin_of (G := G) R (fun a m => m) Ext.refl fin) (.ref r) (.lst _) [r] H3 ((Pres.upd np).trans pr) ⟨r, ws, rfl, rfl, hr, ?_⟩ (fun a m => by rw [List.mem_singleton.mp m]; exact hrn) (by simp) h
    exact RPs.weak rs fun a z => z
end
end DL
set_option Elab.async false
set_option linter.all false
set_option maxRecDepth 100000
set_option maxHeartbeats 4000000
/-! THE DATA LAYER, part 80: list(zip(a, b)) of two lists (printed by mkzipl.py from parts 38 and 77). -/
namespace DL.ZL
open DL PySem PySem.Spec L2 RZ
open PyProof.Rows hiding St
/-- a zip of two lists at turn k; d: what is filled meanwhile -/
structure ZS (d z TI TO i1 i2 l1 l2 : Addr) (xs ys : Array Value) (k : Nat) (h : Heap) : Prop where
  ti : IsPair h TI (.ref i1) (.ref i2)
  n1 : h.IsListIter i1 l1 k
  n2 : h.IsListIter i2 l2 k
  t1 : h.IsList l1 xs
  t2 : h.IsList l2 ys
  out : (IsZip h z TI TO .none ∧ ∃ a b, IsPair h TO a b) ∨ ∃ T f oT, IsZipHeld h z TI TO T f ∧ h.get? T = some oT ∧ T ≠ z ∧ T ≠ i1 ∧ T ≠ i2 ∧ T ≠ d
section
variable {prog : Program} {w : World} {A : Around} {E : Value → Shared → Prop} {s : Shared} {d z TI TO i1 i2 l1 l2 : Addr} {xs ys : Array Value} {k : Nat} {h h' : Heap}
theorem ZS.frame (st : ZS d z TI TO i1 i2 l1 l2 xs ys k h) (hd : d ∉ [z, TI, TO, i1, i2, l1, l2]) (kp : ∀ b o, b ≠ d → h.get? b = some o → h'.get? b = some o) : ZS d z TI TO i1 i2 l1 l2 xs ys k h' := by
  simp only [List.mem_cons, List.not_mem_nil, or_false, not_or] at hd
  obtain ⟨dz, dTI, dTO, d1, d2, dl1, dl2⟩ := hd
  refine ⟨kp _ _ (Ne.symm dTI) st.ti, st.n1.at fun o e => kp _ o (Ne.symm d1) e, st.n2.at fun o e => kp _ o (Ne.symm d2) e, st.t1.at fun o e => kp _ o (Ne.symm dl1) e, st.t2.at fun o e => kp _ o (Ne.symm dl2) e, ?_⟩
  rcases st.out with ⟨h1, a, b, h2⟩ | ⟨T, f, oT, h1, h2, q1, q2, q3, q4⟩
  · exact .inl ⟨kp _ _ (Ne.symm dz) h1, a, b, kp _ _ (Ne.symm dTO) h2⟩
  · exact .inr ⟨T, f, oT, kp _ _ (Ne.symm dz) h1, kp _ _ q4 h2, q1, q2, q3, q4⟩
theorem zheld_item {T : Addr} {f : Bool} {oT : Obj} {x y : Value} {Q : Value → Shared → Prop} (D : ZipApart z TI TO i1 i2 l1 l2)
    (hz : IsZipHeld s.heap z TI TO T f) (hT : s.heap.get? T = some oT) (hTI : IsPair s.heap TI (.ref i1) (.ref i2))
    (h1 : s.heap.IsListIter i1 l1 k) (h2 : s.heap.IsListIter i2 l2 k) (hl1 : s.heap.IsList l1 xs) (hl2 : s.heap.IsList l2 ys) (hx : xs[k]? = some x) (hy : ys[k]? = some y)
    (hQ : ∀ h', IsZipHeld h' z TI TO T true → h'.IsListIter i1 l1 (k + 1) → h'.IsListIter i2 l2 (k + 1) → IsPair h' s.heap.objs.size x y → h'.objs.size = s.heap.objs.size + 1 →
      (∀ c o, c ≠ z → c ≠ i1 → c ≠ i2 → s.heap.get? c = some o → h'.get? c = some o) → Q (.ref s.heap.objs.size) { s with heap := h' }) :
    wpAny (model prog w) A (Builtin.«zip.__next__» ⟨[.ref z], []⟩) (fun fin s' => ∃ v, fin = .done (.ret v) ∧ Q v s') E s := by
  show wpAny _ _ (field (.ref z) 2 >>= _) _ _ _
  refine wpAny_bind (wpAny_field (x := .bool false) hz rfl rfl ?_)
  show wpAny _ _ (field (.ref z) 3 >>= _) _ _ _
  refine wpAny_bind (wpAny_field (x := .ref TI) hz rfl rfl ?_)
  refine wpAny_bind (wpAny_seqItems (s := s) hTI rfl ?_)
  show wpAny _ _ (Builtin.SmallTypes.ownedTupleIsFree (.ref z) >>= _) _ _ _
  refine wpAny_bind (wpAny_tupleHeld_zip (oT := oT) hz hT fun g1 hz1 e1 => ?_)
  simp only [Bool.false_eq_true, if_false]
  refine wpAny_bind ?_
  rw [← Array.forIn_toList]
  simp only [List.forIn_cons, List.forIn_nil]
  refine wpAny_bind (wpAny_bind (wpAny_holding ?_))
  show wpAny _ _ (Builtin.SmallTypes.nextOf (.ref i1) >>= _) _ _ _
  refine wpAny_bind (wpAny_nextOf_list_item (s := { s with heap := g1 }) (x := x) (h1.extBut e1.extBut D.i1z) (hl1.extBut e1.extBut D.l1z) hx fun g2 n2 e2 => wpAny_pure ?_)
  refine wpAny_pure ?_
  refine wpAny_bind (wpAny_bind (wpAny_holding ?_))
  show wpAny _ _ (Builtin.SmallTypes.nextOf (.ref i2) >>= _) _ _ _
  refine wpAny_bind (wpAny_nextOf_list_item (s := { s with heap := g2 }) (x := y) ((h2.extBut e1.extBut D.i2z).extBut e2.extBut D.i12.symm) ((hl2.extBut e1.extBut D.l2z).extBut e2.extBut D.l2i1) hy fun g3 n3 e3 => wpAny_pure ?_)
  refine wpAny_pure (wpAny_pure ?_)
  show wpAny _ _ (newTuple [x, y] >>= _) _ _ _
  refine wpAny_bind (wpAny_newTuple ?_)
  have sz : g3.objs.size = s.heap.objs.size := by rw [e3.1, e2.1, e1.1]
  have hz3 : IsZipHeld g3 z TI TO T true := e3.extBut _ _ D.i2z.symm (e2.extBut _ _ D.i1z.symm hz1)
  have kp : ∀ c o, c ≠ z → c ≠ i1 → c ≠ i2 → s.heap.get? c = some o → g3.get? c = some o := fun c o c1 c2 c3 e => e3.extBut _ _ c3 (e2.extBut _ _ c2 (e1.extBut _ _ c1 e))
  have n4 : g3.IsListIter i1 l1 (k + 1) := n2.extBut e3.extBut D.i12
  refine wpAny_pure ⟨_, rfl, ?_⟩
  show Q (.ref g3.objs.size) _
  have hp : IsPair (g3.push { cls := .type "tuple", data := .seq #[x, y] }) g3.objs.size x y := Heap.get?_push_size _ rfl
  have s4 : (g3.push { cls := .type "tuple", data := .seq #[x, y] }).objs.size = g3.objs.size + 1 := Heap.size_push ..
  rw [sz] at hp s4 ⊢
  exact hQ _ (Heap.get?_push_of_some _ hz3) (n4.at fun o e => Heap.get?_push_of_some _ e) (n3.at fun o e => Heap.get?_push_of_some _ e) hp s4 fun c o c1 c2 c3 e => Heap.get?_push_of_some _ (kp c o c1 c2 c3 e)
theorem zheld_end {T : Addr} {f : Bool} {oT : Obj} {Q : Fin → Shared → Prop} (hh : A.handled = none) (D : ZipApart z TI TO i1 i2 l1 l2)
    (hz : IsZipHeld s.heap z TI TO T f) (hT : s.heap.get? T = some oT) (hTI : IsPair s.heap TI (.ref i1) (.ref i2))
    (h1 : s.heap.IsListIter i1 l1 k) (h2 : s.heap.IsListIter i2 l2 k) (hl1 : s.heap.IsList l1 xs) (hl2 : s.heap.IsList l2 ys) (hend : xs[k]? = none ∨ ys[k]? = none)
    (hE : ∀ h' e, (∀ c o, c ≠ z → c ≠ i1 → c ≠ i2 → s.heap.get? c = some o → h'.get? c = some o) → (∃ o, h'.get? e = some o ∧ o.cls = .type "StopIteration") → E (.ref e) { s with heap := h' }) :
    wpAny (model prog w) A (Builtin.«zip.__next__» ⟨[.ref z], []⟩) Q E s := by
  show wpAny _ _ (field (.ref z) 2 >>= _) _ _ _
  refine wpAny_bind (wpAny_field (x := .bool false) hz rfl rfl ?_)
  show wpAny _ _ (field (.ref z) 3 >>= _) _ _ _
  refine wpAny_bind (wpAny_field (x := .ref TI) hz rfl rfl ?_)
  refine wpAny_bind (wpAny_seqItems (s := s) hTI rfl ?_)
  show wpAny _ _ (Builtin.SmallTypes.ownedTupleIsFree (.ref z) >>= _) _ _ _
  refine wpAny_bind (wpAny_tupleHeld_zip (oT := oT) hz hT fun g1 hz1 e1 => ?_)
  simp only [Bool.false_eq_true, if_false]
  refine wpAny_bind ?_
  rw [← Array.forIn_toList]
  simp only [List.forIn_cons, List.forIn_nil]
  refine wpAny_bind (wpAny_bind (wpAny_holding ?_))
  show wpAny _ _ (Builtin.SmallTypes.nextOf (.ref i1) >>= _) _ _ _
  cases hx : xs[k]? with
  | none =>
    refine wpAny_bind (wpAny_nextOf_list_end (s := { s with heap := g1 }) hh (h1.extBut e1.extBut D.i1z) (hl1.extBut e1.extBut D.l1z) hx fun g2 e e2 he => ?_)
    exact hE g2 e (fun c o c1 c2 _ x => e2 _ _ c2 (e1.extBut _ _ c1 x)) he
  | some x =>
    have hy : ys[k]? = none := by rcases hend with q | q; rw [hx] at q; cases q; exact q
    refine wpAny_bind (wpAny_nextOf_list_item (s := { s with heap := g1 }) (x := x) (h1.extBut e1.extBut D.i1z) (hl1.extBut e1.extBut D.l1z) hx fun g2 n2 e2 => wpAny_pure ?_)
    refine wpAny_pure ?_
    refine wpAny_bind (wpAny_bind (wpAny_holding ?_))
    show wpAny _ _ (Builtin.SmallTypes.nextOf (.ref i2) >>= _) _ _ _
    refine wpAny_bind (wpAny_nextOf_list_end (s := { s with heap := g2 }) hh ((h2.extBut e1.extBut D.i2z).extBut e2.extBut D.i12.symm) ((hl2.extBut e1.extBut D.l2z).extBut e2.extBut D.l2i1) hy fun g3 e e3 he => ?_)
    exact hE g3 e (fun c o c1 c2 c3 x => e3 _ _ c3 (e2.extBut _ _ c2 (e1.extBut _ _ c1 x))) he
/-- a turn -/
theorem ZS.item {x y : Value} {Q : Option Value → Shared → Prop} (D : ZipApart z TI TO i1 i2 l1 l2) (st : ZS d z TI TO i1 i2 l1 l2 xs ys k s.heap) (hd : d < s.heap.objs.size) (hx : xs[k]? = some x) (hy : ys[k]? = some y)
    (hQ : ∀ h', ZS d z TI TO i1 i2 l1 l2 xs ys (k + 1) h' → IsPair h' s.heap.objs.size x y → (∀ c o, c ∉ [z, TO, i1, i2] → s.heap.get? c = some o → h'.get? c = some o) → Q (some (.ref s.heap.objs.size)) { s with heap := h' }) :
    wpAny (model prog w) A (pyNext (.ref z)) Q E s := by
  have ne : ∀ {c o}, s.heap.get? c = some o → s.heap.objs.size ≠ c := fun e => Nat.ne_of_gt (Heap.lt_size e)
  have m1 : s.heap.objs.size ≠ i1 := let ⟨_, e, _⟩ := st.n1; ne e
  have m2 : s.heap.objs.size ≠ i2 := let ⟨_, e, _⟩ := st.n2; ne e
  rcases st.out with ⟨hz, a, b, hTO⟩ | ⟨T, f, oT, hz, hT, q1, q2, q3, q4⟩
  · refine wpAny_pyNext_zip_item D hz st.ti hTO st.n1 st.n2 st.t1 st.t2 hx hy fun g a1 a2 a3 a4 a5 a6 kp => hQ g ⟨kp _ _ D.TIz D.TITO D.TIi1 D.TIi2 st.ti, a3, a4, ?_, ?_, .inr ⟨_, false, _, a1, a5, ne hz, m1, m2, Nat.ne_of_gt hd⟩⟩ a5 fun c o hc e => ?_
    · exact st.t1.at fun o e => kp _ o D.l1z D.l1TO D.l1i1 D.l1i2 e
    · exact st.t2.at fun o e => kp _ o D.l2z D.l2TO D.l2i1 D.l2i2 e
    · exact kp c o (fun q => hc (by simp [q])) (fun q => hc (by simp [q])) (fun q => hc (by simp [q])) (fun q => hc (by simp [q])) e
  · have hTy : s.TypeIs (.ref z) "zip" := ⟨_, hz, rfl⟩
    unfold pyNext
    refine wpAny_bind (wpAny_attempt (wpAny_callSpecial?_slot (name := "__next__") hTy F.slot_zip_next (wpAny_call_entry F.slot_zip_next hTy F.entry_zip_next (zheld_item D hz hT st.ti st.n1 st.n2 st.t1 st.t2 hx hy fun g a1 a3 a4 a5 a6 kp => wpAny_pure (hQ g ⟨kp _ _ D.TIz D.TIi1 D.TIi2 st.ti, a3, a4, ?_, ?_, .inr ⟨T, true, oT, a1, kp _ _ q1 q2 q3 hT, q1, q2, q3, q4⟩⟩ a5 fun c o hc e => ?_)) (F.args_zip_next_1 _))))
    · exact st.t1.at fun o e => kp _ o D.l1z D.l1i1 D.l1i2 e
    · exact st.t2.at fun o e => kp _ o D.l2z D.l2i1 D.l2i2 e
    · exact kp c o (fun q => hc (by simp [q])) (fun q => hc (by simp [q])) (fun q => hc (by simp [q])) e
theorem ZS.done {Q : Option Value → Shared → Prop} (hh : A.handled = none) (D : ZipApart z TI TO i1 i2 l1 l2) (st : ZS d z TI TO i1 i2 l1 l2 xs ys k s.heap) (hend : xs[k]? = none ∨ ys[k]? = none)
    (hQ : ∀ h', (∀ c o, c ∉ [z, TO, i1, i2] → s.heap.get? c = some o → h'.get? c = some o) → Q none { s with heap := h' }) : wpAny (model prog w) A (pyNext (.ref z)) Q E s := by
  rcases st.out with ⟨hz, a, b, hTO⟩ | ⟨T, f, oT, hz, hT, q1, q2, q3, q4⟩
  · exact wpAny_pyNext_zip_end hh D hz st.ti hTO st.n1 st.n2 st.t1 st.t2 hend fun g kp => hQ g fun c o hc e => kp c o (fun q => hc (by simp [q])) (fun q => hc (by simp [q])) (fun q => hc (by simp [q])) (fun q => hc (by simp [q])) e
  · have hTy : s.TypeIs (.ref z) "zip" := ⟨_, hz, rfl⟩
    unfold pyNext
    refine wpAny_bind (wpAny_attempt (wpAny_callSpecial?_slot (name := "__next__") hTy F.slot_zip_next (wpAny_call_entry F.slot_zip_next hTy F.entry_zip_next (zheld_end hh D hz hT st.ti st.n1 st.n2 st.t1 st.t2 hend fun g e kp he => ?_) (F.args_zip_next_1 _))))
    obtain ⟨o, ho, hc⟩ := he
    refine wpAny_bind (wpAny_isInstance (T := "StopIteration") (b := true) ⟨o, ho, hc⟩ isSubtype_stop ?_)
    exact wpAny_pure (hQ _ fun c o hc e => kp c o (fun q => hc (by simp [q])) (fun q => hc (by simp [q])) (fun q => hc (by simp [q])) e)
end
section
variable {prog : Program} {w : World} {A : Around} {E : Value → Shared → Prop} {s : Shared} {S z TI TO i1 i2 l1 l2 : Addr} {xs ys : Array Value} {k : Nat} {h h' : Heap}
theorem ext_loopZ {R : Result → Shared → Prop} {lo : Nat} {res : Value} (hh : A.handled = none) (D : ZipApart z TI TO i1 i2 l1 l2) (hn : min xs.size ys.size ≤ sizeLine) (hS : S ∉ [z, TI, TO, i1, i2, l1, l2]) (hlo : ∀ c ∈ [S, z, TO, i1, i2], c < lo) :
    ∀ (m i : Nat) (s : Shared) (acc : Array Value) (c : Nat), min xs.size ys.size - i = m → i ≤ min xs.size ys.size → ZS S z TI TO i1 i2 l1 l2 xs ys i s.heap → s.heap.get? S = some (lstObj acc c) → lo ≤ s.heap.objs.size → PrAt s.heap xs ys lo acc i → Asc acc →
    (∀ h' acc' c', h'.get? S = some (lstObj acc' c') → PrAt h' xs ys lo acc' (min xs.size ys.size) → Asc acc' → (∀ b o, b ∉ [S, z, TO, i1, i2] → s.heap.get? b = some o → h'.get? b = some o) → R (.ok (.ret res)) { s with heap := h' }) →
    codeAny (model prog w) A (.builtin "list.extend.loop" ⟨[.ref S, .ref z, res], []⟩) R s := by
  have hSw : S ∉ [z, TO, i1, i2] := sub47 hS
  intro m
  induction m with
  | zero =>
    intro i s acc c hm hi st hL _ hp ha hR
    obtain rfl : i = min xs.size ys.size := by omega
    refine codeAny_builtin F.entry_extend_loop ?_
    rw [Around.under_plainId F.plain_extend_loop _]
    show wpAny _ A.in1 (pyNext (.ref z) >>= _) _ _ s
    refine wpAny_bind (st.done hh D (ends_min xs ys) fun g kp => ?_)
    exact wpAny_pure (hR g acc c (kp S _ hSw hL) (hp.keep fun b o le e => kp b o (fun q => absurd (hlo b (List.mem_cons_of_mem _ q)) (Nat.not_lt.mpr le)) e) ha fun b o hb e => kp b o (fun q => hb (List.mem_cons_of_mem _ q)) e)
  | succ m ih =>
    intro i s acc c hm hi st hL hsz hp ha hR
    have hSl : S < s.heap.objs.size := Heap.lt_size hL
    have ix : i < xs.size := by omega
    have iy : i < ys.size := by omega
    have ex := Array.getElem?_eq_getElem ix
    have ey := Array.getElem?_eq_getElem iy
    refine codeAny_builtin F.entry_extend_loop ?_
    rw [Around.under_plainId F.plain_extend_loop _]
    show wpAny _ A.in1 (pyNext (.ref z) >>= _) _ _ s
    refine wpAny_bind (st.item D hSl ex ey fun g st' hpr kp => ?_)
    have hLg := kp S _ hSw hL
    show wpAny _ A.in1 (updateSeq S (·.push (.ref s.heap.objs.size)) >>= _) _ _ _
    refine wpAny_bind ?_
    have up : ∀ b o, b ≠ S → g.get? b = some o → (g.update S (Obj.mapSeq (·.push (Value.ref s.heap.objs.size)))).get? b = some o := fun b o hb e => (Heap.get?_update_other _ _ (Ne.symm hb)).trans e
    refine wpAny_updateSeq (s := { s with heap := g }) hLg rfl (wpAny_pure ⟨plainId_quiet F.plain_extend_loop _, ih (i + 1) _ (acc.push (.ref s.heap.objs.size)) _ (by omega) (by omega) (st'.frame hS up) (Heap.get?_update_self _ hLg rfl) ?_ ?_ ?_ fun g2 acc' c' q1 q2 q2a q3 => ?_⟩)
      (by rw [hp.1]; omega) (by show (acc.push _).size ≤ sizeLine + 1; rw [Array.size_push, hp.1]; omega)
    · have := Heap.lt_size (up _ _ (Nat.ne_of_gt hSl) hpr)
      exact Nat.le_of_lt (Nat.lt_of_le_of_lt hsz this)
    · exact (((hp.keep fun b o le e => kp b o (fun q => absurd (hlo b (List.mem_cons_of_mem _ q)) (Nat.not_lt.mpr le)) e).push ex ey hpr hsz).keep fun b o le e => up b o (fun q => absurd (hlo S List.mem_cons_self) (Nat.not_lt.mpr (q ▸ le))) e)
    · refine ha.push fun a Ta ea => ?_
      have ha2 : a < i := by have := (Array.getElem?_eq_some_iff.mp ea).1; rw [hp.1] at this; exact this
      obtain ⟨T, x, y, a1, _, _, a4, _⟩ := hp.2 a ha2
      rw [a1] at ea
      cases ea
      exact Heap.lt_size a4
    · exact hR g2 acc' c' q1 q2 q2a fun b o hb e => q3 b o hb (up b o (fun q => hb (by simp [q])) (kp b o (fun q => hb (List.mem_cons_of_mem _ q)) e))
/-- list(z), z a zip of two lists -/
theorem call_listZ {Q : Value → Shared → Prop} (hh : A.handled = none) (D : ZipApart z TI TO i1 i2 l1 l2) (hn : min xs.size ys.size ≤ sizeLine) (hz : IsZip s.heap z TI TO .none) (hTI : IsPair s.heap TI (.ref i1) (.ref i2)) (hTO : ∃ a b, IsPair s.heap TO a b) (n1 : s.heap.IsListIter i1 l1 0) (n2 : s.heap.IsListIter i2 l2 0) (t1 : s.heap.IsList l1 xs) (t2 : s.heap.IsList l2 ys)
    (hQ : ∀ h' acc c, h'.get? s.heap.objs.size = some (lstObj acc c) → PrAt h' xs ys (s.heap.objs.size + 1) acc (min xs.size ys.size) → Asc acc → (∀ b o, b ∉ [z, TO, i1, i2] → s.heap.get? b = some o → h'.get? b = some o) → Q (.ref s.heap.objs.size) { s with heap := h' }) :
    wpAny (model prog w) A (call (.type "list") [.ref z]) Q E s := by
  obtain ⟨ta, tb, hTO⟩ := hTO
  have lt : ∀ {c o}, s.heap.get? c = some o → c < s.heap.objs.size := fun e => Heap.lt_size e
  have b1 := lt hz
  have b2 := lt hTI
  have b3 := lt hTO
  have b4 : i1 < s.heap.objs.size := let ⟨_, e, _⟩ := n1; lt e
  have b5 : i2 < s.heap.objs.size := let ⟨_, e, _⟩ := n2; lt e
  have b6 : l1 < s.heap.objs.size := let ⟨_, e, _⟩ := t1; lt e
  have b7 : l2 < s.heap.objs.size := let ⟨_, e, _⟩ := t2; lt e
  have hS : s.heap.objs.size ∉ [z, TI, TO, i1, i2, l1, l2] := by
    simp only [List.mem_cons, List.not_mem_nil, or_false, not_or]
    exact ⟨Nat.ne_of_gt b1, Nat.ne_of_gt b2, Nat.ne_of_gt b3, Nat.ne_of_gt b4, Nat.ne_of_gt b5, Nat.ne_of_gt b6, Nat.ne_of_gt b7⟩
  refine callType_codes (Q₁ := fun obj s' => obj = .ref s.heap.objs.size ∧ s' = { s with heap := s.heap.push { cls := .type "list", data := .seq #[] } }) F.called_list (F.typeCall_list_1 _) F.entry_list_init (code_list_new _ ⟨rfl, rfl⟩) fun obj s' hs' => ?_
  obtain ⟨rfl, rfl⟩ := hs'
  have g0 : (s.heap.push { cls := .type "list", data := .seq #[] }).get? s.heap.objs.size = some { cls := .type "list", data := .seq #[] } := Heap.get?_push_size _ rfl
  refine ⟨⟨_, g0, rfl⟩, F.args_list_init_2 _ _, ?_⟩
  show wpAny _ A.in1.in1 (Builtin.List.listItems (.ref s.heap.objs.size) >>= fun old => Builtin.List.listUpdate (.ref s.heap.objs.size) (fun _ => #[]) >>= fun _ => letGo old.toList.reverse >>= fun _ => Builtin.List.listExtendWith (.ref s.heap.objs.size) (.ref z) .none) _ _ _
  refine wpAny_bind ?_
  unfold Builtin.List.listItems
  refine wpAny_bind (wpAny_seqItems (s := { s with heap := s.heap.push _ }) g0 rfl (wpAny_pure ?_))
  show wpAny _ A.in1.in1 (updateSeq s.heap.objs.size (fun _ => #[]) >>= fun _ => letGo (#[] : Array Value).toList.reverse >>= fun _ => Builtin.List.listExtendWith (.ref s.heap.objs.size) (.ref z) .none) _ _ _
  refine wpAny_bind (wpAny_updateSeq (s := { s with heap := s.heap.push _ }) g0 rfl ?_)
  have g1 := Heap.get?_update_self (Obj.mapSeq (fun _ => (#[] : Array Value))) g0 rfl
  refine wpAny_bind (wpAny_letGo ?_)
  unfold Builtin.List.listExtendWith
  have up : ∀ (h : Heap) (f : Obj → Obj), (∀ b o, s.heap.get? b = some o → h.get? b = some o) → ∀ b o, s.heap.get? b = some o → (h.update s.heap.objs.size f).get? b = some o := fun h f q b o e =>
    (Heap.get?_update_other _ _ (Ne.symm (Nat.ne_of_lt (lt e)))).trans (q b o e)
  have k1 := up _ (Obj.mapSeq (fun _ => (#[] : Array Value))) fun b o e => Heap.get?_push_of_some { cls := .type "list", data := .seq #[] } e
  have ty : ∀ {h : Heap} {t : Nat}, (∀ b o, s.heap.get? b = some o → h.get? b = some o) → ({ s with heap := h, toks := t } : Shared).TypeIs (.ref z) "zip" := fun {h t} q => ⟨_, q _ _ hz, rfl⟩
  refine wpAny_bind (wpAny_typeOf (ty k1) ?_)
  have c1 : Builtin.List.listSameRef (.ref s.heap.objs.size) (.ref z) = false := by simp [Builtin.List.listSameRef]; exact Nat.ne_of_gt b1
  have c2 : (Value.type "zip" == Value.type "list") = false := by decide
  have c3 : (Value.type "zip" == Value.type "tuple") = false := by decide
  simp only [c1, c2, c3, Bool.or_false, Bool.false_eq_true, if_false]
  refine wpAny_bind (wpAny_pyIter_zip (k1 _ _ hz) ?_)
  refine wpAny_bind (wpAny_holding ?_)
  unfold Builtin.List.listLengthHint
  refine wpAny_bind (wpAny_specialOf (ty k1) nolen_zip ?_)
  show wpAny _ A.in1.in1 (specialOf (Value.ref z) (Str.ofString "__length_hint__") >>= _) _ _ _
  refine wpAny_bind (wpAny_specialOf (ty k1) nohint_zip ?_)
  refine wpAny_pure ?_
  show wpAny _ A.in1.in1 (rule "list.extend.makes-room" >>= fun _ => Builtin.List.listTouch (.ref s.heap.objs.size) >>= fun _ => again (.builtin "list.extend.loop" ⟨[.ref s.heap.objs.size, .ref z, .none], []⟩)) _ _ _
  refine wpAny_bind (wpAny_rule ?_)
  refine wpAny_bind ?_
  show wpAny _ A.in1.in1 (updateSeq s.heap.objs.size (·.push .none) >>= fun _ => updateSeq s.heap.objs.size (·.pop)) _ _ _
  refine wpAny_bind (wpAny_updateSeq (s := { s with heap := _ }) g1 rfl ?_)
  have g2 := Heap.get?_update_self (Obj.mapSeq (·.push Value.none)) g1 rfl
  refine wpAny_updateSeq (hz := by seq_fits) (s := { s with heap := _ }) g2 rfl ?_
  have g3 := Heap.get?_update_self (Obj.mapSeq (·.pop)) g2 rfl
  have k3 := up _ (Obj.mapSeq (·.pop)) (up _ (Obj.mapSeq (·.push Value.none)) k1)
  refine wpAny_pure ⟨plainId_quiet F.plain_extend_loop _, ext_loopZ (lo := s.heap.objs.size + 1) (A := A.in1) (S := s.heap.objs.size) hh D hn hS (fun c m => ?_) _ 0 _ _ _ rfl (Nat.zero_le _) ?_ g3 (Heap.lt_size g3) ⟨rfl, fun j hj => absurd hj (Nat.not_lt_zero _)⟩ (fun a b Ta Tb _ ea _ => by simp at ea) fun h' acc c q1 q2 q2a q3 => ⟨rfl, hQ h' acc c q1 q2 q2a fun b o hb e => q3 b o (fun m => ?_) (k3 b o e)⟩⟩
  · simp only [List.mem_cons, List.not_mem_nil, or_false] at m
    rcases m with rfl | rfl | rfl | rfl | rfl
    · exact Nat.lt_succ_self _
    · exact Nat.lt_succ_of_lt b1
    · exact Nat.lt_succ_of_lt b3
    · exact Nat.lt_succ_of_lt b4
    · exact Nat.lt_succ_of_lt b5
  · exact ⟨k3 _ _ hTI, n1.at fun o e => k3 _ o e, n2.at fun o e => k3 _ o e, t1.at fun o e => k3 _ o e, t2.at fun o e => k3 _ o e, .inl ⟨k3 _ _ hz, ta, tb, k3 _ _ hTO⟩⟩
  · rcases List.mem_cons.mp m with q | q
    · exact Nat.ne_of_lt (lt e) q
    · exact hb q
end
section
variable [Tbs]
variable {X : Cx} {e e2 : Expr} {ta : TA} {p p2 p3 q q3 pos : Pos}
/-- zip(e, e2) of two lists, as it stands -/
theorem zip_eval {pins : List (Addr × Obj)} {s : Shared} {σ : St} {H : Hp} {R : Hp → List V → List V → Prop} (hg : Gl X "zip") (hm : X.mg "zip" = none) (ha : PA X [e, e2] ta) (I : Inv X pins σ H s) (h : ta σ H fun vs H1 => ∃ a b xs ys, vs = [.ref a, .ref b] ∧ SqL X.K H1 a xs ∧ SqL X.K H1 b ys ∧ R H1 xs ys)
    (hs : starEach [e, e2] X.env = (false, eval e X.env) :: starEach [e2] X.env := by rfl) (hpl : (backTo pos (starEach [e2] X.env)).any (·.1) = false := by rfl) :
    wpAny (model X.prog X.w) X.A (eval (.Call (.Name "zip" p) [e, e2] [] pos) X.env) (fun u s2 => ∃ (s1 : Shared) (H1 : Hp) (xs ys : List V) (us vs : List Value) (a b : Addr) (h' : Heap), Inv X pins σ H1 s1 ∧ R H1 xs ys ∧ Vals xs us ∧ Vals ys vs ∧ xs.length ≤ sizeLine ∧ s2 = { s1 with heap := h' } ∧
      u = .ref (s1.heap.objs.size + 4) ∧ ZipApart (s1.heap.objs.size + 4) (s1.heap.objs.size + 2) (s1.heap.objs.size + 3) s1.heap.objs.size (s1.heap.objs.size + 1) a b ∧
      IsZip h' (s1.heap.objs.size + 4) (s1.heap.objs.size + 2) (s1.heap.objs.size + 3) .none ∧ IsPair h' (s1.heap.objs.size + 2) (.ref s1.heap.objs.size) (.ref (s1.heap.objs.size + 1)) ∧ IsPair h' (s1.heap.objs.size + 3) .none .none ∧
      h'.IsListIter s1.heap.objs.size a 0 ∧ h'.IsListIter (s1.heap.objs.size + 1) b 0 ∧ h'.IsList a us.toArray ∧ h'.IsList b vs.toArray ∧ h'.objs.size = s1.heap.objs.size + 5 ∧ ∀ c o, s1.heap.get? c = some o → h'.get? c = some o) X.xe s := by
  refine Call_ (ld_blt I hg hm PyProof.Rows.boot_zip (PyProof.Rows.callWith_type1 (thn (ha.run pos pins s σ H _ I h) fun us s1 ⟨vs, H1, I1, r1, q1⟩ => ?_) hs hpl))
  obtain ⟨a, b, xs, ys, ex, qx, qy, q⟩ := q1
  subst ex
  cases r1 with
  | cons r rr =>
    cases rr with
    | cons r' rr =>
      cases rr
      cases r
      cases r'
      obtain ⟨us, rv, p1, z1⟩ := I1.list qx
      obtain ⟨ws, rw', p2, z2⟩ := I1.list qy
      have la : a < s1.heap.objs.size := p1.lt
      have lb : b < s1.heap.objs.size := p2.lt
      refine call_zip_2 p1.isList p2.isList fun h' hz hTI hTO h1 h2 hsz hk => ⟨s1, H1, xs, ys, us, ws, a, b, h', I1, q, rv, rw', z1, rfl, rfl, ?_, hz, hTI, hTO, h1, h2, Heap.IsList.at p1.isList fun o e => hk _ o e, Heap.IsList.at p2.isList fun o e => hk _ o e, hsz, hk⟩
      exact apart_new la lb
/-- list(zip(e, e2)) -/
def tLZ (K : PySem.W.Frag) (ta : TA) : TE := fun σ H Q => ta σ H fun vs H1 => ∃ a b xs ys, vs = [.ref a, .ref b] ∧ SqL K H1 a xs ∧ SqL K H1 b ys ∧
  ∀ (l : Addr) (Ts : List Addr) (H2 : Hp), Pres H1 H2 → H1 l = none → H2 l = some (.lst (Ts.map V.ref)) → Paired (fun T (p : V × V) => SqP H2 T [p.1, p.2]) Ts (xs.zip ys) → Q (.ref l) H2
theorem pe_listZip (hc : X.calm = true) (hg3 : Gl X "list") (hm3 : X.mg "list" = none) (hg2 : Gl X "zip") (hm2 : X.mg "zip" = none) (ha : PA X [e, e2] ta)
    (hs : starEach [e, e2] X.env = (false, eval e X.env) :: starEach [e2] X.env := by rfl) (hpl : (backTo q (starEach [e2] X.env)).any (·.1) = false := by rfl) (na : starEach [.Call (.Name "zip" p2) [e, e2] [] q] X.env = (false, eval (.Call (.Name "zip" p2) [e, e2] [] q) X.env) :: starEach [] X.env := by rfl) :
    PE X (.Call (.Name "list" p3) [.Call (.Name "zip" p2) [e, e2] [] q] [] q3) (tLZ X.K ta) := by
  refine ⟨fun pins s σ H Q I h => ?_⟩
  refine Call_ (ld_blt I hg3 hm3 boot_list (PyProof.Rows.callWith_type1 (args_cons (thn (zip_eval (R := fun H1 xs ys => ∀ (l : Addr) (Ts : List Addr) (H2 : Hp), Pres H1 H2 → H1 l = none → H2 l = some (.lst (Ts.map V.ref)) → Paired (fun T (p : V × V) => SqP H2 T [p.1, p.2]) Ts (xs.zip ys) → Q (.ref l) H2) hg2 hm2 ha I h hs hpl) fun u s2 g => args_nil ?_) na) na))
  obtain ⟨s1, H1, xs, ys, us, vs, a, b, h', I1, qq, rx, ry, hz, rfl, rfl, D, z1, z2, z3, n1, n2, t1, t2, sz, hk⟩ := g
  have lk : xs.length = us.length := rx.length
  have ly : ys.length = vs.length := ry.length
  have mn : min us.toArray.size vs.toArray.size = min us.length vs.length := zip_min us vs
  refine call_listZ (I1.ok.hd hc) D (by rw [mn]; omega) z1 z2 ⟨_, _, z3⟩ n1 n2 t1 t2 fun h2 acc c hL pr asc kp => ?_
  have hk2 : ∀ b o, s1.heap.get? b = some o → h2.get? b = some o := fun b o e => kp b o (below4 (Heap.lt_size e) (Nat.le_add_right _ _) (Nat.le_add_right _ _) (Nat.le_refl _) (Nat.le_add_right _ _)) (hk b o e)
  have hsz : s1.heap.objs.size ≤ h'.objs.size := by omega
  let tT : Value → Addr := fun v => match v with
    | .ref T => T
    | _ => 0
  let vV : List (V × V) := xs.zip ys
  let uU : List (Value × Value) := us.zip vs
  let Ts : List Addr := acc.toList.map tT
  have al : acc.size = min us.length vs.length := by rw [pr.1, mn]
  have tl : Ts.length = min us.length vs.length := by show (acc.toList.map tT).length = _; rw [List.length_map, Array.length_toList, al]
  have at_ : ∀ j, j < min us.length vs.length → ∃ T x y vx vy, acc[j]? = some (.ref T) ∧ us[j]? = some x ∧ vs[j]? = some y ∧ xs[j]? = some vx ∧ ys[j]? = some vy ∧ RelV vx x ∧ RelV vy y ∧ IsPair h2 T x y ∧ h'.objs.size + 1 ≤ T := fun j hj => by
    obtain ⟨T, x, y, a1, a2, a3, a4, a5⟩ := pr.2 j (by rw [mn]; exact hj)
    rw [List.getElem?_toArray] at a2 a3
    have l1 : j < xs.length := by omega
    have l2 : j < ys.length := by omega
    obtain ⟨x', ex, rx'⟩ := rx.get (List.getElem?_eq_getElem l1)
    obtain ⟨y', ey, ry'⟩ := ry.get (List.getElem?_eq_getElem l2)
    rw [a2] at ex; cases ex
    rw [a3] at ey; cases ey
    exact ⟨T, x, y, _, _, a1, a2, a3, List.getElem?_eq_getElem l1, List.getElem?_eq_getElem l2, rx', ry', a4, a5⟩
  have tsat : ∀ j T, Ts[j]? = some T → acc[j]? = some (.ref T) ∧ j < min us.length vs.length := fun j T e => by
    have lj : j < min us.length vs.length := by rw [← tl]; exact (List.getElem?_eq_some_iff.mp e).1
    obtain ⟨T', _, _, _, _, a1, _⟩ := at_ j lj
    have : Ts[j]? = some T' := by show (acc.toList.map tT)[j]? = _; rw [List.getElem?_map, Array.getElem?_toList, a1]; rfl
    rw [e] at this; cases this
    exact ⟨a1, lj⟩
  let L : List (Addr × HO) := List.zipWith (fun T (p : (V × V) × (Value × Value)) => (T, HO.frz (tupO [p.2.1, p.2.2]) (.tup [p.1.1, p.1.2]))) Ts (vV.zip uU)
  have vl : vV.length = min us.length vs.length := by show (xs.zip ys).length = _; rw [List.length_zip, lk, ly]
  have ul : uU.length = min us.length vs.length := by show (us.zip vs).length = _; rw [List.length_zip]
  have Lm : L.map (·.1) = Ts := by
    refine List.ext_getElem? fun j => ?_
    rw [List.getElem?_map, List.getElem?_zipWith]
    cases e : Ts[j]? with
    | none => rfl
    | some T =>
      have lj := (tsat j T e).2
      rw [List.getElem?_eq_getElem (l := vV.zip uU) (by rw [List.length_zip, vl, ul, Nat.min_self]; exact lj)]
      rfl
  have Lat : ∀ pr2 ∈ L, ∃ T x y vx vy j, pr2 = (T, HO.frz (tupO [x, y]) (.tup [vx, vy])) ∧ Ts[j]? = some T ∧ vV[j]? = some (vx, vy) ∧ RelV vx x ∧ RelV vy y ∧ IsPair h2 T x y ∧ h'.objs.size + 1 ≤ T := fun pr2 m => by
    obtain ⟨j, hj, e⟩ := List.getElem_of_mem m
    have lj : j < min us.length vs.length := by rw [← tl, ← Lm, List.length_map]; exact hj
    obtain ⟨T, x, y, vx, vy, a1, a2, a3, a4, a5, a6, a7, a8, a9⟩ := at_ j lj
    have t1 : Ts[j]? = some T := by show (acc.toList.map tT)[j]? = _; rw [List.getElem?_map, Array.getElem?_toList, a1]; rfl
    have v1 : vV[j]? = some (vx, vy) := zip_look a4 a5
    have u1 : uU[j]? = some (x, y) := zip_look a2 a3
    refine ⟨T, x, y, vx, vy, j, ?_, t1, v1, a6, a7, a8, a9⟩
    have : L[j]? = some (T, HO.frz (tupO [x, y]) (.tup [vx, vy])) := by
      show (List.zipWith _ Ts (vV.zip uU))[j]? = _
      rw [List.getElem?_zipWith, t1, zip_look v1 u1]
    rw [List.getElem?_eq_getElem hj, e] at this
    exact Option.some.inj this
  have Tnd : Ts.Nodup := by
    refine List.pairwise_iff_getElem.mpr fun i j hi hj lt e => ?_
    have q1 := (tsat i _ (List.getElem?_eq_getElem hi)).1
    have q2 := (tsat j _ (List.getElem?_eq_getElem hj)).1
    have := asc i j _ _ lt q1 q2
    rw [e] at this
    exact absurd this (Nat.lt_irrefl _)
  have hl0 : H1 h'.objs.size = none := I1.hok.fresh hsz
  have hlen : Ts.length ≤ sizeLine := by rw [tl]; omega
  have ok1 : HOk X.prog X.w (upd H1 h'.objs.size (.lst (Ts.map V.ref))) h2 := by
    refine I1.hok.laidN hk2 hl0 (show ObjOk X.prog X.w _ _ _ (.lst (Ts.map V.ref)) from ⟨by rw [List.length_map]; exact hlen, acc.toList, c, ?_, by rw [Array.toArray_toList]; exact hL⟩)
    have go : ∀ (l : List Value), (∀ v ∈ l, ∃ T, v = .ref T) → Vals ((l.map tT).map V.ref) l := fun l => by
      induction l with
      | nil => exact fun _ => .nil
      | cons v l ih =>
        intro h
        obtain ⟨T, rfl⟩ := h v List.mem_cons_self
        exact .cons rfl (ih fun v m => h v (List.mem_cons_of_mem _ m))
    refine go _ fun v m => ?_
    obtain ⟨j, hj, ej⟩ := List.getElem_of_mem m
    have lj : j < min us.length vs.length := by rw [← al]; simpa using hj
    obtain ⟨T, _, _, _, _, a1, _⟩ := at_ j lj
    refine ⟨T, ?_⟩
    rw [← Array.getElem?_toList, List.getElem?_eq_getElem hj, ej] at a1
    exact Option.some.inj a1
  have Lnew : ∀ pr2 ∈ L, h'.objs.size + 1 ≤ pr2.1 := fun pr2 m => by
    obtain ⟨T, _, _, _, _, _, rfl, _, _, _, _, _, z⟩ := Lat pr2 m
    exact z
  obtain ⟨ok2, pres2, at2, off2⟩ := upds_spec (P := X.prog) (w := X.w) (h := h2) L _ ok1 (by rw [Lm]; exact Tnd) (fun pr2 m => by
      have z := Lnew pr2 m
      rw [upd_ne (Nat.ne_of_gt (Nat.lt_of_succ_le z))]
      exact I1.hok.fresh (Nat.le_trans hsz (Nat.le_of_lt (Nat.lt_of_succ_le z)))) fun pr2 m H' => by
    obtain ⟨T, x, y, vx, vy, j, rfl, _, _, r1, r2, r3, _⟩ := Lat pr2 m
    exact ⟨r3, by show 2 ≤ sizeLine; decide, [x, y], .cons r1 (.cons r2 .nil), ⟨_, r3, rfl, _, rfl⟩⟩
  have presA : Pres H1 (upds (upd H1 h'.objs.size (.lst (Ts.map V.ref))) L) := (Pres.upd hl0).trans pres2
  have lOff : h'.objs.size ∉ L.map (·.1) := fun m => by
    obtain ⟨pr2, m2, e⟩ := List.mem_map.mp m
    have := Lnew pr2 m2
    rw [e] at this
    exact absurd this (Nat.not_succ_le_self _)
  have U : Un X.fs [] H1 (upds (upd H1 h'.objs.size (.lst (Ts.map V.ref))) L) s1.heap h2 :=
    ⟨fun b o e _ _ _ => hk2 b o e, fun b o e _ _ _ => ⟨o.slots, hk2 b o e⟩, fun b o e n _ => by
        have lb := Heap.lt_size e
        rw [off2 b (fun m => by
          obtain ⟨pr2, m2, e⟩ := List.mem_map.mp m
          have := Lnew pr2 m2
          rw [e] at this
          exact absurd (Nat.lt_of_lt_of_le lb hsz) (Nat.not_lt.mpr (Nat.le_of_lt (Nat.lt_of_succ_le this)))), upd_ne (Nat.ne_of_lt (Nat.lt_of_lt_of_le lb hsz))]
        exact n, fun b o e _ => ⟨o, hk2 b o e⟩, fun b xs e => presA b _ e, fun b o u e => presA b _ e, fun b ps e => ⟨#[], by rw [Array.append_empty]; exact presA b _ e⟩⟩
  refine ⟨.ref h'.objs.size, _, I1.un (t' := s1.toks) U ok2, rfl, qq h'.objs.size Ts _ presA hl0 (by rw [off2 _ lOff, upd_same]) ?_⟩
  have pr3 : ∀ (A : List Addr) (B : List (V × V)), A.length = B.length → (∀ (j : Nat) (T : Addr) (p : V × V), A[j]? = some T → B[j]? = some p → SqP (upds (upd H1 h'.objs.size (.lst (Ts.map V.ref))) L) T [p.1, p.2]) → Paired (fun T (p : V × V) => SqP (upds (upd H1 h'.objs.size (.lst (Ts.map V.ref))) L) T [p.1, p.2]) A B := fun A => by
    induction A with
    | nil =>
      intro B hB _
      cases B with
      | nil => exact .nil
      | cons _ _ => cases hB
    | cons T A ih =>
      intro B hB h
      cases B with
      | nil => cases hB
      | cons p B => exact .cons (h 0 T p rfl rfl) (ih B (by simpa using hB) fun j T p e1 e2 => h (j + 1) T p e1 e2)
  refine pr3 Ts vV (by rw [tl, vl]) fun j T p e1 e2 => ?_
  obtain ⟨a0, lj⟩ := tsat j T e1
  have hjL : j < L.length := by rw [← List.length_map (f := (·.1)), Lm, tl]; exact lj
  have mL := List.getElem_mem hjL
  obtain ⟨T', x, y, vx, vy, j', e3, t3, v3, _, _, _, _⟩ := Lat _ mL
  have eT : T' = T := by
    have : (L.map (·.1))[j]? = some T' := by rw [List.getElem?_map, List.getElem?_eq_getElem hjL, e3]; rfl
    rw [Lm, e1] at this
    exact (Option.some.inj this).symm
  subst eT
  have ej : j' = j := by
    have l1 := (List.getElem?_eq_some_iff.mp t3)
    have l2 := (List.getElem?_eq_some_iff.mp e1)
    obtain ⟨l1, f1⟩ := l1
    obtain ⟨l2, f2⟩ := l2
    exact (List.getElem_inj Tnd).mp (f1.trans f2.symm)
  subst ej
  rw [e2] at v3
  cases v3
  have := at2 _ mL
  rw [e3] at this
  exact SqP.new this
variable [Bas]
variable {X : Cx} {e e2 : Expr} {ts : XTs} {p2 p3 q q3 : Pos}
/-- list(zip(a, b)) of two lists -/
def gListZL : GN := fun os Q => match os with
  | [o1, o2] => match lsO o1, lsO o2 with
    | some ts, some rs => Q (.lst (zipItems ts rs))
    | _, _ => False
  | _ => False
theorem rps_zip {K : PySem.W.Frag} {H H2 : Hp} {F : Addr → Prop} (p : Pres H H2) : ∀ {us us2 : List V} {ts rs : List T} {Ts : List Addr}, RPs K H F us ts → RPs K H F us2 rs → Paired (fun T (p : V × V) => SqP H2 T [p.1, p.2]) Ts (us.zip us2) → RPs K H2 F (Ts.map V.ref) (zipItems ts rs)
  | [], _, _, _, _, .nil, _, h => by
    rw [List.zip_nil_left] at h
    cases h
    exact .nil
  | _ :: _, [], _, _, _, .cons _ _, .nil, h => by
    rw [List.zip_nil_right] at h
    cases h
    exact .nil
  | u :: us, u2 :: us2, _, _, _, .cons r1 t1, .cons r2 t2, h => by
    rw [List.zip_cons_cons] at h
    cases h with
    | cons h1 h2 => exact .cons (RP.tup h1 (.cons (r1.pres p) (.cons (r2.pres p) .nil))) (rps_zip p t1 t2 h2)
theorem lz_go {σ : St} {H : Hp} {Q : VK} (h : LX X.K (tCallB gListZL ts) σ H Q) : tLZ X.K (LA X.K 2 ts) σ H Q := by
  obtain ⟨ρ, fp, G, Qa, R, h, fin⟩ := h
  refine ⟨ρ, fp, G, _, R, h, fun vs ps A H1 ρ1 fp1 hl R1 r1 nd1 ng1 x1 h1 => ?_⟩
  unfold gN at h1
  split at h1
  · rename_i os e1
    have rw1 := getAll_rw R1 r1 e1
    unfold gListZL at h1
    split at h1
    · rename_i o1 o2
      split at h1
      · rename_i ts' rs el1 el2
        cases rw1 with
        | cons g1 rr =>
          cases rr with
          | cons g2 rr =>
            cases rr
            obtain ⟨a, us, rfl, sa, ra⟩ := RW.ls g1 el1
            obtain ⟨b, us2, rfl, sb, rb⟩ := RW.ls g2 el2
            exact ⟨a, b, us, us2, rfl, sa, sb, fun l Ts H2 p hl0 hl2 pr => (fin_of R1 (fun a m => List.mem_append_right _ m) x1.or fin) (.ref l) (.lst (zipItems ts' rs)) [l] H2 p
            ⟨l, _, rfl, rfl, hl2, rps_zip p (Paired.mapP ra fun _ _ r => r.grow fun a z => z.elim .inl fun m => .inr (by rw [List.mem_singleton.mp m]; exact hl0)) (Paired.mapP rb fun _ _ r => r.grow fun a z => z.elim .inl fun m => .inr (by rw [List.mem_singleton.mp m]; exact hl0)) pr⟩ (fun a m => by rw [List.mem_singleton.mp m]; exact hl0) (by simp) h1⟩
      · exact h1.elim
    · exact h1.elim
  · exact h1.elim
theorem ex_listZipL (hc : X.calm = true) (hg3 : Gl X "list") (hm3 : X.mg "list" = none) (hg2 : Gl X "zip") (hm2 : X.mg "zip" = none) (ha : EXs X [e, e2] ts)
    (hs : starEach [e, e2] X.env = (false, eval e X.env) :: starEach [e2] X.env := by rfl) (hpl : (backTo q (starEach [e2] X.env)).any (·.1) = false := by rfl) (na : starEach [.Call (.Name "zip" p2) [e, e2] [] q] X.env = (false, eval (.Call (.Name "zip" p2) [e, e2] [] q) X.env) :: starEach [] X.env := by rfl) :
    EX X (.Call (.Name "list" p3) [.Call (.Name "zip" p2) [e, e2] [] q] [] q3) (tCallB gListZL ts) := ⟨PE.imp (pe_listZip hc hg3 hm3 hg2 hm2 ha.pa hs hpl na) fun _ _ _ h => lz_go h⟩
end
end DL.ZL
set_option Elab.async false
set_option linter.all false
set_option maxRecDepth 100000
set_option maxHeartbeats 4000000
/-! THE DATA LAYER, part 81: sorted(e, key=lambda p: p[0]), sum(e), e.get(k, x) of a dict just made. -/
namespace DL
open PySem PySem.Spec L2
open PyProof.Rows hiding St
/-- the scope of a lambda with one parameter, nothing else -/
structure LamP (a : Str) (scope : Scope) : Prop where
  kind : scope.kind = .function
  co : scope.isCoroutine = false
  gen : scope.isGenerator = false
  own : ∀ y ∈ scope.names, y.2 ≠ .cell ∧ y.2 ≠ .free
  loc : scope.names.lookup a = some .local
def lamPB (a : Str) (scope : Scope) : Bool := decide (scope.kind = .function) && (!scope.isCoroutine && (!scope.isGenerator && ((scope.names.all fun y => !decide (y.2 = .cell) && !decide (y.2 = .free)) && decide (scope.names.lookup a = some .local))))
theorem lamP_by {a : Str} {scope : Scope} (h : lamPB a scope = true) : LamP a scope := by
  unfold lamPB at h
  simp only [Bool.and_eq_true, Bool.not_eq_true', decide_eq_true_eq, decide_eq_false_iff_not, List.all_eq_true] at h
  exact ⟨h.1, h.2.1, h.2.2.1, h.2.2.2.1, h.2.2.2.2⟩
section
variable {prog : Program} {w : World} {A : Around} {s : Shared}
theorem key0_turn {f c' T : Addr} {qual a x : Str} {params : Arguments} {scope : Scope} {cl : List (Str × Addr)} {pm ctv : Value} {items : Array Value} {t : Tok} {p1 p2 p3 : Pos} {kd : Nat} (hroom : A.depth < recursionLimit) (S : LamP a scope)
    (hf : s.heap.get? f = some (PySem.W.kla_obj "<lambda>" qual params (.Subscript (.Name a p1) (.Constant (.int 0) kd p2) p3) scope cl pm c' ctv)) (hcd : s.heap.CodeRec (.ref c') qual) (hno : s.heap.NoLimit)
    (hbind : ∀ u : Value, bindArgs (PySem.W.kla_fn "<lambda>" qual params (.Subscript (.Name a p1) (.Constant (.int 0) kd p2) p3) scope cl pm (.ref c') ctv) ⟨[u], []⟩ = pure [(a, u)])
    (ht : IsTup s.heap T items) (h0 : items[0]? = some (.str x t)) (hd : (a == ("__debug__" : Str)) = false := by decide) : wpAny (model prog w) A (call (.ref f) [.ref T]) (PySem.W.KeyPure (.str x) s) (fun _ _ => False) s := by
  refine wpAny_call (PySem.W.kla_callFunE hroom hf rfl S.co S.gen rfl hcd ?_)
  rw [hbind]
  refine wpAny_pure (wpAny_newFunctionEnv (fun y hy => (S.own y hy).1) (fun y hy => ?_) (fun h₁ hns hsb => ⟨hno.fresh _ hsb, ?_⟩) S.kind)
  · rw [List.mem_singleton.mp hy]; exact S.loc
  · have kp : ∀ b o, s.heap.get? b = some o → h₁.get? b = some o := fun b o e => hsb.extBut b o (Nat.ne_of_lt (Heap.lt_size e)) (Heap.get?_push_of_some _ e)
    refine PySem.W.kla_codeExpr (wpAny_Subscript_Constant_late (wpAny_Name (wpAny_loadName_local S.kind S.loc hns (v := .ref T) (by simp) ?_) hd))
    refine wpAny_Constant_int ⟨"tuple", _, slot_tuple_getitem.lookup, ?_, ?_⟩
    · exact (ht.keeps kp).typeIs
    · have hs : 0 < items.size := (Array.getElem?_eq_some_iff.mp h0).1
      exact PyProof.Rows.getItem_tuple (ht.keeps kp) (by decide) (by decide) (j := 0) (by unfold seqIndex?; simp; exact Array.ne_empty_of_size_pos hs) h0 ⟨h₁, _, rfl, kp, .str x t⟩
end
theorem args_sorted_key (a v : Value) : argsOk "sorted" ⟨[a], [(Str.ofString "key", v)]⟩ := by unfold argsOk; kernel_rfl
theorem args_list_sort_key (a v : Value) : argsOk "list.sort" ⟨[a], [(Str.ofString "key", v)]⟩ := by unfold argsOk; kernel_rfl
theorem sqL_extN {K : PySem.W.Frag} {H H' : Hp} {l : Addr} {xs : List V} (h : SqL K H l xs) (e : LamX.ExtN H H') : SqL K H' l xs := by
  rcases h with (h | ⟨o, h⟩) | h
  · exact .inl (.inl (e _ _ h fun _ z => nomatch z))
  · exact .inl (.inr ⟨o, e _ _ h fun _ z => nomatch z⟩)
  · exact .inr h
variable [Tbs] [Bas]
def tup0 (p : Str × T) : T := .tuple [.str p.1, p.2]
/-- sorted by the first of each, a text -/
def gSortK0 : GN := fun os Q => match os with
  | [o] => match lsO o with
    | some ts => ∃ ps : List (Str × T), ts = ps.map tup0 ∧ ps.length ≤ 1000000 ∧ Q (.lst ((ps.mergeSort fun a b => dLe (.str a.1) (.str b.1)).map tup0))
    | none => False
  | _ => False
section
variable {X : Cx}
theorem ex_sortKey0 {e : Expr} {ts : XTs} {a : Str} {params : Arguments} {scope : Scope} {c P : Addr} {p p1 p2 p3 lpos kpos pos : Pos} {kd k : Nat} (hu : X.A.units + 200 < cLine) (hr : Rm k X.A) (hg : Gl X "sorted") (hm : X.mg "sorted" = none) (hv : bootBuiltins "sorted" = some (.builtin "sorted")) (ha : EXs X [e] ts)
    (LD : LamD X.base X.mg X.env.code (X.env.qual ++ "<lambda>") c P) (S : LamP a scope) (hdef : defaultsOf params X.env = ([], []))
    (hbind : ∀ (q : Str) (cl : List (Str × Addr)) (pm cv ctv u : Value), bindArgs (PySem.W.kla_fn "<lambda>" q params (.Subscript (.Name a p1) (.Constant (.int 0) kd p2) p3) scope cl pm cv ctv) ⟨[u], []⟩ = pure [(a, u)])
    (he : backTo pos (starEach [e] X.env) = (false, eval e X.env) :: backTo pos (starEach [] X.env) := by rfl) (hpl : (backTo pos (starEach [e] X.env)).any (·.1) = false := by rfl) (hd : (a == ("__debug__" : Str)) = false := by decide) :
    EX X (.Call (.Name "sorted" p) [e] [⟨some "key", .Lambda params (.Subscript (.Name a p1) (.Constant (.int 0) kd p2) p3) scope lpos, kpos⟩] pos) (tCallB gSortK0 ts) := by
  refine ⟨⟨fun pins s σ H Q I h => ?_⟩⟩
  obtain ⟨ρ, fp, G, Qa, R, h, fin⟩ := h
  refine wpAny_Call_Name_kw (ld_blt I hg hm hv ?_ (by decide) (by decide))
  refine PyProof.Rows.callWith_kw (thn (ha.pa.run pos pins s σ H (fun vs H1 => ∃ ps A ρ1 fp1, RS X.K σ H1 ρ1 fp1 (A ++ G) ∧ RArgs X.K σ H1 (Or1 (Fo fp1) (A ++ G)) ρ1 vs ps A ∧ Ext H (Fo fp) H1 (Or1 (Fo fp1) A) ∧ gN gSortK0 ρ1 ps fun o => Qa (.val o) ρ1) I ⟨ρ, fp, G, _, R, h, fun vs ps A H1 ρ1 fp1 hl R1 r1 nd1 ng1 x1 h1 => ⟨ps, A, ρ1, fp1, R1, r1, x1, h1⟩⟩) fun us s1 ⟨vs, H1, I1, rv1, ps, A, ρ1, fp1, R1, r1, x1, h1⟩ => ?_) he hpl (by rfl) (by rfl)
  unfold gN at h1
  split at h1
  · rename_i os e1
    have rw1 := getAll_rw R1 r1 e1
    unfold gSortK0 at h1
    split at h1
    · cases rw1 with
      | cons g1 rr =>
        cases rr
        split at h1
        · rename_i ts' el
          obtain ⟨qs, rfl, hz, h1⟩ := h1
          obtain ⟨l, xs, rfl, sq, rp⟩ := RW.ls g1 el
          obtain ⟨u, rfl, rx⟩ := vals1 rv1
          cases rx
          show wpAny _ _ (evalAll [(do let v ← eval (.Lambda params (.Subscript (.Name a p1) (.Constant (.int 0) kd p2) p3) scope lpos) X.env; standAt pos; pure v)]) _ _ s1
          refine wpAny_evalAll_cons (wpAny_bind (lam_make3 I1 LD.tb LD.cd LD.mem LD.one R1.tb hdef (fun y hy e => absurd e (S.own y hy).2) fun f c' pm ctv H2 s2 I2 eN T2 dm hf hfn hfr hco => wpAny_bind (wpAny_standAt (wpAny_pure (wpAny_evalAll_nil ?_)))))
          show wpAny _ _ (call (.builtin "sorted") [.ref l] [(Str.ofString "key", .ref f)]) _ _ s2
          have R2 : RS X.K σ H2 ρ1 fp1 (A ++ G) := by
            have x : Ext H1 (· ∈ ([] : List Addr)) H2 (· ∈ ([] : List Addr)) := ExtN.toExt eN T2 dm
            exact (show RS X.K σ H1 ρ1 fp1 ([] ++ (A ++ G)) from R1).thru x (fun a _ z => nomatch z) fun a m => nomatch m
          have x2 : Ext H1 (Fo fp1) H2 (Fo fp1) := ExtN.toExt eN T2 dm
          have rp2 : RPs X.K H2 (Or1 (Fo fp1) (A ++ G)) xs (qs.map tup0) := RPs.ext (F := Or1 (Fo fp1) (A ++ G)) (ExtN.toExt eN T2 dm) rp
          have sq2 := sqL_extN sq eN
          obtain ⟨its, rv, pl, _⟩ := I2.list sq2
          have lxs : xs.length = qs.length := by have := rp2.length; rw [List.length_map] at this; exact this
          have rq : ∀ (z : V × (Str × T)), z ∈ xs.zip qs → RP X.K H2 (Or1 (Fo fp1) (A ++ G)) z.1 (tup0 z.2) := fun z m => by
            have : ∀ {xs : List V} {qs : List (Str × T)}, RPs X.K H2 (Or1 (Fo fp1) (A ++ G)) xs (qs.map tup0) → ∀ z ∈ xs.zip qs, RP X.K H2 (Or1 (Fo fp1) (A ++ G)) z.1 (tup0 z.2) := fun {xs qs} => by
              induction xs generalizing qs with
              | nil => intro _ z m; simp at m
              | cons x xs ih =>
                intro h z m
                cases qs with
                | nil => simp at m
                | cons q qs =>
                  cases h with
                  | cons h1 h2 =>
                    rw [List.zip_cons_cons] at m
                    rcases List.mem_cons.mp m with rfl | m
                    · exact h1
                    · exact ih h2 z m
            exact this rp2 z m
          have z1 : (xs.zip qs).map (·.1) = xs := by
            rw [List.map_fst_zip]; omega
          have z2 : (xs.zip qs).map (·.2) = qs := by
            rw [List.map_snd_zip]; omega
          have e0 : Vals ((xs.zip qs).map (·.1)) its := by rw [z1]; exact rv
          have e1 := each_vals e0
          have hl2 : (xs.zip qs).length = qs.length := by rw [List.length_zip]; omega
          have hco2 : ∃ (oc : Obj) (vs : Array Value) (t : Tok), s2.heap.get? c' = some oc ∧ oc.data = .fields vs ∧ vs[1]? = some (.str (X.env.qual ++ "<lambda>") t) := (I2.hok c' _ hco).1
          let key : V × (Str × T) → PyData := fun z => .str z.2.1
          refine PySem.W.sorted_key_data (f := .ref f) (kw := [(Str.ofString "key", .ref f)]) (b := false) (bs := xs.zip qs) key pl.isList e1 ?_ ?_ (by rw [hl2, sizeLine_eq]; omega) (fun x m => ?_) (args_sorted_key _ _) (fun x => args_list_sort_key _ _) (fun x => ?_) (fun v x hR hx h tk kp => ?_) fun out c2 h' tk kp hn hget hlen eo => ?_
          · intro d hd d' hd'
            obtain ⟨_, _, rfl⟩ := List.mem_map.mp hd
            obtain ⟨_, _, rfl⟩ := List.mem_map.mp hd'
            rfl
          · exact .inr fun d hd => by
              obtain ⟨_, _, rfl⟩ := List.mem_map.mp hd
              exact ⟨(fun z => nomatch z), fun xs z => nomatch z⟩
          · show X.A.units + 2 + (PyData.str x.2.1).depth < cLine
            simp only [PyData.depth]
            omega
          · exact rfl
          · obtain ⟨T, us, ex, sp, ru⟩ := RP.tupP (rq x hx)
            have hR : RelV x.1 v := hR
            rw [ex] at hR
            cases hR
            cases ru with
            | cons ru1 ru2 =>
              have e3 := RP.strE ru1
              subst e3
              obtain ⟨its2, rv2, pt, _⟩ := I2.tuple sp.t
              cases rv2 with
              | cons h1 h2 =>
                obtain ⟨tk2, rfl⟩ := h1
                obtain ⟨oc, vs, t, e4, e5, e6⟩ := hco2
                exact key0_turn (s := { s2 with heap := h, toks := tk }) (A := X.A.in1.in1) hr.room.depth S (kp _ _ hf) ⟨c', oc, vs, t, rfl, kp _ _ e4, e5, e6⟩ (I2.nolimit.keeps kp) (fun u => hbind _ _ _ _ _ _) (pt.keeps kp) rfl hd
          · have rr := vals_each eo
            have pm := List.mergeSort_perm (xs.zip qs) (PySem.W.dataLe false key)
            have hlen2 : (((xs.zip qs).mergeSort (PySem.W.dataLe false key)).map (·.1)).length ≤ sizeLine := by
              rw [List.length_map, pm.length_eq, hl2, sizeLine_eq]; omega
            have nr : H2 (s2.heap.objs.size + 1) = none := I2.hok.fresh (Nat.le_succ _)
            refine ⟨.ref (s2.heap.objs.size + 1), upd H2 (s2.heap.objs.size + 1) (.lst (((xs.zip qs).mergeSort (PySem.W.dataLe false key)).map (·.1))), I2.laid (t' := tk) kp (Nat.le_succ _) ⟨hlen2, out, c2, rr, hget⟩, rfl, ?_⟩
            refine (fin_of (G := G) R2 (fun a m => List.mem_append_right _ m) (x1.or.trans x2) fin) (.ref (s2.heap.objs.size + 1)) (.lst _) [s2.heap.objs.size + 1] _ (Pres.upd nr) ⟨_, _, rfl, rfl, upd_same, ?_⟩ (fun a m => by rw [List.mem_singleton.mp m]; exact nr) (by simp) h1
            have em : (((xs.zip qs).mergeSort (PySem.W.dataLe false key)).map (·.2)).map tup0 = (qs.mergeSort fun a b => dLe (.str a.1) (.str b.1)).map tup0 := by
              have : ((xs.zip qs).mergeSort (PySem.W.dataLe false key)).map (·.2) = ((xs.zip qs).map (·.2)).mergeSort fun a b => dLe (.str a.1) (.str b.1) := (List.map_mergeSort (f := fun z : V × (Str × T) => z.2) (fun _ _ _ _ => rfl)).symm ▸ rfl
              rw [this, z2]
            rw [← em]
            have go : ∀ L : List (V × (Str × T)), (∀ z ∈ L, z ∈ xs.zip qs) → RPs X.K (upd H2 (s2.heap.objs.size + 1) (.lst (((xs.zip qs).mergeSort (PySem.W.dataLe false key)).map (·.1)))) (Or1 (Or1 (Fo fp1) (A ++ G)) [s2.heap.objs.size + 1]) (L.map (·.1)) ((L.map (·.2)).map tup0) := fun L => by
              induction L with
              | nil => exact fun _ => .nil
              | cons z L ih => exact fun h => .cons (((rq z (h z List.mem_cons_self)).grow fun a y => y.imp (fun q => q) fun m => by rw [List.mem_singleton.mp m]; exact nr).pres (Pres.upd nr)) (ih fun y m => h y (List.mem_cons_of_mem _ m))
            exact go _ fun z m => pm.mem_iff.mp m
        · exact h1.elim
    · exact h1.elim
  · exact h1.elim
/-- sum of a list of ints -/
def gSum : GN := fun os Q => match os with
  | [o] => match lsO o with
    | some ts => ∃ ns : List Int, ts = ns.map PyData.int ∧ Q (.pure (.int ns.sum))
    | none => False
  | _ => False
theorem callA_sum (hc : X.calm = true) : CallA X (.builtin "sum") gSum := ⟨_, cr_sum hc, fun H F vs xs Q Qa hx h fin => by
  unfold gSum at h
  split at h
  · cases hx with
    | cons h1 hr =>
      cases hr
      split at h
      · rename_i ts el
        obtain ⟨ns, rfl, h⟩ := h
        obtain ⟨a, vs, rfl, hq, r2⟩ := RW.ls h1 el
        have e := r2.intsE
        subst e
        exact ⟨a, ns, rfl, hq, FinV.int fin h⟩
      · exact h.elim
  · exact h.elim⟩
theorem bn_sum : bootBuiltins "sum" = some (.builtin "sum") := by decide +kernel
/-- e.get(k, x), e a dict just made -/
def tGetV (te tk td : XT) : XT := fun ρ Q => te ρ fun p ρ1 => ∃ l, p = .val (.dct l) ∧ tk ρ1 fun q ρ2 => td ρ2 fun r ρ3 => ∃ kt k z, q.get ρ3 = some (.pure kt) ∧ DL.keyOf kt = some k ∧ r.get ρ3 = some (.pure z) ∧ Q (.val (.pure ((klook l k).getD z))) ρ3
theorem ex_getV {eo ek ed : Expr} {te tk td : XT} {apos cpos : Pos} (hu : X.A.units + 1 < cLine) (ho : EX X eo te) (hk : EX X ek tk) (hd0 : EX X ed td) (m : M2 X eo "get" apos ek ed cpos) :
    EX X (.Call (.Attribute eo "get" apos) [ek, ed] [] cpos) (tGetV te tk td) := by
  refine ⟨PE.imp (pe_dget2 hu ho.pe hk.pe hd0.pe m) ?_⟩
  rintro σ H Q ⟨ρ, fp, G, Qa, R, h, fin⟩
  refine ⟨ρ, fp, G, _, R, h, fun v p A H1 ρ1 fp1 R1 r1 x1 h1 => ?_⟩
  obtain ⟨l, rfl, h1⟩ := h1
  obtain ⟨⟨a, kvs, rfl, rfl, ha, rk⟩, ndA, ngA⟩ := r1
  have aA : a ∈ [a] := List.mem_singleton.mpr rfl
  refine ⟨a, rfl, .inl ⟨kvs, .inl ha⟩, ρ1, fp1, [a] ++ G, _, R1, h1, fun u q B H2 ρ2 fp2 R2 r2 x2 h2 => ?_⟩
  refine ⟨ρ2, fp2, B ++ ([a] ++ G), _, R2, h2, fun w r C H3 ρ3 fp3 R3 r3 x3 h3 => ?_⟩
  obtain ⟨kt, k, z, e2, ek', e3, h3⟩ := h3
  have n1 : ¬ Fo fp1 a := R1.gf a (List.mem_append_left _ aA)
  have n2 : ¬ Fo fp2 a := R2.gf a (List.mem_append_right _ (List.mem_append_left _ aA))
  have ha2 : H2 a = some (.dK kvs) := x2.keep a _ ha n1 nt_dK
  have ha3 : H3 a = some (.dK kvs) := x3.keep a _ ha2 n2 nt_dK
  have rk2 : PKV X.K H2 (Or1 (Fo fp2) (B ++ ([a] ++ G))) kvs l := Paired.mapP rk fun _ _ z => ⟨z.1, (z.2.ext (x2.addG ([a] ++ G))).weak fun b y => y.elim (fun y => .inl (.inl y)) fun m => (List.mem_append.mp m).elim (fun m => .inl (.inr m)) .inr⟩
  have rk3 : PKV X.K H3 (Or1 (Fo fp3) (C ++ (B ++ ([a] ++ G)))) kvs l := Paired.mapP rk2 fun _ _ z => ⟨z.1, (z.2.ext (x3.addG (B ++ ([a] ++ G)))).weak fun b y => y.elim (fun y => .inl (.inl y)) fun m => (List.mem_append.mp m).elim (fun m => .inl (.inr m)) .inr⟩
  have ev := key_kV (r2.rw R2 x3 R3 e2) ek'
  have rz : RP X.K H3 (Or1 (Fo fp3) (C ++ (B ++ ([a] ++ G)))) w z := r3.rw0 R3 e3
  have xx := (x1.or.trans x2.or).trans x3.or
  have fz := fin_of (G := G) R3 (fun a m => List.mem_append_right _ (List.mem_append_right _ (List.mem_append_right _ m))) xx fin
  have lk := rk3.look (k := k)
  subst ev
  refine ⟨valV kvs k, DGet.k ha3, ?_⟩
  cases wk : klook l k with
  | none =>
    rw [wk] at lk h3
    rw [lk]
    exact fz.pure rz h3
  | some t =>
    rw [wk] at lk h3
    obtain ⟨y, e4, e5⟩ := lk
    rw [e4]
    exact fz.pure e5 h3
end
end DL
set_option Elab.async false
set_option linter.all false
set_option maxRecDepth 100000
set_option maxHeartbeats 4000000
namespace WS
open PySem PySem.Spec L2 DL
open PyProof.Rows hiding St
def letters : Str := "abcdefghijklmnopqrstuvwxyz"
def mWord : T → Bool
  | .str x => decide (1 ≤ (x.length : Int)) && decide ((x.length : Int) ≤ 8) && ((strItems x).all fun t => match t with | .str c => inStr c letters | _ => false)
  | _ => false
def szS (t : T) : Prop := ∀ x, t = .str x → x.length ≤ 16777216
def sp_is_name : FSpec := fun os Q => ∃ t, os = [.pure t] ∧ szS t ∧ Q (.pure (.bool (mWord t))) []
theorem strItems_mem {x : Str} {t : T} (h : t ∈ strItems x) : ∃ c : Nat, t = .str ⟨#[c]⟩ := by
  unfold strItems at h
  obtain ⟨c, _, e⟩ := List.mem_map.mp h
  exact ⟨c, e.symm⟩
theorem all_map {α : Type} (p : α → Bool) (l : List α) : (l.map p).all id = l.all p := by simp [List.all_map]
/-- is_name: slots 0:value 1:letter -/
def t_is_name : ST := (sSeq (sIf (bOr (bNot (tTst (tIsi "str" (tName 0)))) (bNot (tChainA gLe gLe (tCst (.int 1)) (tCallB gLen (tConsA (tName 0) tNilA)) (tCst (.int 8))))) (sRet (fun j => [false].getD j false) (tCst (.bool false))) sNext)
  (sRet (fun j => [false].getD j false) (tCallB (gAllAny fun bs => bs.all id) (tConsA (tComp (tIter (tName 0)) (tgName 1) bYes (tBin (gInW false) (tName 1) (tCst (.str "abcdefghijklmnopqrstuvwxyz"))) [1]) tNilA))))
theorem pl_is_name (os : List O) (Qa : O → List O → Prop) (_ : os.length = 1) (h : sp_is_name os Qa) : t_is_name (endsOf [false] Qa) (startA 2 os) := by
  obtain ⟨t, rfl, hz, h⟩ := h
  unfold t_is_name
  cases t with
  | str x =>
    simp only [sSeq, sNext, sRet, sRetN, sDrop, sIf, sSet, sSetIx, sFor, sPar, sAsg, bAnd, bOr, bNot, tTst, bOf, tName, tCst, tBin, tUny, tNilA, tConsA, g2, g1, gN, getAll, tCallB, tCallF, tTupD, tLstD, tChainA, tChainE, tRg, rgK.eq_1, tStripX, strip1K.eq_1, strip2K.eq_1, tAndE, tOrE, tNotE, tIfE, tComp, bYes, Option.some.injEq, exists_eq, exists_eq', false_implies, Opd.slot.injEq, forall_eq, forall_eq', bO, tIsi, tSlc, partT, tRev, tDct0, tStrM, tAppend, tExtend, lstAt, tRange, intsOf, tIter, itemsOf, tEnum, tZip, tgName, tgTup, tgCons, tgNil, takeR, takeO, take1, takeAll, prep, back, setO, gAdd, gSub_, gMul3_t, gMul3_s, gMul3_i, gMul3_l, gMulT, gMul2_s, gMul2_i, gMul2_l, gMul, gFdiv, gMod, gPow, gNeg, gGe, gGt, gLe, gLt, gEq, gNe, gInW, gIs, gIsNot, gLen, gAllAny, gAbs, gInt, gStr, gM2, gListOf, gTupOf, gSortS, gRepr, gIx, Opd.get, AEnv.at, O.frz, lsO, tuO, seqO, O.fz, O.alias, takeA, endsOf, endO, outsOf, startA, wipeA, List.getElem?_cons_zero, List.getElem?_cons_succ, List.length_cons, List.length_nil, List.map_cons, List.map_nil, List.set_cons_zero, List.set_cons_succ, List.replicate_succ, List.replicate_zero, List.cons_append, List.nil_append, List.getD_cons_zero, List.getD_cons_succ, if_true, if_false, Bool.false_eq_true, reduceIte, reduceCtorEq, Bool.not_true, Bool.not_false, implies_true, true_and, and_true, Nat.sub_self, Nat.reduceAdd, Nat.reduceSub, Nat.zero_add, List.all_cons, List.all_nil, Bool.and_true, Bool.true_and, isT_str]
    refine ⟨hz x rfl, ?_⟩
    unfold mWord at h
    by_cases h1 : 1 ≤ (x.length : Int)
    · by_cases h2 : (x.length : Int) ≤ 8
      · simp only [h1, h2, decide_true, if_true, Bool.not_true, Bool.false_eq_true, if_false, Bool.true_and] at h ⊢
        have h3 : x.cps.size ≤ 1000000 := by have : x.length = x.cps.size := rfl; omega
        rw [if_pos h3]
        refine compW_map (fun t => .bool (match t with | .str c => inStr c letters | _ => false)) _ _ (fun t m Q' acc ts' k => ?_) ?_
        · obtain ⟨c, rfl⟩ := strItems_mem m
          simp only [sSeq, sNext, sRet, sRetN, sDrop, sIf, sSet, sSetIx, sFor, sPar, sAsg, bAnd, bOr, bNot, tTst, bOf, tName, tCst, tBin, tUny, tNilA, tConsA, g2, g1, gN, getAll, tCallB, tCallF, tTupD, tLstD, tChainA, tChainE, tRg, rgK.eq_1, tStripX, strip1K.eq_1, strip2K.eq_1, tAndE, tOrE, tNotE, tIfE, tComp, bYes, Option.some.injEq, exists_eq, exists_eq', false_implies, Opd.slot.injEq, forall_eq, forall_eq', bO, tIsi, tSlc, partT, tRev, tDct0, tStrM, tAppend, tExtend, lstAt, tRange, intsOf, tIter, itemsOf, tEnum, tZip, tgName, tgTup, tgCons, tgNil, takeR, takeO, take1, takeAll, prep, back, setO, gAdd, gSub_, gMul3_t, gMul3_s, gMul3_i, gMul3_l, gMulT, gMul2_s, gMul2_i, gMul2_l, gMul, gFdiv, gMod, gPow, gNeg, gGe, gGt, gLe, gLt, gEq, gNe, gInW, gIs, gIsNot, gLen, gAllAny, gAbs, gInt, gStr, gM2, gListOf, gTupOf, gSortS, gRepr, gIx, Opd.get, AEnv.at, O.frz, lsO, tuO, seqO, O.fz, O.alias, takeA, endsOf, endO, outsOf, startA, wipeA, List.getElem?_cons_zero, List.getElem?_cons_succ, List.length_cons, List.length_nil, List.map_cons, List.map_nil, List.set_cons_zero, List.set_cons_succ, List.replicate_succ, List.replicate_zero, List.cons_append, List.nil_append, List.getD_cons_zero, List.getD_cons_succ, if_true, if_false, Bool.false_eq_true, reduceIte, reduceCtorEq, Bool.not_true, Bool.not_false, implies_true, true_and, and_true, Nat.sub_self, Nat.reduceAdd, Nat.reduceSub, Nat.zero_add, List.all_cons, List.all_nil, Bool.and_true, Bool.true_and, compW, Bool.false_xor]
          exact ⟨rfl, k⟩
        · rw [List.nil_append, boolsOf_map]
          simp only [all_map]
          exact h
      · simp only [h1, h2, decide_true, decide_false, if_true, Bool.not_false, Bool.false_and, Bool.and_false, Bool.true_and] at h ⊢
        exact h
    · simp only [h1, decide_false, Bool.false_eq_true, if_false, Bool.false_and] at h ⊢
      exact h
  | _ => simp only [sSeq, sNext, sRet, sRetN, sDrop, sIf, sSet, sSetIx, sFor, sPar, sAsg, bAnd, bOr, bNot, tTst, bOf, tName, tCst, tBin, tUny, tNilA, tConsA, g2, g1, gN, getAll, tCallB, tCallF, tTupD, tLstD, tChainA, tChainE, tRg, rgK.eq_1, tStripX, strip1K.eq_1, strip2K.eq_1, tAndE, tOrE, tNotE, tIfE, tComp, bYes, Option.some.injEq, exists_eq, exists_eq', false_implies, Opd.slot.injEq, forall_eq, forall_eq', bO, tIsi, tSlc, partT, tRev, tDct0, tStrM, tAppend, tExtend, lstAt, tRange, intsOf, tIter, itemsOf, tEnum, tZip, tgName, tgTup, tgCons, tgNil, takeR, takeO, take1, takeAll, prep, back, setO, gAdd, gSub_, gMul3_t, gMul3_s, gMul3_i, gMul3_l, gMulT, gMul2_s, gMul2_i, gMul2_l, gMul, gFdiv, gMod, gPow, gNeg, gGe, gGt, gLe, gLt, gEq, gNe, gInW, gIs, gIsNot, gLen, gAllAny, gAbs, gInt, gStr, gM2, gListOf, gTupOf, gSortS, gRepr, gIx, Opd.get, AEnv.at, O.frz, lsO, tuO, seqO, O.fz, O.alias, takeA, endsOf, endO, outsOf, startA, wipeA, List.getElem?_cons_zero, List.getElem?_cons_succ, List.length_cons, List.length_nil, List.map_cons, List.map_nil, List.set_cons_zero, List.set_cons_succ, List.replicate_succ, List.replicate_zero, List.cons_append, List.nil_append, List.getD_cons_zero, List.getD_cons_succ, if_true, if_false, Bool.false_eq_true, reduceIte, reduceCtorEq, Bool.not_true, Bool.not_false, implies_true, true_and, and_true, Nat.sub_self, Nat.reduceAdd, Nat.reduceSub, Nat.zero_add, List.all_cons, List.all_nil, Bool.and_true, Bool.true_and, isT_str]; exact h
end WS
set_option Elab.async false
set_option linter.all false
set_option maxRecDepth 100000
set_option maxHeartbeats 4000000
namespace WS
open PySem PySem.Spec L2 DL
open PyProof.Rows hiding St
/-- a deck; n bounds its count of draws -/
def Dk (n : Nat) (o : O) : Prop := ∃ a b c : Int, o = .lst [.int a, .int b, .int c] ∧ 0 ≤ a ∧ a < 10 ^ 300 ∧ 0 ≤ b ∧ b < 2305843009213693921 ∧ 0 ≤ c ∧ c ≤ n
theorem Dk.mono {n m : Nat} {o : O} (h : Dk n o) (l : n ≤ m) : Dk m o := by
  obtain ⟨a, b, c, e, h1, h2, h3, h4, h5, h6⟩ := h
  exact ⟨a, b, c, e, h1, h2, h3, h4, h5, by omega⟩
/-- below 2^k -/
def Bd (k : Nat) (i : Int) : Prop := i.natAbs < 2 ^ k
theorem Bd.add {a b : Nat} {i j : Int} (h1 : Bd a i) (h2 : Bd b j) : Bd (a + b + 1) (i + j) := by
  unfold Bd at *
  have e1 : 2 ^ a ≤ 2 ^ (a + b) := Nat.pow_le_pow_right (by decide) (by omega)
  have e2 : 2 ^ b ≤ 2 ^ (a + b) := Nat.pow_le_pow_right (by decide) (by omega)
  have e3 : 2 ^ (a + b + 1) = 2 * 2 ^ (a + b) := by rw [Nat.pow_succ, Nat.mul_comm]
  omega
theorem Bd.mul {a b : Nat} {i j : Int} (h1 : Bd a i) (h2 : Bd b j) : Bd (a + b) (i * j) := wide_lt h1 h2
theorem Bd.of {k : Nat} {i j : Int} (h0 : 0 ≤ i) (h : i ≤ j) (hj : Bd k j) : Bd k i := Nat.lt_of_le_of_lt (by omega) hj
theorem Bd.log {a : Nat} {i : Int} (h : Bd a i) (h0 : 0 < a) : i.natAbs.log2 < a := PySem.Flt.log2_lt_of h0 h
theorem bd_mul {a b : Nat} {i j : Int} (h1 : Bd a i) (h2 : Bd b j) (h0 : 0 < a) (h3 : 0 < b) (h : a + b ≤ 1000000) : i.natAbs.log2 + j.natAbs.log2 < 1000000 := wide_mul h1 h2 h0 h3 h
theorem bd_mod {k : Nat} {i j : Int} (h : 0 < j) (hj : Bd k j) : Bd k (i % j) := by
  have h1 := Int.emod_nonneg i (by omega : j ≠ 0)
  have h2 := Int.emod_lt_of_pos i h
  unfold Bd at *
  omega
theorem at3_0 {α : Type} (a b c : α) : atI [a, b, c] 0 = some a := rfl
theorem at3_1 {α : Type} (a b c : α) : atI [a, b, c] 1 = some b := rfl
theorem at3_2 {α : Type} (a b c : α) : atI [a, b, c] 2 = some c := rfl
theorem ix3_0 : ixN 3 0 = some 0 := rfl
theorem ix3_2 : ixN 3 2 = some 2 := rfl
theorem at5 (p q r s t : T) (i : Int) : ∃ z, atI [p, q, r, s, t] (i % 5) = some z ∧ z ∈ [p, q, r, s, t] := by
  have : i % 5 = 0 ∨ i % 5 = 1 ∨ i % 5 = 2 ∨ i % 5 = 3 ∨ i % 5 = 4 := by omega
  rcases this with e | e | e | e | e <;> rw [e]
  · exact ⟨p, rfl, by simp⟩
  · exact ⟨q, rfl, by simp⟩
  · exact ⟨r, rfl, by simp⟩
  · exact ⟨s, rfl, by simp⟩
  · exact ⟨t, rfl, by simp⟩
def sp__law_draw : FSpec := fun os Q => ∃ n d m, n ≤ 1000000 ∧ os = [d, .pure (.int m)] ∧ Dk n d ∧ 1 ≤ m ∧ m ≤ 1000000000 ∧ ∀ r d', 0 ≤ r → r < m → Dk (n + 1) d' → Q (.pure (.int r)) [d']
/-- _law_draw: slots 0:_law_deck_here 1:_law_many 2:_law_digit 3:_law_prime 4:_law_mixed -/
def t__law_draw : ST := (sSeq (sIf (tTst (tBin gGt (tBin gIx (tName 0) (tCst (.int 0))) (tCst (.int 0)))) (sSeq (sSet 2 (tBin gMod (tBin gIx (tName 0) (tCst (.int 0))) (tName 1)))
  (sSeq (sSetIx 0 (tBin gFdiv (tBin gIx (tName 0) (tCst (.int 0))) (tName 1)) (tCst (.int 0)))
  (sRet (fun j => [true, false].getD j false) (tName 2)))) sNext)
  (sSeq (sSetIx 0 (tBin gAdd (tBin gIx (tName 0) (tCst (.int 2))) (tCst (.int 1))) (tCst (.int 2)))
  (sSeq (sSet 3 (tBin gIx (tLstD (tConsA (tCst (.int 2147483647)) (tConsA (tCst (.int 2147483629)) (tConsA (tCst (.int 2147483587)) (tConsA (tCst (.int 2147483579)) (tConsA (tCst (.int 2147483563)) tNilA)))))) (tBin gMod (tBin gIx (tName 0) (tCst (.int 2))) (tCst (.int 5)))))
  (sSeq (sSet 4 (tBin gMod (tBin gPow (tBin gAdd (tBin gAdd (tBin gIx (tName 0) (tCst (.int 1))) (tBin gMul3 (tBin gMul3 (tCst (.int 98317)) (tBin gIx (tName 0) (tCst (.int 2)))) (tBin gIx (tName 0) (tCst (.int 2))))) (tCst (.int 43))) (tCst (.int 3))) (tName 3)))
  (sRet (fun j => [true, false].getD j false) (tBin gMod (tBin gFdiv (tBin gMod (tBin gMul3 (tName 4) (tBin gAdd (tBin gMod (tName 4) (tCst (.int 10007))) (tBin gMul3 (tCst (.int 83)) (tBin gIx (tName 0) (tCst (.int 2)))))) (tCst (.int 2305843009213693907))) (tCst (.int 89))) (tName 1)))))))
theorem pl__law_draw (os : List O) (Qa : O → List O → Prop) (_ : os.length = 2) (h : sp__law_draw os Qa) : t__law_draw (endsOf [true, false] Qa) (startA 5 os) := by
  obtain ⟨n, d, m, hn, rfl, ⟨a, b, c, rfl, ha, ha2, hb, hb2, hc, hc2⟩, h1, h2, h⟩ := h
  unfold t__law_draw
  simp only [sSeq, sNext, sRet, sRetN, sDrop, sIf, sSet, sSetIx, sFor, sPar, sAsg, bAnd, bOr, bNot, tTst, bOf, tName, tCst, tBin, tUny, tNilA, tConsA, g2, g1, gN, getAll, tCallB, tCallF, tTupD, tLstD, tChainA, tChainE, tRg, rgK.eq_1, tStripX, strip1K.eq_1, strip2K.eq_1, tAndE, tOrE, tNotE, tIfE, tComp, bYes, Option.some.injEq, exists_eq, exists_eq', false_implies, Opd.slot.injEq, forall_eq, forall_eq', bO, tIsi, tSlc, partT, tRev, tDct0, tStrM, tAppend, tExtend, lstAt, tRange, intsOf, tIter, itemsOf, tEnum, tZip, tgName, tgTup, tgCons, tgNil, takeR, takeO, take1, takeAll, prep, back, setO, gAdd, gSub_, gMul3_t, gMul3_s, gMul3_i, gMul3_l, gMulT, gMul2_s, gMul2_i, gMul2_l, gMul, gFdiv, gMod, gPow, gNeg, gGe, gGt, gLe, gLt, gEq, gNe, gInW, gIs, gIsNot, gLen, gAllAny, gAbs, gInt, gStr, gM2, gListOf, gTupOf, gSortS, gRepr, gIx, Opd.get, AEnv.at, O.frz, lsO, tuO, seqO, O.fz, O.alias, takeA, endsOf, endO, outsOf, startA, wipeA, List.getElem?_cons_zero, List.getElem?_cons_succ, List.length_cons, List.length_nil, List.map_cons, List.map_nil, List.set_cons_zero, List.set_cons_succ, List.replicate_succ, List.replicate_zero, List.cons_append, List.nil_append, List.getD_cons_zero, List.getD_cons_succ, if_true, if_false, Bool.false_eq_true, reduceIte, reduceCtorEq, Bool.not_true, Bool.not_false, implies_true, true_and, and_true, Nat.sub_self, Nat.reduceAdd, Nat.reduceSub, Nat.zero_add, List.all_cons, List.all_nil, Bool.and_true, Bool.true_and, at3_0, at3_1, at3_2, ix3_0, ix3_2]
  have bm : Bd 31 m := by unfold Bd; omega
  have bc : Bd 21 (c + 1) := by unfold Bd; omega
  have bb : Bd 62 b := by unfold Bd; omega
  by_cases g : 0 < a
  · rw [decide_eq_true g, if_pos rfl]
    refine ⟨by omega, rfl, by omega, Nat.lt_trans (bm.log (by decide)) (by decide), h _ _ (Int.emod_nonneg _ (by omega)) (Int.emod_lt_of_pos _ (by omega)) ?_⟩
    have e1 : 0 ≤ a / m := Int.ediv_nonneg ha (by omega)
    have e2 : a / m ≤ a := Int.ediv_le_self _ ha
    exact ⟨_, _, _, rfl, e1, by omega, hb, hb2, hc, by omega⟩
  · rw [decide_eq_false g, if_neg Bool.false_ne_true]
    refine ⟨by decide, ?_⟩
    obtain ⟨z, e, hz⟩ := at5 (.int 2147483647) (.int 2147483629) (.int 2147483587) (.int 2147483579) (.int 2147483563) (c + 1)
    rw [e]
    obtain ⟨p, rfl, hp, hp2⟩ : ∃ p : Int, z = .int p ∧ 0 < p ∧ p < 2147483648 := by
      simp only [List.mem_cons, List.not_mem_nil, or_false] at hz
      rcases hz with rfl | rfl | rfl | rfl | rfl <;> exact ⟨_, rfl, by decide, by decide⟩
    have bp : Bd 31 p := by unfold Bd; omega
    have k1 : Bd 17 98317 := by unfold Bd; decide
    have k2 : Bd 7 83 := by unfold Bd; decide
    have k3 : Bd 14 10007 := by unfold Bd; decide
    have k4 : Bd 6 43 := by unfold Bd; decide
    have m1 := k1.mul bc
    have m2 := m1.mul bc
    have m3 := (bb.add m2).add k4
    have q1 := bd_mod (i := (b + 98317 * (c + 1) * (c + 1) + 43) ^ Int.toNat 3) hp bp
    have q2 := (bd_mod (i := (b + 98317 * (c + 1) * (c + 1) + 43) ^ Int.toNat 3 % p) (by decide : (0 : Int) < 10007) k3).add (k2.mul bc)
    refine ⟨rfl, bd_mul k1 bc (by decide) (by decide) (by decide), bd_mul m1 bc (by decide) (by decide) (by decide), by decide, by decide, Nat.lt_trans (m3.log (by decide)) (by decide), hp, rfl, by decide, bd_mul k2 bc (by decide) (by decide) (by decide), bd_mul q1 q2 (by decide) (by decide) (by decide), by decide, by decide, by decide, by omega, ?_⟩
    exact h _ _ (Int.emod_nonneg _ (by omega)) (Int.emod_lt_of_pos _ (by omega)) ⟨_, _, _, rfl, ha, ha2, hb, hb2, by omega, by omega⟩
/-- a deck and what stands in a list or a tuple -/
def seq2 : List O → Option (O × List T)
  | [d, .pure (.list ts)] => some (d, ts)
  | [d, .pure (.tuple ts)] => some (d, ts)
  | _ => none
theorem seq2_eq {os : List O} {d : O} {ts : List T} (h : seq2 os = some (d, ts)) : os = [d, .pure (.list ts)] ∨ os = [d, .pure (.tuple ts)] := by
  unfold seq2 at h
  split at h
  · cases h; exact .inl rfl
  · cases h; exact .inr rfl
  · cases h
def sp__law_any : FSpec := fun os Q => ∃ n d ts, n ≤ 1000000 ∧ seq2 os = some (d, ts) ∧ Dk n d ∧ ts ≠ [] ∧ ts.length ≤ 1000000 ∧ ∀ t d', t ∈ ts → Dk (n + 1) d' → Q (.pure t) [d']
/-- _law_any: slots 0:_law_deck_here 1:_law_items -/
def t__law_any : ST := (sRet (fun j => [true, false].getD j false) (tBin gIx (tName 1) (tCallF [true, false] sp__law_draw (tConsA (tName 0) (tConsA (tCallB gLen (tConsA (tName 1) tNilA)) tNilA)))))
theorem Dk.frz {n : Nat} {o : O} (h : Dk n o) : ∃ ds, o = .lst ds := by obtain ⟨a, b, c, rfl, _⟩ := h; exact ⟨_, rfl⟩
theorem at_mem {ts : List T} {r : Int} (h0 : 0 ≤ r) (h1 : r < ts.length) : ∃ t, atI ts r = some t ∧ t ∈ ts := by
  have hl : r.toNat < ts.length := by omega
  refine ⟨ts[r.toNat], ?_, List.getElem_mem _⟩
  unfold atI ixN
  rw [if_pos h0, if_pos h1]
  exact List.getElem?_eq_getElem hl
theorem pl__law_any (os : List O) (Qa : O → List O → Prop) (_ : os.length = 2) (h : sp__law_any os Qa) : t__law_any (endsOf [true, false] Qa) (startA 2 os) := by
  obtain ⟨n, d, ts, hn, hs, hd, hne, hl, h⟩ := h
  obtain ⟨ds, rfl⟩ := hd.frz
  have hp : 0 < ts.length := List.length_pos_iff.mpr hne
  unfold t__law_any
  rcases seq2_eq hs with rfl | rfl
  all_goals
    simp only [sSeq, sNext, sRet, sRetN, sDrop, sIf, sSet, sSetIx, sFor, sPar, sAsg, bAnd, bOr, bNot, tTst, bOf, tName, tCst, tBin, tUny, tNilA, tConsA, g2, g1, gN, getAll, tCallB, tCallF, tTupD, tLstD, tChainA, tChainE, tRg, rgK.eq_1, tStripX, strip1K.eq_1, strip2K.eq_1, tAndE, tOrE, tNotE, tIfE, tComp, bYes, Option.some.injEq, exists_eq, exists_eq', false_implies, Opd.slot.injEq, forall_eq, forall_eq', bO, tIsi, tSlc, partT, tRev, tDct0, tStrM, tAppend, tExtend, lstAt, tRange, intsOf, tIter, itemsOf, tEnum, tZip, tgName, tgTup, tgCons, tgNil, takeR, takeO, take1, takeAll, prep, back, setO, gAdd, gSub_, gMul3_t, gMul3_s, gMul3_i, gMul3_l, gMulT, gMul2_s, gMul2_i, gMul2_l, gMul, gFdiv, gMod, gPow, gNeg, gGe, gGt, gLe, gLt, gEq, gNe, gInW, gIs, gIsNot, gLen, gAllAny, gAbs, gInt, gStr, gM2, gListOf, gTupOf, gSortS, gRepr, gIx, Opd.get, AEnv.at, O.frz, lsO, tuO, seqO, O.fz, O.alias, takeA, endsOf, endO, outsOf, startA, wipeA, List.getElem?_cons_zero, List.getElem?_cons_succ, List.length_cons, List.length_nil, List.map_cons, List.map_nil, List.set_cons_zero, List.set_cons_succ, List.replicate_succ, List.replicate_zero, List.cons_append, List.nil_append, List.getD_cons_zero, List.getD_cons_succ, if_true, if_false, Bool.false_eq_true, reduceIte, reduceCtorEq, Bool.not_true, Bool.not_false, implies_true, true_and, and_true, Nat.sub_self, Nat.reduceAdd, Nat.reduceSub, Nat.zero_add, List.all_cons, List.all_nil, Bool.and_true, Bool.true_and]
    refine ⟨n, _, _, hn, rfl, hd, by omega, by omega, fun r d' h0 h1 hd' => ?_⟩
    obtain ⟨ds', rfl⟩ := hd'.frz
    obtain ⟨t, e, m⟩ := at_mem h0 h1
    simp only [sSeq, sNext, sRet, sRetN, sDrop, sIf, sSet, sSetIx, sFor, sPar, sAsg, bAnd, bOr, bNot, tTst, bOf, tName, tCst, tBin, tUny, tNilA, tConsA, g2, g1, gN, getAll, tCallB, tCallF, tTupD, tLstD, tChainA, tChainE, tRg, rgK.eq_1, tStripX, strip1K.eq_1, strip2K.eq_1, tAndE, tOrE, tNotE, tIfE, tComp, bYes, Option.some.injEq, exists_eq, exists_eq', false_implies, Opd.slot.injEq, forall_eq, forall_eq', bO, tIsi, tSlc, partT, tRev, tDct0, tStrM, tAppend, tExtend, lstAt, tRange, intsOf, tIter, itemsOf, tEnum, tZip, tgName, tgTup, tgCons, tgNil, takeR, takeO, take1, takeAll, prep, back, setO, gAdd, gSub_, gMul3_t, gMul3_s, gMul3_i, gMul3_l, gMulT, gMul2_s, gMul2_i, gMul2_l, gMul, gFdiv, gMod, gPow, gNeg, gGe, gGt, gLe, gLt, gEq, gNe, gInW, gIs, gIsNot, gLen, gAllAny, gAbs, gInt, gStr, gM2, gListOf, gTupOf, gSortS, gRepr, gIx, Opd.get, AEnv.at, O.frz, lsO, tuO, seqO, O.fz, O.alias, takeA, endsOf, endO, outsOf, startA, wipeA, List.getElem?_cons_zero, List.getElem?_cons_succ, List.length_cons, List.length_nil, List.map_cons, List.map_nil, List.set_cons_zero, List.set_cons_succ, List.replicate_succ, List.replicate_zero, List.cons_append, List.nil_append, List.getD_cons_zero, List.getD_cons_succ, if_true, if_false, Bool.false_eq_true, reduceIte, reduceCtorEq, Bool.not_true, Bool.not_false, implies_true, true_and, and_true, Nat.sub_self, Nat.reduceAdd, Nat.reduceSub, Nat.zero_add, List.all_cons, List.all_nil, Bool.and_true, Bool.true_and]
    rw [e]
    exact h t _ m hd'
def sp__law_deck : FSpec := fun os Q => ∃ ts k, os = [.pure (.list ts), .pure (.int k)] ∧ (∀ t ∈ ts, ∃ i : Int, t = .int i) ∧ 0 ≤ k ∧ k ≤ 100 ∧ ∀ d, Dk 0 d → Q d []
/-- _law_deck: slots 0:_law_script 1:_law_k 2:_law_cell 3:_law_own -/
def t__law_deck : ST := (sSeq (sSet 2 (tBin gAdd (tBin gMul3 (tCst (.int 17)) (tName 1)) (tCst (.int 9))))
  (sSeq (sIf (tTst (tBin gLt (tName 1) (tCallB gLen (tConsA (tName 0) tNilA)))) (sSet 2 (tBin gIx (tName 0) (tName 1))) sNext)
  (sSeq (sSet 3 (tBin gMul3 (tBin gMod (tCallB gAbs (tConsA (tName 2) tNilA)) (tBin gPow (tBin gPow (tCst (.int 10)) (tCst (.int 60))) (tCst (.int 5)))) (tCallB gInt (tConsA (tBin gGe (tCallB gAbs (tConsA (tName 2) tNilA)) (tBin gPow (tCst (.int 10)) (tCst (.int 18)))) tNilA))))
  (sRet (fun j => [false, false].getD j false) (tLstD (tConsA (tName 3) (tConsA (tBin gMod (tBin gAdd (tBin gAdd (tBin gMul3 (tBin gMod (tName 2) (tCst (.int 2305843009213693951))) (tCst (.int 69857))) (tBin gMul3 (tBin gMul3 (tCst (.int 7907)) (tName 1)) (tName 1))) (tCst (.int 23))) (tCst (.int 2305843009213693921))) (tConsA (tCst (.int 0)) tNilA))))))))
theorem deck_fin {k c a : Int} {Q : O → List O → Prop} (h0 : 0 ≤ k) (h1 : k ≤ 100) (h : ∀ d, Dk 0 d → Q d []) :
    0 ≤ (60 : Int) ∧ (60 : Int) ≤ 1000 ∧ (Int.natAbs 10).log2 < 100000 ∧ 0 ≤ (5 : Int) ∧ (5 : Int) ≤ 1000 ∧ ((10 : Int) ^ Int.toNat 60).natAbs.log2 < 100000 ∧ 0 < ((10 : Int) ^ Int.toNat 60) ^ Int.toNat 5 ∧ 0 ≤ (18 : Int) ∧ (18 : Int) ≤ 1000 ∧ (Int.natAbs 10).log2 < 100000 ∧
      (a % ((10 : Int) ^ Int.toNat 60) ^ Int.toNat 5).natAbs.log2 + (if decide ((10 : Int) ^ Int.toNat 18 ≤ a) = true then (1 : Int) else 0).natAbs.log2 < 1000000 ∧ Nat.blt 3 4 = true ∧ 0 < (2305843009213693951 : Int) ∧
      (c % 2305843009213693951).natAbs.log2 + (Int.natAbs 69857).log2 < 1000000 ∧ (Int.natAbs 7907).log2 + k.natAbs.log2 < 1000000 ∧ (7907 * k).natAbs.log2 + k.natAbs.log2 < 1000000 ∧ 0 < (2305843009213693921 : Int) ∧
      Q (O.lst [PyData.int (a % ((10 : Int) ^ Int.toNat 60) ^ Int.toNat 5 * if decide ((10 : Int) ^ Int.toNat 18 ≤ a) = true then 1 else 0), PyData.int ((c % 2305843009213693951 * 69857 + 7907 * k * k + 23) % 2305843009213693921), PyData.int 0]) [] := by
  have e300 : ((10 : Int) ^ Int.toNat 60) ^ Int.toNat 5 = 10 ^ 300 := by decide +kernel
  rw [e300]
  have p300 : (0 : Int) < 10 ^ 300 := by decide +kernel
  have bk : Bd 7 k := by unfold Bd; omega
  have b2 := Bd.mul (i := 7907) (a := 13) (by unfold Bd; decide) bk
  have b3 : Bd 1000 ((10 : Int) ^ 300) := by unfold Bd; decide +kernel
  have b4 := bd_mod (i := a) p300 b3
  have m0 := Int.emod_nonneg a (by omega : (10 : Int) ^ 300 ≠ 0)
  have m1 := Int.emod_lt_of_pos a p300
  have b5 := bd_mod (i := c) (j := 2305843009213693951) (k := 62) (by decide) (by unfold Bd; decide)
  have l4 := b4.log (by decide)
  have l5 := b5.log (by decide)
  have lk := bk.log (by decide)
  have l2 := b2.log (by decide)
  refine ⟨by decide, by decide, by decide, by decide, by decide, by decide +kernel, p300, by decide, by decide, by decide, ?_, rfl, by decide, ?_, ?_, ?_, by decide, h _ ⟨_, _, _, rfl, ?_, ?_, Int.emod_nonneg _ (by decide), Int.emod_lt_of_pos _ (by decide), by decide, by decide⟩⟩
  · split
    · have : (Int.natAbs 1).log2 = 0 := by decide
      omega
    · have : (Int.natAbs 0).log2 = 0 := by decide
      omega
  · have : (Int.natAbs 69857).log2 = 16 := by decide
    omega
  · have : (Int.natAbs 7907).log2 = 12 := by decide
    omega
  · omega
  · split <;> omega
  · split <;> omega
theorem pl__law_deck (os : List O) (Qa : O → List O → Prop) (_ : os.length = 2) (h : sp__law_deck os Qa) : t__law_deck (endsOf [false, false] Qa) (startA 4 os) := by
  obtain ⟨ts, k, rfl, hi, h0, h1, h⟩ := h
  unfold t__law_deck
  have lk : k.natAbs.log2 < 7 := Bd.log (by unfold Bd; omega) (by decide)
  have l17 : (Int.natAbs 17).log2 = 4 := by decide
  simp only [sSeq, sNext, sRet, sRetN, sDrop, sIf, sSet, sFor, sPar, sAsg, bAnd, bOr, bNot, tTst, tCst, tBin, tUny, tNilA, tConsA, getAll, tCallB, tCallF, tTupD, tLstD, tChainA, tChainE, tRg, rgK.eq_1, tStripX, strip1K.eq_1, strip2K.eq_1, tAndE, tOrE, tNotE, tIfE, tComp, bYes, tDct0, tRange.eq_1, tgName, tgTup.eq_1, tgCons.eq_1, tgNil.eq_1, takeAll, back.eq_1, back.eq_2, back_nil, setO, tName_k, nameK.eq_1, nameK.eq_2, nameK.eq_3, nameK.eq_4, nameK.eq_5, nameK.eq_6, takeA_v, takeA_s, O.fz.eq_1, O.fz.eq_2, O.fz.eq_3, O.fz.eq_4, O.alias.eq_1, O.alias.eq_2, O.alias.eq_3, O.alias.eq_4, O.alias.eq_5, O.alias.eq_6, atK.eq_1, take1_v, take1_s, takeO_v, takeO_s, takeR_v, takeR_s, prep_n, prep_tv, prep_ts, prep_f, lstK.eq_1, lstAt_k, g2K.eq_1, g2_k, g1K.eq_1, g1_k, gNK.eq_1, gN_k, boK.eq_1, bOf_k, isiK.eq_1, tIsi_k, partK.eq_1, part_n, part_s, join2K.eq_1, join1K.eq_1, tJoin, tTindex, tix1K.eq_1, tix2K.eq_1, tSplit, spl1K.eq_1, spl2K.eq_1, tTxt2, txt1K.eq_1, txt2K.eq_1, gIntT.eq_1, tgUnl.eq_1, tOrS, orSK.eq_1, slcK.eq_1, slcK.eq_2, slcK.eq_3, slcK.eq_4, tSlc_k, revK.eq_1, revK.eq_2, revK.eq_3, tRev_k, strMK.eq_1, tStrM_k, itK.eq_1, tIter_k, enumK.eq_1, tEnum_k, zipK.eq_1, zipK.eq_2, tZip_k, intsK.eq_1, intsK.eq_2, intsOf_k, endK.eq_1, endO_k, extK.eq_1, tExtend_k, tAppend_k, setIxK.eq_1, sSetIx_k, popAtK.eq_1, tPopAt_k, bO.eq_1, itemsOf.eq_1, itemsOf.eq_2, itemsOf.eq_3, gAdd.eq_1, gAdd.eq_2, gAdd.eq_3, gAdd.eq_4, gAdd.eq_5, gAdd.eq_6, gSub_.eq_1, gSub_.eq_2, gMul3_t, gMul3_s, gMul3_i, gMul3_l, gMulT.eq_1, gMul2_s, gMul2_i, gMul2_l, gMulS.eq_1, gMul.eq_1, gMul.eq_2, gFdiv.eq_1, gMod.eq_1, gPow.eq_1, gNeg.eq_1, gNeg.eq_2, gGe.eq_1, gGt.eq_1, gLe.eq_1, gLt.eq_1, gLt.eq_2, gEq.eq_1, gNe.eq_1, gNe.eq_2, gNe.eq_3, gNe.eq_4, gInW.eq_1, gInW.eq_2, gIs.eq_1, gIsNot.eq_1, gLen.eq_1, gLen.eq_2, gAllAny.eq_1, gAbs.eq_1, gInt.eq_1, gInt.eq_2, gStr.eq_1, gStr.eq_2, gStr.eq_3, gM2.eq_1, gListOf.eq_1, gListOf.eq_2, gTupOf.eq_1, gTupOf.eq_2, gSort, gSortS.eq_1, gSortD.eq_1, gSortSet.eq_1, gRepr.eq_1, gM2S.eq_1, gIsB.eq_1, tCompN, tCompD, tCompI, tCompDI, tComp2, tCompL, gIx.eq_1, gIx.eq_2, ati0, ati1, ati2, Option.some.injEq, exists_eq, exists_eq', false_implies, Opd.slot.injEq, forall_eq, forall_eq', Opd.get.eq_1, Opd.get.eq_2, at_join, join_some, O.frz.eq_1, O.frz.eq_2, frz_dct, O.frz.eq_4, lsO.eq_1, lsO.eq_2, tuO.eq_1, seqO_l, seqO_p, seqO_t, endsOf, outsOf, startA, wipeA, List.getElem?_cons_zero, List.getElem?_cons_succ, List.length_cons, List.length_nil, List.map_cons, List.map_nil, List.set_cons_zero, List.set_cons_succ, List.replicate_succ, List.replicate_zero, List.cons_append, List.nil_append, List.getD_cons_zero, List.getD_cons_succ, if_true, if_false, Bool.false_eq_true, reduceIte, reduceCtorEq, Bool.not_true, Bool.not_false, implies_true, true_and, and_true, Nat.sub_self, Nat.reduceAdd, Nat.reduceSub, Nat.zero_add, List.all_cons, List.all_nil, Bool.and_true, Bool.true_and]
  refine ⟨by omega, rfl, ?_⟩
  by_cases g : k < ts.length
  · rw [decide_eq_true g, if_pos rfl]
    obtain ⟨t, e, m⟩ := at_mem h0 g
    obtain ⟨c, rfl⟩ := hi t m
    rw [e]
    simp only [sSeq, sNext, sRet, sRetN, sDrop, sIf, sSet, sFor, sPar, sAsg, bAnd, bOr, bNot, tTst, tCst, tBin, tUny, tNilA, tConsA, getAll, tCallB, tCallF, tTupD, tLstD, tChainA, tChainE, tRg, rgK.eq_1, tStripX, strip1K.eq_1, strip2K.eq_1, tAndE, tOrE, tNotE, tIfE, tComp, bYes, tDct0, tRange.eq_1, tgName, tgTup.eq_1, tgCons.eq_1, tgNil.eq_1, takeAll, back.eq_1, back.eq_2, back_nil, setO, tName_k, nameK.eq_1, nameK.eq_2, nameK.eq_3, nameK.eq_4, nameK.eq_5, nameK.eq_6, takeA_v, takeA_s, O.fz.eq_1, O.fz.eq_2, O.fz.eq_3, O.fz.eq_4, O.alias.eq_1, O.alias.eq_2, O.alias.eq_3, O.alias.eq_4, O.alias.eq_5, O.alias.eq_6, atK.eq_1, take1_v, take1_s, takeO_v, takeO_s, takeR_v, takeR_s, prep_n, prep_tv, prep_ts, prep_f, lstK.eq_1, lstAt_k, g2K.eq_1, g2_k, g1K.eq_1, g1_k, gNK.eq_1, gN_k, boK.eq_1, bOf_k, isiK.eq_1, tIsi_k, partK.eq_1, part_n, part_s, join2K.eq_1, join1K.eq_1, tJoin, tTindex, tix1K.eq_1, tix2K.eq_1, tSplit, spl1K.eq_1, spl2K.eq_1, tTxt2, txt1K.eq_1, txt2K.eq_1, gIntT.eq_1, tgUnl.eq_1, tOrS, orSK.eq_1, slcK.eq_1, slcK.eq_2, slcK.eq_3, slcK.eq_4, tSlc_k, revK.eq_1, revK.eq_2, revK.eq_3, tRev_k, strMK.eq_1, tStrM_k, itK.eq_1, tIter_k, enumK.eq_1, tEnum_k, zipK.eq_1, zipK.eq_2, tZip_k, intsK.eq_1, intsK.eq_2, intsOf_k, endK.eq_1, endO_k, extK.eq_1, tExtend_k, tAppend_k, setIxK.eq_1, sSetIx_k, popAtK.eq_1, tPopAt_k, bO.eq_1, itemsOf.eq_1, itemsOf.eq_2, itemsOf.eq_3, gAdd.eq_1, gAdd.eq_2, gAdd.eq_3, gAdd.eq_4, gAdd.eq_5, gAdd.eq_6, gSub_.eq_1, gSub_.eq_2, gMul3_t, gMul3_s, gMul3_i, gMul3_l, gMulT.eq_1, gMul2_s, gMul2_i, gMul2_l, gMulS.eq_1, gMul.eq_1, gMul.eq_2, gFdiv.eq_1, gMod.eq_1, gPow.eq_1, gNeg.eq_1, gNeg.eq_2, gGe.eq_1, gGt.eq_1, gLe.eq_1, gLt.eq_1, gLt.eq_2, gEq.eq_1, gNe.eq_1, gNe.eq_2, gNe.eq_3, gNe.eq_4, gInW.eq_1, gInW.eq_2, gIs.eq_1, gIsNot.eq_1, gLen.eq_1, gLen.eq_2, gAllAny.eq_1, gAbs.eq_1, gInt.eq_1, gInt.eq_2, gStr.eq_1, gStr.eq_2, gStr.eq_3, gM2.eq_1, gListOf.eq_1, gListOf.eq_2, gTupOf.eq_1, gTupOf.eq_2, gSort, gSortS.eq_1, gSortD.eq_1, gSortSet.eq_1, gRepr.eq_1, gM2S.eq_1, gIsB.eq_1, tCompN, tCompD, tCompI, tCompDI, tComp2, tCompL, gIx.eq_1, gIx.eq_2, ati0, ati1, ati2, Option.some.injEq, exists_eq, exists_eq', false_implies, Opd.slot.injEq, forall_eq, forall_eq', Opd.get.eq_1, Opd.get.eq_2, at_join, join_some, O.frz.eq_1, O.frz.eq_2, frz_dct, O.frz.eq_4, lsO.eq_1, lsO.eq_2, tuO.eq_1, seqO_l, seqO_p, seqO_t, endsOf, outsOf, startA, wipeA, List.getElem?_cons_zero, List.getElem?_cons_succ, List.length_cons, List.length_nil, List.map_cons, List.map_nil, List.set_cons_zero, List.set_cons_succ, List.replicate_succ, List.replicate_zero, List.cons_append, List.nil_append, List.getD_cons_zero, List.getD_cons_succ, if_true, if_false, Bool.false_eq_true, reduceIte, reduceCtorEq, Bool.not_true, Bool.not_false, implies_true, true_and, and_true, Nat.sub_self, Nat.reduceAdd, Nat.reduceSub, Nat.zero_add, List.all_cons, List.all_nil, Bool.and_true, Bool.true_and]
    exact ⟨rfl, deck_fin h0 h1 h⟩
  · rw [decide_eq_false g, if_neg Bool.false_ne_true]
    exact deck_fin h0 h1 h
theorem gds_of {k w d b : Nat} {ts : List T} (h : ∀ t ∈ ts, Gd k d b t) (hw : ts.length * k ≤ w) : Gds w d b ts :=
  ⟨Nat.le_trans (szs_len fun t m => (h t m).w) hw, fun t m => (h t m).d, fun t m => (h t m).l⟩
end WS
set_option Elab.async false
set_option linter.all false
set_option maxRecDepth 100000
set_option maxHeartbeats 4000000
namespace WS
open PySem PySem.Spec L2 DL
open PyProof.Rows hiding St
/-- names: texts of at most 8 letters -/
def nameT (t : T) : Prop := ∃ x : Str, t = .str x ∧ x.length ≤ 8 ∧ asc x = true
/-- texts, each below the next ones -/
def upS (ts : List T) : Prop := ∃ ys : List Str, ts = ys.map PyData.str ∧ ys.Pairwise fun a b => a.cps.toList < b.cps.toList
/-- the form of a name: a stem and a letter -/
def nmForm (x : Str) : Prop := ∃ st ∈ (["", "x", "step", "release"] : List Str), ∃ c : Nat, 97 ≤ c ∧ c ≤ 122 ∧ x = st ++ ⟨#[c]⟩
def nameF (t : T) : Prop := ∃ x : Str, t = .str x ∧ nmForm x
theorem nmForm.len {x : Str} (h : nmForm x) : x.length = 1 ∨ x.length = 2 ∨ x.length = 5 ∨ (x.length = 8 ∧ x.cps.toList.head? = some 114) := by
  obtain ⟨st, hs, c, _, _, rfl⟩ := h
  have e1 : (⟨#[c]⟩ : Str).length = 1 := rfl
  simp only [List.mem_cons, List.not_mem_nil, or_false] at hs
  rcases hs with rfl | rfl | rfl | rfl
  · exact .inl (by rw [strLen_append, e1]; rfl)
  · exact .inr (.inl (by rw [strLen_append, e1]; rfl))
  · exact .inr (.inr (.inl (by rw [strLen_append, e1]; rfl)))
  · exact .inr (.inr (.inr ⟨by rw [strLen_append, e1]; rfl, rfl⟩))
def sp__law_names : FSpec := fun os Q => ∃ n d k, n ≤ 900000 ∧ os = [d, .pure (.int (k : Nat))] ∧ Dk n d ∧ k ≤ 20 ∧ ∀ ts d', ts.length = k → (∀ t ∈ ts, nameT t) → upS ts → (∀ t ∈ ts, nameF t) → Dk (n + 2) d' → Q (.lst ts) [d']
/-- _law_names: slots 0:_law_deck_here 1:_law_many 2:_law_stem 3:_law_first 4:_law_letters 5:_law_at -/
def t__law_names : ST := (sSeq (sPar [2, 3] (tConsA (tCallF [true, false] sp__law_any (tConsA (tName 0) (tConsA (tLstD (tConsA (tCst (.str "")) (tConsA (tCst (.str "")) (tConsA (tCst (.str "x")) (tConsA (tCst (.str "step")) (tConsA (tCst (.str "release")) tNilA)))))) tNilA))) (tConsA (tCallF [true, false] sp__law_draw (tConsA (tName 0) (tConsA (tCst (.int 26)) tNilA))) tNilA)))
  (sSeq (sSet 4 (tCst (.str "abcdefghijklmnopqrstuvwxyz")))
  (sRet (fun j => [true, false].getD j false) (tCallB gSort (tConsA (tComp (tRange (tConsA (tName 1) tNilA)) (tgName 5) bYes (tBin gAdd (tName 2) (tBin gIx (tName 4) (tBin gMod (tBin gAdd (tName 3) (tBin gMul3 (tCst (.int 5)) (tName 5))) (tCst (.int 26))))) [5]) tNilA)))))
theorem strsOf_map (f : T → Str) : ∀ ts : List T, strsOf (ts.map fun t => .str (f t)) = some (ts.map f)
  | [] => rfl
  | t :: ts => by simp [strsOf, strsOf_map f ts]
theorem rng_mem {lo : Int} {n : Nat} {t : T} (h : t ∈ rngItems lo n) : ∃ i : Int, (lo ≤ i ∧ i < lo + n) ∧ t = .int i := by
  unfold rngItems at h
  obtain ⟨i, hi, rfl⟩ := List.mem_map.mp h
  have := List.mem_range.mp hi
  exact ⟨_, ⟨by omega, by omega⟩, rfl⟩
def nmS (st : Str) (r : Int) : T → Str
  | .int i => st ++ ⟨#[(atI letters.cps.toList ((r + 5 * i) % 26)).getD 0]⟩
  | _ => st
theorem nmS_int (st : Str) (r i : Int) : nmS st r (.int i) = st ++ ⟨#[(atI letters.cps.toList ((r + 5 * i) % 26)).getD 0]⟩ := rfl
theorem lett_at (i : Int) : ∃ c, atI letters.cps.toList (i % 26) = some c := by
  have h0 := Int.emod_nonneg i (by decide : (26 : Int) ≠ 0)
  have h1 := Int.emod_lt_of_pos i (by decide : (0 : Int) < 26)
  have hl : letters.cps.toList.length = 26 := by decide +kernel
  unfold atI ixN
  rw [if_pos h0, if_pos (by omega)]
  exact ⟨_, List.getElem?_eq_getElem (by omega)⟩
theorem lett_low : ∀ c ∈ letters.cps.toList, 97 ≤ c ∧ c ≤ 122 := by decide +kernel
theorem lett_asc : ∀ c ∈ letters.cps.toList, c < 128 := by decide +kernel
theorem atI_mem {α : Type} {l : List α} {i : Int} {x : α} (h : atI l i = some x) : x ∈ l := by
  unfold atI at h
  cases e : ixN l.length i with
  | none => rw [e] at h; cases h
  | some j => rw [e] at h; exact List.mem_of_getElem? h
theorem len_app (a b : Str) : (a ++ b).length = a.length + b.length := strLen_append a b
theorem lett_nodup : letters.cps.toList.Nodup := by decide +kernel
theorem nm_inj {st : Str} {r i j : Int} (h0 : 0 ≤ i) (hi : i < 26) (h1 : 0 ≤ j) (hj : j < 26) (e : nmS st r (.int i) = nmS st r (.int j)) : i = j := by
  obtain ⟨c, hc⟩ := lett_at (r + 5 * i)
  obtain ⟨d, hd⟩ := lett_at (r + 5 * j)
  rw [nmS_int, nmS_int, hc, hd] at e
  have e2 : c = d := by
    have : (st ++ (⟨#[c]⟩ : Str)).cps.toList = (st ++ (⟨#[d]⟩ : Str)).cps.toList := congrArg (fun z : Str => z.cps.toList) e
    rw [PySem.Str.cps_append, PySem.Str.cps_append, Array.toList_append, Array.toList_append] at this
    have := List.append_cancel_left this
    simpa using this
  subst e2
  have a0 := Int.emod_nonneg (r + 5 * i) (by decide : (26 : Int) ≠ 0)
  have a1 := Int.emod_lt_of_pos (r + 5 * i) (by decide : (0 : Int) < 26)
  have b0 := Int.emod_nonneg (r + 5 * j) (by decide : (26 : Int) ≠ 0)
  have b1 := Int.emod_lt_of_pos (r + 5 * j) (by decide : (0 : Int) < 26)
  have hl : letters.cps.toList.length = 26 := by decide +kernel
  unfold atI ixN at hc hd
  rw [if_pos a0, if_pos (by omega)] at hc
  rw [if_pos b0, if_pos (by omega)] at hd
  rw [Option.bind_some] at hc hd
  have := (List.getElem?_inj (by omega) lett_nodup).mp (hc.trans hd.symm)
  omega
theorem nm_nodup {st : Str} {r : Int} {n : Nat} (h : n ≤ 26) : ((rngItems 0 n).map (nmS st r)).Nodup := by
  unfold rngItems
  rw [List.map_map]
  refine List.pairwise_map.mpr (List.nodup_range.imp_of_mem fun {a b} ha hb ne q => ne ?_)
  have ha := List.mem_range.mp ha
  have hb := List.mem_range.mp hb
  have := nm_inj (st := st) (r := r) (i := 0 + a) (j := 0 + b) (by omega) (by omega) (by omega) (by omega) q
  omega
theorem cps_lt {a b : Str} (h : ltCps b.cps.toList a.cps.toList = false) (ne : a ≠ b) : a.cps.toList < b.cps.toList := by
  rw [ltCps_eq] at h
  have h := of_decide_eq_false h
  rcases Nat.lt_or_ge 0 1 with _ | _
  · by_cases q : a.cps.toList < b.cps.toList
    · exact q
    · exact absurd (PySem.Str.ext' (Array.toList_inj.mp (List.le_antisymm (List.not_lt.mp h) (List.not_lt.mp q)))) ne
  · omega
theorem up_from : ∀ (r : List Str) (p : Str), risingS p r = true → (p :: r).Nodup → (p :: r).Pairwise fun a b => a.cps.toList < b.cps.toList
  | [], p, _, _ => by simp
  | x :: r, p, h, nd => by
    unfold risingS at h
    cases q : ltCps x.cps.toList p.cps.toList with
    | true => rw [q] at h; cases h
    | false =>
      rw [q] at h
      obtain ⟨n1, n2⟩ := List.nodup_cons.mp nd
      have ih := up_from r x h n2
      have hp : p.cps.toList < x.cps.toList := cps_lt q fun e => n1 (e ▸ List.mem_cons_self)
      refine List.pairwise_cons.mpr ⟨fun y hy => ?_, ih⟩
      rcases List.mem_cons.mp hy with rfl | hy
      · exact hp
      · exact List.lt_trans hp ((List.pairwise_cons.mp ih).1 y hy)
theorem up_of {ys : List Str} (h : sortedS ys = true) (nd : ys.Nodup) : ys.Pairwise fun a b => a.cps.toList < b.cps.toList := by
  cases ys with
  | nil => exact .nil
  | cons p r => exact up_from r p h nd
theorem pl__law_names (os : List O) (Qa : O → List O → Prop) (_ : os.length = 2) (h : sp__law_names os Qa) : t__law_names (endsOf [true, false] Qa) (startA 6 os) := by
  obtain ⟨n, d, k, hn, rfl, hd, hk, h⟩ := h
  obtain ⟨ds, rfl⟩ := hd.frz
  unfold t__law_names
  simp only [sSeq, sNext, sRet, sRetN, sDrop, sIf, sSet, sSetIx, sFor, sPar, sAsg, bAnd, bOr, bNot, tTst, bOf, tName, tCst, tBin, tUny, tNilA, tConsA, g2, g1, gN, getAll, tCallB, tCallF, tTupD, tLstD, tChainA, tChainE, tRg, rgK.eq_1, tStripX, strip1K.eq_1, strip2K.eq_1, tAndE, tOrE, tNotE, tIfE, tComp, bYes, Option.some.injEq, exists_eq, exists_eq', false_implies, Opd.slot.injEq, forall_eq, forall_eq', bO, tIsi, tSlc, partT, tRev, tDct0, tStrM, tAppend, tExtend, lstAt, tRange, intsOf, tIter, itemsOf, tEnum, tZip, tgName, tgTup, tgCons, tgNil, takeR, takeO, take1, takeAll, prep, back, setO, gAdd, gSub_, gMul3_t, gMul3_s, gMul3_i, gMul3_l, gMulT, gMul2_s, gMul2_i, gMul2_l, gMul, gFdiv, gMod, gPow, gNeg, gGe, gGt, gLe, gLt, gEq, gNe, gInW, gIs, gIsNot, gLen, gAllAny, gAbs, gInt, gStr, gM2, gListOf, gTupOf, gSortS, gRepr, gIx, Opd.get, AEnv.at, O.frz, lsO, tuO, seqO, O.fz, O.alias, takeA, endsOf, endO, outsOf, startA, wipeA, List.getElem?_cons_zero, List.getElem?_cons_succ, List.length_cons, List.length_nil, List.map_cons, List.map_nil, List.set_cons_zero, List.set_cons_succ, List.replicate_succ, List.replicate_zero, List.cons_append, List.nil_append, List.getD_cons_zero, List.getD_cons_succ, if_true, if_false, Bool.false_eq_true, reduceIte, reduceCtorEq, Bool.not_true, Bool.not_false, implies_true, true_and, and_true, Nat.sub_self, Nat.reduceAdd, Nat.reduceSub, Nat.zero_add, List.all_cons, List.all_nil, Bool.and_true, Bool.true_and]
  refine ⟨n, _, _, by omega, rfl, hd, by simp, by simp, fun t d' ht hd' => ?_⟩
  obtain ⟨ds', rfl⟩ := hd'.frz
  simp only [sSeq, sNext, sRet, sRetN, sDrop, sIf, sSet, sSetIx, sFor, sPar, sAsg, bAnd, bOr, bNot, tTst, bOf, tName, tCst, tBin, tUny, tNilA, tConsA, g2, g1, gN, getAll, tCallB, tCallF, tTupD, tLstD, tChainA, tChainE, tRg, rgK.eq_1, tStripX, strip1K.eq_1, strip2K.eq_1, tAndE, tOrE, tNotE, tIfE, tComp, bYes, Option.some.injEq, exists_eq, exists_eq', false_implies, Opd.slot.injEq, forall_eq, forall_eq', bO, tIsi, tSlc, partT, tRev, tDct0, tStrM, tAppend, tExtend, lstAt, tRange, intsOf, tIter, itemsOf, tEnum, tZip, tgName, tgTup, tgCons, tgNil, takeR, takeO, take1, takeAll, prep, back, setO, gAdd, gSub_, gMul3_t, gMul3_s, gMul3_i, gMul3_l, gMulT, gMul2_s, gMul2_i, gMul2_l, gMul, gFdiv, gMod, gPow, gNeg, gGe, gGt, gLe, gLt, gEq, gNe, gInW, gIs, gIsNot, gLen, gAllAny, gAbs, gInt, gStr, gM2, gListOf, gTupOf, gSortS, gRepr, gIx, Opd.get, AEnv.at, O.frz, lsO, tuO, seqO, O.fz, O.alias, takeA, endsOf, endO, outsOf, startA, wipeA, List.getElem?_cons_zero, List.getElem?_cons_succ, List.length_cons, List.length_nil, List.map_cons, List.map_nil, List.set_cons_zero, List.set_cons_succ, List.replicate_succ, List.replicate_zero, List.cons_append, List.nil_append, List.getD_cons_zero, List.getD_cons_succ, if_true, if_false, Bool.false_eq_true, reduceIte, reduceCtorEq, Bool.not_true, Bool.not_false, implies_true, true_and, and_true, Nat.sub_self, Nat.reduceAdd, Nat.reduceSub, Nat.zero_add, List.all_cons, List.all_nil, Bool.and_true, Bool.true_and]
  refine ⟨n + 1, _, _, by omega, rfl, hd', by decide, by decide, fun r d' h0 h1 hd' => ?_⟩
  obtain ⟨ds', rfl⟩ := hd'.frz
  simp only [sSeq, sNext, sRet, sRetN, sDrop, sIf, sSet, sSetIx, sFor, sPar, sAsg, bAnd, bOr, bNot, tTst, bOf, tName, tCst, tBin, tUny, tNilA, tConsA, g2, g1, gN, getAll, tCallB, tCallF, tTupD, tLstD, tChainA, tChainE, tRg, rgK.eq_1, tStripX, strip1K.eq_1, strip2K.eq_1, tAndE, tOrE, tNotE, tIfE, tComp, bYes, Option.some.injEq, exists_eq, exists_eq', false_implies, Opd.slot.injEq, forall_eq, forall_eq', bO, tIsi, tSlc, partT, tRev, tDct0, tStrM, tAppend, tExtend, lstAt, tRange, intsOf, tIter, itemsOf, tEnum, tZip, tgName, tgTup, tgCons, tgNil, takeR, takeO, take1, takeAll, prep, back, setO, gAdd, gSub_, gMul3_t, gMul3_s, gMul3_i, gMul3_l, gMulT, gMul2_s, gMul2_i, gMul2_l, gMul, gFdiv, gMod, gPow, gNeg, gGe, gGt, gLe, gLt, gEq, gNe, gInW, gIs, gIsNot, gLen, gAllAny, gAbs, gInt, gStr, gM2, gListOf, gTupOf, gSortS, gRepr, gIx, Opd.get, AEnv.at, O.frz, lsO, tuO, seqO, O.fz, O.alias, takeA, endsOf, endO, outsOf, startA, wipeA, List.getElem?_cons_zero, List.getElem?_cons_succ, List.length_cons, List.length_nil, List.map_cons, List.map_nil, List.set_cons_zero, List.set_cons_succ, List.replicate_succ, List.replicate_zero, List.cons_append, List.nil_append, List.getD_cons_zero, List.getD_cons_succ, if_true, if_false, Bool.false_eq_true, reduceIte, reduceCtorEq, Bool.not_true, Bool.not_false, implies_true, true_and, and_true, Nat.sub_self, Nat.reduceAdd, Nat.reduceSub, Nat.zero_add, List.all_cons, List.all_nil, Bool.and_true, Bool.true_and]
  obtain ⟨st, rfl, hst, hsa, hsm⟩ : ∃ st : Str, t = .str st ∧ st.length ≤ 7 ∧ asc st = true ∧ st ∈ (["", "x", "step", "release"] : List Str) := by
    simp only [List.mem_cons, List.not_mem_nil, or_false] at ht
    rcases ht with rfl | rfl | rfl | rfl | rfl
    · exact ⟨_, rfl, by decide, by decide +kernel, .head _⟩
    · exact ⟨_, rfl, by decide, by decide +kernel, .head _⟩
    · exact ⟨_, rfl, by decide, by decide +kernel, .tail _ (.head _)⟩
    · exact ⟨_, rfl, by decide, by decide +kernel, .tail _ (.tail _ (.head _))⟩
    · exact ⟨_, rfl, by decide, by decide +kernel, .tail _ (.tail _ (.tail _ (.head _)))⟩
  refine ⟨rfl, rfl, by omega, by omega, ?_⟩
  refine compW_map (fun t => .str (nmS st r t)) _ _ (fun t m Q' acc ts' q => ?_) ?_
  · obtain ⟨i, hi, rfl⟩ := rng_mem m
    unfold compW
    simp only [sSeq, sNext, sRet, sRetN, sDrop, sIf, sSet, sSetIx, sFor, sPar, sAsg, bAnd, bOr, bNot, tTst, bOf, tName, tCst, tBin, tUny, tNilA, tConsA, g2, g1, gN, getAll, tCallB, tCallF, tTupD, tLstD, tChainA, tChainE, tRg, rgK.eq_1, tStripX, strip1K.eq_1, strip2K.eq_1, tAndE, tOrE, tNotE, tIfE, tComp, bYes, Option.some.injEq, exists_eq, exists_eq', false_implies, Opd.slot.injEq, forall_eq, forall_eq', bO, tIsi, tSlc, partT, tRev, tDct0, tStrM, tAppend, tExtend, lstAt, tRange, intsOf, tIter, itemsOf, tEnum, tZip, tgName, tgTup, tgCons, tgNil, takeR, takeO, take1, takeAll, prep, back, setO, gAdd, gSub_, gMul3_t, gMul3_s, gMul3_i, gMul3_l, gMulT, gMul2_s, gMul2_i, gMul2_l, gMul, gFdiv, gMod, gPow, gNeg, gGe, gGt, gLe, gLt, gEq, gNe, gInW, gIs, gIsNot, gLen, gAllAny, gAbs, gInt, gStr, gM2, gListOf, gTupOf, gSortS, gRepr, gIx, Opd.get, AEnv.at, O.frz, lsO, tuO, seqO, O.fz, O.alias, takeA, endsOf, endO, outsOf, startA, wipeA, List.getElem?_cons_zero, List.getElem?_cons_succ, List.length_cons, List.length_nil, List.map_cons, List.map_nil, List.set_cons_zero, List.set_cons_succ, List.replicate_succ, List.replicate_zero, List.cons_append, List.nil_append, List.getD_cons_zero, List.getD_cons_succ, if_true, if_false, Bool.false_eq_true, reduceIte, reduceCtorEq, Bool.not_true, Bool.not_false, implies_true, true_and, and_true, Nat.sub_self, Nat.reduceAdd, Nat.reduceSub, Nat.zero_add, List.all_cons, List.all_nil, Bool.and_true, Bool.true_and]
    obtain ⟨c, hc⟩ := lett_at (r + 5 * i)
    have e : nmS st r (.int i) = st ++ ⟨#[c]⟩ := by rw [nmS_int, hc]; rfl
    rw [e] at q
    refine ⟨rfl, by
      have : (5 : Int).natAbs.log2 = 2 := by decide
      have h2 : Bd 5 i := by unfold Bd; omega
      have := h2.log (by decide)
      omega, by decide, by decide, ?_⟩
    have hc' : atI (Str.ofString "abcdefghijklmnopqrstuvwxyz").cps.toList ((r + 5 * i) % 26) = some c := hc
    rw [hc']
    refine ⟨?_, q⟩
    have : (⟨#[c]⟩ : Str).length = 1 := rfl
    omega
  · refine .inl ?_
    simp only [gSortS, lsO]
    rw [List.nil_append, strsOf_map]
    simp only [sSeq, sNext, sRet, sRetN, sDrop, sIf, sSet, sSetIx, sFor, sPar, sAsg, bAnd, bOr, bNot, tTst, bOf, tName, tCst, tBin, tUny, tNilA, tConsA, g2, g1, gN, getAll, tCallB, tCallF, tTupD, tLstD, tChainA, tChainE, tRg, rgK.eq_1, tStripX, strip1K.eq_1, strip2K.eq_1, tAndE, tOrE, tNotE, tIfE, tComp, bYes, Option.some.injEq, exists_eq, exists_eq', false_implies, Opd.slot.injEq, forall_eq, forall_eq', bO, tIsi, tSlc, partT, tRev, tDct0, tStrM, tAppend, tExtend, lstAt, tRange, intsOf, tIter, itemsOf, tEnum, tZip, tgName, tgTup, tgCons, tgNil, takeR, takeO, take1, takeAll, prep, back, setO, gAdd, gSub_, gMul3_t, gMul3_s, gMul3_i, gMul3_l, gMulT, gMul2_s, gMul2_i, gMul2_l, gMul, gFdiv, gMod, gPow, gNeg, gGe, gGt, gLe, gLt, gEq, gNe, gInW, gIs, gIsNot, gLen, gAllAny, gAbs, gInt, gStr, gM2, gListOf, gTupOf, gSortS, gRepr, gIx, Opd.get, AEnv.at, O.frz, lsO, tuO, seqO, O.fz, O.alias, takeA, endsOf, endO, outsOf, startA, wipeA, List.getElem?_cons_zero, List.getElem?_cons_succ, List.length_cons, List.length_nil, List.map_cons, List.map_nil, List.set_cons_zero, List.set_cons_succ, List.replicate_succ, List.replicate_zero, List.cons_append, List.nil_append, List.getD_cons_zero, List.getD_cons_succ, if_true, if_false, Bool.false_eq_true, reduceIte, reduceCtorEq, Bool.not_true, Bool.not_false, implies_true, true_and, and_true, Nat.sub_self, Nat.reduceAdd, Nat.reduceSub, Nat.zero_add, List.all_cons, List.all_nil, Bool.and_true, Bool.true_and]
    have hl : ((rngItems 0 ((k : Int)).toNat).map (nmS st r)).length = k := by simp [rngItems]
    refine ⟨by rw [hl]; omega, fun ys hp hso => h _ _ (by rw [List.length_map, hp.length_eq, hl]) (fun t m => ?_) ⟨ys, rfl, up_of hso (hp.nodup_iff.mpr (nm_nodup (by omega)))⟩ (fun t m => ?_) hd'⟩
    · obtain ⟨y, hy, rfl⟩ := List.mem_map.mp m
      obtain ⟨z, hz, rfl⟩ := List.mem_map.mp (hp.mem_iff.mp hy)
      obtain ⟨i, _, rfl⟩ := rng_mem hz
      obtain ⟨c, hc⟩ := lett_at (r + 5 * i)
      have hc2 : c < 128 := lett_asc c (atI_mem hc)
      refine ⟨_, rfl, ?_, ?_⟩
      · rw [nmS_int, len_app]
        have : ((⟨#[(atI letters.cps.toList ((r + 5 * i) % 26)).getD 0]⟩ : Str)).length = 1 := rfl
        omega
      · rw [nmS_int, hc]
        exact asc_app hsa (asc_one hc2)
    · obtain ⟨y, hy, rfl⟩ := List.mem_map.mp m
      obtain ⟨z, hz, rfl⟩ := List.mem_map.mp (hp.mem_iff.mp hy)
      obtain ⟨i, _, rfl⟩ := rng_mem hz
      obtain ⟨c, hc⟩ := lett_at (r + 5 * i)
      have hc2 := lett_low c (atI_mem hc)
      refine ⟨_, rfl, st, hsm, c, hc2.1, hc2.2, ?_⟩
      rw [nmS_int, hc]; rfl
end WS
set_option Elab.async false
set_option linter.all false
set_option maxRecDepth 100000
set_option maxHeartbeats 4000000
/-! prices by keywords: what priced makes of them, what is due -/
namespace WK
open PySem PySem.Spec L2 DL WS
open PyProof.Rows hiding St
local instance : Tbs := ⟨[], fun _ => 0, []⟩
local instance : Bas := ⟨fun _ => none, fun _ => False, []⟩
def mNum (lo hi : Int) : T → Bool
  | .int i => decide (lo ≤ i) && decide (i ≤ hi)
  | _ => false
def sp_is_integer : FSpec := fun os Q => ∃ t lo hi, os = [.pure t, .pure (.int lo), .pure (.int hi)] ∧ Q (.pure (.bool (mNum lo hi t))) []
/-- is_integer: slots 0:value 1:least 2:greatest -/
def t_is_integer : ST := (sRet (fun j => [false, false, false].getD j false) (tAndE (tIsi "int" (tName 0)) (tAndE (tNotE (tIsi "bool" (tName 0))) (tChainE gLe gLe (tName 1) (tName 0) (tName 2)))))
theorem pl_is_integer (os : List O) (Qa : O → List O → Prop) (_ : os.length = 3) (h : sp_is_integer os Qa) : t_is_integer (endsOf [false, false, false] Qa) (startA 3 os) := by
  obtain ⟨t, lo, hi, rfl, h⟩ := h
  unfold t_is_integer
  cases t with
  | int i =>
    simp only [sSeq, sNext, sRet, sRetN, sDrop, sIf, sSet, sFor, sPar, sAsg, bAnd, bOr, bNot, tTst, tCst, tBin, tUny, tNilA, tConsA, getAll, tCallB, tCallF, tTupD, tLstD, tChainA, tChainE, tRg, rgK.eq_1, tStripX, strip1K.eq_1, strip2K.eq_1, tAndE, tOrE, tNotE, tIfE, tComp, bYes, tDct0, tRange.eq_1, tgName, tgTup.eq_1, tgCons.eq_1, tgNil.eq_1, takeAll, back.eq_1, back.eq_2, back_nil, setO, tName_k, nameK.eq_1, nameK.eq_2, nameK.eq_3, nameK.eq_4, nameK.eq_5, nameK.eq_6, takeA_v, takeA_s, O.fz.eq_1, O.fz.eq_2, O.fz.eq_3, O.fz.eq_4, O.alias.eq_1, O.alias.eq_2, O.alias.eq_3, O.alias.eq_4, O.alias.eq_5, O.alias.eq_6, atK.eq_1, take1_v, take1_s, takeO_v, takeO_s, takeR_v, takeR_s, prep_n, prep_tv, prep_ts, prep_f, lstK.eq_1, lstAt_k, g2K.eq_1, g2_k, g1K.eq_1, g1_k, gNK.eq_1, gN_k, boK.eq_1, bOf_k, isiK.eq_1, tIsi_k, partK.eq_1, part_n, part_s, join2K.eq_1, join1K.eq_1, tJoin, tTindex, tix1K.eq_1, tix2K.eq_1, tSplit, spl1K.eq_1, spl2K.eq_1, tTxt2, txt1K.eq_1, txt2K.eq_1, gIntT.eq_1, tgUnl.eq_1, tOrS, orSK.eq_1, slcK.eq_1, slcK.eq_2, slcK.eq_3, slcK.eq_4, tSlc_k, revK.eq_1, revK.eq_2, revK.eq_3, tRev_k, strMK.eq_1, tStrM_k, itK.eq_1, tIter_k, enumK.eq_1, tEnum_k, zipK.eq_1, zipK.eq_2, tZip_k, intsK.eq_1, intsK.eq_2, intsOf_k, endK.eq_1, endO_k, extK.eq_1, tExtend_k, tAppend_k, setIxK.eq_1, sSetIx_k, popAtK.eq_1, tPopAt_k, bO.eq_1, itemsOf.eq_1, itemsOf.eq_2, itemsOf.eq_3, gAdd.eq_1, gAdd.eq_2, gAdd.eq_3, gAdd.eq_4, gAdd.eq_5, gAdd.eq_6, gSub_.eq_1, gSub_.eq_2, gMul3_t, gMul3_s, gMul3_i, gMul3_l, gMulT.eq_1, gMul2_s, gMul2_i, gMul2_l, gMulS.eq_1, gMul.eq_1, gMul.eq_2, gFdiv.eq_1, gMod.eq_1, gPow.eq_1, gNeg.eq_1, gNeg.eq_2, gGe.eq_1, gGt.eq_1, gLe.eq_1, gLt.eq_1, gLt.eq_2, gEq.eq_1, gNe.eq_1, gNe.eq_2, gNe.eq_3, gNe.eq_4, gInW.eq_1, gInW.eq_2, gIs.eq_1, gIsNot.eq_1, gLen.eq_1, gLen.eq_2, gAllAny.eq_1, gAbs.eq_1, gInt.eq_1, gInt.eq_2, gStr.eq_1, gStr.eq_2, gStr.eq_3, gM2.eq_1, gListOf.eq_1, gListOf.eq_2, gTupOf.eq_1, gTupOf.eq_2, gSort, gSortS.eq_1, gSortD.eq_1, gSortSet.eq_1, gRepr.eq_1, gM2S.eq_1, gIsB.eq_1, tCompN, tCompD, tCompI, tCompDI, tComp2, tCompL, gIx.eq_1, gIx.eq_2, ati0, ati1, ati2, Option.some.injEq, exists_eq, exists_eq', false_implies, Opd.slot.injEq, forall_eq, forall_eq', Opd.get.eq_1, Opd.get.eq_2, at_join, join_some, O.frz.eq_1, O.frz.eq_2, frz_dct, O.frz.eq_4, lsO.eq_1, lsO.eq_2, tuO.eq_1, seqO_l, seqO_p, seqO_t, endsOf, outsOf, startA, wipeA, List.getElem?_cons_zero, List.getElem?_cons_succ, List.length_cons, List.length_nil, List.map_cons, List.map_nil, List.set_cons_zero, List.set_cons_succ, List.replicate_succ, List.replicate_zero, List.cons_append, List.nil_append, List.getD_cons_zero, List.getD_cons_succ, if_true, if_false, Bool.false_eq_true, reduceIte, reduceCtorEq, Bool.not_true, Bool.not_false, implies_true, true_and, and_true, Nat.sub_self, Nat.reduceAdd, Nat.reduceSub, Nat.zero_add, List.all_cons, List.all_nil, Bool.and_true, Bool.true_and, isT_int, isT_bool]
    unfold mNum at h
    by_cases h1 : lo ≤ i
    · simp only [h1, decide_true, if_true, Bool.true_and] at h ⊢
      exact h
    · simp only [h1, decide_false, Bool.false_eq_true, if_false, Bool.false_and] at h ⊢
      exact h
  | bool b => simp only [sSeq, sNext, sRet, sRetN, sDrop, sIf, sSet, sFor, sPar, sAsg, bAnd, bOr, bNot, tTst, tCst, tBin, tUny, tNilA, tConsA, getAll, tCallB, tCallF, tTupD, tLstD, tChainA, tChainE, tRg, rgK.eq_1, tStripX, strip1K.eq_1, strip2K.eq_1, tAndE, tOrE, tNotE, tIfE, tComp, bYes, tDct0, tRange.eq_1, tgName, tgTup.eq_1, tgCons.eq_1, tgNil.eq_1, takeAll, back.eq_1, back.eq_2, back_nil, setO, tName_k, nameK.eq_1, nameK.eq_2, nameK.eq_3, nameK.eq_4, nameK.eq_5, nameK.eq_6, takeA_v, takeA_s, O.fz.eq_1, O.fz.eq_2, O.fz.eq_3, O.fz.eq_4, O.alias.eq_1, O.alias.eq_2, O.alias.eq_3, O.alias.eq_4, O.alias.eq_5, O.alias.eq_6, atK.eq_1, take1_v, take1_s, takeO_v, takeO_s, takeR_v, takeR_s, prep_n, prep_tv, prep_ts, prep_f, lstK.eq_1, lstAt_k, g2K.eq_1, g2_k, g1K.eq_1, g1_k, gNK.eq_1, gN_k, boK.eq_1, bOf_k, isiK.eq_1, tIsi_k, partK.eq_1, part_n, part_s, join2K.eq_1, join1K.eq_1, tJoin, tTindex, tix1K.eq_1, tix2K.eq_1, tSplit, spl1K.eq_1, spl2K.eq_1, tTxt2, txt1K.eq_1, txt2K.eq_1, gIntT.eq_1, tgUnl.eq_1, tOrS, orSK.eq_1, slcK.eq_1, slcK.eq_2, slcK.eq_3, slcK.eq_4, tSlc_k, revK.eq_1, revK.eq_2, revK.eq_3, tRev_k, strMK.eq_1, tStrM_k, itK.eq_1, tIter_k, enumK.eq_1, tEnum_k, zipK.eq_1, zipK.eq_2, tZip_k, intsK.eq_1, intsK.eq_2, intsOf_k, endK.eq_1, endO_k, extK.eq_1, tExtend_k, tAppend_k, setIxK.eq_1, sSetIx_k, popAtK.eq_1, tPopAt_k, bO.eq_1, itemsOf.eq_1, itemsOf.eq_2, itemsOf.eq_3, gAdd.eq_1, gAdd.eq_2, gAdd.eq_3, gAdd.eq_4, gAdd.eq_5, gAdd.eq_6, gSub_.eq_1, gSub_.eq_2, gMul3_t, gMul3_s, gMul3_i, gMul3_l, gMulT.eq_1, gMul2_s, gMul2_i, gMul2_l, gMulS.eq_1, gMul.eq_1, gMul.eq_2, gFdiv.eq_1, gMod.eq_1, gPow.eq_1, gNeg.eq_1, gNeg.eq_2, gGe.eq_1, gGt.eq_1, gLe.eq_1, gLt.eq_1, gLt.eq_2, gEq.eq_1, gNe.eq_1, gNe.eq_2, gNe.eq_3, gNe.eq_4, gInW.eq_1, gInW.eq_2, gIs.eq_1, gIsNot.eq_1, gLen.eq_1, gLen.eq_2, gAllAny.eq_1, gAbs.eq_1, gInt.eq_1, gInt.eq_2, gStr.eq_1, gStr.eq_2, gStr.eq_3, gM2.eq_1, gListOf.eq_1, gListOf.eq_2, gTupOf.eq_1, gTupOf.eq_2, gSort, gSortS.eq_1, gSortD.eq_1, gSortSet.eq_1, gRepr.eq_1, gM2S.eq_1, gIsB.eq_1, tCompN, tCompD, tCompI, tCompDI, tComp2, tCompL, gIx.eq_1, gIx.eq_2, ati0, ati1, ati2, Option.some.injEq, exists_eq, exists_eq', false_implies, Opd.slot.injEq, forall_eq, forall_eq', Opd.get.eq_1, Opd.get.eq_2, at_join, join_some, O.frz.eq_1, O.frz.eq_2, frz_dct, O.frz.eq_4, lsO.eq_1, lsO.eq_2, tuO.eq_1, seqO_l, seqO_p, seqO_t, endsOf, outsOf, startA, wipeA, List.getElem?_cons_zero, List.getElem?_cons_succ, List.length_cons, List.length_nil, List.map_cons, List.map_nil, List.set_cons_zero, List.set_cons_succ, List.replicate_succ, List.replicate_zero, List.cons_append, List.nil_append, List.getD_cons_zero, List.getD_cons_succ, if_true, if_false, Bool.false_eq_true, reduceIte, reduceCtorEq, Bool.not_true, Bool.not_false, implies_true, true_and, and_true, Nat.sub_self, Nat.reduceAdd, Nat.reduceSub, Nat.zero_add, List.all_cons, List.all_nil, Bool.and_true, Bool.true_and, isT_int, isT_bool]; exact h
  | _ => simp only [sSeq, sNext, sRet, sRetN, sDrop, sIf, sSet, sFor, sPar, sAsg, bAnd, bOr, bNot, tTst, tCst, tBin, tUny, tNilA, tConsA, getAll, tCallB, tCallF, tTupD, tLstD, tChainA, tChainE, tRg, rgK.eq_1, tStripX, strip1K.eq_1, strip2K.eq_1, tAndE, tOrE, tNotE, tIfE, tComp, bYes, tDct0, tRange.eq_1, tgName, tgTup.eq_1, tgCons.eq_1, tgNil.eq_1, takeAll, back.eq_1, back.eq_2, back_nil, setO, tName_k, nameK.eq_1, nameK.eq_2, nameK.eq_3, nameK.eq_4, nameK.eq_5, nameK.eq_6, takeA_v, takeA_s, O.fz.eq_1, O.fz.eq_2, O.fz.eq_3, O.fz.eq_4, O.alias.eq_1, O.alias.eq_2, O.alias.eq_3, O.alias.eq_4, O.alias.eq_5, O.alias.eq_6, atK.eq_1, take1_v, take1_s, takeO_v, takeO_s, takeR_v, takeR_s, prep_n, prep_tv, prep_ts, prep_f, lstK.eq_1, lstAt_k, g2K.eq_1, g2_k, g1K.eq_1, g1_k, gNK.eq_1, gN_k, boK.eq_1, bOf_k, isiK.eq_1, tIsi_k, partK.eq_1, part_n, part_s, join2K.eq_1, join1K.eq_1, tJoin, tTindex, tix1K.eq_1, tix2K.eq_1, tSplit, spl1K.eq_1, spl2K.eq_1, tTxt2, txt1K.eq_1, txt2K.eq_1, gIntT.eq_1, tgUnl.eq_1, tOrS, orSK.eq_1, slcK.eq_1, slcK.eq_2, slcK.eq_3, slcK.eq_4, tSlc_k, revK.eq_1, revK.eq_2, revK.eq_3, tRev_k, strMK.eq_1, tStrM_k, itK.eq_1, tIter_k, enumK.eq_1, tEnum_k, zipK.eq_1, zipK.eq_2, tZip_k, intsK.eq_1, intsK.eq_2, intsOf_k, endK.eq_1, endO_k, extK.eq_1, tExtend_k, tAppend_k, setIxK.eq_1, sSetIx_k, popAtK.eq_1, tPopAt_k, bO.eq_1, itemsOf.eq_1, itemsOf.eq_2, itemsOf.eq_3, gAdd.eq_1, gAdd.eq_2, gAdd.eq_3, gAdd.eq_4, gAdd.eq_5, gAdd.eq_6, gSub_.eq_1, gSub_.eq_2, gMul3_t, gMul3_s, gMul3_i, gMul3_l, gMulT.eq_1, gMul2_s, gMul2_i, gMul2_l, gMulS.eq_1, gMul.eq_1, gMul.eq_2, gFdiv.eq_1, gMod.eq_1, gPow.eq_1, gNeg.eq_1, gNeg.eq_2, gGe.eq_1, gGt.eq_1, gLe.eq_1, gLt.eq_1, gLt.eq_2, gEq.eq_1, gNe.eq_1, gNe.eq_2, gNe.eq_3, gNe.eq_4, gInW.eq_1, gInW.eq_2, gIs.eq_1, gIsNot.eq_1, gLen.eq_1, gLen.eq_2, gAllAny.eq_1, gAbs.eq_1, gInt.eq_1, gInt.eq_2, gStr.eq_1, gStr.eq_2, gStr.eq_3, gM2.eq_1, gListOf.eq_1, gListOf.eq_2, gTupOf.eq_1, gTupOf.eq_2, gSort, gSortS.eq_1, gSortD.eq_1, gSortSet.eq_1, gRepr.eq_1, gM2S.eq_1, gIsB.eq_1, tCompN, tCompD, tCompI, tCompDI, tComp2, tCompL, gIx.eq_1, gIx.eq_2, ati0, ati1, ati2, Option.some.injEq, exists_eq, exists_eq', false_implies, Opd.slot.injEq, forall_eq, forall_eq', Opd.get.eq_1, Opd.get.eq_2, at_join, join_some, O.frz.eq_1, O.frz.eq_2, frz_dct, O.frz.eq_4, lsO.eq_1, lsO.eq_2, tuO.eq_1, seqO_l, seqO_p, seqO_t, endsOf, outsOf, startA, wipeA, List.getElem?_cons_zero, List.getElem?_cons_succ, List.length_cons, List.length_nil, List.map_cons, List.map_nil, List.set_cons_zero, List.set_cons_succ, List.replicate_succ, List.replicate_zero, List.cons_append, List.nil_append, List.getD_cons_zero, List.getD_cons_succ, if_true, if_false, Bool.false_eq_true, reduceIte, reduceCtorEq, Bool.not_true, Bool.not_false, implies_true, true_and, and_true, Nat.sub_self, Nat.reduceAdd, Nat.reduceSub, Nat.zero_add, List.all_cons, List.all_nil, Bool.and_true, Bool.true_and, isT_int, isT_bool]; exact h
def sp__law_is_number : FSpec := sp_is_integer
/-- _law_is_number: slots 0:_law_thing 1:_law_least 2:_law_most -/
def t__law_is_number : ST := (sRet (fun j => [false, false, false].getD j false) (tAndE (tIsi "int" (tName 0)) (tAndE (tNotE (tIsi "bool" (tName 0))) (tChainE gLe gLe (tName 1) (tName 0) (tName 2)))))
theorem pl__law_is_number (os : List O) (Qa : O → List O → Prop) (ho : os.length = 3) (h : sp__law_is_number os Qa) : t__law_is_number (endsOf [false, false, false] Qa) (startA 3 os) := pl_is_integer os Qa ho h
def sp_is_price : FSpec := fun os Q => ∃ t, os = [.pure t] ∧ Q (.pure (.bool (mNum 1 1000000 t))) []
/-- is_price: slots 0:value -/
def t_is_price : ST := (sRet (fun j => [false].getD j false) (tCallF [false, false, false] sp_is_integer (tConsA (tName 0) (tConsA (tCst (.int 1)) (tConsA (tCst (.int 1000000)) tNilA)))))
theorem pl_is_price (os : List O) (Qa : O → List O → Prop) (_ : os.length = 1) (h : sp_is_price os Qa) : t_is_price (endsOf [false] Qa) (startA 1 os) := by
  obtain ⟨t, rfl, h⟩ := h
  unfold t_is_price
  simp only [sSeq, sNext, sRet, sRetN, sDrop, sIf, sSet, sFor, sPar, sAsg, bAnd, bOr, bNot, tTst, tCst, tBin, tUny, tNilA, tConsA, getAll, tCallB, tCallF, tTupD, tLstD, tChainA, tChainE, tRg, rgK.eq_1, tStripX, strip1K.eq_1, strip2K.eq_1, tAndE, tOrE, tNotE, tIfE, tComp, bYes, tDct0, tRange.eq_1, tgName, tgTup.eq_1, tgCons.eq_1, tgNil.eq_1, takeAll, back.eq_1, back.eq_2, back_nil, setO, tName_k, nameK.eq_1, nameK.eq_2, nameK.eq_3, nameK.eq_4, nameK.eq_5, nameK.eq_6, takeA_v, takeA_s, O.fz.eq_1, O.fz.eq_2, O.fz.eq_3, O.fz.eq_4, O.alias.eq_1, O.alias.eq_2, O.alias.eq_3, O.alias.eq_4, O.alias.eq_5, O.alias.eq_6, atK.eq_1, take1_v, take1_s, takeO_v, takeO_s, takeR_v, takeR_s, prep_n, prep_tv, prep_ts, prep_f, lstK.eq_1, lstAt_k, g2K.eq_1, g2_k, g1K.eq_1, g1_k, gNK.eq_1, gN_k, boK.eq_1, bOf_k, isiK.eq_1, tIsi_k, partK.eq_1, part_n, part_s, join2K.eq_1, join1K.eq_1, tJoin, tTindex, tix1K.eq_1, tix2K.eq_1, tSplit, spl1K.eq_1, spl2K.eq_1, tTxt2, txt1K.eq_1, txt2K.eq_1, gIntT.eq_1, tgUnl.eq_1, tOrS, orSK.eq_1, slcK.eq_1, slcK.eq_2, slcK.eq_3, slcK.eq_4, tSlc_k, revK.eq_1, revK.eq_2, revK.eq_3, tRev_k, strMK.eq_1, tStrM_k, itK.eq_1, tIter_k, enumK.eq_1, tEnum_k, zipK.eq_1, zipK.eq_2, tZip_k, intsK.eq_1, intsK.eq_2, intsOf_k, endK.eq_1, endO_k, extK.eq_1, tExtend_k, tAppend_k, setIxK.eq_1, sSetIx_k, popAtK.eq_1, tPopAt_k, bO.eq_1, itemsOf.eq_1, itemsOf.eq_2, itemsOf.eq_3, gAdd.eq_1, gAdd.eq_2, gAdd.eq_3, gAdd.eq_4, gAdd.eq_5, gAdd.eq_6, gSub_.eq_1, gSub_.eq_2, gMul3_t, gMul3_s, gMul3_i, gMul3_l, gMulT.eq_1, gMul2_s, gMul2_i, gMul2_l, gMulS.eq_1, gMul.eq_1, gMul.eq_2, gFdiv.eq_1, gMod.eq_1, gPow.eq_1, gNeg.eq_1, gNeg.eq_2, gGe.eq_1, gGt.eq_1, gLe.eq_1, gLt.eq_1, gLt.eq_2, gEq.eq_1, gNe.eq_1, gNe.eq_2, gNe.eq_3, gNe.eq_4, gInW.eq_1, gInW.eq_2, gIs.eq_1, gIsNot.eq_1, gLen.eq_1, gLen.eq_2, gAllAny.eq_1, gAbs.eq_1, gInt.eq_1, gInt.eq_2, gStr.eq_1, gStr.eq_2, gStr.eq_3, gM2.eq_1, gListOf.eq_1, gListOf.eq_2, gTupOf.eq_1, gTupOf.eq_2, gSort, gSortS.eq_1, gSortD.eq_1, gSortSet.eq_1, gRepr.eq_1, gM2S.eq_1, gIsB.eq_1, tCompN, tCompD, tCompI, tCompDI, tComp2, tCompL, gIx.eq_1, gIx.eq_2, ati0, ati1, ati2, Option.some.injEq, exists_eq, exists_eq', false_implies, Opd.slot.injEq, forall_eq, forall_eq', Opd.get.eq_1, Opd.get.eq_2, at_join, join_some, O.frz.eq_1, O.frz.eq_2, frz_dct, O.frz.eq_4, lsO.eq_1, lsO.eq_2, tuO.eq_1, seqO_l, seqO_p, seqO_t, endsOf, outsOf, startA, wipeA, List.getElem?_cons_zero, List.getElem?_cons_succ, List.length_cons, List.length_nil, List.map_cons, List.map_nil, List.set_cons_zero, List.set_cons_succ, List.replicate_succ, List.replicate_zero, List.cons_append, List.nil_append, List.getD_cons_zero, List.getD_cons_succ, if_true, if_false, Bool.false_eq_true, reduceIte, reduceCtorEq, Bool.not_true, Bool.not_false, implies_true, true_and, and_true, Nat.sub_self, Nat.reduceAdd, Nat.reduceSub, Nat.zero_add, List.all_cons, List.all_nil, Bool.and_true, Bool.true_and]
  exact ⟨t, _, _, rfl, h⟩
def kvOf (ps : List (Str × T)) : List (Key × T) := ps.map fun p => (.inr p.1, p.2)
def le0 (a b : Str × T) : Bool := dLe (.str a.1) (.str b.1)
def bad (p : Str × T) : Bool := !(mWord (.str p.1)) || !(mNum 1 1000000 p.2)
def due (ps : List (Str × T)) : T := match (ps.mergeSort le0).find? bad with
  | some p => .tuple [.str "price", .str p.1]
  | none => .tuple [.str "value", .tuple ((ps.map tup0).mergeSort dLe)]
theorem look_kv : ∀ {ps : List (Str × T)} {p : Str × T}, (ps.map (·.1)).Nodup → p ∈ ps → klook (kvOf ps) (.inr p.1) = some p.2
  | q :: ps, p, nd, m => by
    rw [List.map_cons, List.nodup_cons] at nd
    unfold klook kvOf
    rw [List.map_cons, List.find?_cons]
    rcases List.mem_cons.mp m with rfl | m
    · rw [decide_eq_true rfl]; rfl
    · have ne : ¬ (Sum.inr q.1 : Key) = Sum.inr p.1 := fun e => nd.1 (by rw [Sum.inr.inj e]; exact List.mem_map_of_mem m)
      rw [decide_eq_false ne]
      exact look_kv nd.2 m
theorem keys_kv (ps : List (Str × T)) : keysOf (kvOf ps) = ps.map fun p => PyData.str p.1 := by
  unfold keysOf kvOf
  rw [List.map_map]; rfl
theorem keys_sorted (ps : List (Str × T)) : (keysOf (kvOf ps)).mergeSort dLe = (ps.mergeSort le0).map fun p => PyData.str p.1 := by
  rw [keys_kv]
  exact (List.map_mergeSort (f := fun p : Str × T => PyData.str p.1) (r := le0) (s := dLe) (fun _ _ _ _ => rfl)).symm
theorem items_kv (ps : List (Str × T)) : (kvOf ps).map itemT = ps.map tup0 := by
  unfold kvOf
  rw [List.map_map]; rfl
theorem none_ints {ps : List (Str × T)} (h : (ps.mergeSort le0).find? bad = none) : ∀ p ∈ ps, ∃ i : Int, p.2 = .int i ∧ 1 ≤ i ∧ i ≤ 1000000 := fun p m => by
  have := List.find?_eq_none.mp h p ((List.mergeSort_perm ps le0).mem_iff.mpr m)
  unfold bad at this
  simp only [Bool.or_eq_true, Bool.not_eq_true', not_or, Bool.not_eq_false] at this
  obtain ⟨_, h2⟩ := this
  unfold mNum at h2
  split at h2
  · rename_i i e
    rw [Bool.and_eq_true, decide_eq_true_iff, decide_eq_true_iff] at h2
    exact ⟨i, e, h2.1, h2.2⟩
  · cases h2
theorem tup_alike {ps : List (Str × T)} (h : ∀ p ∈ ps, ∃ i : Int, p.2 = .int i) : PySem.W.AllAlike (ps.map tup0) ∧ PySem.W.Sortable (ps.map tup0) ∧ ∀ t ∈ ps.map tup0, t.depth ≤ 100 := by
  refine ⟨fun a ha b hb => ?_, .inl fun a ha => ?_, fun a ha => ?_⟩
  · obtain ⟨p, m1, rfl⟩ := List.mem_map.mp ha
    obtain ⟨q, m2, rfl⟩ := List.mem_map.mp hb
    obtain ⟨i, e1⟩ := h p m1
    obtain ⟨j, e2⟩ := h q m2
    unfold tup0
    rw [e1, e2]
    simp [PySem.W.alike, PySem.W.alikeAll]
  · obtain ⟨p, m1, rfl⟩ := List.mem_map.mp ha
    exact ⟨_, _, rfl⟩
  · obtain ⟨p, m1, rfl⟩ := List.mem_map.mp ha
    obtain ⟨i, e1⟩ := h p m1
    unfold tup0
    rw [e1]
    simp [PyData.depth, PyData.depthAll]
def sp_priced : FSpecK := fun kts Qa Ea => ∃ ps : List (Str × T), kts = kvOf ps ∧ (ps.map (·.1)).Nodup ∧ ps.length ≤ 1000 ∧ (∀ p ∈ ps, p.1.length ≤ 1000) ∧
  match (ps.mergeSort le0).find? bad with
    | some p => Ea ⟨"BadPrice", some ("name", .str p.1)⟩
    | none => Qa (.pure (.tuple ((ps.map tup0).mergeSort dLe)))
/-- priced: slots 0:prices 1:name -/
def t_priced_b1 (Ea : Exc → Prop) : ST := (sIf (bOr (bNot (tTst (tCallF [false] sp_is_name (tConsA (tName 1) tNilA)))) (bNot (tTst (tCallF [false] sp_is_price (tConsA (tBin gIxD (tName 0) (tName 1)) tNilA))))) (sRaise "BadPrice" "name" (fun e _ => Ea e) (tConsA (tName 1) tNilA)) sNext)
def t_priced (Ea : Exc → Prop) : ST := (sSeq (sFor (tIter (tCallB gSortK (tConsA (tName 0) tNilA))) (tgName 1) (t_priced_b1 Ea))
  (sRet (fun _ => false) (tCallB gTupOf (tConsA (tSortI 0) tNilA))))
theorem pr_loop {Ea : Exc → Prop} {D : AEnds} {ps : List (Str × T)} (nd : (ps.map (·.1)).Nodup) (hz : ∀ p ∈ ps, p.1.length ≤ 1000) : ∀ (L : List (Str × T)) (x1 : Option O), (∀ p ∈ L, p ∈ ps) →
    (∀ p, L.find? bad = some p → Ea ⟨"BadPrice", some ("name", .str p.1)⟩) → (L.find? bad = none → ∀ x1, D.nx [some (.dct (kvOf ps)), x1]) → forW (tgName 1) (t_priced_b1 Ea) D (L.map fun p => PyData.str p.1) [some (.dct (kvOf ps)), x1]
  | [], x1, _, _, h2 => h2 rfl x1
  | p :: L, x1, hm, h1, h2 => by
    rw [List.map_cons]
    unfold forW t_priced_b1
    have lk := look_kv nd (hm p List.mem_cons_self)
    have ih := fun x1 => pr_loop (Ea := Ea) (D := D) nd hz L x1 (fun q m => hm q (List.mem_cons_of_mem _ m))
    unfold t_priced_b1 at ih
    generalize kvOf ps = kv at lk h2 ih ⊢
    simp only [sSeq, sNext, sRet, sRetN, sDrop, sIf, sSet, sFor, sPar, sAsg, bAnd, bOr, bNot, tTst, tCst, tBin, tUny, tNilA, tConsA, getAll, tCallB, tCallF, tTupD, tLstD, tChainA, tChainE, tRg, rgK.eq_1, tStripX, strip1K.eq_1, strip2K.eq_1, tAndE, tOrE, tNotE, tIfE, tComp, bYes, tDct0, tRange.eq_1, tgName, tgTup.eq_1, tgCons.eq_1, tgNil.eq_1, takeAll, back.eq_1, back.eq_2, back_nil, setO, tName_k, nameK.eq_1, nameK.eq_2, nameK.eq_3, nameK.eq_4, nameK.eq_5, nameK.eq_6, takeA_v, takeA_s, O.fz.eq_1, O.fz.eq_2, O.fz.eq_3, O.fz.eq_4, O.alias.eq_1, O.alias.eq_2, O.alias.eq_3, O.alias.eq_4, O.alias.eq_5, O.alias.eq_6, atK.eq_1, take1_v, take1_s, takeO_v, takeO_s, takeR_v, takeR_s, prep_n, prep_tv, prep_ts, prep_f, lstK.eq_1, lstAt_k, g2K.eq_1, g2_k, g1K.eq_1, g1_k, gNK.eq_1, gN_k, boK.eq_1, bOf_k, isiK.eq_1, tIsi_k, partK.eq_1, part_n, part_s, join2K.eq_1, join1K.eq_1, tJoin, tTindex, tix1K.eq_1, tix2K.eq_1, tSplit, spl1K.eq_1, spl2K.eq_1, tTxt2, txt1K.eq_1, txt2K.eq_1, gIntT.eq_1, tgUnl.eq_1, tOrS, orSK.eq_1, slcK.eq_1, slcK.eq_2, slcK.eq_3, slcK.eq_4, tSlc_k, revK.eq_1, revK.eq_2, revK.eq_3, tRev_k, strMK.eq_1, tStrM_k, itK.eq_1, tIter_k, enumK.eq_1, tEnum_k, zipK.eq_1, zipK.eq_2, tZip_k, intsK.eq_1, intsK.eq_2, intsOf_k, endK.eq_1, endO_k, extK.eq_1, tExtend_k, tAppend_k, setIxK.eq_1, sSetIx_k, popAtK.eq_1, tPopAt_k, bO.eq_1, itemsOf.eq_1, itemsOf.eq_2, itemsOf.eq_3, gAdd.eq_1, gAdd.eq_2, gAdd.eq_3, gAdd.eq_4, gAdd.eq_5, gAdd.eq_6, gSub_.eq_1, gSub_.eq_2, gMul3_t, gMul3_s, gMul3_i, gMul3_l, gMulT.eq_1, gMul2_s, gMul2_i, gMul2_l, gMulS.eq_1, gMul.eq_1, gMul.eq_2, gFdiv.eq_1, gMod.eq_1, gPow.eq_1, gNeg.eq_1, gNeg.eq_2, gGe.eq_1, gGt.eq_1, gLe.eq_1, gLt.eq_1, gLt.eq_2, gEq.eq_1, gNe.eq_1, gNe.eq_2, gNe.eq_3, gNe.eq_4, gInW.eq_1, gInW.eq_2, gIs.eq_1, gIsNot.eq_1, gLen.eq_1, gLen.eq_2, gAllAny.eq_1, gAbs.eq_1, gInt.eq_1, gInt.eq_2, gStr.eq_1, gStr.eq_2, gStr.eq_3, gM2.eq_1, gListOf.eq_1, gListOf.eq_2, gTupOf.eq_1, gTupOf.eq_2, gSort, gSortS.eq_1, gSortD.eq_1, gSortSet.eq_1, gRepr.eq_1, gM2S.eq_1, gIsB.eq_1, tCompN, tCompD, tCompI, tCompDI, tComp2, tCompL, gIx.eq_1, gIx.eq_2, ati0, ati1, ati2, Option.some.injEq, exists_eq, exists_eq', false_implies, Opd.slot.injEq, forall_eq, forall_eq', Opd.get.eq_1, Opd.get.eq_2, at_join, join_some, O.frz.eq_1, O.frz.eq_2, frz_dct, O.frz.eq_4, lsO.eq_1, lsO.eq_2, tuO.eq_1, seqO_l, seqO_p, seqO_t, endsOf, outsOf, startA, wipeA, List.getElem?_cons_zero, List.getElem?_cons_succ, List.length_cons, List.length_nil, List.map_cons, List.map_nil, List.set_cons_zero, List.set_cons_succ, List.replicate_succ, List.replicate_zero, List.cons_append, List.nil_append, List.getD_cons_zero, List.getD_cons_succ, if_true, if_false, Bool.false_eq_true, reduceIte, reduceCtorEq, Bool.not_true, Bool.not_false, implies_true, true_and, and_true, Nat.sub_self, Nat.reduceAdd, Nat.reduceSub, Nat.zero_add, List.all_cons, List.all_nil, Bool.and_true, Bool.true_and, sRaise]
    refine ⟨rfl, .str p.1, rfl, fun x e => ?_, ?_⟩
    · cases e
      have := hz p (hm p List.mem_cons_self)
      omega
    · simp only [sSeq, sNext, sRet, sRetN, sDrop, sIf, sSet, sFor, sPar, sAsg, bAnd, bOr, bNot, tTst, tCst, tBin, tUny, tNilA, tConsA, getAll, tCallB, tCallF, tTupD, tLstD, tChainA, tChainE, tRg, rgK.eq_1, tStripX, strip1K.eq_1, strip2K.eq_1, tAndE, tOrE, tNotE, tIfE, tComp, bYes, tDct0, tRange.eq_1, tgName, tgTup.eq_1, tgCons.eq_1, tgNil.eq_1, takeAll, back.eq_1, back.eq_2, back_nil, setO, tName_k, nameK.eq_1, nameK.eq_2, nameK.eq_3, nameK.eq_4, nameK.eq_5, nameK.eq_6, takeA_v, takeA_s, O.fz.eq_1, O.fz.eq_2, O.fz.eq_3, O.fz.eq_4, O.alias.eq_1, O.alias.eq_2, O.alias.eq_3, O.alias.eq_4, O.alias.eq_5, O.alias.eq_6, atK.eq_1, take1_v, take1_s, takeO_v, takeO_s, takeR_v, takeR_s, prep_n, prep_tv, prep_ts, prep_f, lstK.eq_1, lstAt_k, g2K.eq_1, g2_k, g1K.eq_1, g1_k, gNK.eq_1, gN_k, boK.eq_1, bOf_k, isiK.eq_1, tIsi_k, partK.eq_1, part_n, part_s, join2K.eq_1, join1K.eq_1, tJoin, tTindex, tix1K.eq_1, tix2K.eq_1, tSplit, spl1K.eq_1, spl2K.eq_1, tTxt2, txt1K.eq_1, txt2K.eq_1, gIntT.eq_1, tgUnl.eq_1, tOrS, orSK.eq_1, slcK.eq_1, slcK.eq_2, slcK.eq_3, slcK.eq_4, tSlc_k, revK.eq_1, revK.eq_2, revK.eq_3, tRev_k, strMK.eq_1, tStrM_k, itK.eq_1, tIter_k, enumK.eq_1, tEnum_k, zipK.eq_1, zipK.eq_2, tZip_k, intsK.eq_1, intsK.eq_2, intsOf_k, endK.eq_1, endO_k, extK.eq_1, tExtend_k, tAppend_k, setIxK.eq_1, sSetIx_k, popAtK.eq_1, tPopAt_k, bO.eq_1, itemsOf.eq_1, itemsOf.eq_2, itemsOf.eq_3, gAdd.eq_1, gAdd.eq_2, gAdd.eq_3, gAdd.eq_4, gAdd.eq_5, gAdd.eq_6, gSub_.eq_1, gSub_.eq_2, gMul3_t, gMul3_s, gMul3_i, gMul3_l, gMulT.eq_1, gMul2_s, gMul2_i, gMul2_l, gMulS.eq_1, gMul.eq_1, gMul.eq_2, gFdiv.eq_1, gMod.eq_1, gPow.eq_1, gNeg.eq_1, gNeg.eq_2, gGe.eq_1, gGt.eq_1, gLe.eq_1, gLt.eq_1, gLt.eq_2, gEq.eq_1, gNe.eq_1, gNe.eq_2, gNe.eq_3, gNe.eq_4, gInW.eq_1, gInW.eq_2, gIs.eq_1, gIsNot.eq_1, gLen.eq_1, gLen.eq_2, gAllAny.eq_1, gAbs.eq_1, gInt.eq_1, gInt.eq_2, gStr.eq_1, gStr.eq_2, gStr.eq_3, gM2.eq_1, gListOf.eq_1, gListOf.eq_2, gTupOf.eq_1, gTupOf.eq_2, gSort, gSortS.eq_1, gSortD.eq_1, gSortSet.eq_1, gRepr.eq_1, gM2S.eq_1, gIsB.eq_1, tCompN, tCompD, tCompI, tCompDI, tComp2, tCompL, gIx.eq_1, gIx.eq_2, ati0, ati1, ati2, Option.some.injEq, exists_eq, exists_eq', false_implies, Opd.slot.injEq, forall_eq, forall_eq', Opd.get.eq_1, Opd.get.eq_2, at_join, join_some, O.frz.eq_1, O.frz.eq_2, frz_dct, O.frz.eq_4, lsO.eq_1, lsO.eq_2, tuO.eq_1, seqO_l, seqO_p, seqO_t, endsOf, outsOf, startA, wipeA, List.getElem?_cons_zero, List.getElem?_cons_succ, List.length_cons, List.length_nil, List.map_cons, List.map_nil, List.set_cons_zero, List.set_cons_succ, List.replicate_succ, List.replicate_zero, List.cons_append, List.nil_append, List.getD_cons_zero, List.getD_cons_succ, if_true, if_false, Bool.false_eq_true, reduceIte, reduceCtorEq, Bool.not_true, Bool.not_false, implies_true, true_and, and_true, Nat.sub_self, Nat.reduceAdd, Nat.reduceSub, Nat.zero_add, List.all_cons, List.all_nil, Bool.and_true, Bool.true_and]
      cases w : mWord (.str p.1) with
      | false =>
        rw [if_pos (by rfl)]
        exact h1 p (by rw [List.find?_cons]; simp [bad, w])
      | true =>
        rw [if_neg (by simp)]
        refine gIxD_ok rfl rfl lk ⟨p.2, rfl, ?_⟩
        simp only [sSeq, sNext, sRet, sRetN, sDrop, sIf, sSet, sFor, sPar, sAsg, bAnd, bOr, bNot, tTst, tCst, tBin, tUny, tNilA, tConsA, getAll, tCallB, tCallF, tTupD, tLstD, tChainA, tChainE, tRg, rgK.eq_1, tStripX, strip1K.eq_1, strip2K.eq_1, tAndE, tOrE, tNotE, tIfE, tComp, bYes, tDct0, tRange.eq_1, tgName, tgTup.eq_1, tgCons.eq_1, tgNil.eq_1, takeAll, back.eq_1, back.eq_2, back_nil, setO, tName_k, nameK.eq_1, nameK.eq_2, nameK.eq_3, nameK.eq_4, nameK.eq_5, nameK.eq_6, takeA_v, takeA_s, O.fz.eq_1, O.fz.eq_2, O.fz.eq_3, O.fz.eq_4, O.alias.eq_1, O.alias.eq_2, O.alias.eq_3, O.alias.eq_4, O.alias.eq_5, O.alias.eq_6, atK.eq_1, take1_v, take1_s, takeO_v, takeO_s, takeR_v, takeR_s, prep_n, prep_tv, prep_ts, prep_f, lstK.eq_1, lstAt_k, g2K.eq_1, g2_k, g1K.eq_1, g1_k, gNK.eq_1, gN_k, boK.eq_1, bOf_k, isiK.eq_1, tIsi_k, partK.eq_1, part_n, part_s, join2K.eq_1, join1K.eq_1, tJoin, tTindex, tix1K.eq_1, tix2K.eq_1, tSplit, spl1K.eq_1, spl2K.eq_1, tTxt2, txt1K.eq_1, txt2K.eq_1, gIntT.eq_1, tgUnl.eq_1, tOrS, orSK.eq_1, slcK.eq_1, slcK.eq_2, slcK.eq_3, slcK.eq_4, tSlc_k, revK.eq_1, revK.eq_2, revK.eq_3, tRev_k, strMK.eq_1, tStrM_k, itK.eq_1, tIter_k, enumK.eq_1, tEnum_k, zipK.eq_1, zipK.eq_2, tZip_k, intsK.eq_1, intsK.eq_2, intsOf_k, endK.eq_1, endO_k, extK.eq_1, tExtend_k, tAppend_k, setIxK.eq_1, sSetIx_k, popAtK.eq_1, tPopAt_k, bO.eq_1, itemsOf.eq_1, itemsOf.eq_2, itemsOf.eq_3, gAdd.eq_1, gAdd.eq_2, gAdd.eq_3, gAdd.eq_4, gAdd.eq_5, gAdd.eq_6, gSub_.eq_1, gSub_.eq_2, gMul3_t, gMul3_s, gMul3_i, gMul3_l, gMulT.eq_1, gMul2_s, gMul2_i, gMul2_l, gMulS.eq_1, gMul.eq_1, gMul.eq_2, gFdiv.eq_1, gMod.eq_1, gPow.eq_1, gNeg.eq_1, gNeg.eq_2, gGe.eq_1, gGt.eq_1, gLe.eq_1, gLt.eq_1, gLt.eq_2, gEq.eq_1, gNe.eq_1, gNe.eq_2, gNe.eq_3, gNe.eq_4, gInW.eq_1, gInW.eq_2, gIs.eq_1, gIsNot.eq_1, gLen.eq_1, gLen.eq_2, gAllAny.eq_1, gAbs.eq_1, gInt.eq_1, gInt.eq_2, gStr.eq_1, gStr.eq_2, gStr.eq_3, gM2.eq_1, gListOf.eq_1, gListOf.eq_2, gTupOf.eq_1, gTupOf.eq_2, gSort, gSortS.eq_1, gSortD.eq_1, gSortSet.eq_1, gRepr.eq_1, gM2S.eq_1, gIsB.eq_1, tCompN, tCompD, tCompI, tCompDI, tComp2, tCompL, gIx.eq_1, gIx.eq_2, ati0, ati1, ati2, Option.some.injEq, exists_eq, exists_eq', false_implies, Opd.slot.injEq, forall_eq, forall_eq', Opd.get.eq_1, Opd.get.eq_2, at_join, join_some, O.frz.eq_1, O.frz.eq_2, frz_dct, O.frz.eq_4, lsO.eq_1, lsO.eq_2, tuO.eq_1, seqO_l, seqO_p, seqO_t, endsOf, outsOf, startA, wipeA, List.getElem?_cons_zero, List.getElem?_cons_succ, List.length_cons, List.length_nil, List.map_cons, List.map_nil, List.set_cons_zero, List.set_cons_succ, List.replicate_succ, List.replicate_zero, List.cons_append, List.nil_append, List.getD_cons_zero, List.getD_cons_succ, if_true, if_false, Bool.false_eq_true, reduceIte, reduceCtorEq, Bool.not_true, Bool.not_false, implies_true, true_and, and_true, Nat.sub_self, Nat.reduceAdd, Nat.reduceSub, Nat.zero_add, List.all_cons, List.all_nil, Bool.and_true, Bool.true_and]
        cases c : mNum 1 1000000 p.2 with
        | false =>
          rw [if_pos (by rfl)]
          exact h1 p (by rw [List.find?_cons]; simp [bad, w, c])
        | true =>
          rw [if_neg (by simp)]
          have nb : (p :: L).find? bad = L.find? bad := by rw [List.find?_cons]; simp [bad, w, c]
          rw [nb] at h1 h2
          exact ih _ h1 h2
theorem pl_priced (kts : List (Key × T)) (Qa : O → Prop) (Ea : Exc → Prop) (h : sp_priced kts Qa Ea) : t_priced Ea (endsE Qa) (startA 2 [.dct kts]) := by
  obtain ⟨ps, rfl, nd, hl, hz, h⟩ := h
  unfold t_priced
  simp only [sSeq, sNext, sRet, sRetN, sDrop, sIf, sSet, sFor, sPar, sAsg, bAnd, bOr, bNot, tTst, tCst, tBin, tUny, tNilA, tConsA, getAll, tCallB, tCallF, tTupD, tLstD, tChainA, tChainE, tRg, rgK.eq_1, tStripX, strip1K.eq_1, strip2K.eq_1, tAndE, tOrE, tNotE, tIfE, tComp, bYes, tDct0, tRange.eq_1, tgName, tgTup.eq_1, tgCons.eq_1, tgNil.eq_1, takeAll, back.eq_1, back.eq_2, back_nil, setO, tName_k, nameK.eq_1, nameK.eq_2, nameK.eq_3, nameK.eq_4, nameK.eq_5, nameK.eq_6, takeA_v, takeA_s, O.fz.eq_1, O.fz.eq_2, O.fz.eq_3, O.fz.eq_4, O.alias.eq_1, O.alias.eq_2, O.alias.eq_3, O.alias.eq_4, O.alias.eq_5, O.alias.eq_6, atK.eq_1, take1_v, take1_s, takeO_v, takeO_s, takeR_v, takeR_s, prep_n, prep_tv, prep_ts, prep_f, lstK.eq_1, lstAt_k, g2K.eq_1, g2_k, g1K.eq_1, g1_k, gNK.eq_1, gN_k, boK.eq_1, bOf_k, isiK.eq_1, tIsi_k, partK.eq_1, part_n, part_s, join2K.eq_1, join1K.eq_1, tJoin, tTindex, tix1K.eq_1, tix2K.eq_1, tSplit, spl1K.eq_1, spl2K.eq_1, tTxt2, txt1K.eq_1, txt2K.eq_1, gIntT.eq_1, tgUnl.eq_1, tOrS, orSK.eq_1, slcK.eq_1, slcK.eq_2, slcK.eq_3, slcK.eq_4, tSlc_k, revK.eq_1, revK.eq_2, revK.eq_3, tRev_k, strMK.eq_1, tStrM_k, itK.eq_1, tIter_k, enumK.eq_1, tEnum_k, zipK.eq_1, zipK.eq_2, tZip_k, intsK.eq_1, intsK.eq_2, intsOf_k, endK.eq_1, endO_k, extK.eq_1, tExtend_k, tAppend_k, setIxK.eq_1, sSetIx_k, popAtK.eq_1, tPopAt_k, bO.eq_1, itemsOf.eq_1, itemsOf.eq_2, itemsOf.eq_3, gAdd.eq_1, gAdd.eq_2, gAdd.eq_3, gAdd.eq_4, gAdd.eq_5, gAdd.eq_6, gSub_.eq_1, gSub_.eq_2, gMul3_t, gMul3_s, gMul3_i, gMul3_l, gMulT.eq_1, gMul2_s, gMul2_i, gMul2_l, gMulS.eq_1, gMul.eq_1, gMul.eq_2, gFdiv.eq_1, gMod.eq_1, gPow.eq_1, gNeg.eq_1, gNeg.eq_2, gGe.eq_1, gGt.eq_1, gLe.eq_1, gLt.eq_1, gLt.eq_2, gEq.eq_1, gNe.eq_1, gNe.eq_2, gNe.eq_3, gNe.eq_4, gInW.eq_1, gInW.eq_2, gIs.eq_1, gIsNot.eq_1, gLen.eq_1, gLen.eq_2, gAllAny.eq_1, gAbs.eq_1, gInt.eq_1, gInt.eq_2, gStr.eq_1, gStr.eq_2, gStr.eq_3, gM2.eq_1, gListOf.eq_1, gListOf.eq_2, gTupOf.eq_1, gTupOf.eq_2, gSort, gSortS.eq_1, gSortD.eq_1, gSortSet.eq_1, gRepr.eq_1, gM2S.eq_1, gIsB.eq_1, tCompN, tCompD, tCompI, tCompDI, tComp2, tCompL, gIx.eq_1, gIx.eq_2, ati0, ati1, ati2, Option.some.injEq, exists_eq, exists_eq', false_implies, Opd.slot.injEq, forall_eq, forall_eq', Opd.get.eq_1, Opd.get.eq_2, at_join, join_some, O.frz.eq_1, O.frz.eq_2, frz_dct, O.frz.eq_4, lsO.eq_1, lsO.eq_2, tuO.eq_1, seqO_l, seqO_p, seqO_t, endsOf, outsOf, startA, wipeA, List.getElem?_cons_zero, List.getElem?_cons_succ, List.length_cons, List.length_nil, List.map_cons, List.map_nil, List.set_cons_zero, List.set_cons_succ, List.replicate_succ, List.replicate_zero, List.cons_append, List.nil_append, List.getD_cons_zero, List.getD_cons_succ, if_true, if_false, Bool.false_eq_true, reduceIte, reduceCtorEq, Bool.not_true, Bool.not_false, implies_true, true_and, and_true, Nat.sub_self, Nat.reduceAdd, Nat.reduceSub, Nat.zero_add, List.all_cons, List.all_nil, Bool.and_true, Bool.true_and, gSortK, dcX, tSortI]
  refine ⟨?_, ?_, by unfold kvOf; rw [List.length_map]; omega, ?_⟩
  · rw [keys_kv]
    intro a ha b hb
    obtain ⟨_, _, rfl⟩ := List.mem_map.mp ha
    obtain ⟨_, _, rfl⟩ := List.mem_map.mp hb
    rfl
  · rw [keys_kv]
    refine .inr fun a ha => ?_
    obtain ⟨_, _, rfl⟩ := List.mem_map.mp ha
    exact ⟨(fun z => nomatch z), fun xs z => nomatch z⟩
  · rw [keys_sorted]
    refine pr_loop nd hz _ _ (fun p m => (List.mergeSort_perm ps le0).mem_iff.mp m) (fun p e => ?_) fun e x1 => ?_
    · rw [e] at h; exact h
    · rw [e] at h
      have ni := none_ints e
      obtain ⟨a1, a2, a3⟩ := tup_alike (ps := ps) fun p m => let ⟨i, h, _⟩ := ni p m; ⟨i, h⟩
      have lk : (kvOf ps).length ≤ 1000000 := by unfold kvOf; rw [List.length_map]; omega
      rw [← items_kv] at a1 a2 a3 h
      generalize kvOf ps = kv at lk a1 a2 a3 h ⊢
      simp only [sSeq, sNext, sRet, sRetN, sDrop, sIf, sSet, sFor, sPar, sAsg, bAnd, bOr, bNot, tTst, tCst, tBin, tUny, tNilA, tConsA, getAll, tCallB, tCallF, tTupD, tLstD, tChainA, tChainE, tRg, rgK.eq_1, tStripX, strip1K.eq_1, strip2K.eq_1, tAndE, tOrE, tNotE, tIfE, tComp, bYes, tDct0, tRange.eq_1, tgName, tgTup.eq_1, tgCons.eq_1, tgNil.eq_1, takeAll, back.eq_1, back.eq_2, back_nil, setO, tName_k, nameK.eq_1, nameK.eq_2, nameK.eq_3, nameK.eq_4, nameK.eq_5, nameK.eq_6, takeA_v, takeA_s, O.fz.eq_1, O.fz.eq_2, O.fz.eq_3, O.fz.eq_4, O.alias.eq_1, O.alias.eq_2, O.alias.eq_3, O.alias.eq_4, O.alias.eq_5, O.alias.eq_6, atK.eq_1, take1_v, take1_s, takeO_v, takeO_s, takeR_v, takeR_s, prep_n, prep_tv, prep_ts, prep_f, lstK.eq_1, lstAt_k, g2K.eq_1, g2_k, g1K.eq_1, g1_k, gNK.eq_1, gN_k, boK.eq_1, bOf_k, isiK.eq_1, tIsi_k, partK.eq_1, part_n, part_s, join2K.eq_1, join1K.eq_1, tJoin, tTindex, tix1K.eq_1, tix2K.eq_1, tSplit, spl1K.eq_1, spl2K.eq_1, tTxt2, txt1K.eq_1, txt2K.eq_1, gIntT.eq_1, tgUnl.eq_1, tOrS, orSK.eq_1, slcK.eq_1, slcK.eq_2, slcK.eq_3, slcK.eq_4, tSlc_k, revK.eq_1, revK.eq_2, revK.eq_3, tRev_k, strMK.eq_1, tStrM_k, itK.eq_1, tIter_k, enumK.eq_1, tEnum_k, zipK.eq_1, zipK.eq_2, tZip_k, intsK.eq_1, intsK.eq_2, intsOf_k, endK.eq_1, endO_k, extK.eq_1, tExtend_k, tAppend_k, setIxK.eq_1, sSetIx_k, popAtK.eq_1, tPopAt_k, bO.eq_1, itemsOf.eq_1, itemsOf.eq_2, itemsOf.eq_3, gAdd.eq_1, gAdd.eq_2, gAdd.eq_3, gAdd.eq_4, gAdd.eq_5, gAdd.eq_6, gSub_.eq_1, gSub_.eq_2, gMul3_t, gMul3_s, gMul3_i, gMul3_l, gMulT.eq_1, gMul2_s, gMul2_i, gMul2_l, gMulS.eq_1, gMul.eq_1, gMul.eq_2, gFdiv.eq_1, gMod.eq_1, gPow.eq_1, gNeg.eq_1, gNeg.eq_2, gGe.eq_1, gGt.eq_1, gLe.eq_1, gLt.eq_1, gLt.eq_2, gEq.eq_1, gNe.eq_1, gNe.eq_2, gNe.eq_3, gNe.eq_4, gInW.eq_1, gInW.eq_2, gIs.eq_1, gIsNot.eq_1, gLen.eq_1, gLen.eq_2, gAllAny.eq_1, gAbs.eq_1, gInt.eq_1, gInt.eq_2, gStr.eq_1, gStr.eq_2, gStr.eq_3, gM2.eq_1, gListOf.eq_1, gListOf.eq_2, gTupOf.eq_1, gTupOf.eq_2, gSort, gSortS.eq_1, gSortD.eq_1, gSortSet.eq_1, gRepr.eq_1, gM2S.eq_1, gIsB.eq_1, tCompN, tCompD, tCompI, tCompDI, tComp2, tCompL, gIx.eq_1, gIx.eq_2, ati0, ati1, ati2, Option.some.injEq, exists_eq, exists_eq', false_implies, Opd.slot.injEq, forall_eq, forall_eq', Opd.get.eq_1, Opd.get.eq_2, at_join, join_some, O.frz.eq_1, O.frz.eq_2, frz_dct, O.frz.eq_4, lsO.eq_1, lsO.eq_2, tuO.eq_1, seqO_l, seqO_p, seqO_t, endsOf, outsOf, startA, wipeA, List.getElem?_cons_zero, List.getElem?_cons_succ, List.length_cons, List.length_nil, List.map_cons, List.map_nil, List.set_cons_zero, List.set_cons_succ, List.replicate_succ, List.replicate_zero, List.cons_append, List.nil_append, List.getD_cons_zero, List.getD_cons_succ, if_true, if_false, Bool.false_eq_true, reduceIte, reduceCtorEq, Bool.not_true, Bool.not_false, implies_true, true_and, and_true, Nat.sub_self, Nat.reduceAdd, Nat.reduceSub, Nat.zero_add, List.all_cons, List.all_nil, Bool.and_true, Bool.true_and, tSortI]
      exact ⟨_, rfl, a1, a2, a3, lk, h⟩
end WK
set_option Elab.async false
set_option linter.all false
set_option maxRecDepth 100000
set_option maxHeartbeats 4000000
/-! prices by keywords: what is due, what a call told -/
namespace WK
open PySem PySem.Spec L2 DL WS
open PyProof.Rows hiding St
local instance : Tbs := ⟨[], fun _ => 0, []⟩
local instance : Bas := ⟨fun _ => none, fun _ => False, []⟩
def lw (x : Str) : Bool := if decide ((x.length : Int) < 9) = true then decide (Txt.stripChars x letters = "") else false
def sp__law_due : FSpec := fun os Q => ∃ ps : List (Str × T), os = [.pure (.list (ps.map tup0))] ∧ ps.length ≤ 1000 ∧ (∀ p ∈ ps, lw p.1 = mWord (.str p.1) ∧ p.1.length ≤ 1000) ∧ Q (.pure (due ps)) []
/-- _law_due: slots 0:_law_pairs 1:_law_name 2:_law_cost_here 3:_law_is_word -/
def t__law_due_b1 : ST := (sSeq (sSet 3 (tAndE (tBin gLt (tCallB gLen (tConsA (tName 1) tNilA)) (tCst (.int 9))) (tBin gEq (tStripX (tName 1) (tCst (.str "abcdefghijklmnopqrstuvwxyz"))) (tCst (.str "")))))
  (sIf (bOr (bNot (tTst (tName 3))) (bNot (tTst (tCallF [false, false, false] sp__law_is_number (tConsA (tName 2) (tConsA (tCst (.int 1)) (tConsA (tBin gPow (tCst (.int 10)) (tCst (.int 6))) tNilA))))))) (sRet (fun j => [false].getD j false) (tTupD (tConsA (tCst (.str "price")) (tConsA (tName 1) tNilA)))) sNext))
def t__law_due : ST := (sSeq (sFor (tIter (tCallB gSortK0 (tConsA (tName 0) tNilA))) (tgTup 2 (tgCons (tgName 1) (tgCons (tgName 2) tgNil))) t__law_due_b1)
  (sRet (fun j => [false].getD j false) (tTupD (tConsA (tCst (.str "value")) (tConsA (tCallB gTupOf (tConsA (tCallB gSort (tConsA (tName 0) tNilA)) tNilA)) tNilA)))))
theorem du_loop {D : AEnds} {ps : List (Str × T)} {t0 : Option O} (hz : ∀ p ∈ ps, lw p.1 = mWord (.str p.1) ∧ p.1.length ≤ 1000) : ∀ (L : List (Str × T)) (x1 x2 x3 : Option O), (∀ p ∈ L, p ∈ ps) →
    (∀ p, L.find? bad = some p → ∀ x1 x2 x3, D.rt (.pure (.tuple [.str "price", .str p.1])) [t0, x1, x2, x3]) → (L.find? bad = none → ∀ x1 x2 x3, D.nx [t0, x1, x2, x3]) → forW (tgTup 2 (tgCons (tgName 1) (tgCons (tgName 2) tgNil))) t__law_due_b1 D (L.map tup0) [t0, x1, x2, x3]
  | [], x1, x2, x3, _, _, h2 => h2 rfl x1 x2 x3
  | p :: L, x1, x2, x3, hm, h1, h2 => by
    have ih := fun x1 x2 x3 => du_loop (D := D) (t0 := t0) hz L x1 x2 x3 (fun q m => hm q (List.mem_cons_of_mem _ m))
    have hp := hz p (hm p List.mem_cons_self)
    rw [List.map_cons]
    unfold forW
    unfold t__law_due_b1 at ih ⊢
    unfold tup0 at ih ⊢
    simp only [sSeq, sNext, sRet, sRetN, sDrop, sIf, sSet, sFor, sPar, sAsg, bAnd, bOr, bNot, tTst, tCst, tBin, tUny, tNilA, tConsA, getAll, tCallB, tCallF, tTupD, tLstD, tChainA, tChainE, tRg, rgK.eq_1, tStripX, strip1K.eq_1, strip2K.eq_1, tAndE, tOrE, tNotE, tIfE, tComp, bYes, tDct0, tRange.eq_1, tgName, tgTup.eq_1, tgCons.eq_1, tgNil.eq_1, takeAll, back.eq_1, back.eq_2, back_nil, setO, tName_k, nameK.eq_1, nameK.eq_2, nameK.eq_3, nameK.eq_4, nameK.eq_5, nameK.eq_6, takeA_v, takeA_s, O.fz.eq_1, O.fz.eq_2, O.fz.eq_3, O.fz.eq_4, O.alias.eq_1, O.alias.eq_2, O.alias.eq_3, O.alias.eq_4, O.alias.eq_5, O.alias.eq_6, atK.eq_1, take1_v, take1_s, takeO_v, takeO_s, takeR_v, takeR_s, prep_n, prep_tv, prep_ts, prep_f, lstK.eq_1, lstAt_k, g2K.eq_1, g2_k, g1K.eq_1, g1_k, gNK.eq_1, gN_k, boK.eq_1, bOf_k, isiK.eq_1, tIsi_k, partK.eq_1, part_n, part_s, join2K.eq_1, join1K.eq_1, tJoin, tTindex, tix1K.eq_1, tix2K.eq_1, tSplit, spl1K.eq_1, spl2K.eq_1, tTxt2, txt1K.eq_1, txt2K.eq_1, gIntT.eq_1, tgUnl.eq_1, tOrS, orSK.eq_1, slcK.eq_1, slcK.eq_2, slcK.eq_3, slcK.eq_4, tSlc_k, revK.eq_1, revK.eq_2, revK.eq_3, tRev_k, strMK.eq_1, tStrM_k, itK.eq_1, tIter_k, enumK.eq_1, tEnum_k, zipK.eq_1, zipK.eq_2, tZip_k, intsK.eq_1, intsK.eq_2, intsOf_k, endK.eq_1, endO_k, extK.eq_1, tExtend_k, tAppend_k, setIxK.eq_1, sSetIx_k, popAtK.eq_1, tPopAt_k, bO.eq_1, itemsOf.eq_1, itemsOf.eq_2, itemsOf.eq_3, gAdd.eq_1, gAdd.eq_2, gAdd.eq_3, gAdd.eq_4, gAdd.eq_5, gAdd.eq_6, gSub_.eq_1, gSub_.eq_2, gMul3_t, gMul3_s, gMul3_i, gMul3_l, gMulT.eq_1, gMul2_s, gMul2_i, gMul2_l, gMulS.eq_1, gMul.eq_1, gMul.eq_2, gFdiv.eq_1, gMod.eq_1, gPow.eq_1, gNeg.eq_1, gNeg.eq_2, gGe.eq_1, gGt.eq_1, gLe.eq_1, gLt.eq_1, gLt.eq_2, gEq.eq_1, gNe.eq_1, gNe.eq_2, gNe.eq_3, gNe.eq_4, gInW.eq_1, gInW.eq_2, gIs.eq_1, gIsNot.eq_1, gLen.eq_1, gLen.eq_2, gAllAny.eq_1, gAbs.eq_1, gInt.eq_1, gInt.eq_2, gStr.eq_1, gStr.eq_2, gStr.eq_3, gM2.eq_1, gListOf.eq_1, gListOf.eq_2, gTupOf.eq_1, gTupOf.eq_2, gSort, gSortS.eq_1, gSortD.eq_1, gSortSet.eq_1, gRepr.eq_1, gM2S.eq_1, gIsB.eq_1, tCompN, tCompD, tCompI, tCompDI, tComp2, tCompL, gIx.eq_1, gIx.eq_2, ati0, ati1, ati2, Option.some.injEq, exists_eq, exists_eq', false_implies, Opd.slot.injEq, forall_eq, forall_eq', Opd.get.eq_1, Opd.get.eq_2, at_join, join_some, O.frz.eq_1, O.frz.eq_2, frz_dct, O.frz.eq_4, lsO.eq_1, lsO.eq_2, tuO.eq_1, seqO_l, seqO_p, seqO_t, endsOf, outsOf, startA, wipeA, List.getElem?_cons_zero, List.getElem?_cons_succ, List.length_cons, List.length_nil, List.map_cons, List.map_nil, List.set_cons_zero, List.set_cons_succ, List.replicate_succ, List.replicate_zero, List.cons_append, List.nil_append, List.getD_cons_zero, List.getD_cons_succ, if_true, if_false, Bool.false_eq_true, reduceIte, reduceCtorEq, Bool.not_true, Bool.not_false, implies_true, true_and, and_true, Nat.sub_self, Nat.reduceAdd, Nat.reduceSub, Nat.zero_add, List.all_cons, List.all_nil, Bool.and_true, Bool.true_and]
    have hl : p.1.length ≤ 16777216 := by omega
    refine ⟨rfl, rfl, hl, ?_⟩
    obtain ⟨hp, _⟩ := hp
    unfold lw at hp
    have e6 : (10 : Int) ^ Int.toNat 6 = 1000000 := by decide
    by_cases q : (p.1.length : Int) < 9
    · rw [if_pos (decide_eq_true q)] at hp
      rw [if_pos (decide_eq_true q)]
      refine ⟨hl, by simp [cmpOk], by simp [PyData.depth], rfl, ?_⟩
      have ee : (PyData.str (Txt.stripChars p.1 "abcdefghijklmnopqrstuvwxyz")).eqv (PyData.str "") = mWord (.str p.1) := by
        rw [← hp]
        rfl
      rw [ee]
      cases w : mWord (.str p.1) with
      | false =>
        rw [if_pos (by rfl)]
        exact h1 p (by rw [List.find?_cons]; simp [bad, w]) _ _ _
      | true =>
        rw [if_neg (by simp)]
        refine ⟨by decide, by decide, by decide, p.2, _, _, rfl, ?_⟩
        simp only [sSeq, sNext, sRet, sRetN, sDrop, sIf, sSet, sFor, sPar, sAsg, bAnd, bOr, bNot, tTst, tCst, tBin, tUny, tNilA, tConsA, getAll, tCallB, tCallF, tTupD, tLstD, tChainA, tChainE, tRg, rgK.eq_1, tStripX, strip1K.eq_1, strip2K.eq_1, tAndE, tOrE, tNotE, tIfE, tComp, bYes, tDct0, tRange.eq_1, tgName, tgTup.eq_1, tgCons.eq_1, tgNil.eq_1, takeAll, back.eq_1, back.eq_2, back_nil, setO, tName_k, nameK.eq_1, nameK.eq_2, nameK.eq_3, nameK.eq_4, nameK.eq_5, nameK.eq_6, takeA_v, takeA_s, O.fz.eq_1, O.fz.eq_2, O.fz.eq_3, O.fz.eq_4, O.alias.eq_1, O.alias.eq_2, O.alias.eq_3, O.alias.eq_4, O.alias.eq_5, O.alias.eq_6, atK.eq_1, take1_v, take1_s, takeO_v, takeO_s, takeR_v, takeR_s, prep_n, prep_tv, prep_ts, prep_f, lstK.eq_1, lstAt_k, g2K.eq_1, g2_k, g1K.eq_1, g1_k, gNK.eq_1, gN_k, boK.eq_1, bOf_k, isiK.eq_1, tIsi_k, partK.eq_1, part_n, part_s, join2K.eq_1, join1K.eq_1, tJoin, tTindex, tix1K.eq_1, tix2K.eq_1, tSplit, spl1K.eq_1, spl2K.eq_1, tTxt2, txt1K.eq_1, txt2K.eq_1, gIntT.eq_1, tgUnl.eq_1, tOrS, orSK.eq_1, slcK.eq_1, slcK.eq_2, slcK.eq_3, slcK.eq_4, tSlc_k, revK.eq_1, revK.eq_2, revK.eq_3, tRev_k, strMK.eq_1, tStrM_k, itK.eq_1, tIter_k, enumK.eq_1, tEnum_k, zipK.eq_1, zipK.eq_2, tZip_k, intsK.eq_1, intsK.eq_2, intsOf_k, endK.eq_1, endO_k, extK.eq_1, tExtend_k, tAppend_k, setIxK.eq_1, sSetIx_k, popAtK.eq_1, tPopAt_k, bO.eq_1, itemsOf.eq_1, itemsOf.eq_2, itemsOf.eq_3, gAdd.eq_1, gAdd.eq_2, gAdd.eq_3, gAdd.eq_4, gAdd.eq_5, gAdd.eq_6, gSub_.eq_1, gSub_.eq_2, gMul3_t, gMul3_s, gMul3_i, gMul3_l, gMulT.eq_1, gMul2_s, gMul2_i, gMul2_l, gMulS.eq_1, gMul.eq_1, gMul.eq_2, gFdiv.eq_1, gMod.eq_1, gPow.eq_1, gNeg.eq_1, gNeg.eq_2, gGe.eq_1, gGt.eq_1, gLe.eq_1, gLt.eq_1, gLt.eq_2, gEq.eq_1, gNe.eq_1, gNe.eq_2, gNe.eq_3, gNe.eq_4, gInW.eq_1, gInW.eq_2, gIs.eq_1, gIsNot.eq_1, gLen.eq_1, gLen.eq_2, gAllAny.eq_1, gAbs.eq_1, gInt.eq_1, gInt.eq_2, gStr.eq_1, gStr.eq_2, gStr.eq_3, gM2.eq_1, gListOf.eq_1, gListOf.eq_2, gTupOf.eq_1, gTupOf.eq_2, gSort, gSortS.eq_1, gSortD.eq_1, gSortSet.eq_1, gRepr.eq_1, gM2S.eq_1, gIsB.eq_1, tCompN, tCompD, tCompI, tCompDI, tComp2, tCompL, gIx.eq_1, gIx.eq_2, ati0, ati1, ati2, Option.some.injEq, exists_eq, exists_eq', false_implies, Opd.slot.injEq, forall_eq, forall_eq', Opd.get.eq_1, Opd.get.eq_2, at_join, join_some, O.frz.eq_1, O.frz.eq_2, frz_dct, O.frz.eq_4, lsO.eq_1, lsO.eq_2, tuO.eq_1, seqO_l, seqO_p, seqO_t, endsOf, outsOf, startA, wipeA, List.getElem?_cons_zero, List.getElem?_cons_succ, List.length_cons, List.length_nil, List.map_cons, List.map_nil, List.set_cons_zero, List.set_cons_succ, List.replicate_succ, List.replicate_zero, List.cons_append, List.nil_append, List.getD_cons_zero, List.getD_cons_succ, if_true, if_false, Bool.false_eq_true, reduceIte, reduceCtorEq, Bool.not_true, Bool.not_false, implies_true, true_and, and_true, Nat.sub_self, Nat.reduceAdd, Nat.reduceSub, Nat.zero_add, List.all_cons, List.all_nil, Bool.and_true, Bool.true_and]
        rw [e6]
        cases c : mNum 1 1000000 p.2 with
        | false =>
          rw [if_pos (by rfl)]
          exact h1 p (by rw [List.find?_cons]; simp [bad, w, c]) _ _ _
        | true =>
          rw [if_neg (by simp)]
          have nb : (p :: L).find? bad = L.find? bad := by rw [List.find?_cons]; simp [bad, w, c]
          rw [nb] at h1 h2
          exact ih _ _ _ h1 h2
    · rw [if_neg (by rw [decide_eq_false q]; exact Bool.false_ne_true)] at hp
      rw [if_neg (by rw [decide_eq_false q]; exact Bool.false_ne_true)]
      exact ⟨rfl, h1 p (by rw [List.find?_cons]; simp [bad, ← hp]) _ _ _⟩
theorem pl__law_due (os : List O) (Qa : O → List O → Prop) (_ : os.length = 1) (h : sp__law_due os Qa) : t__law_due (endsOf [false] Qa) (startA 4 os) := by
  obtain ⟨ps, rfl, hl, hz, h⟩ := h
  unfold t__law_due
  simp only [sSeq, sNext, sRet, sRetN, sDrop, sIf, sSet, sFor, sPar, sAsg, bAnd, bOr, bNot, tTst, tCst, tBin, tUny, tNilA, tConsA, getAll, tCallB, tCallF, tTupD, tLstD, tChainA, tChainE, tRg, rgK.eq_1, tStripX, strip1K.eq_1, strip2K.eq_1, tAndE, tOrE, tNotE, tIfE, tComp, bYes, tDct0, tRange.eq_1, tgName, tgTup.eq_1, tgCons.eq_1, tgNil.eq_1, takeAll, back.eq_1, back.eq_2, back_nil, setO, tName_k, nameK.eq_1, nameK.eq_2, nameK.eq_3, nameK.eq_4, nameK.eq_5, nameK.eq_6, takeA_v, takeA_s, O.fz.eq_1, O.fz.eq_2, O.fz.eq_3, O.fz.eq_4, O.alias.eq_1, O.alias.eq_2, O.alias.eq_3, O.alias.eq_4, O.alias.eq_5, O.alias.eq_6, atK.eq_1, take1_v, take1_s, takeO_v, takeO_s, takeR_v, takeR_s, prep_n, prep_tv, prep_ts, prep_f, lstK.eq_1, lstAt_k, g2K.eq_1, g2_k, g1K.eq_1, g1_k, gNK.eq_1, gN_k, boK.eq_1, bOf_k, isiK.eq_1, tIsi_k, partK.eq_1, part_n, part_s, join2K.eq_1, join1K.eq_1, tJoin, tTindex, tix1K.eq_1, tix2K.eq_1, tSplit, spl1K.eq_1, spl2K.eq_1, tTxt2, txt1K.eq_1, txt2K.eq_1, gIntT.eq_1, tgUnl.eq_1, tOrS, orSK.eq_1, slcK.eq_1, slcK.eq_2, slcK.eq_3, slcK.eq_4, tSlc_k, revK.eq_1, revK.eq_2, revK.eq_3, tRev_k, strMK.eq_1, tStrM_k, itK.eq_1, tIter_k, enumK.eq_1, tEnum_k, zipK.eq_1, zipK.eq_2, tZip_k, intsK.eq_1, intsK.eq_2, intsOf_k, endK.eq_1, endO_k, extK.eq_1, tExtend_k, tAppend_k, setIxK.eq_1, sSetIx_k, popAtK.eq_1, tPopAt_k, bO.eq_1, itemsOf.eq_1, itemsOf.eq_2, itemsOf.eq_3, gAdd.eq_1, gAdd.eq_2, gAdd.eq_3, gAdd.eq_4, gAdd.eq_5, gAdd.eq_6, gSub_.eq_1, gSub_.eq_2, gMul3_t, gMul3_s, gMul3_i, gMul3_l, gMulT.eq_1, gMul2_s, gMul2_i, gMul2_l, gMulS.eq_1, gMul.eq_1, gMul.eq_2, gFdiv.eq_1, gMod.eq_1, gPow.eq_1, gNeg.eq_1, gNeg.eq_2, gGe.eq_1, gGt.eq_1, gLe.eq_1, gLt.eq_1, gLt.eq_2, gEq.eq_1, gNe.eq_1, gNe.eq_2, gNe.eq_3, gNe.eq_4, gInW.eq_1, gInW.eq_2, gIs.eq_1, gIsNot.eq_1, gLen.eq_1, gLen.eq_2, gAllAny.eq_1, gAbs.eq_1, gInt.eq_1, gInt.eq_2, gStr.eq_1, gStr.eq_2, gStr.eq_3, gM2.eq_1, gListOf.eq_1, gListOf.eq_2, gTupOf.eq_1, gTupOf.eq_2, gSort, gSortS.eq_1, gSortD.eq_1, gSortSet.eq_1, gRepr.eq_1, gM2S.eq_1, gIsB.eq_1, tCompN, tCompD, tCompI, tCompDI, tComp2, tCompL, gIx.eq_1, gIx.eq_2, ati0, ati1, ati2, Option.some.injEq, exists_eq, exists_eq', false_implies, Opd.slot.injEq, forall_eq, forall_eq', Opd.get.eq_1, Opd.get.eq_2, at_join, join_some, O.frz.eq_1, O.frz.eq_2, frz_dct, O.frz.eq_4, lsO.eq_1, lsO.eq_2, tuO.eq_1, seqO_l, seqO_p, seqO_t, endsOf, outsOf, startA, wipeA, List.getElem?_cons_zero, List.getElem?_cons_succ, List.length_cons, List.length_nil, List.map_cons, List.map_nil, List.set_cons_zero, List.set_cons_succ, List.replicate_succ, List.replicate_zero, List.cons_append, List.nil_append, List.getD_cons_zero, List.getD_cons_succ, if_true, if_false, Bool.false_eq_true, reduceIte, reduceCtorEq, Bool.not_true, Bool.not_false, implies_true, true_and, and_true, Nat.sub_self, Nat.reduceAdd, Nat.reduceSub, Nat.zero_add, List.all_cons, List.all_nil, Bool.and_true, Bool.true_and, gSortK0]
  refine ⟨ps, rfl, by omega, ?_⟩
  refine du_loop hz (ps.mergeSort le0) _ _ _ (fun p m => (List.mergeSort_perm ps le0).mem_iff.mp m) (fun p e x1 x2 x3 => ?_) fun e x1 x2 x3 => ?_
  · unfold due at h
    rw [e] at h
    exact h
  · unfold due at h
    rw [e] at h
    have ni := none_ints e
    obtain ⟨a1, a2, a3⟩ := tup_alike (ps := ps) fun p m => let ⟨i, h, _⟩ := ni p m; ⟨i, h⟩
    have lk : (ps.map tup0).length ≤ 1000000 := by rw [List.length_map]; omega
    generalize ps.map tup0 = ts at lk a1 a2 a3 h ⊢
    simp only [sSeq, sNext, sRet, sRetN, sDrop, sIf, sSet, sFor, sPar, sAsg, bAnd, bOr, bNot, tTst, tCst, tBin, tUny, tNilA, tConsA, getAll, tCallB, tCallF, tTupD, tLstD, tChainA, tChainE, tRg, rgK.eq_1, tStripX, strip1K.eq_1, strip2K.eq_1, tAndE, tOrE, tNotE, tIfE, tComp, bYes, tDct0, tRange.eq_1, tgName, tgTup.eq_1, tgCons.eq_1, tgNil.eq_1, takeAll, back.eq_1, back.eq_2, back_nil, setO, tName_k, nameK.eq_1, nameK.eq_2, nameK.eq_3, nameK.eq_4, nameK.eq_5, nameK.eq_6, takeA_v, takeA_s, O.fz.eq_1, O.fz.eq_2, O.fz.eq_3, O.fz.eq_4, O.alias.eq_1, O.alias.eq_2, O.alias.eq_3, O.alias.eq_4, O.alias.eq_5, O.alias.eq_6, atK.eq_1, take1_v, take1_s, takeO_v, takeO_s, takeR_v, takeR_s, prep_n, prep_tv, prep_ts, prep_f, lstK.eq_1, lstAt_k, g2K.eq_1, g2_k, g1K.eq_1, g1_k, gNK.eq_1, gN_k, boK.eq_1, bOf_k, isiK.eq_1, tIsi_k, partK.eq_1, part_n, part_s, join2K.eq_1, join1K.eq_1, tJoin, tTindex, tix1K.eq_1, tix2K.eq_1, tSplit, spl1K.eq_1, spl2K.eq_1, tTxt2, txt1K.eq_1, txt2K.eq_1, gIntT.eq_1, tgUnl.eq_1, tOrS, orSK.eq_1, slcK.eq_1, slcK.eq_2, slcK.eq_3, slcK.eq_4, tSlc_k, revK.eq_1, revK.eq_2, revK.eq_3, tRev_k, strMK.eq_1, tStrM_k, itK.eq_1, tIter_k, enumK.eq_1, tEnum_k, zipK.eq_1, zipK.eq_2, tZip_k, intsK.eq_1, intsK.eq_2, intsOf_k, endK.eq_1, endO_k, extK.eq_1, tExtend_k, tAppend_k, setIxK.eq_1, sSetIx_k, popAtK.eq_1, tPopAt_k, bO.eq_1, itemsOf.eq_1, itemsOf.eq_2, itemsOf.eq_3, gAdd.eq_1, gAdd.eq_2, gAdd.eq_3, gAdd.eq_4, gAdd.eq_5, gAdd.eq_6, gSub_.eq_1, gSub_.eq_2, gMul3_t, gMul3_s, gMul3_i, gMul3_l, gMulT.eq_1, gMul2_s, gMul2_i, gMul2_l, gMulS.eq_1, gMul.eq_1, gMul.eq_2, gFdiv.eq_1, gMod.eq_1, gPow.eq_1, gNeg.eq_1, gNeg.eq_2, gGe.eq_1, gGt.eq_1, gLe.eq_1, gLt.eq_1, gLt.eq_2, gEq.eq_1, gNe.eq_1, gNe.eq_2, gNe.eq_3, gNe.eq_4, gInW.eq_1, gInW.eq_2, gIs.eq_1, gIsNot.eq_1, gLen.eq_1, gLen.eq_2, gAllAny.eq_1, gAbs.eq_1, gInt.eq_1, gInt.eq_2, gStr.eq_1, gStr.eq_2, gStr.eq_3, gM2.eq_1, gListOf.eq_1, gListOf.eq_2, gTupOf.eq_1, gTupOf.eq_2, gSort, gSortS.eq_1, gSortD.eq_1, gSortSet.eq_1, gRepr.eq_1, gM2S.eq_1, gIsB.eq_1, tCompN, tCompD, tCompI, tCompDI, tComp2, tCompL, gIx.eq_1, gIx.eq_2, ati0, ati1, ati2, Option.some.injEq, exists_eq, exists_eq', false_implies, Opd.slot.injEq, forall_eq, forall_eq', Opd.get.eq_1, Opd.get.eq_2, at_join, join_some, O.frz.eq_1, O.frz.eq_2, frz_dct, O.frz.eq_4, lsO.eq_1, lsO.eq_2, tuO.eq_1, seqO_l, seqO_p, seqO_t, endsOf, outsOf, startA, wipeA, List.getElem?_cons_zero, List.getElem?_cons_succ, List.length_cons, List.length_nil, List.map_cons, List.map_nil, List.set_cons_zero, List.set_cons_succ, List.replicate_succ, List.replicate_zero, List.cons_append, List.nil_append, List.getD_cons_zero, List.getD_cons_succ, if_true, if_false, Bool.false_eq_true, reduceIte, reduceCtorEq, Bool.not_true, Bool.not_false, implies_true, true_and, and_true, Nat.sub_self, Nat.reduceAdd, Nat.reduceSub, Nat.zero_add, List.all_cons, List.all_nil, Bool.and_true, Bool.true_and]
    exact .inr ⟨a1, a2, a3, lk, h⟩
def sp__law_told : TkSpec → (O → Prop) → Prop := fun spec Qa => ∀ (A : O → Prop) (B : Exc → Prop), (∀ t, Qa (.pure (.tuple [.str "value", t])) → A (.pure t)) → (∀ t, Qa (.pure (.tuple [.str "price", t])) → B ⟨"BadPrice", some ("name", t)⟩) → spec A B
/-- _law_told: slots 0:_law_ask 1:_law_caught 2:_law_told_here 3:error -/
def t__law_told (k : Thk) (spec : TkSpec) : ST := (sSeq (sAsg (tgTup 2 (tgCons (tgName 1) (tgCons (tgName 2) tgNil))) (tTupD (tConsA (tCst .none) (tConsA (tCst .none) tNilA))))
  (sSeq (sTry 3 (exSub ["BadPath", "BadPrice", "BadText"]) (fun Eb => (sSet 2 (tAct k spec Eb))) (sSet 1 (tName 3)) (fun _ _ => False))
  (sSeq (sIf (tTst (tBin gIs (tName 1) (tCst .none))) (sRet (fun _ => false) (tTupD (tConsA (tCst (.str "value")) (tConsA (tName 2) tNilA)))) sNext)
  (sSeq (sIf (bOr (bNot (tTst (tIsX (exSub ["BadPrice"]) (tName 1)))) (bOr (tTst (tIsX (fun m => (exSub ["BadPath"]) m || (exSub ["BadText"]) m) (tName 1))) (bNot (tTst (tIsX (exSub ["BadPath", "BadPrice", "BadText"]) (tName 1)))))) (sRet (fun _ => false) (tTupD (tConsA (tCst (.str "other")) (tConsA (tCst .none) tNilA)))) sNext)
  (sRet (fun _ => false) (tTupD (tConsA (tCst (.str "price")) (tConsA (tXfl "name" (tName 1)) tNilA))))))))
theorem yy1 : exSub ["BadPrice"] "BadPrice" = true := by decide +kernel
theorem yy2 : exSub ["BadPath"] "BadPrice" = false := by decide +kernel
theorem yy3 : exSub ["BadText"] "BadPrice" = false := by decide +kernel
theorem yy4 : exSub ["BadPath", "BadPrice", "BadText"] "BadPrice" = true := by decide +kernel
theorem pl__law_told (k : Thk) (spec : TkSpec) (Qa : O → Prop) (h : sp__law_told spec Qa) : t__law_told k spec (endsE Qa) (startA 4 [.thk k]) := by
  unfold t__law_told
  simp only [sSeq, sNext, sRet, sRetN, sDrop, sIf, sSet, sFor, sPar, sAsg, bAnd, bOr, bNot, tTst, tCst, tBin, tUny, tNilA, tConsA, getAll, tCallB, tCallF, tTupD, tLstD, tChainA, tChainE, tRg, rgK.eq_1, tStripX, strip1K.eq_1, strip2K.eq_1, tAndE, tOrE, tNotE, tIfE, tComp, bYes, tDct0, tRange.eq_1, tgName, tgTup.eq_1, tgCons.eq_1, tgNil.eq_1, takeAll, back.eq_1, back.eq_2, back_nil, setO, tName_k, nameK.eq_1, nameK.eq_2, nameK.eq_3, nameK.eq_4, nameK.eq_5, nameK.eq_6, takeA_v, takeA_s, O.fz.eq_1, O.fz.eq_2, O.fz.eq_3, O.fz.eq_4, O.alias.eq_1, O.alias.eq_2, O.alias.eq_3, O.alias.eq_4, O.alias.eq_5, O.alias.eq_6, atK.eq_1, take1_v, take1_s, takeO_v, takeO_s, takeR_v, takeR_s, prep_n, prep_tv, prep_ts, prep_f, lstK.eq_1, lstAt_k, g2K.eq_1, g2_k, g1K.eq_1, g1_k, gNK.eq_1, gN_k, boK.eq_1, bOf_k, isiK.eq_1, tIsi_k, partK.eq_1, part_n, part_s, join2K.eq_1, join1K.eq_1, tJoin, tTindex, tix1K.eq_1, tix2K.eq_1, tSplit, spl1K.eq_1, spl2K.eq_1, tTxt2, txt1K.eq_1, txt2K.eq_1, gIntT.eq_1, tgUnl.eq_1, tOrS, orSK.eq_1, slcK.eq_1, slcK.eq_2, slcK.eq_3, slcK.eq_4, tSlc_k, revK.eq_1, revK.eq_2, revK.eq_3, tRev_k, strMK.eq_1, tStrM_k, itK.eq_1, tIter_k, enumK.eq_1, tEnum_k, zipK.eq_1, zipK.eq_2, tZip_k, intsK.eq_1, intsK.eq_2, intsOf_k, endK.eq_1, endO_k, extK.eq_1, tExtend_k, tAppend_k, setIxK.eq_1, sSetIx_k, popAtK.eq_1, tPopAt_k, bO.eq_1, itemsOf.eq_1, itemsOf.eq_2, itemsOf.eq_3, gAdd.eq_1, gAdd.eq_2, gAdd.eq_3, gAdd.eq_4, gAdd.eq_5, gAdd.eq_6, gSub_.eq_1, gSub_.eq_2, gMul3_t, gMul3_s, gMul3_i, gMul3_l, gMulT.eq_1, gMul2_s, gMul2_i, gMul2_l, gMulS.eq_1, gMul.eq_1, gMul.eq_2, gFdiv.eq_1, gMod.eq_1, gPow.eq_1, gNeg.eq_1, gNeg.eq_2, gGe.eq_1, gGt.eq_1, gLe.eq_1, gLt.eq_1, gLt.eq_2, gEq.eq_1, gNe.eq_1, gNe.eq_2, gNe.eq_3, gNe.eq_4, gInW.eq_1, gInW.eq_2, gIs.eq_1, gIsNot.eq_1, gLen.eq_1, gLen.eq_2, gAllAny.eq_1, gAbs.eq_1, gInt.eq_1, gInt.eq_2, gStr.eq_1, gStr.eq_2, gStr.eq_3, gM2.eq_1, gListOf.eq_1, gListOf.eq_2, gTupOf.eq_1, gTupOf.eq_2, gSort, gSortS.eq_1, gSortD.eq_1, gSortSet.eq_1, gRepr.eq_1, gM2S.eq_1, gIsB.eq_1, tCompN, tCompD, tCompI, tCompDI, tComp2, tCompL, gIx.eq_1, gIx.eq_2, ati0, ati1, ati2, Option.some.injEq, exists_eq, exists_eq', false_implies, Opd.slot.injEq, forall_eq, forall_eq', Opd.get.eq_1, Opd.get.eq_2, at_join, join_some, O.frz.eq_1, O.frz.eq_2, frz_dct, O.frz.eq_4, lsO.eq_1, lsO.eq_2, tuO.eq_1, seqO_l, seqO_p, seqO_t, endsOf, outsOf, startA, wipeA, List.getElem?_cons_zero, List.getElem?_cons_succ, List.length_cons, List.length_nil, List.map_cons, List.map_nil, List.set_cons_zero, List.set_cons_succ, List.replicate_succ, List.replicate_zero, List.cons_append, List.nil_append, List.getD_cons_zero, List.getD_cons_succ, if_true, if_false, Bool.false_eq_true, reduceIte, reduceCtorEq, Bool.not_true, Bool.not_false, implies_true, true_and, and_true, Nat.sub_self, Nat.reduceAdd, Nat.reduceSub, Nat.zero_add, List.all_cons, List.all_nil, Bool.and_true, Bool.true_and, sTry, tAct]
  refine ⟨rfl, rfl, h _ _ (fun t q => ?_) fun t q => ?_⟩
  · refine ⟨rfl, ?_⟩
    rw [if_pos (by rfl)]
    simp only [sSeq, sNext, sRet, sRetN, sDrop, sIf, sSet, sFor, sPar, sAsg, bAnd, bOr, bNot, tTst, tCst, tBin, tUny, tNilA, tConsA, getAll, tCallB, tCallF, tTupD, tLstD, tChainA, tChainE, tRg, rgK.eq_1, tStripX, strip1K.eq_1, strip2K.eq_1, tAndE, tOrE, tNotE, tIfE, tComp, bYes, tDct0, tRange.eq_1, tgName, tgTup.eq_1, tgCons.eq_1, tgNil.eq_1, takeAll, back.eq_1, back.eq_2, back_nil, setO, tName_k, nameK.eq_1, nameK.eq_2, nameK.eq_3, nameK.eq_4, nameK.eq_5, nameK.eq_6, takeA_v, takeA_s, O.fz.eq_1, O.fz.eq_2, O.fz.eq_3, O.fz.eq_4, O.alias.eq_1, O.alias.eq_2, O.alias.eq_3, O.alias.eq_4, O.alias.eq_5, O.alias.eq_6, atK.eq_1, take1_v, take1_s, takeO_v, takeO_s, takeR_v, takeR_s, prep_n, prep_tv, prep_ts, prep_f, lstK.eq_1, lstAt_k, g2K.eq_1, g2_k, g1K.eq_1, g1_k, gNK.eq_1, gN_k, boK.eq_1, bOf_k, isiK.eq_1, tIsi_k, partK.eq_1, part_n, part_s, join2K.eq_1, join1K.eq_1, tJoin, tTindex, tix1K.eq_1, tix2K.eq_1, tSplit, spl1K.eq_1, spl2K.eq_1, tTxt2, txt1K.eq_1, txt2K.eq_1, gIntT.eq_1, tgUnl.eq_1, tOrS, orSK.eq_1, slcK.eq_1, slcK.eq_2, slcK.eq_3, slcK.eq_4, tSlc_k, revK.eq_1, revK.eq_2, revK.eq_3, tRev_k, strMK.eq_1, tStrM_k, itK.eq_1, tIter_k, enumK.eq_1, tEnum_k, zipK.eq_1, zipK.eq_2, tZip_k, intsK.eq_1, intsK.eq_2, intsOf_k, endK.eq_1, endO_k, extK.eq_1, tExtend_k, tAppend_k, setIxK.eq_1, sSetIx_k, popAtK.eq_1, tPopAt_k, bO.eq_1, itemsOf.eq_1, itemsOf.eq_2, itemsOf.eq_3, gAdd.eq_1, gAdd.eq_2, gAdd.eq_3, gAdd.eq_4, gAdd.eq_5, gAdd.eq_6, gSub_.eq_1, gSub_.eq_2, gMul3_t, gMul3_s, gMul3_i, gMul3_l, gMulT.eq_1, gMul2_s, gMul2_i, gMul2_l, gMulS.eq_1, gMul.eq_1, gMul.eq_2, gFdiv.eq_1, gMod.eq_1, gPow.eq_1, gNeg.eq_1, gNeg.eq_2, gGe.eq_1, gGt.eq_1, gLe.eq_1, gLt.eq_1, gLt.eq_2, gEq.eq_1, gNe.eq_1, gNe.eq_2, gNe.eq_3, gNe.eq_4, gInW.eq_1, gInW.eq_2, gIs.eq_1, gIsNot.eq_1, gLen.eq_1, gLen.eq_2, gAllAny.eq_1, gAbs.eq_1, gInt.eq_1, gInt.eq_2, gStr.eq_1, gStr.eq_2, gStr.eq_3, gM2.eq_1, gListOf.eq_1, gListOf.eq_2, gTupOf.eq_1, gTupOf.eq_2, gSort, gSortS.eq_1, gSortD.eq_1, gSortSet.eq_1, gRepr.eq_1, gM2S.eq_1, gIsB.eq_1, tCompN, tCompD, tCompI, tCompDI, tComp2, tCompL, gIx.eq_1, gIx.eq_2, ati0, ati1, ati2, Option.some.injEq, exists_eq, exists_eq', false_implies, Opd.slot.injEq, forall_eq, forall_eq', Opd.get.eq_1, Opd.get.eq_2, at_join, join_some, O.frz.eq_1, O.frz.eq_2, frz_dct, O.frz.eq_4, lsO.eq_1, lsO.eq_2, tuO.eq_1, seqO_l, seqO_p, seqO_t, endsOf, outsOf, startA, wipeA, List.getElem?_cons_zero, List.getElem?_cons_succ, List.length_cons, List.length_nil, List.map_cons, List.map_nil, List.set_cons_zero, List.set_cons_succ, List.replicate_succ, List.replicate_zero, List.cons_append, List.nil_append, List.getD_cons_zero, List.getD_cons_succ, if_true, if_false, Bool.false_eq_true, reduceIte, reduceCtorEq, Bool.not_true, Bool.not_false, implies_true, true_and, and_true, Nat.sub_self, Nat.reduceAdd, Nat.reduceSub, Nat.zero_add, List.all_cons, List.all_nil, Bool.and_true, Bool.true_and]
    exact q
  · simp only [sSeq, sNext, sRet, sRetN, sDrop, sIf, sSet, sFor, sPar, sAsg, bAnd, bOr, bNot, tTst, tCst, tBin, tUny, tNilA, tConsA, getAll, tCallB, tCallF, tTupD, tLstD, tChainA, tChainE, tRg, rgK.eq_1, tStripX, strip1K.eq_1, strip2K.eq_1, tAndE, tOrE, tNotE, tIfE, tComp, bYes, tDct0, tRange.eq_1, tgName, tgTup.eq_1, tgCons.eq_1, tgNil.eq_1, takeAll, back.eq_1, back.eq_2, back_nil, setO, tName_k, nameK.eq_1, nameK.eq_2, nameK.eq_3, nameK.eq_4, nameK.eq_5, nameK.eq_6, takeA_v, takeA_s, O.fz.eq_1, O.fz.eq_2, O.fz.eq_3, O.fz.eq_4, O.alias.eq_1, O.alias.eq_2, O.alias.eq_3, O.alias.eq_4, O.alias.eq_5, O.alias.eq_6, atK.eq_1, take1_v, take1_s, takeO_v, takeO_s, takeR_v, takeR_s, prep_n, prep_tv, prep_ts, prep_f, lstK.eq_1, lstAt_k, g2K.eq_1, g2_k, g1K.eq_1, g1_k, gNK.eq_1, gN_k, boK.eq_1, bOf_k, isiK.eq_1, tIsi_k, partK.eq_1, part_n, part_s, join2K.eq_1, join1K.eq_1, tJoin, tTindex, tix1K.eq_1, tix2K.eq_1, tSplit, spl1K.eq_1, spl2K.eq_1, tTxt2, txt1K.eq_1, txt2K.eq_1, gIntT.eq_1, tgUnl.eq_1, tOrS, orSK.eq_1, slcK.eq_1, slcK.eq_2, slcK.eq_3, slcK.eq_4, tSlc_k, revK.eq_1, revK.eq_2, revK.eq_3, tRev_k, strMK.eq_1, tStrM_k, itK.eq_1, tIter_k, enumK.eq_1, tEnum_k, zipK.eq_1, zipK.eq_2, tZip_k, intsK.eq_1, intsK.eq_2, intsOf_k, endK.eq_1, endO_k, extK.eq_1, tExtend_k, tAppend_k, setIxK.eq_1, sSetIx_k, popAtK.eq_1, tPopAt_k, bO.eq_1, itemsOf.eq_1, itemsOf.eq_2, itemsOf.eq_3, gAdd.eq_1, gAdd.eq_2, gAdd.eq_3, gAdd.eq_4, gAdd.eq_5, gAdd.eq_6, gSub_.eq_1, gSub_.eq_2, gMul3_t, gMul3_s, gMul3_i, gMul3_l, gMulT.eq_1, gMul2_s, gMul2_i, gMul2_l, gMulS.eq_1, gMul.eq_1, gMul.eq_2, gFdiv.eq_1, gMod.eq_1, gPow.eq_1, gNeg.eq_1, gNeg.eq_2, gGe.eq_1, gGt.eq_1, gLe.eq_1, gLt.eq_1, gLt.eq_2, gEq.eq_1, gNe.eq_1, gNe.eq_2, gNe.eq_3, gNe.eq_4, gInW.eq_1, gInW.eq_2, gIs.eq_1, gIsNot.eq_1, gLen.eq_1, gLen.eq_2, gAllAny.eq_1, gAbs.eq_1, gInt.eq_1, gInt.eq_2, gStr.eq_1, gStr.eq_2, gStr.eq_3, gM2.eq_1, gListOf.eq_1, gListOf.eq_2, gTupOf.eq_1, gTupOf.eq_2, gSort, gSortS.eq_1, gSortD.eq_1, gSortSet.eq_1, gRepr.eq_1, gM2S.eq_1, gIsB.eq_1, tCompN, tCompD, tCompI, tCompDI, tComp2, tCompL, gIx.eq_1, gIx.eq_2, ati0, ati1, ati2, Option.some.injEq, exists_eq, exists_eq', false_implies, Opd.slot.injEq, forall_eq, forall_eq', Opd.get.eq_1, Opd.get.eq_2, at_join, join_some, O.frz.eq_1, O.frz.eq_2, frz_dct, O.frz.eq_4, lsO.eq_1, lsO.eq_2, tuO.eq_1, seqO_l, seqO_p, seqO_t, endsOf, outsOf, startA, wipeA, List.getElem?_cons_zero, List.getElem?_cons_succ, List.length_cons, List.length_nil, List.map_cons, List.map_nil, List.set_cons_zero, List.set_cons_succ, List.replicate_succ, List.replicate_zero, List.cons_append, List.nil_append, List.getD_cons_zero, List.getD_cons_succ, if_true, if_false, Bool.false_eq_true, reduceIte, reduceCtorEq, Bool.not_true, Bool.not_false, implies_true, true_and, and_true, Nat.sub_self, Nat.reduceAdd, Nat.reduceSub, Nat.zero_add, List.all_cons, List.all_nil, Bool.and_true, Bool.true_and, yy4, DL.isNon.eq_1, DL.isNon.eq_2]
    refine ⟨rfl, rfl, ?_⟩
    simp only [sSeq, sNext, sRet, sRetN, sDrop, sIf, sSet, sFor, sPar, sAsg, bAnd, bOr, bNot, tTst, tCst, tBin, tUny, tNilA, tConsA, getAll, tCallB, tCallF, tTupD, tLstD, tChainA, tChainE, tRg, rgK.eq_1, tStripX, strip1K.eq_1, strip2K.eq_1, tAndE, tOrE, tNotE, tIfE, tComp, bYes, tDct0, tRange.eq_1, tgName, tgTup.eq_1, tgCons.eq_1, tgNil.eq_1, takeAll, back.eq_1, back.eq_2, back_nil, setO, tName_k, nameK.eq_1, nameK.eq_2, nameK.eq_3, nameK.eq_4, nameK.eq_5, nameK.eq_6, takeA_v, takeA_s, O.fz.eq_1, O.fz.eq_2, O.fz.eq_3, O.fz.eq_4, O.alias.eq_1, O.alias.eq_2, O.alias.eq_3, O.alias.eq_4, O.alias.eq_5, O.alias.eq_6, atK.eq_1, take1_v, take1_s, takeO_v, takeO_s, takeR_v, takeR_s, prep_n, prep_tv, prep_ts, prep_f, lstK.eq_1, lstAt_k, g2K.eq_1, g2_k, g1K.eq_1, g1_k, gNK.eq_1, gN_k, boK.eq_1, bOf_k, isiK.eq_1, tIsi_k, partK.eq_1, part_n, part_s, join2K.eq_1, join1K.eq_1, tJoin, tTindex, tix1K.eq_1, tix2K.eq_1, tSplit, spl1K.eq_1, spl2K.eq_1, tTxt2, txt1K.eq_1, txt2K.eq_1, gIntT.eq_1, tgUnl.eq_1, tOrS, orSK.eq_1, slcK.eq_1, slcK.eq_2, slcK.eq_3, slcK.eq_4, tSlc_k, revK.eq_1, revK.eq_2, revK.eq_3, tRev_k, strMK.eq_1, tStrM_k, itK.eq_1, tIter_k, enumK.eq_1, tEnum_k, zipK.eq_1, zipK.eq_2, tZip_k, intsK.eq_1, intsK.eq_2, intsOf_k, endK.eq_1, endO_k, extK.eq_1, tExtend_k, tAppend_k, setIxK.eq_1, sSetIx_k, popAtK.eq_1, tPopAt_k, bO.eq_1, itemsOf.eq_1, itemsOf.eq_2, itemsOf.eq_3, gAdd.eq_1, gAdd.eq_2, gAdd.eq_3, gAdd.eq_4, gAdd.eq_5, gAdd.eq_6, gSub_.eq_1, gSub_.eq_2, gMul3_t, gMul3_s, gMul3_i, gMul3_l, gMulT.eq_1, gMul2_s, gMul2_i, gMul2_l, gMulS.eq_1, gMul.eq_1, gMul.eq_2, gFdiv.eq_1, gMod.eq_1, gPow.eq_1, gNeg.eq_1, gNeg.eq_2, gGe.eq_1, gGt.eq_1, gLe.eq_1, gLt.eq_1, gLt.eq_2, gEq.eq_1, gNe.eq_1, gNe.eq_2, gNe.eq_3, gNe.eq_4, gInW.eq_1, gInW.eq_2, gIs.eq_1, gIsNot.eq_1, gLen.eq_1, gLen.eq_2, gAllAny.eq_1, gAbs.eq_1, gInt.eq_1, gInt.eq_2, gStr.eq_1, gStr.eq_2, gStr.eq_3, gM2.eq_1, gListOf.eq_1, gListOf.eq_2, gTupOf.eq_1, gTupOf.eq_2, gSort, gSortS.eq_1, gSortD.eq_1, gSortSet.eq_1, gRepr.eq_1, gM2S.eq_1, gIsB.eq_1, tCompN, tCompD, tCompI, tCompDI, tComp2, tCompL, gIx.eq_1, gIx.eq_2, ati0, ati1, ati2, Option.some.injEq, exists_eq, exists_eq', false_implies, Opd.slot.injEq, forall_eq, forall_eq', Opd.get.eq_1, Opd.get.eq_2, at_join, join_some, O.frz.eq_1, O.frz.eq_2, frz_dct, O.frz.eq_4, lsO.eq_1, lsO.eq_2, tuO.eq_1, seqO_l, seqO_p, seqO_t, endsOf, outsOf, startA, wipeA, List.getElem?_cons_zero, List.getElem?_cons_succ, List.length_cons, List.length_nil, List.map_cons, List.map_nil, List.set_cons_zero, List.set_cons_succ, List.replicate_succ, List.replicate_zero, List.cons_append, List.nil_append, List.getD_cons_zero, List.getD_cons_succ, if_true, if_false, Bool.false_eq_true, reduceIte, reduceCtorEq, Bool.not_true, Bool.not_false, implies_true, true_and, and_true, Nat.sub_self, Nat.reduceAdd, Nat.reduceSub, Nat.zero_add, List.all_cons, List.all_nil, Bool.and_true, Bool.true_and, tIsX, tXfl, yy1, yy2, yy3, yy4]
    rw [if_neg (by simp)]
    exact q
end WK
set_option Elab.async false
set_option linter.all false
set_option maxRecDepth 100000
set_option maxHeartbeats 4000000
/-! prices by keywords: up to four and twelve keywords -/
namespace WK
open PySem PySem.Spec L2 DL WS
open PyProof.Rows hiding St
local macro_rules
  | `(tactic| sizeOf_list_dec) => `(tactic| simp only [sSeq, sNext, sRet, sRetN, sDrop, sIf, sSet, sFor, sPar, sAsg, bAnd, bOr, bNot, tTst, tCst, tBin, tUny, tNilA, tConsA, getAll, tCallB, tCallF, tTupD, tLstD, tChainA, tChainE, tRg, rgK.eq_1, tStripX, strip1K.eq_1, strip2K.eq_1, tAndE, tOrE, tNotE, tIfE, tComp, bYes, tDct0, tRange.eq_1, tgName, tgTup.eq_1, tgCons.eq_1, tgNil.eq_1, takeAll, back.eq_1, back.eq_2, back_nil, setO, tName_k, nameK.eq_1, nameK.eq_2, nameK.eq_3, nameK.eq_4, nameK.eq_5, nameK.eq_6, takeA_v, takeA_s, O.fz.eq_1, O.fz.eq_2, O.fz.eq_3, O.fz.eq_4, O.alias.eq_1, O.alias.eq_2, O.alias.eq_3, O.alias.eq_4, O.alias.eq_5, O.alias.eq_6, atK.eq_1, take1_v, take1_s, takeO_v, takeO_s, takeR_v, takeR_s, prep_n, prep_tv, prep_ts, prep_f, lstK.eq_1, lstAt_k, g2K.eq_1, g2_k, g1K.eq_1, g1_k, gNK.eq_1, gN_k, boK.eq_1, bOf_k, isiK.eq_1, tIsi_k, partK.eq_1, part_n, part_s, join2K.eq_1, join1K.eq_1, tJoin, tTindex, tix1K.eq_1, tix2K.eq_1, tSplit, spl1K.eq_1, spl2K.eq_1, tTxt2, txt1K.eq_1, txt2K.eq_1, gIntT.eq_1, tgUnl.eq_1, tOrS, orSK.eq_1, slcK.eq_1, slcK.eq_2, slcK.eq_3, slcK.eq_4, tSlc_k, revK.eq_1, revK.eq_2, revK.eq_3, tRev_k, strMK.eq_1, tStrM_k, itK.eq_1, tIter_k, enumK.eq_1, tEnum_k, zipK.eq_1, zipK.eq_2, tZip_k, intsK.eq_1, intsK.eq_2, intsOf_k, endK.eq_1, endO_k, extK.eq_1, tExtend_k, tAppend_k, setIxK.eq_1, sSetIx_k, popAtK.eq_1, tPopAt_k, bO.eq_1, itemsOf.eq_1, itemsOf.eq_2, itemsOf.eq_3, gAdd.eq_1, gAdd.eq_2, gAdd.eq_3, gAdd.eq_4, gAdd.eq_5, gAdd.eq_6, gSub_.eq_1, gSub_.eq_2, gMul3_t, gMul3_s, gMul3_i, gMul3_l, gMulT.eq_1, gMul2_s, gMul2_i, gMul2_l, gMulS.eq_1, gMul.eq_1, gMul.eq_2, gFdiv.eq_1, gMod.eq_1, gPow.eq_1, gNeg.eq_1, gNeg.eq_2, gGe.eq_1, gGt.eq_1, gLe.eq_1, gLt.eq_1, gLt.eq_2, gEq.eq_1, gNe.eq_1, gNe.eq_2, gNe.eq_3, gNe.eq_4, gInW.eq_1, gInW.eq_2, gIs.eq_1, gIsNot.eq_1, gLen.eq_1, gLen.eq_2, gAllAny.eq_1, gAbs.eq_1, gInt.eq_1, gInt.eq_2, gStr.eq_1, gStr.eq_2, gStr.eq_3, gM2.eq_1, gListOf.eq_1, gListOf.eq_2, gTupOf.eq_1, gTupOf.eq_2, gSort, gSortS.eq_1, gSortD.eq_1, gSortSet.eq_1, gRepr.eq_1, gM2S.eq_1, gIsB.eq_1, tCompN, tCompD, tCompI, tCompDI, tComp2, tCompL, gIx.eq_1, gIx.eq_2, ati0, ati1, ati2, Option.some.injEq, exists_eq, exists_eq', false_implies, Opd.slot.injEq, forall_eq, forall_eq', Opd.get.eq_1, Opd.get.eq_2, at_join, join_some, O.frz.eq_1, O.frz.eq_2, frz_dct, O.frz.eq_4, lsO.eq_1, lsO.eq_2, tuO.eq_1, seqO_l, seqO_p, seqO_t, endsOf, outsOf, startA, wipeA, List.getElem?_cons_zero, List.getElem?_cons_succ, List.length_cons, List.length_nil, List.map_cons, List.map_nil, List.set_cons_zero, List.set_cons_succ, List.replicate_succ, List.replicate_zero, List.cons_append, List.nil_append, List.getD_cons_zero, List.getD_cons_succ, if_true, if_false, Bool.false_eq_true, reduceIte, reduceCtorEq, Bool.not_true, Bool.not_false, implies_true, true_and, and_true, Nat.sub_self, Nat.reduceAdd, Nat.reduceSub, Nat.zero_add, List.all_cons, List.all_nil, Bool.and_true, Bool.true_and])
local instance : Tbs := ⟨[], fun _ => 0, []⟩
local instance : Bas := ⟨fun _ => none, fun _ => False, []⟩
def B0 : Nat := 1000001
def CostT (t : T) : Prop := Gd 3 3 B0 t
theorem cost_int {i : Int} (h : i.natAbs ≤ 1000001) : CostT (.int i) := (Gd.int (d := 3) (b := B0) (by unfold B0; omega)).mono (by omega) (Nat.le_refl _) (Nat.le_refl _)
theorem repr_ok {w d b : Nat} {t : T} (hw : w ≤ 100000) (hd : d ≤ 100) (hb : b < 10 ^ 30) (g : Gd w d b t) : t.showable = true ∧ t.depth ≤ 150 ∧ t.shown.length ≤ 16777216 := by
  have := shown_sz hb t g.l
  exact ⟨lf_showable hb t g.l, by have := g.d; omega, by have := g.w; omega⟩
theorem due_gd {ps : List (Str × T)} (hl : ps.length ≤ 12) (hp : ∀ p ∈ ps, p.1.length ≤ 9 ∧ asc p.1 = true ∧ CostT p.2) : Gd 200 6 B0 (due ps) := by
  unfold due
  split
  · rename_i p e
    have m := (List.mergeSort_perm ps le0).mem_iff.mp (List.mem_of_find?_eq_some e)
    obtain ⟨h1, h2, _⟩ := hp p m
    exact (Gd.tup (Gds.cons (Gd.str (w := 6) (by decide) (by decide)) (Gds.one (Gd.str (w := 10) (d := 0) (b := B0) (by omega) h2)))).mono (by omega) (by omega) (by omega)
  · have g : Gds 180 4 B0 ((ps.map tup0).mergeSort dLe) := gds_of (k := 15) (fun t m => by
      obtain ⟨p, mp, rfl⟩ := List.mem_map.mp ((List.mergeSort_perm _ _).mem_iff.mp m)
      obtain ⟨h1, h2, h3⟩ := hp p mp
      exact (Gd.tup (Gds.cons (Gd.str (w := 10) (by omega) h2) (Gds.one h3))).mono (by omega) (by omega) (by omega)) (by rw [(List.mergeSort_perm _ _).length_eq, List.length_map]; omega)
    exact (Gd.tup (Gds.cons (Gd.str (w := 6) (by decide) (by decide)) (Gds.one (Gd.tup g)))).mono (by omega) (by omega) (by omega)
/-- what a call with keywords tells -/
theorem told_due {ks : List Str} {ts : List T} {A : O → Prop} {B : Exc → Prop} (hl : ts.length = ks.length) (nd : ks.Nodup) (h1 : ks.length ≤ 1000) (h2 : ∀ k ∈ ks, k.length ≤ 1000) {Q : O → Prop} (q : Q (.pure (due (ks.zip ts))))
    (hA : ∀ t, Q (.pure (.tuple [.str "value", t])) → A (.pure t)) (hB : ∀ t, Q (.pure (.tuple [.str "price", t])) → B ⟨"BadPrice", some ("name", t)⟩) : kwSp ks sp_priced (ts.map .pure) A B := by
  refine ⟨ts, rfl, hl, ks.zip ts, rfl, ?_, by rw [List.length_zip]; omega, fun p m => h2 _ (List.of_mem_zip m).1, ?_⟩
  · rw [List.map_fst_zip (by omega)]; exact nd
  · unfold due at q
    split
    · rename_i p e
      rw [e] at q
      exact hB _ q
    · rename_i e
      rw [e] at q
      exact hA _ q
def KN : List Str := ["s", "m", "a", "zebra", "alpha", "mid", "eightabc", "b", "A", "x1", "ninechars", "d", "zz", "ab", "x", "aa", "p", "c", "yy", "da"]
theorem kn_ok : ∀ x ∈ KN, lw x = mWord (.str x) ∧ x.length ≤ 9 ∧ asc x = true := by decide +kernel
theorem du_names {ps : List (Str × T)} (h : ∀ x ∈ ps.map (·.1), x ∈ KN) : ∀ p ∈ ps, lw p.1 = mWord (.str p.1) ∧ p.1.length ≤ 1000 := fun p m => by
  have := kn_ok _ (h _ (List.mem_map_of_mem m))
  exact ⟨this.1, by omega⟩
theorem du_gd {ps : List (Str × T)} (hl : ps.length ≤ 12) (h : ∀ x ∈ ps.map (·.1), x ∈ KN) (hc : ∀ t ∈ ps.map (·.2), CostT t) : Gd 200 6 B0 (due ps) :=
  due_gd hl fun p m => ⟨(kn_ok _ (h _ (List.mem_map_of_mem m))).2.1, (kn_ok _ (h _ (List.mem_map_of_mem m))).2.2, hc _ (List.mem_map_of_mem m)⟩
theorem due_nil : due [] = .tuple [.str "value", .tuple []] := by simp [due]
def sp__law_cost : FSpec := fun os Q => ∃ n d, n ≤ 900000 ∧ os = [d] ∧ Dk n d ∧ ∀ t d', CostT t → Dk (n + 3) d' → Q (.pure t) [d']
/-- _law_cost: slots 0:_law_deck_here 1:_law_some -/
def t__law_cost : ST := (sSeq (sSet 1 (tBin gMul3 (tLstD (tConsA (tCst (.int 1)) (tConsA (tBin gPow (tCst (.int 10)) (tCst (.int 6))) (tConsA (tBin gAdd (tCst (.int 1)) (tCallF [true, false] sp__law_draw (tConsA (tName 0) (tConsA (tBin gPow (tCst (.int 10)) (tCst (.int 6))) tNilA)))) (tConsA (tBin gAdd (tCst (.int 1)) (tCallF [true, false] sp__law_draw (tConsA (tName 0) (tConsA (tCst (.int 9)) tNilA)))) tNilA))))) (tCst (.int 4))))
  (sRet (fun j => [true].getD j false) (tCallF [true, false] sp__law_any (tConsA (tName 0) (tConsA (tBin gAdd (tName 1) (tLstD (tConsA (tCst (.int 0)) (tConsA (tUny gNeg (tCst (.int 1))) (tConsA (tBin gAdd (tBin gPow (tCst (.int 10)) (tCst (.int 6))) (tCst (.int 1))) (tConsA (tCst (.bool true)) (tConsA (tCst .none) (tConsA (tCst (.str "1")) (tConsA (tTupD tNilA) (tConsA (tTupD (tConsA (tCst (.int 1)) tNilA)) (tConsA (tLstD tNilA) (tConsA tDct0 tNilA)))))))))))) tNilA)))))
theorem pl__law_cost (os : List O) (Qa : O → List O → Prop) (_ : os.length = 1) (h : sp__law_cost os Qa) : t__law_cost (endsOf [true] Qa) (startA 2 os) := by
  obtain ⟨n, d, hn, rfl, hd, h⟩ := h
  obtain ⟨ds, rfl⟩ := hd.frz
  unfold t__law_cost
  sizeOf_list_dec
  refine ⟨by decide, by decide, by decide, by decide, by decide, by decide, n, _, _, by omega, rfl, hd, by decide, by decide, fun r d1 q0 q1 hd1 => ?_⟩
  obtain ⟨ds1, rfl⟩ := hd1.frz
  sizeOf_list_dec
  refine ⟨n + 1, _, _, by omega, rfl, hd1, by decide, by decide, fun r2 d2 q2 q3 hd2 => ?_⟩
  obtain ⟨ds2, rfl⟩ := hd2.frz
  sizeOf_list_dec
  refine ⟨by decide, by decide, by decide, rfl, by decide, by decide, by decide, by simp [repL], n + 2, _, _, by omega, rfl, hd2, by simp, by simp [repL], fun t d3 mt hd3 => ?_⟩
  obtain ⟨ds3, rfl⟩ := hd3.frz
  sizeOf_list_dec
  refine h t _ ?_ hd3
  have e6 : (10 : Int) ^ Int.toNat 6 = 1000000 := by decide
  rw [e6] at mt q1
  have c1 : ∀ i : Int, i.natAbs ≤ 1000001 → CostT (.int i) := fun i hi => (Gd.int (d := 3) (b := B0) (by unfold B0; omega)).mono (by omega) (Nat.le_refl _) (Nat.le_refl _)
  rcases List.mem_append.mp mt with m | m
  · have m : t ∈ [PyData.int 1, PyData.int 1000000, PyData.int (1 + r), PyData.int (1 + r2)] := by
      unfold repL at m
      obtain ⟨l, m1, m2⟩ := List.mem_flatten.mp m
      rw [(List.mem_replicate.mp m1).2] at m2
      exact m2
    simp only [List.mem_cons, List.not_mem_nil, or_false] at m
    rcases m with rfl | rfl | rfl | rfl
    · exact c1 _ (by decide)
    · exact c1 _ (by decide)
    · exact c1 _ (by omega)
    · exact c1 _ (by omega)
  · simp only [List.mem_cons, List.not_mem_nil, or_false] at m
    rcases m with rfl | rfl | rfl | rfl | rfl | rfl | rfl | rfl | rfl | rfl
    · exact c1 _ (by decide)
    · exact c1 _ (by decide)
    · exact c1 _ (by decide)
    · exact (Gd.bool (d := 3) (b := B0)).mono (by omega) (Nat.le_refl _) (Nat.le_refl _)
    · exact (Gd.none (d := 3) (b := B0)).mono (by omega) (Nat.le_refl _) (Nat.le_refl _)
    · exact (Gd.str (w := 2) (d := 0) (by decide) (by decide)).mono (by omega) (by omega) (Nat.le_refl _)
    · exact (Gd.tup (Gds.nil' (w := 0) (d := 0))).mono (by omega) (by omega) (Nat.le_refl _)
    · exact (Gd.tup (Gds.one (Gd.int (i := 1) (d := 0) (b := B0) (by decide)))).mono (by omega) (by omega) (Nat.le_refl _)
    · exact (Gd.lst (Gds.nil' (w := 0) (d := 0))).mono (by omega) (by omega) (Nat.le_refl _)
    · exact ⟨by decide, by decide, by decide⟩
/-- _law_right: slots 0:_law_deck_here 1:_law_told_here 2:_law_due_here 3:_law_four 4:_law_one 5:_law_three 6:_law_two 7:_law_turn -/
def t__law_right : ST := (sSeq (sAsg (tgUnl 4 (tgCons (tgName 4) (tgCons (tgName 6) (tgCons (tgName 5) (tgCons (tgName 3) tgNil))))) (tComp (tRange (tConsA (tCst (.int 4)) tNilA)) (tgName 7) bYes (tCallF [true] sp__law_cost (tConsA (tName 0) tNilA)) [7]))
  (sSeq (sSet 1 (tLstD (tConsA (tLamC sp__law_told (fun Ea => (tCallE [] (kwSp [] sp_priced) Ea tNilA))) tNilA)))
  (sSeq (sDrop (tAppend 1 (tLamC sp__law_told (fun Ea => (tCallE [false] (kwSp ["s"] sp_priced) Ea (tConsA (tName 4) tNilA))))))
  (sSeq (sDrop (tAppend 1 (tLamC sp__law_told (fun Ea => (tCallE [false, false] (kwSp ["m", "a"] sp_priced) Ea (tConsA (tName 6) (tConsA (tName 4) tNilA)))))))
  (sSeq (sSet 2 (tLstD (tConsA (tTupD (tConsA (tCst (.str "value")) (tConsA (tTupD tNilA) tNilA))) (tConsA (tCallF [false] sp__law_due (tConsA (tLstD (tConsA (tTupD (tConsA (tCst (.str "s")) (tConsA (tName 4) tNilA))) tNilA)) tNilA)) (tConsA (tCallF [false] sp__law_due (tConsA (tLstD (tConsA (tTupD (tConsA (tCst (.str "m")) (tConsA (tName 6) tNilA))) (tConsA (tTupD (tConsA (tCst (.str "a")) (tConsA (tName 4) tNilA))) tNilA))) tNilA)) tNilA)))))
  (sSeq (sDrop (tAppend 1 (tLamC sp__law_told (fun Ea => (tCallE [false, false, false, false] (kwSp ["zebra", "alpha", "mid", "eightabc"] sp_priced) Ea (tConsA (tName 4) (tConsA (tName 6) (tConsA (tName 5) (tConsA (tName 3) tNilA)))))))))
  (sSeq (sDrop (tAppend 2 (tCallF [false] sp__law_due (tConsA (tLstD (tConsA (tTupD (tConsA (tCst (.str "zebra")) (tConsA (tName 4) tNilA))) (tConsA (tTupD (tConsA (tCst (.str "alpha")) (tConsA (tName 6) tNilA))) (tConsA (tTupD (tConsA (tCst (.str "mid")) (tConsA (tName 5) tNilA))) (tConsA (tTupD (tConsA (tCst (.str "eightabc")) (tConsA (tName 3) tNilA))) tNilA))))) tNilA))))
  (sSeq (sDrop (tAppend 1 (tLamC sp__law_told (fun Ea => (tCallE [false, false, false] (kwSp ["b", "A", "x1"] sp_priced) Ea (tConsA (tName 4) (tConsA (tName 6) (tConsA (tName 5) tNilA))))))))
  (sSeq (sDrop (tAppend 2 (tCallF [false] sp__law_due (tConsA (tLstD (tConsA (tTupD (tConsA (tCst (.str "b")) (tConsA (tName 4) tNilA))) (tConsA (tTupD (tConsA (tCst (.str "A")) (tConsA (tName 6) tNilA))) (tConsA (tTupD (tConsA (tCst (.str "x1")) (tConsA (tName 5) tNilA))) tNilA)))) tNilA))))
  (sSeq (sDrop (tAppend 1 (tLamC sp__law_told (fun Ea => (tCallE [false, false] (kwSp ["ninechars", "a"] sp_priced) Ea (tConsA (tName 4) (tConsA (tName 6) tNilA)))))))
  (sSeq (sDrop (tAppend 2 (tCallF [false] sp__law_due (tConsA (tLstD (tConsA (tTupD (tConsA (tCst (.str "ninechars")) (tConsA (tName 4) tNilA))) (tConsA (tTupD (tConsA (tCst (.str "a")) (tConsA (tName 6) tNilA))) tNilA))) tNilA))))
  (sRet (fun j => [true].getD j false) (tBin gEq (tCallB gRepr (tConsA (tName 1) tNilA)) (tCallB gRepr (tConsA (tName 2) tNilA)))))))))))))))
theorem rr0 {n : Nat} {d : O} (hd : Dk n d) (hn : n ≤ 800000) {D : AEnds} {R : ST} (h : ∀ t1 t2 t3 t4 ds, CostT t1 → CostT t2 → CostT t3 → CostT t4 → Dk (n + 12) (.lst ds) → R D [some (.lst ds), none, none, some (.pure t4), some (.pure t1), some (.pure t3), some (.pure t2), none]) :
    sSeq (sAsg (tgUnl 4 (tgCons (tgName 4) (tgCons (tgName 6) (tgCons (tgName 5) (tgCons (tgName 3) tgNil))))) (tComp (tRange (tConsA (tCst (.int 4)) tNilA)) (tgName 7) bYes (tCallF [true] sp__law_cost (tConsA (tName 0) tNilA)) [7])) R D [some d, none, none, none, none, none, none, none] := by
  obtain ⟨ds, rfl⟩ := hd.frz
  sizeOf_list_dec
  refine ⟨by omega, by omega, compW_inv (fun i acc ρ => (acc.length = i ∧ ∀ t ∈ acc, CostT t) ∧ ∃ ds, Dk (n + 3 * i) (.lst ds) ∧ ρ = [some (.lst ds), none, none, none, none, none, none, none]) 4 _ 0 _ _ (by simp [rngItems]) (fun i t acc ρ ts' Q' mt hik hinv nx => ?_) ⟨⟨rfl, fun _ m => nomatch m⟩, ds, hd, rfl⟩ fun acc ρ hinv => ?_⟩
  · obtain ⟨⟨hl, hc⟩, ds, hd, rfl⟩ := hinv
    unfold compW
    sizeOf_list_dec
    refine ⟨rfl, n + 3 * i, _, by omega, rfl, hd, fun t d' ht hd' => ?_⟩
    obtain ⟨ds', rfl⟩ := hd'.frz
    sizeOf_list_dec
    exact nx _ _ ⟨⟨by rw [List.length_append, hl]; rfl, fun u m => (List.mem_append.mp m).elim (hc u) fun m => by rw [List.mem_singleton.mp m]; exact ht⟩, ds', hd'.mono (by omega), rfl⟩
  · obtain ⟨⟨hl, hc⟩, ds, hd, rfl⟩ := hinv
    match acc, hl with
    | [t1, t2, t3, t4], _ =>
      sizeOf_list_dec
      exact ⟨rfl, rfl, rfl, rfl, h t1 t2 t3 t4 ds (hc _ (by simp)) (hc _ (by simp)) (hc _ (by simp)) (hc _ (by simp)) hd⟩
section
variable {D : AEnds} {R : ST} {x0 x1 x2 x7 : Option O} {t1 t2 t3 t4 : T} {L : List T}
theorem rr1 (h : R D [x0, some (.lst [due []]), x2, some (.pure t4), some (.pure t1), some (.pure t3), some (.pure t2), x7]) : sSeq (sSet 1 (tLstD (tConsA (tLamC sp__law_told (fun Ea => (tCallE [] (kwSp [] sp_priced) Ea tNilA))) tNilA))) R D [x0, none, x2, some (.pure t4), some (.pure t1), some (.pure t3), some (.pure t2), x7] := by
  simp only [sSeq, sNext, sRet, sRetN, sDrop, sIf, sSet, sFor, sPar, sAsg, bAnd, bOr, bNot, tTst, tCst, tBin, tUny, tNilA, tConsA, getAll, tCallB, tCallF, tTupD, tLstD, tChainA, tChainE, tRg, rgK.eq_1, tStripX, strip1K.eq_1, strip2K.eq_1, tAndE, tOrE, tNotE, tIfE, tComp, bYes, tDct0, tRange.eq_1, tgName, tgTup.eq_1, tgCons.eq_1, tgNil.eq_1, takeAll, back.eq_1, back.eq_2, back_nil, setO, tName_k, nameK.eq_1, nameK.eq_2, nameK.eq_3, nameK.eq_4, nameK.eq_5, nameK.eq_6, takeA_v, takeA_s, O.fz.eq_1, O.fz.eq_2, O.fz.eq_3, O.fz.eq_4, O.alias.eq_1, O.alias.eq_2, O.alias.eq_3, O.alias.eq_4, O.alias.eq_5, O.alias.eq_6, atK.eq_1, take1_v, take1_s, takeO_v, takeO_s, takeR_v, takeR_s, prep_n, prep_tv, prep_ts, prep_f, lstK.eq_1, lstAt_k, g2K.eq_1, g2_k, g1K.eq_1, g1_k, gNK.eq_1, gN_k, boK.eq_1, bOf_k, isiK.eq_1, tIsi_k, partK.eq_1, part_n, part_s, join2K.eq_1, join1K.eq_1, tJoin, tTindex, tix1K.eq_1, tix2K.eq_1, tSplit, spl1K.eq_1, spl2K.eq_1, tTxt2, txt1K.eq_1, txt2K.eq_1, gIntT.eq_1, tgUnl.eq_1, tOrS, orSK.eq_1, slcK.eq_1, slcK.eq_2, slcK.eq_3, slcK.eq_4, tSlc_k, revK.eq_1, revK.eq_2, revK.eq_3, tRev_k, strMK.eq_1, tStrM_k, itK.eq_1, tIter_k, enumK.eq_1, tEnum_k, zipK.eq_1, zipK.eq_2, tZip_k, intsK.eq_1, intsK.eq_2, intsOf_k, endK.eq_1, endO_k, extK.eq_1, tExtend_k, tAppend_k, setIxK.eq_1, sSetIx_k, popAtK.eq_1, tPopAt_k, bO.eq_1, itemsOf.eq_1, itemsOf.eq_2, itemsOf.eq_3, gAdd.eq_1, gAdd.eq_2, gAdd.eq_3, gAdd.eq_4, gAdd.eq_5, gAdd.eq_6, gSub_.eq_1, gSub_.eq_2, gMul3_t, gMul3_s, gMul3_i, gMul3_l, gMulT.eq_1, gMul2_s, gMul2_i, gMul2_l, gMulS.eq_1, gMul.eq_1, gMul.eq_2, gFdiv.eq_1, gMod.eq_1, gPow.eq_1, gNeg.eq_1, gNeg.eq_2, gGe.eq_1, gGt.eq_1, gLe.eq_1, gLt.eq_1, gLt.eq_2, gEq.eq_1, gNe.eq_1, gNe.eq_2, gNe.eq_3, gNe.eq_4, gInW.eq_1, gInW.eq_2, gIs.eq_1, gIsNot.eq_1, gLen.eq_1, gLen.eq_2, gAllAny.eq_1, gAbs.eq_1, gInt.eq_1, gInt.eq_2, gStr.eq_1, gStr.eq_2, gStr.eq_3, gM2.eq_1, gListOf.eq_1, gListOf.eq_2, gTupOf.eq_1, gTupOf.eq_2, gSort, gSortS.eq_1, gSortD.eq_1, gSortSet.eq_1, gRepr.eq_1, gM2S.eq_1, gIsB.eq_1, tCompN, tCompD, tCompI, tCompDI, tComp2, tCompL, gIx.eq_1, gIx.eq_2, ati0, ati1, ati2, Option.some.injEq, exists_eq, exists_eq', false_implies, Opd.slot.injEq, forall_eq, forall_eq', Opd.get.eq_1, Opd.get.eq_2, at_join, join_some, O.frz.eq_1, O.frz.eq_2, frz_dct, O.frz.eq_4, lsO.eq_1, lsO.eq_2, tuO.eq_1, seqO_l, seqO_p, seqO_t, endsOf, outsOf, startA, wipeA, List.getElem?_cons_zero, List.getElem?_cons_succ, List.length_cons, List.length_nil, List.map_cons, List.map_nil, List.set_cons_zero, List.set_cons_succ, List.replicate_succ, List.replicate_zero, List.cons_append, List.nil_append, List.getD_cons_zero, List.getD_cons_succ, if_true, if_false, Bool.false_eq_true, reduceIte, reduceCtorEq, Bool.not_true, Bool.not_false, implies_true, true_and, and_true, Nat.sub_self, Nat.reduceAdd, Nat.reduceSub, Nat.zero_add, List.all_cons, List.all_nil, Bool.and_true, Bool.true_and, tLamC, lamSpec, vws, vwE, pureT, sp__law_told, tCallE, Option.map_some, Option.map_none, Opd.val.injEq]
  intro A B hA hB
  exact told_due (ts := []) (Q := fun o => Nat.blt 1 8 = true ∧ R D [x0, some (.lst [o.frz]), x2, some (.pure t4), some (.pure t1), some (.pure t3), some (.pure t2), x7]) rfl (by decide) (by decide) (fun _ m => nomatch m) ⟨rfl, h⟩ (fun t z => ⟨_, rfl, hA t z⟩) fun t z => hB t z
theorem rr2 (hL : L.length < 16777216) (h : R D [x0, some (.lst (L ++ [due [("s", t1)]])), x2, some (.pure t4), some (.pure t1), some (.pure t3), some (.pure t2), x7]) : sSeq (sDrop (tAppend 1 (tLamC sp__law_told (fun Ea => (tCallE [false] (kwSp ["s"] sp_priced) Ea (tConsA (tName 4) tNilA)))))) R D [x0, some (.lst L), x2, some (.pure t4), some (.pure t1), some (.pure t3), some (.pure t2), x7] := by
  simp only [sSeq, sNext, sRet, sRetN, sDrop, sIf, sSet, sFor, sPar, sAsg, bAnd, bOr, bNot, tTst, tCst, tBin, tUny, tNilA, tConsA, getAll, tCallB, tCallF, tTupD, tLstD, tChainA, tChainE, tRg, rgK.eq_1, tStripX, strip1K.eq_1, strip2K.eq_1, tAndE, tOrE, tNotE, tIfE, tComp, bYes, tDct0, tRange.eq_1, tgName, tgTup.eq_1, tgCons.eq_1, tgNil.eq_1, takeAll, back.eq_1, back.eq_2, back_nil, setO, tName_k, nameK.eq_1, nameK.eq_2, nameK.eq_3, nameK.eq_4, nameK.eq_5, nameK.eq_6, takeA_v, takeA_s, O.fz.eq_1, O.fz.eq_2, O.fz.eq_3, O.fz.eq_4, O.alias.eq_1, O.alias.eq_2, O.alias.eq_3, O.alias.eq_4, O.alias.eq_5, O.alias.eq_6, atK.eq_1, take1_v, take1_s, takeO_v, takeO_s, takeR_v, takeR_s, prep_n, prep_tv, prep_ts, prep_f, lstK.eq_1, lstAt_k, g2K.eq_1, g2_k, g1K.eq_1, g1_k, gNK.eq_1, gN_k, boK.eq_1, bOf_k, isiK.eq_1, tIsi_k, partK.eq_1, part_n, part_s, join2K.eq_1, join1K.eq_1, tJoin, tTindex, tix1K.eq_1, tix2K.eq_1, tSplit, spl1K.eq_1, spl2K.eq_1, tTxt2, txt1K.eq_1, txt2K.eq_1, gIntT.eq_1, tgUnl.eq_1, tOrS, orSK.eq_1, slcK.eq_1, slcK.eq_2, slcK.eq_3, slcK.eq_4, tSlc_k, revK.eq_1, revK.eq_2, revK.eq_3, tRev_k, strMK.eq_1, tStrM_k, itK.eq_1, tIter_k, enumK.eq_1, tEnum_k, zipK.eq_1, zipK.eq_2, tZip_k, intsK.eq_1, intsK.eq_2, intsOf_k, endK.eq_1, endO_k, extK.eq_1, tExtend_k, tAppend_k, setIxK.eq_1, sSetIx_k, popAtK.eq_1, tPopAt_k, bO.eq_1, itemsOf.eq_1, itemsOf.eq_2, itemsOf.eq_3, gAdd.eq_1, gAdd.eq_2, gAdd.eq_3, gAdd.eq_4, gAdd.eq_5, gAdd.eq_6, gSub_.eq_1, gSub_.eq_2, gMul3_t, gMul3_s, gMul3_i, gMul3_l, gMulT.eq_1, gMul2_s, gMul2_i, gMul2_l, gMulS.eq_1, gMul.eq_1, gMul.eq_2, gFdiv.eq_1, gMod.eq_1, gPow.eq_1, gNeg.eq_1, gNeg.eq_2, gGe.eq_1, gGt.eq_1, gLe.eq_1, gLt.eq_1, gLt.eq_2, gEq.eq_1, gNe.eq_1, gNe.eq_2, gNe.eq_3, gNe.eq_4, gInW.eq_1, gInW.eq_2, gIs.eq_1, gIsNot.eq_1, gLen.eq_1, gLen.eq_2, gAllAny.eq_1, gAbs.eq_1, gInt.eq_1, gInt.eq_2, gStr.eq_1, gStr.eq_2, gStr.eq_3, gM2.eq_1, gListOf.eq_1, gListOf.eq_2, gTupOf.eq_1, gTupOf.eq_2, gSort, gSortS.eq_1, gSortD.eq_1, gSortSet.eq_1, gRepr.eq_1, gM2S.eq_1, gIsB.eq_1, tCompN, tCompD, tCompI, tCompDI, tComp2, tCompL, gIx.eq_1, gIx.eq_2, ati0, ati1, ati2, Option.some.injEq, exists_eq, exists_eq', false_implies, Opd.slot.injEq, forall_eq, forall_eq', Opd.get.eq_1, Opd.get.eq_2, at_join, join_some, O.frz.eq_1, O.frz.eq_2, frz_dct, O.frz.eq_4, lsO.eq_1, lsO.eq_2, tuO.eq_1, seqO_l, seqO_p, seqO_t, endsOf, outsOf, startA, wipeA, List.getElem?_cons_zero, List.getElem?_cons_succ, List.length_cons, List.length_nil, List.map_cons, List.map_nil, List.set_cons_zero, List.set_cons_succ, List.replicate_succ, List.replicate_zero, List.cons_append, List.nil_append, List.getD_cons_zero, List.getD_cons_succ, if_true, if_false, Bool.false_eq_true, reduceIte, reduceCtorEq, Bool.not_true, Bool.not_false, implies_true, true_and, and_true, Nat.sub_self, Nat.reduceAdd, Nat.reduceSub, Nat.zero_add, List.all_cons, List.all_nil, Bool.and_true, Bool.true_and, tLamC, lamSpec, vws, vwE, pureT, sp__law_told, tCallE, Option.map_some, Option.map_none, Opd.val.injEq]
  intro A B hA hB
  exact told_due (ts := [t1]) (Q := fun o => L.length < 16777216 ∧ R D [x0, some (.lst (L ++ [o.frz])), x2, some (.pure t4), some (.pure t1), some (.pure t3), some (.pure t2), x7]) rfl (by decide +kernel) (by decide) (by decide +kernel) ⟨hL, h⟩ (fun t z => ⟨_, rfl, hA t z⟩) fun t z => hB t z
theorem rr3 (hL : L.length < 16777216) (h : R D [x0, some (.lst (L ++ [due [("m", t2), ("a", t1)]])), x2, some (.pure t4), some (.pure t1), some (.pure t3), some (.pure t2), x7]) : sSeq (sDrop (tAppend 1 (tLamC sp__law_told (fun Ea => (tCallE [false, false] (kwSp ["m", "a"] sp_priced) Ea (tConsA (tName 6) (tConsA (tName 4) tNilA))))))) R D [x0, some (.lst L), x2, some (.pure t4), some (.pure t1), some (.pure t3), some (.pure t2), x7] := by
  simp only [sSeq, sNext, sRet, sRetN, sDrop, sIf, sSet, sFor, sPar, sAsg, bAnd, bOr, bNot, tTst, tCst, tBin, tUny, tNilA, tConsA, getAll, tCallB, tCallF, tTupD, tLstD, tChainA, tChainE, tRg, rgK.eq_1, tStripX, strip1K.eq_1, strip2K.eq_1, tAndE, tOrE, tNotE, tIfE, tComp, bYes, tDct0, tRange.eq_1, tgName, tgTup.eq_1, tgCons.eq_1, tgNil.eq_1, takeAll, back.eq_1, back.eq_2, back_nil, setO, tName_k, nameK.eq_1, nameK.eq_2, nameK.eq_3, nameK.eq_4, nameK.eq_5, nameK.eq_6, takeA_v, takeA_s, O.fz.eq_1, O.fz.eq_2, O.fz.eq_3, O.fz.eq_4, O.alias.eq_1, O.alias.eq_2, O.alias.eq_3, O.alias.eq_4, O.alias.eq_5, O.alias.eq_6, atK.eq_1, take1_v, take1_s, takeO_v, takeO_s, takeR_v, takeR_s, prep_n, prep_tv, prep_ts, prep_f, lstK.eq_1, lstAt_k, g2K.eq_1, g2_k, g1K.eq_1, g1_k, gNK.eq_1, gN_k, boK.eq_1, bOf_k, isiK.eq_1, tIsi_k, partK.eq_1, part_n, part_s, join2K.eq_1, join1K.eq_1, tJoin, tTindex, tix1K.eq_1, tix2K.eq_1, tSplit, spl1K.eq_1, spl2K.eq_1, tTxt2, txt1K.eq_1, txt2K.eq_1, gIntT.eq_1, tgUnl.eq_1, tOrS, orSK.eq_1, slcK.eq_1, slcK.eq_2, slcK.eq_3, slcK.eq_4, tSlc_k, revK.eq_1, revK.eq_2, revK.eq_3, tRev_k, strMK.eq_1, tStrM_k, itK.eq_1, tIter_k, enumK.eq_1, tEnum_k, zipK.eq_1, zipK.eq_2, tZip_k, intsK.eq_1, intsK.eq_2, intsOf_k, endK.eq_1, endO_k, extK.eq_1, tExtend_k, tAppend_k, setIxK.eq_1, sSetIx_k, popAtK.eq_1, tPopAt_k, bO.eq_1, itemsOf.eq_1, itemsOf.eq_2, itemsOf.eq_3, gAdd.eq_1, gAdd.eq_2, gAdd.eq_3, gAdd.eq_4, gAdd.eq_5, gAdd.eq_6, gSub_.eq_1, gSub_.eq_2, gMul3_t, gMul3_s, gMul3_i, gMul3_l, gMulT.eq_1, gMul2_s, gMul2_i, gMul2_l, gMulS.eq_1, gMul.eq_1, gMul.eq_2, gFdiv.eq_1, gMod.eq_1, gPow.eq_1, gNeg.eq_1, gNeg.eq_2, gGe.eq_1, gGt.eq_1, gLe.eq_1, gLt.eq_1, gLt.eq_2, gEq.eq_1, gNe.eq_1, gNe.eq_2, gNe.eq_3, gNe.eq_4, gInW.eq_1, gInW.eq_2, gIs.eq_1, gIsNot.eq_1, gLen.eq_1, gLen.eq_2, gAllAny.eq_1, gAbs.eq_1, gInt.eq_1, gInt.eq_2, gStr.eq_1, gStr.eq_2, gStr.eq_3, gM2.eq_1, gListOf.eq_1, gListOf.eq_2, gTupOf.eq_1, gTupOf.eq_2, gSort, gSortS.eq_1, gSortD.eq_1, gSortSet.eq_1, gRepr.eq_1, gM2S.eq_1, gIsB.eq_1, tCompN, tCompD, tCompI, tCompDI, tComp2, tCompL, gIx.eq_1, gIx.eq_2, ati0, ati1, ati2, Option.some.injEq, exists_eq, exists_eq', false_implies, Opd.slot.injEq, forall_eq, forall_eq', Opd.get.eq_1, Opd.get.eq_2, at_join, join_some, O.frz.eq_1, O.frz.eq_2, frz_dct, O.frz.eq_4, lsO.eq_1, lsO.eq_2, tuO.eq_1, seqO_l, seqO_p, seqO_t, endsOf, outsOf, startA, wipeA, List.getElem?_cons_zero, List.getElem?_cons_succ, List.length_cons, List.length_nil, List.map_cons, List.map_nil, List.set_cons_zero, List.set_cons_succ, List.replicate_succ, List.replicate_zero, List.cons_append, List.nil_append, List.getD_cons_zero, List.getD_cons_succ, if_true, if_false, Bool.false_eq_true, reduceIte, reduceCtorEq, Bool.not_true, Bool.not_false, implies_true, true_and, and_true, Nat.sub_self, Nat.reduceAdd, Nat.reduceSub, Nat.zero_add, List.all_cons, List.all_nil, Bool.and_true, Bool.true_and, tLamC, lamSpec, vws, vwE, pureT, sp__law_told, tCallE, Option.map_some, Option.map_none, Opd.val.injEq]
  intro A B hA hB
  exact told_due (ts := [t2, t1]) (Q := fun o => L.length < 16777216 ∧ R D [x0, some (.lst (L ++ [o.frz])), x2, some (.pure t4), some (.pure t1), some (.pure t3), some (.pure t2), x7]) rfl (by decide +kernel) (by decide) (by decide +kernel) ⟨hL, h⟩ (fun t z => ⟨_, rfl, hA t z⟩) fun t z => hB t z
theorem rr5 (hL : L.length < 16777216) (h : R D [x0, some (.lst (L ++ [due [("zebra", t1), ("alpha", t2), ("mid", t3), ("eightabc", t4)]])), x2, some (.pure t4), some (.pure t1), some (.pure t3), some (.pure t2), x7]) : sSeq (sDrop (tAppend 1 (tLamC sp__law_told (fun Ea => (tCallE [false, false, false, false] (kwSp ["zebra", "alpha", "mid", "eightabc"] sp_priced) Ea (tConsA (tName 4) (tConsA (tName 6) (tConsA (tName 5) (tConsA (tName 3) tNilA))))))))) R D [x0, some (.lst L), x2, some (.pure t4), some (.pure t1), some (.pure t3), some (.pure t2), x7] := by
  simp only [sSeq, sNext, sRet, sRetN, sDrop, sIf, sSet, sFor, sPar, sAsg, bAnd, bOr, bNot, tTst, tCst, tBin, tUny, tNilA, tConsA, getAll, tCallB, tCallF, tTupD, tLstD, tChainA, tChainE, tRg, rgK.eq_1, tStripX, strip1K.eq_1, strip2K.eq_1, tAndE, tOrE, tNotE, tIfE, tComp, bYes, tDct0, tRange.eq_1, tgName, tgTup.eq_1, tgCons.eq_1, tgNil.eq_1, takeAll, back.eq_1, back.eq_2, back_nil, setO, tName_k, nameK.eq_1, nameK.eq_2, nameK.eq_3, nameK.eq_4, nameK.eq_5, nameK.eq_6, takeA_v, takeA_s, O.fz.eq_1, O.fz.eq_2, O.fz.eq_3, O.fz.eq_4, O.alias.eq_1, O.alias.eq_2, O.alias.eq_3, O.alias.eq_4, O.alias.eq_5, O.alias.eq_6, atK.eq_1, take1_v, take1_s, takeO_v, takeO_s, takeR_v, takeR_s, prep_n, prep_tv, prep_ts, prep_f, lstK.eq_1, lstAt_k, g2K.eq_1, g2_k, g1K.eq_1, g1_k, gNK.eq_1, gN_k, boK.eq_1, bOf_k, isiK.eq_1, tIsi_k, partK.eq_1, part_n, part_s, join2K.eq_1, join1K.eq_1, tJoin, tTindex, tix1K.eq_1, tix2K.eq_1, tSplit, spl1K.eq_1, spl2K.eq_1, tTxt2, txt1K.eq_1, txt2K.eq_1, gIntT.eq_1, tgUnl.eq_1, tOrS, orSK.eq_1, slcK.eq_1, slcK.eq_2, slcK.eq_3, slcK.eq_4, tSlc_k, revK.eq_1, revK.eq_2, revK.eq_3, tRev_k, strMK.eq_1, tStrM_k, itK.eq_1, tIter_k, enumK.eq_1, tEnum_k, zipK.eq_1, zipK.eq_2, tZip_k, intsK.eq_1, intsK.eq_2, intsOf_k, endK.eq_1, endO_k, extK.eq_1, tExtend_k, tAppend_k, setIxK.eq_1, sSetIx_k, popAtK.eq_1, tPopAt_k, bO.eq_1, itemsOf.eq_1, itemsOf.eq_2, itemsOf.eq_3, gAdd.eq_1, gAdd.eq_2, gAdd.eq_3, gAdd.eq_4, gAdd.eq_5, gAdd.eq_6, gSub_.eq_1, gSub_.eq_2, gMul3_t, gMul3_s, gMul3_i, gMul3_l, gMulT.eq_1, gMul2_s, gMul2_i, gMul2_l, gMulS.eq_1, gMul.eq_1, gMul.eq_2, gFdiv.eq_1, gMod.eq_1, gPow.eq_1, gNeg.eq_1, gNeg.eq_2, gGe.eq_1, gGt.eq_1, gLe.eq_1, gLt.eq_1, gLt.eq_2, gEq.eq_1, gNe.eq_1, gNe.eq_2, gNe.eq_3, gNe.eq_4, gInW.eq_1, gInW.eq_2, gIs.eq_1, gIsNot.eq_1, gLen.eq_1, gLen.eq_2, gAllAny.eq_1, gAbs.eq_1, gInt.eq_1, gInt.eq_2, gStr.eq_1, gStr.eq_2, gStr.eq_3, gM2.eq_1, gListOf.eq_1, gListOf.eq_2, gTupOf.eq_1, gTupOf.eq_2, gSort, gSortS.eq_1, gSortD.eq_1, gSortSet.eq_1, gRepr.eq_1, gM2S.eq_1, gIsB.eq_1, tCompN, tCompD, tCompI, tCompDI, tComp2, tCompL, gIx.eq_1, gIx.eq_2, ati0, ati1, ati2, Option.some.injEq, exists_eq, exists_eq', false_implies, Opd.slot.injEq, forall_eq, forall_eq', Opd.get.eq_1, Opd.get.eq_2, at_join, join_some, O.frz.eq_1, O.frz.eq_2, frz_dct, O.frz.eq_4, lsO.eq_1, lsO.eq_2, tuO.eq_1, seqO_l, seqO_p, seqO_t, endsOf, outsOf, startA, wipeA, List.getElem?_cons_zero, List.getElem?_cons_succ, List.length_cons, List.length_nil, List.map_cons, List.map_nil, List.set_cons_zero, List.set_cons_succ, List.replicate_succ, List.replicate_zero, List.cons_append, List.nil_append, List.getD_cons_zero, List.getD_cons_succ, if_true, if_false, Bool.false_eq_true, reduceIte, reduceCtorEq, Bool.not_true, Bool.not_false, implies_true, true_and, and_true, Nat.sub_self, Nat.reduceAdd, Nat.reduceSub, Nat.zero_add, List.all_cons, List.all_nil, Bool.and_true, Bool.true_and, tLamC, lamSpec, vws, vwE, pureT, sp__law_told, tCallE, Option.map_some, Option.map_none, Opd.val.injEq]
  intro A B hA hB
  exact told_due (ts := [t1, t2, t3, t4]) (Q := fun o => L.length < 16777216 ∧ R D [x0, some (.lst (L ++ [o.frz])), x2, some (.pure t4), some (.pure t1), some (.pure t3), some (.pure t2), x7]) rfl (by decide +kernel) (by decide) (by decide +kernel) ⟨hL, h⟩ (fun t z => ⟨_, rfl, hA t z⟩) fun t z => hB t z
theorem rr7 (hL : L.length < 16777216) (h : R D [x0, some (.lst (L ++ [due [("b", t1), ("A", t2), ("x1", t3)]])), x2, some (.pure t4), some (.pure t1), some (.pure t3), some (.pure t2), x7]) : sSeq (sDrop (tAppend 1 (tLamC sp__law_told (fun Ea => (tCallE [false, false, false] (kwSp ["b", "A", "x1"] sp_priced) Ea (tConsA (tName 4) (tConsA (tName 6) (tConsA (tName 5) tNilA)))))))) R D [x0, some (.lst L), x2, some (.pure t4), some (.pure t1), some (.pure t3), some (.pure t2), x7] := by
  simp only [sSeq, sNext, sRet, sRetN, sDrop, sIf, sSet, sFor, sPar, sAsg, bAnd, bOr, bNot, tTst, tCst, tBin, tUny, tNilA, tConsA, getAll, tCallB, tCallF, tTupD, tLstD, tChainA, tChainE, tRg, rgK.eq_1, tStripX, strip1K.eq_1, strip2K.eq_1, tAndE, tOrE, tNotE, tIfE, tComp, bYes, tDct0, tRange.eq_1, tgName, tgTup.eq_1, tgCons.eq_1, tgNil.eq_1, takeAll, back.eq_1, back.eq_2, back_nil, setO, tName_k, nameK.eq_1, nameK.eq_2, nameK.eq_3, nameK.eq_4, nameK.eq_5, nameK.eq_6, takeA_v, takeA_s, O.fz.eq_1, O.fz.eq_2, O.fz.eq_3, O.fz.eq_4, O.alias.eq_1, O.alias.eq_2, O.alias.eq_3, O.alias.eq_4, O.alias.eq_5, O.alias.eq_6, atK.eq_1, take1_v, take1_s, takeO_v, takeO_s, takeR_v, takeR_s, prep_n, prep_tv, prep_ts, prep_f, lstK.eq_1, lstAt_k, g2K.eq_1, g2_k, g1K.eq_1, g1_k, gNK.eq_1, gN_k, boK.eq_1, bOf_k, isiK.eq_1, tIsi_k, partK.eq_1, part_n, part_s, join2K.eq_1, join1K.eq_1, tJoin, tTindex, tix1K.eq_1, tix2K.eq_1, tSplit, spl1K.eq_1, spl2K.eq_1, tTxt2, txt1K.eq_1, txt2K.eq_1, gIntT.eq_1, tgUnl.eq_1, tOrS, orSK.eq_1, slcK.eq_1, slcK.eq_2, slcK.eq_3, slcK.eq_4, tSlc_k, revK.eq_1, revK.eq_2, revK.eq_3, tRev_k, strMK.eq_1, tStrM_k, itK.eq_1, tIter_k, enumK.eq_1, tEnum_k, zipK.eq_1, zipK.eq_2, tZip_k, intsK.eq_1, intsK.eq_2, intsOf_k, endK.eq_1, endO_k, extK.eq_1, tExtend_k, tAppend_k, setIxK.eq_1, sSetIx_k, popAtK.eq_1, tPopAt_k, bO.eq_1, itemsOf.eq_1, itemsOf.eq_2, itemsOf.eq_3, gAdd.eq_1, gAdd.eq_2, gAdd.eq_3, gAdd.eq_4, gAdd.eq_5, gAdd.eq_6, gSub_.eq_1, gSub_.eq_2, gMul3_t, gMul3_s, gMul3_i, gMul3_l, gMulT.eq_1, gMul2_s, gMul2_i, gMul2_l, gMulS.eq_1, gMul.eq_1, gMul.eq_2, gFdiv.eq_1, gMod.eq_1, gPow.eq_1, gNeg.eq_1, gNeg.eq_2, gGe.eq_1, gGt.eq_1, gLe.eq_1, gLt.eq_1, gLt.eq_2, gEq.eq_1, gNe.eq_1, gNe.eq_2, gNe.eq_3, gNe.eq_4, gInW.eq_1, gInW.eq_2, gIs.eq_1, gIsNot.eq_1, gLen.eq_1, gLen.eq_2, gAllAny.eq_1, gAbs.eq_1, gInt.eq_1, gInt.eq_2, gStr.eq_1, gStr.eq_2, gStr.eq_3, gM2.eq_1, gListOf.eq_1, gListOf.eq_2, gTupOf.eq_1, gTupOf.eq_2, gSort, gSortS.eq_1, gSortD.eq_1, gSortSet.eq_1, gRepr.eq_1, gM2S.eq_1, gIsB.eq_1, tCompN, tCompD, tCompI, tCompDI, tComp2, tCompL, gIx.eq_1, gIx.eq_2, ati0, ati1, ati2, Option.some.injEq, exists_eq, exists_eq', false_implies, Opd.slot.injEq, forall_eq, forall_eq', Opd.get.eq_1, Opd.get.eq_2, at_join, join_some, O.frz.eq_1, O.frz.eq_2, frz_dct, O.frz.eq_4, lsO.eq_1, lsO.eq_2, tuO.eq_1, seqO_l, seqO_p, seqO_t, endsOf, outsOf, startA, wipeA, List.getElem?_cons_zero, List.getElem?_cons_succ, List.length_cons, List.length_nil, List.map_cons, List.map_nil, List.set_cons_zero, List.set_cons_succ, List.replicate_succ, List.replicate_zero, List.cons_append, List.nil_append, List.getD_cons_zero, List.getD_cons_succ, if_true, if_false, Bool.false_eq_true, reduceIte, reduceCtorEq, Bool.not_true, Bool.not_false, implies_true, true_and, and_true, Nat.sub_self, Nat.reduceAdd, Nat.reduceSub, Nat.zero_add, List.all_cons, List.all_nil, Bool.and_true, Bool.true_and, tLamC, lamSpec, vws, vwE, pureT, sp__law_told, tCallE, Option.map_some, Option.map_none, Opd.val.injEq]
  intro A B hA hB
  exact told_due (ts := [t1, t2, t3]) (Q := fun o => L.length < 16777216 ∧ R D [x0, some (.lst (L ++ [o.frz])), x2, some (.pure t4), some (.pure t1), some (.pure t3), some (.pure t2), x7]) rfl (by decide +kernel) (by decide) (by decide +kernel) ⟨hL, h⟩ (fun t z => ⟨_, rfl, hA t z⟩) fun t z => hB t z
theorem rr9 (hL : L.length < 16777216) (h : R D [x0, some (.lst (L ++ [due [("ninechars", t1), ("a", t2)]])), x2, some (.pure t4), some (.pure t1), some (.pure t3), some (.pure t2), x7]) : sSeq (sDrop (tAppend 1 (tLamC sp__law_told (fun Ea => (tCallE [false, false] (kwSp ["ninechars", "a"] sp_priced) Ea (tConsA (tName 4) (tConsA (tName 6) tNilA))))))) R D [x0, some (.lst L), x2, some (.pure t4), some (.pure t1), some (.pure t3), some (.pure t2), x7] := by
  simp only [sSeq, sNext, sRet, sRetN, sDrop, sIf, sSet, sFor, sPar, sAsg, bAnd, bOr, bNot, tTst, tCst, tBin, tUny, tNilA, tConsA, getAll, tCallB, tCallF, tTupD, tLstD, tChainA, tChainE, tRg, rgK.eq_1, tStripX, strip1K.eq_1, strip2K.eq_1, tAndE, tOrE, tNotE, tIfE, tComp, bYes, tDct0, tRange.eq_1, tgName, tgTup.eq_1, tgCons.eq_1, tgNil.eq_1, takeAll, back.eq_1, back.eq_2, back_nil, setO, tName_k, nameK.eq_1, nameK.eq_2, nameK.eq_3, nameK.eq_4, nameK.eq_5, nameK.eq_6, takeA_v, takeA_s, O.fz.eq_1, O.fz.eq_2, O.fz.eq_3, O.fz.eq_4, O.alias.eq_1, O.alias.eq_2, O.alias.eq_3, O.alias.eq_4, O.alias.eq_5, O.alias.eq_6, atK.eq_1, take1_v, take1_s, takeO_v, takeO_s, takeR_v, takeR_s, prep_n, prep_tv, prep_ts, prep_f, lstK.eq_1, lstAt_k, g2K.eq_1, g2_k, g1K.eq_1, g1_k, gNK.eq_1, gN_k, boK.eq_1, bOf_k, isiK.eq_1, tIsi_k, partK.eq_1, part_n, part_s, join2K.eq_1, join1K.eq_1, tJoin, tTindex, tix1K.eq_1, tix2K.eq_1, tSplit, spl1K.eq_1, spl2K.eq_1, tTxt2, txt1K.eq_1, txt2K.eq_1, gIntT.eq_1, tgUnl.eq_1, tOrS, orSK.eq_1, slcK.eq_1, slcK.eq_2, slcK.eq_3, slcK.eq_4, tSlc_k, revK.eq_1, revK.eq_2, revK.eq_3, tRev_k, strMK.eq_1, tStrM_k, itK.eq_1, tIter_k, enumK.eq_1, tEnum_k, zipK.eq_1, zipK.eq_2, tZip_k, intsK.eq_1, intsK.eq_2, intsOf_k, endK.eq_1, endO_k, extK.eq_1, tExtend_k, tAppend_k, setIxK.eq_1, sSetIx_k, popAtK.eq_1, tPopAt_k, bO.eq_1, itemsOf.eq_1, itemsOf.eq_2, itemsOf.eq_3, gAdd.eq_1, gAdd.eq_2, gAdd.eq_3, gAdd.eq_4, gAdd.eq_5, gAdd.eq_6, gSub_.eq_1, gSub_.eq_2, gMul3_t, gMul3_s, gMul3_i, gMul3_l, gMulT.eq_1, gMul2_s, gMul2_i, gMul2_l, gMulS.eq_1, gMul.eq_1, gMul.eq_2, gFdiv.eq_1, gMod.eq_1, gPow.eq_1, gNeg.eq_1, gNeg.eq_2, gGe.eq_1, gGt.eq_1, gLe.eq_1, gLt.eq_1, gLt.eq_2, gEq.eq_1, gNe.eq_1, gNe.eq_2, gNe.eq_3, gNe.eq_4, gInW.eq_1, gInW.eq_2, gIs.eq_1, gIsNot.eq_1, gLen.eq_1, gLen.eq_2, gAllAny.eq_1, gAbs.eq_1, gInt.eq_1, gInt.eq_2, gStr.eq_1, gStr.eq_2, gStr.eq_3, gM2.eq_1, gListOf.eq_1, gListOf.eq_2, gTupOf.eq_1, gTupOf.eq_2, gSort, gSortS.eq_1, gSortD.eq_1, gSortSet.eq_1, gRepr.eq_1, gM2S.eq_1, gIsB.eq_1, tCompN, tCompD, tCompI, tCompDI, tComp2, tCompL, gIx.eq_1, gIx.eq_2, ati0, ati1, ati2, Option.some.injEq, exists_eq, exists_eq', false_implies, Opd.slot.injEq, forall_eq, forall_eq', Opd.get.eq_1, Opd.get.eq_2, at_join, join_some, O.frz.eq_1, O.frz.eq_2, frz_dct, O.frz.eq_4, lsO.eq_1, lsO.eq_2, tuO.eq_1, seqO_l, seqO_p, seqO_t, endsOf, outsOf, startA, wipeA, List.getElem?_cons_zero, List.getElem?_cons_succ, List.length_cons, List.length_nil, List.map_cons, List.map_nil, List.set_cons_zero, List.set_cons_succ, List.replicate_succ, List.replicate_zero, List.cons_append, List.nil_append, List.getD_cons_zero, List.getD_cons_succ, if_true, if_false, Bool.false_eq_true, reduceIte, reduceCtorEq, Bool.not_true, Bool.not_false, implies_true, true_and, and_true, Nat.sub_self, Nat.reduceAdd, Nat.reduceSub, Nat.zero_add, List.all_cons, List.all_nil, Bool.and_true, Bool.true_and, tLamC, lamSpec, vws, vwE, pureT, sp__law_told, tCallE, Option.map_some, Option.map_none, Opd.val.injEq]
  intro A B hA hB
  exact told_due (ts := [t1, t2]) (Q := fun o => L.length < 16777216 ∧ R D [x0, some (.lst (L ++ [o.frz])), x2, some (.pure t4), some (.pure t1), some (.pure t3), some (.pure t2), x7]) rfl (by decide +kernel) (by decide) (by decide +kernel) ⟨hL, h⟩ (fun t z => ⟨_, rfl, hA t z⟩) fun t z => hB t z
theorem rr4 (h : R D [x0, x1, some (.lst [due [], due [("s", t1)], due [("m", t2), ("a", t1)]]), some (.pure t4), some (.pure t1), some (.pure t3), some (.pure t2), x7]) : sSeq (sSet 2 (tLstD (tConsA (tTupD (tConsA (tCst (.str "value")) (tConsA (tTupD tNilA) tNilA))) (tConsA (tCallF [false] sp__law_due (tConsA (tLstD (tConsA (tTupD (tConsA (tCst (.str "s")) (tConsA (tName 4) tNilA))) tNilA)) tNilA)) (tConsA (tCallF [false] sp__law_due (tConsA (tLstD (tConsA (tTupD (tConsA (tCst (.str "m")) (tConsA (tName 6) tNilA))) (tConsA (tTupD (tConsA (tCst (.str "a")) (tConsA (tName 4) tNilA))) tNilA))) tNilA)) tNilA))))) R D [x0, x1, none, some (.pure t4), some (.pure t1), some (.pure t3), some (.pure t2), x7] := by
  rw [due_nil] at h
  sizeOf_list_dec
  refine ⟨[("s", t1)], rfl, by simp, (du_names (show ∀ x ∈ (["s"] : List Str), x ∈ KN by decide +kernel)), ?_⟩
  sizeOf_list_dec
  refine ⟨[("m", t2), ("a", t1)], rfl, by simp, (du_names (show ∀ x ∈ (["m", "a"] : List Str), x ∈ KN by decide +kernel)), ?_⟩
  sizeOf_list_dec
  exact ⟨rfl, h⟩
theorem rr6 (hL : L.length < 16777216) (h : R D [x0, x1, some (.lst (L ++ [due [("zebra", t1), ("alpha", t2), ("mid", t3), ("eightabc", t4)]])), some (.pure t4), some (.pure t1), some (.pure t3), some (.pure t2), x7]) : sSeq (sDrop (tAppend 2 (tCallF [false] sp__law_due (tConsA (tLstD (tConsA (tTupD (tConsA (tCst (.str "zebra")) (tConsA (tName 4) tNilA))) (tConsA (tTupD (tConsA (tCst (.str "alpha")) (tConsA (tName 6) tNilA))) (tConsA (tTupD (tConsA (tCst (.str "mid")) (tConsA (tName 5) tNilA))) (tConsA (tTupD (tConsA (tCst (.str "eightabc")) (tConsA (tName 3) tNilA))) tNilA))))) tNilA)))) R D [x0, x1, some (.lst L), some (.pure t4), some (.pure t1), some (.pure t3), some (.pure t2), x7] := by
  sizeOf_list_dec
  refine ⟨[("zebra", t1), ("alpha", t2), ("mid", t3), ("eightabc", t4)], rfl, by simp, (du_names (show ∀ x ∈ (["zebra", "alpha", "mid", "eightabc"] : List Str), x ∈ KN by decide +kernel)), ?_⟩
  sizeOf_list_dec
  exact ⟨hL, h⟩
theorem rr8 (hL : L.length < 16777216) (h : R D [x0, x1, some (.lst (L ++ [due [("b", t1), ("A", t2), ("x1", t3)]])), some (.pure t4), some (.pure t1), some (.pure t3), some (.pure t2), x7]) : sSeq (sDrop (tAppend 2 (tCallF [false] sp__law_due (tConsA (tLstD (tConsA (tTupD (tConsA (tCst (.str "b")) (tConsA (tName 4) tNilA))) (tConsA (tTupD (tConsA (tCst (.str "A")) (tConsA (tName 6) tNilA))) (tConsA (tTupD (tConsA (tCst (.str "x1")) (tConsA (tName 5) tNilA))) tNilA)))) tNilA)))) R D [x0, x1, some (.lst L), some (.pure t4), some (.pure t1), some (.pure t3), some (.pure t2), x7] := by
  sizeOf_list_dec
  refine ⟨[("b", t1), ("A", t2), ("x1", t3)], rfl, by simp, (du_names (show ∀ x ∈ (["b", "A", "x1"] : List Str), x ∈ KN by decide +kernel)), ?_⟩
  sizeOf_list_dec
  exact ⟨hL, h⟩
theorem rr10 (hL : L.length < 16777216) (h : R D [x0, x1, some (.lst (L ++ [due [("ninechars", t1), ("a", t2)]])), some (.pure t4), some (.pure t1), some (.pure t3), some (.pure t2), x7]) : sSeq (sDrop (tAppend 2 (tCallF [false] sp__law_due (tConsA (tLstD (tConsA (tTupD (tConsA (tCst (.str "ninechars")) (tConsA (tName 4) tNilA))) (tConsA (tTupD (tConsA (tCst (.str "a")) (tConsA (tName 6) tNilA))) tNilA))) tNilA)))) R D [x0, x1, some (.lst L), some (.pure t4), some (.pure t1), some (.pure t3), some (.pure t2), x7] := by
  sizeOf_list_dec
  refine ⟨[("ninechars", t1), ("a", t2)], rfl, by simp, (du_names (show ∀ x ∈ (["ninechars", "a"] : List Str), x ∈ KN by decide +kernel)), ?_⟩
  sizeOf_list_dec
  exact ⟨hL, h⟩
theorem rr11 (hg : Gd 2000 10 B0 (.list L)) (h : ∀ ρ, D.rt (.pure (.bool true)) (x0 :: ρ)) : (sRet (fun j => [true].getD j false) (tBin gEq (tCallB gRepr (tConsA (tName 1) tNilA)) (tCallB gRepr (tConsA (tName 2) tNilA)))) D [x0, some (.lst L), some (.lst L), some (.pure t4), some (.pure t1), some (.pure t3), some (.pure t2), x7] := by
  obtain ⟨r1, r2, r3⟩ := repr_ok (by omega) (by omega) (by unfold B0; decide) hg
  sizeOf_list_dec
  generalize (PyData.list L).shown = z at r3 ⊢
  refine ⟨r1, r2, r3, r1, r2, r3, by simp [cmpOk], by simp [PyData.depth], ?_⟩
  rw [show PyData.eqv (PyData.str z) (PyData.str z) = true by simp [PyData.eqv]]
  exact h _
end
def sp__law_right : FSpec := fun os Q => ∃ n d, n ≤ 800000 ∧ os = [d] ∧ Dk n d ∧ ∀ d', Dk (n + 12) d' → Q (.pure (.bool true)) [d']
theorem pl__law_right (os : List O) (Qa : O → List O → Prop) (_ : os.length = 1) (h : sp__law_right os Qa) : t__law_right (endsOf [true] Qa) (startA 8 os) := by
  obtain ⟨n, d, hn, rfl, hd, h⟩ := h
  refine rr0 hd hn fun t1 t2 t3 t4 ds c1 c2 c3 c4 hd' => ?_
  have mem : ∀ t ∈ [t1, t2, t3, t4], CostT t := by simp [c1, c2, c3, c4]
  refine rr1 (rr2 (by simp) (rr3 (by simp) (rr4 (rr5 (by simp) (rr6 (by simp) (rr7 (by simp) (rr8 (by simp) (rr9 (by simp) (rr10 (by simp) (rr11 ?_ fun ρ => ?_))))))))))
  · refine (Gd.lst (gds_of (k := 200) (d := 6) (b := B0) (w := 1999) (fun t m => ?_) (by simp))).mono (by omega) (by omega) (Nat.le_refl _)
    simp only [List.cons_append, List.nil_append, List.append_assoc, List.mem_cons, List.not_mem_nil, or_false] at m
    rcases m with rfl | rfl | rfl | rfl | rfl | rfl
    · exact du_gd (by simp) (show ∀ x ∈ ([] : List Str), x ∈ KN by decide +kernel) fun t m => mem t (by revert m; simp <;> grind)
    · exact du_gd (by simp) (show ∀ x ∈ (["s"] : List Str), x ∈ KN by decide +kernel) fun t m => mem t (by revert m; simp <;> grind)
    · exact du_gd (by simp) (show ∀ x ∈ (["m", "a"] : List Str), x ∈ KN by decide +kernel) fun t m => mem t (by revert m; simp <;> grind)
    · exact du_gd (by simp) (show ∀ x ∈ (["zebra", "alpha", "mid", "eightabc"] : List Str), x ∈ KN by decide +kernel) fun t m => mem t (by revert m; simp <;> grind)
    · exact du_gd (by simp) (show ∀ x ∈ (["b", "A", "x1"] : List Str), x ∈ KN by decide +kernel) fun t m => mem t (by revert m; simp <;> grind)
    · exact du_gd (by simp) (show ∀ x ∈ (["ninechars", "a"] : List Str), x ∈ KN by decide +kernel) fun t m => mem t (by revert m; simp <;> grind)
  · sizeOf_list_dec
    exact h _ hd'
end WK
set_option Elab.async false
set_option linter.all false
set_option maxRecDepth 100000
set_option maxHeartbeats 4000000
/-! prices by keywords: twelve keywords -/
namespace WK
open PySem PySem.Spec L2 DL WS
open PyProof.Rows hiding St
local macro_rules
  | `(tactic| sizeOf_list_dec) => `(tactic| simp only [sSeq, sNext, sRet, sRetN, sDrop, sIf, sSet, sFor, sPar, sAsg, bAnd, bOr, bNot, tTst, tCst, tBin, tUny, tNilA, tConsA, getAll, tCallB, tCallF, tTupD, tLstD, tChainA, tChainE, tRg, rgK.eq_1, tStripX, strip1K.eq_1, strip2K.eq_1, tAndE, tOrE, tNotE, tIfE, tComp, bYes, tDct0, tRange.eq_1, tgName, tgTup.eq_1, tgCons.eq_1, tgNil.eq_1, takeAll, back.eq_1, back.eq_2, back_nil, setO, tName_k, nameK.eq_1, nameK.eq_2, nameK.eq_3, nameK.eq_4, nameK.eq_5, nameK.eq_6, takeA_v, takeA_s, O.fz.eq_1, O.fz.eq_2, O.fz.eq_3, O.fz.eq_4, O.alias.eq_1, O.alias.eq_2, O.alias.eq_3, O.alias.eq_4, O.alias.eq_5, O.alias.eq_6, atK.eq_1, take1_v, take1_s, takeO_v, takeO_s, takeR_v, takeR_s, prep_n, prep_tv, prep_ts, prep_f, lstK.eq_1, lstAt_k, g2K.eq_1, g2_k, g1K.eq_1, g1_k, gNK.eq_1, gN_k, boK.eq_1, bOf_k, isiK.eq_1, tIsi_k, partK.eq_1, part_n, part_s, join2K.eq_1, join1K.eq_1, tJoin, tTindex, tix1K.eq_1, tix2K.eq_1, tSplit, spl1K.eq_1, spl2K.eq_1, tTxt2, txt1K.eq_1, txt2K.eq_1, gIntT.eq_1, tgUnl.eq_1, tOrS, orSK.eq_1, slcK.eq_1, slcK.eq_2, slcK.eq_3, slcK.eq_4, tSlc_k, revK.eq_1, revK.eq_2, revK.eq_3, tRev_k, strMK.eq_1, tStrM_k, itK.eq_1, tIter_k, enumK.eq_1, tEnum_k, zipK.eq_1, zipK.eq_2, tZip_k, intsK.eq_1, intsK.eq_2, intsOf_k, endK.eq_1, endO_k, extK.eq_1, tExtend_k, tAppend_k, setIxK.eq_1, sSetIx_k, popAtK.eq_1, tPopAt_k, bO.eq_1, itemsOf.eq_1, itemsOf.eq_2, itemsOf.eq_3, gAdd.eq_1, gAdd.eq_2, gAdd.eq_3, gAdd.eq_4, gAdd.eq_5, gAdd.eq_6, gSub_.eq_1, gSub_.eq_2, gMul3_t, gMul3_s, gMul3_i, gMul3_l, gMulT.eq_1, gMul2_s, gMul2_i, gMul2_l, gMulS.eq_1, gMul.eq_1, gMul.eq_2, gFdiv.eq_1, gMod.eq_1, gPow.eq_1, gNeg.eq_1, gNeg.eq_2, gGe.eq_1, gGt.eq_1, gLe.eq_1, gLt.eq_1, gLt.eq_2, gEq.eq_1, gNe.eq_1, gNe.eq_2, gNe.eq_3, gNe.eq_4, gInW.eq_1, gInW.eq_2, gIs.eq_1, gIsNot.eq_1, gLen.eq_1, gLen.eq_2, gAllAny.eq_1, gAbs.eq_1, gInt.eq_1, gInt.eq_2, gStr.eq_1, gStr.eq_2, gStr.eq_3, gM2.eq_1, gListOf.eq_1, gListOf.eq_2, gTupOf.eq_1, gTupOf.eq_2, gSort, gSortS.eq_1, gSortD.eq_1, gSortSet.eq_1, gRepr.eq_1, gM2S.eq_1, gIsB.eq_1, tCompN, tCompD, tCompI, tCompDI, tComp2, tCompL, gIx.eq_1, gIx.eq_2, ati0, ati1, ati2, Option.some.injEq, exists_eq, exists_eq', false_implies, Opd.slot.injEq, forall_eq, forall_eq', Opd.get.eq_1, Opd.get.eq_2, at_join, join_some, O.frz.eq_1, O.frz.eq_2, frz_dct, O.frz.eq_4, lsO.eq_1, lsO.eq_2, tuO.eq_1, seqO_l, seqO_p, seqO_t, endsOf, outsOf, startA, wipeA, List.getElem?_cons_zero, List.getElem?_cons_succ, List.length_cons, List.length_nil, List.map_cons, List.map_nil, List.set_cons_zero, List.set_cons_succ, List.replicate_succ, List.replicate_zero, List.cons_append, List.nil_append, List.getD_cons_zero, List.getD_cons_succ, if_true, if_false, Bool.false_eq_true, reduceIte, reduceCtorEq, Bool.not_true, Bool.not_false, implies_true, true_and, and_true, Nat.sub_self, Nat.reduceAdd, Nat.reduceSub, Nat.zero_add, List.all_cons, List.all_nil, Bool.and_true, Bool.true_and])
local instance : Tbs := ⟨[], fun _ => 0, []⟩
local instance : Bas := ⟨fun _ => none, fun _ => False, []⟩
/-- _law_many_right: slots 0:_law_deck_here 1:_law_some 2:_law_names_here 3:_law_due_here 4:_law_told_here 5:_law_v0 6:_law_v1 7:_law_v2 8:_law_v3 9:_law_v4 10:_law_v5 11:_law_v6 12:_law_v7 13:_law_v8 14:_law_v9 15:_law_w0 16:_law_w1 17:_law_turn -/
def t__law_many_right : ST := (sSeq (sSet 1 (tComp (tRange (tConsA (tCst (.int 12)) tNilA)) (tgName 17) bYes (tCallF [true, false] sp__law_any (tConsA (tName 0) (tConsA (tLstD (tConsA (tCst (.int 1)) (tConsA (tBin gPow (tCst (.int 10)) (tCst (.int 6))) (tConsA (tBin gAdd (tCst (.int 1)) (tCallF [true, false] sp__law_draw (tConsA (tName 0) (tConsA (tBin gPow (tCst (.int 10)) (tCst (.int 6))) tNilA)))) tNilA)))) tNilA))) [17]))
  (sSeq (sIf (tTst (tBin gEq (tCallF [true, false] sp__law_draw (tConsA (tName 0) (tConsA (tCst (.int 3)) tNilA))) (tCst (.int 0)))) (sSet 1 (tBin gAdd (tSlc (tName 1) none (some (tCst (.int 11)))) (tLstD (tConsA (tCallF [true] sp__law_cost (tConsA (tName 0) tNilA)) tNilA)))) sNext)
  (sSeq (sSet 2 (tLstD (tConsA (tCst (.str "d")) (tConsA (tCst (.str "b")) (tConsA (tCst (.str "zz")) (tConsA (tCst (.str "m")) (tConsA (tCst (.str "ab")) (tConsA (tCst (.str "x")) (tConsA (tCst (.str "aa")) (tConsA (tCst (.str "p")) (tConsA (tCst (.str "s")) (tConsA (tCst (.str "c")) (tConsA (tCst (.str "yy")) (tConsA (tCst (.str "da")) tNilA))))))))))))))
  (sSeq (sSet 3 (tCallF [false] sp__law_due (tConsA (tCallB ZL.gListZL (tConsA (tName 2) (tConsA (tName 1) tNilA))) tNilA)))
  (sSeq (sAsg (tgUnl 6 (tgCons (tgName 5) (tgCons (tgName 6) (tgCons (tgName 7) (tgCons (tgName 8) (tgCons (tgName 9) (tgCons (tgName 10) tgNil))))))) (tSlc (tName 1) none (some (tCst (.int 6)))))
  (sSeq (sAsg (tgUnl 6 (tgCons (tgName 11) (tgCons (tgName 12) (tgCons (tgName 13) (tgCons (tgName 14) (tgCons (tgName 15) (tgCons (tgName 16) tgNil))))))) (tSlc (tName 1) (some (tCst (.int 6))) none))
  (sSeq (sSet 4 (tLamC sp__law_told (fun Ea => (tCallE [false, false, false, false, false, false, false, false, false, false, false, false] (kwSp ["d", "b", "zz", "m", "ab", "x", "aa", "p", "s", "c", "yy", "da"] sp_priced) Ea (tConsA (tName 5) (tConsA (tName 6) (tConsA (tName 7) (tConsA (tName 8) (tConsA (tName 9) (tConsA (tName 10) (tConsA (tName 11) (tConsA (tName 12) (tConsA (tName 13) (tConsA (tName 14) (tConsA (tName 15) (tConsA (tName 16) tNilA))))))))))))))))
  (sRet (fun j => [true].getD j false) (tBin gEq (tCallB gRepr (tConsA (tName 4) tNilA)) (tCallB gRepr (tConsA (tName 3) tNilA)))))))))))
section
variable {D : AEnds} {R : ST}
theorem mm0 {n : Nat} {d : O} (hd : Dk n d) (hn : n ≤ 800000) (h : ∀ ts ds, ts.length = 12 → (∀ t ∈ ts, CostT t) → Dk (n + 24) (.lst ds) → R D [some (.lst ds), some (.lst ts), none, none, none, none, none, none, none, none, none, none, none, none, none, none, none, none]) :
    sSeq (sSet 1 (tComp (tRange (tConsA (tCst (.int 12)) tNilA)) (tgName 17) bYes (tCallF [true, false] sp__law_any (tConsA (tName 0) (tConsA (tLstD (tConsA (tCst (.int 1)) (tConsA (tBin gPow (tCst (.int 10)) (tCst (.int 6))) (tConsA (tBin gAdd (tCst (.int 1)) (tCallF [true, false] sp__law_draw (tConsA (tName 0) (tConsA (tBin gPow (tCst (.int 10)) (tCst (.int 6))) tNilA)))) tNilA)))) tNilA))) [17])) R D [some d, none, none, none, none, none, none, none, none, none, none, none, none, none, none, none, none, none] := by
  obtain ⟨ds, rfl⟩ := hd.frz
  sizeOf_list_dec
  refine ⟨by omega, by omega, compW_inv (fun i acc ρ => (acc.length = i ∧ ∀ t ∈ acc, CostT t) ∧ ∃ ds, Dk (n + 2 * i) (.lst ds) ∧ ρ = [some (.lst ds), none, none, none, none, none, none, none, none, none, none, none, none, none, none, none, none, none]) 12 _ 0 _ _ (by simp [rngItems]) (fun i t acc ρ ts' Q' mt hik hinv nx => ?_) ⟨⟨rfl, fun _ m => nomatch m⟩, ds, hd, rfl⟩ fun acc ρ hinv => ?_⟩
  · obtain ⟨⟨hl, hc⟩, ds, hd, rfl⟩ := hinv
    unfold compW
    sizeOf_list_dec
    refine ⟨rfl, by decide, by decide, by decide, by decide, by decide, by decide, n + 2 * i, _, _, by omega, rfl, hd, by decide, by decide, fun r d1 q0 q1 hd1 => ?_⟩
    obtain ⟨ds1, rfl⟩ := hd1.frz
    sizeOf_list_dec
    refine ⟨n + 2 * i + 1, _, _, by omega, rfl, hd1, by simp, by simp, fun t d2 mt hd2 => ?_⟩
    obtain ⟨ds2, rfl⟩ := hd2.frz
    sizeOf_list_dec
    have e6 : (10 : Int) ^ Int.toNat 6 = 1000000 := by decide
    rw [e6] at mt q1
    have ht : CostT t := by
      simp only [List.mem_cons, List.not_mem_nil, or_false] at mt
      rcases mt with rfl | rfl | rfl
      · exact cost_int (by decide)
      · exact cost_int (by decide)
      · exact cost_int (by omega)
    exact nx _ _ ⟨⟨by rw [List.length_append, hl]; rfl, fun u m => (List.mem_append.mp m).elim (hc u) fun m => by rw [List.mem_singleton.mp m]; exact ht⟩, ds2, hd2.mono (by omega), rfl⟩
  · obtain ⟨⟨hl, hc⟩, ds, hd, rfl⟩ := hinv
    sizeOf_list_dec
    exact ⟨rfl, h _ _ hl hc hd⟩
theorem mm1 {n : Nat} {ds ts : List T} (hd : Dk n (.lst ds)) (hn : n ≤ 800000) (hl : ts.length = 12) (hc : ∀ t ∈ ts, CostT t) (h : ∀ ts ds, ts.length = 12 → (∀ t ∈ ts, CostT t) → Dk (n + 4) (.lst ds) → R D [some (.lst ds), some (.lst ts), none, none, none, none, none, none, none, none, none, none, none, none, none, none, none, none]) :
    sSeq (sIf (tTst (tBin gEq (tCallF [true, false] sp__law_draw (tConsA (tName 0) (tConsA (tCst (.int 3)) tNilA))) (tCst (.int 0)))) (sSet 1 (tBin gAdd (tSlc (tName 1) none (some (tCst (.int 11)))) (tLstD (tConsA (tCallF [true] sp__law_cost (tConsA (tName 0) tNilA)) tNilA)))) sNext) R D [some (.lst ds), some (.lst ts), none, none, none, none, none, none, none, none, none, none, none, none, none, none, none, none] := by
  sizeOf_list_dec
  refine ⟨n, _, _, by omega, rfl, hd, by decide, by decide, fun r d1 q0 q1 hd1 => ?_⟩
  obtain ⟨ds1, rfl⟩ := hd1.frz
  sizeOf_list_dec
  refine ⟨by simp [cmpOk], by simp [PyData.depth], ?_⟩
  have ec := cut_take (ts := ts) (i := 11) (by omega)
  have e11 : ts.take (11 : Int).toNat = ts.take 11 := rfl
  rw [e11] at ec
  split
  · refine ⟨n + 1, _, by omega, rfl, hd1, fun t d2 ht hd2 => ?_⟩
    obtain ⟨ds2, rfl⟩ := hd2.frz
    rw [ec]
    sizeOf_list_dec
    refine ⟨by rw [List.length_take]; omega, rfl, h _ _ (by rw [List.length_append, List.length_take]; simp; omega) (fun u m => ?_) (hd2.mono (by omega))⟩
    exact (List.mem_append.mp m).elim (fun m => hc u (List.mem_of_mem_take m)) fun m => by rw [List.mem_singleton.mp m]; exact ht
  · exact h _ _ hl hc (hd1.mono (by omega))
def K12 : List Str := ["d", "b", "zz", "m", "ab", "x", "aa", "p", "s", "c", "yy", "da"]
theorem zip_tup : ∀ (ks : List Str) (ts : List T), zipItems (ks.map PyData.str) ts = (ks.zip ts).map tup0
  | [], _ => rfl
  | _ :: _, [] => rfl
  | k :: ks, t :: ts => by
    show PyData.tuple [.str k, t] :: zipItems (ks.map PyData.str) ts = _
    rw [zip_tup ks ts]; rfl
theorem k12_names {ts : List T} (hl : ts.length = 12) : ∀ x ∈ (K12.zip ts).map (·.1), x ∈ KN := fun x m => by
  rw [List.map_fst_zip (by rw [hl]; decide)] at m
  exact (show ∀ x ∈ K12, x ∈ KN by decide +kernel) x m
section
variable {x0 : Option O} {ts : List T}
theorem mm2 (h : R D [x0, some (.lst ts), some (.lst (K12.map PyData.str)), none, none, none, none, none, none, none, none, none, none, none, none, none, none, none]) : sSeq (sSet 2 (tLstD (tConsA (tCst (.str "d")) (tConsA (tCst (.str "b")) (tConsA (tCst (.str "zz")) (tConsA (tCst (.str "m")) (tConsA (tCst (.str "ab")) (tConsA (tCst (.str "x")) (tConsA (tCst (.str "aa")) (tConsA (tCst (.str "p")) (tConsA (tCst (.str "s")) (tConsA (tCst (.str "c")) (tConsA (tCst (.str "yy")) (tConsA (tCst (.str "da")) tNilA)))))))))))))) R D [x0, some (.lst ts), none, none, none, none, none, none, none, none, none, none, none, none, none, none, none, none] := by
  sizeOf_list_dec
  exact ⟨rfl, h⟩
theorem mm3 (hl : ts.length = 12) {x2 : Option O} (h : R D [x0, some (.lst ts), x2, some (.pure (due (K12.zip ts))), none, none, none, none, none, none, none, none, none, none, none, none, none, none]) (e2 : x2 = some (.lst (K12.map PyData.str))) : sSeq (sSet 3 (tCallF [false] sp__law_due (tConsA (tCallB ZL.gListZL (tConsA (tName 2) (tConsA (tName 1) tNilA))) tNilA))) R D [x0, some (.lst ts), x2, none, none, none, none, none, none, none, none, none, none, none, none, none, none, none] := by
  subst e2
  have ez := zip_tup K12 ts
  have kn := k12_names hl
  have kl : (K12.zip ts).length ≤ 1000 := by rw [List.length_zip, hl]; decide
  generalize K12.zip ts = ps at ez kn kl h
  generalize K12.map PyData.str = ks at ez h ⊢
  simp only [sSeq, sNext, sRet, sRetN, sDrop, sIf, sSet, sFor, sPar, sAsg, bAnd, bOr, bNot, tTst, tCst, tBin, tUny, tNilA, tConsA, getAll, tCallB, tCallF, tTupD, tLstD, tChainA, tChainE, tRg, rgK.eq_1, tStripX, strip1K.eq_1, strip2K.eq_1, tAndE, tOrE, tNotE, tIfE, tComp, bYes, tDct0, tRange.eq_1, tgName, tgTup.eq_1, tgCons.eq_1, tgNil.eq_1, takeAll, back.eq_1, back.eq_2, back_nil, setO, tName_k, nameK.eq_1, nameK.eq_2, nameK.eq_3, nameK.eq_4, nameK.eq_5, nameK.eq_6, takeA_v, takeA_s, O.fz.eq_1, O.fz.eq_2, O.fz.eq_3, O.fz.eq_4, O.alias.eq_1, O.alias.eq_2, O.alias.eq_3, O.alias.eq_4, O.alias.eq_5, O.alias.eq_6, atK.eq_1, take1_v, take1_s, takeO_v, takeO_s, takeR_v, takeR_s, prep_n, prep_tv, prep_ts, prep_f, lstK.eq_1, lstAt_k, g2K.eq_1, g2_k, g1K.eq_1, g1_k, gNK.eq_1, gN_k, boK.eq_1, bOf_k, isiK.eq_1, tIsi_k, partK.eq_1, part_n, part_s, join2K.eq_1, join1K.eq_1, tJoin, tTindex, tix1K.eq_1, tix2K.eq_1, tSplit, spl1K.eq_1, spl2K.eq_1, tTxt2, txt1K.eq_1, txt2K.eq_1, gIntT.eq_1, tgUnl.eq_1, tOrS, orSK.eq_1, slcK.eq_1, slcK.eq_2, slcK.eq_3, slcK.eq_4, tSlc_k, revK.eq_1, revK.eq_2, revK.eq_3, tRev_k, strMK.eq_1, tStrM_k, itK.eq_1, tIter_k, enumK.eq_1, tEnum_k, zipK.eq_1, zipK.eq_2, tZip_k, intsK.eq_1, intsK.eq_2, intsOf_k, endK.eq_1, endO_k, extK.eq_1, tExtend_k, tAppend_k, setIxK.eq_1, sSetIx_k, popAtK.eq_1, tPopAt_k, bO.eq_1, itemsOf.eq_1, itemsOf.eq_2, itemsOf.eq_3, gAdd.eq_1, gAdd.eq_2, gAdd.eq_3, gAdd.eq_4, gAdd.eq_5, gAdd.eq_6, gSub_.eq_1, gSub_.eq_2, gMul3_t, gMul3_s, gMul3_i, gMul3_l, gMulT.eq_1, gMul2_s, gMul2_i, gMul2_l, gMulS.eq_1, gMul.eq_1, gMul.eq_2, gFdiv.eq_1, gMod.eq_1, gPow.eq_1, gNeg.eq_1, gNeg.eq_2, gGe.eq_1, gGt.eq_1, gLe.eq_1, gLt.eq_1, gLt.eq_2, gEq.eq_1, gNe.eq_1, gNe.eq_2, gNe.eq_3, gNe.eq_4, gInW.eq_1, gInW.eq_2, gIs.eq_1, gIsNot.eq_1, gLen.eq_1, gLen.eq_2, gAllAny.eq_1, gAbs.eq_1, gInt.eq_1, gInt.eq_2, gStr.eq_1, gStr.eq_2, gStr.eq_3, gM2.eq_1, gListOf.eq_1, gListOf.eq_2, gTupOf.eq_1, gTupOf.eq_2, gSort, gSortS.eq_1, gSortD.eq_1, gSortSet.eq_1, gRepr.eq_1, gM2S.eq_1, gIsB.eq_1, tCompN, tCompD, tCompI, tCompDI, tComp2, tCompL, gIx.eq_1, gIx.eq_2, ati0, ati1, ati2, Option.some.injEq, exists_eq, exists_eq', false_implies, Opd.slot.injEq, forall_eq, forall_eq', Opd.get.eq_1, Opd.get.eq_2, at_join, join_some, O.frz.eq_1, O.frz.eq_2, frz_dct, O.frz.eq_4, lsO.eq_1, lsO.eq_2, tuO.eq_1, seqO_l, seqO_p, seqO_t, endsOf, outsOf, startA, wipeA, List.getElem?_cons_zero, List.getElem?_cons_succ, List.length_cons, List.length_nil, List.map_cons, List.map_nil, List.set_cons_zero, List.set_cons_succ, List.replicate_succ, List.replicate_zero, List.cons_append, List.nil_append, List.getD_cons_zero, List.getD_cons_succ, if_true, if_false, Bool.false_eq_true, reduceIte, reduceCtorEq, Bool.not_true, Bool.not_false, implies_true, true_and, and_true, Nat.sub_self, Nat.reduceAdd, Nat.reduceSub, Nat.zero_add, List.all_cons, List.all_nil, Bool.and_true, Bool.true_and, ZL.gListZL]
  rw [ez]
  refine ⟨ps, rfl, kl, du_names kn, ?_⟩
  sizeOf_list_dec
  exact ⟨rfl, h⟩
end
section
variable {x0 x1 x2 x3 : Option O} {a1 a2 a3 a4 a5 a6 b1 b2 b3 b4 b5 b6 : T}
theorem mm4 (h : R D [x0, some (.lst [a1, a2, a3, a4, a5, a6, b1, b2, b3, b4, b5, b6]), x2, x3, none, some (.pure a1), some (.pure a2), some (.pure a3), some (.pure a4), some (.pure a5), some (.pure a6), none, none, none, none, none, none, none]) :
    sSeq (sAsg (tgUnl 6 (tgCons (tgName 5) (tgCons (tgName 6) (tgCons (tgName 7) (tgCons (tgName 8) (tgCons (tgName 9) (tgCons (tgName 10) tgNil))))))) (tSlc (tName 1) none (some (tCst (.int 6))))) R D [x0, some (.lst [a1, a2, a3, a4, a5, a6, b1, b2, b3, b4, b5, b6]), x2, x3, none, none, none, none, none, none, none, none, none, none, none, none, none, none] := by
  have ec := cut_take (ts := [a1, a2, a3, a4, a5, a6, b1, b2, b3, b4, b5, b6]) (i := 6) (by omega)
  generalize e : [a1, a2, a3, a4, a5, a6, b1, b2, b3, b4, b5, b6] = L at ec h ⊢
  sizeOf_list_dec
  rw [ec]
  subst e
  refine ⟨rfl, ?_⟩
  rw [show List.take (Int.toNat 6) [a1, a2, a3, a4, a5, a6, b1, b2, b3, b4, b5, b6] = [a1, a2, a3, a4, a5, a6] from rfl]
  sizeOf_list_dec
  exact ⟨rfl, rfl, rfl, rfl, rfl, rfl, h⟩
theorem mm5 (h : R D [x0, some (.lst [a1, a2, a3, a4, a5, a6, b1, b2, b3, b4, b5, b6]), x2, x3, none, some (.pure a1), some (.pure a2), some (.pure a3), some (.pure a4), some (.pure a5), some (.pure a6), some (.pure b1), some (.pure b2), some (.pure b3), some (.pure b4), some (.pure b5), some (.pure b6), none]) :
    sSeq (sAsg (tgUnl 6 (tgCons (tgName 11) (tgCons (tgName 12) (tgCons (tgName 13) (tgCons (tgName 14) (tgCons (tgName 15) (tgCons (tgName 16) tgNil))))))) (tSlc (tName 1) (some (tCst (.int 6))) none)) R D [x0, some (.lst [a1, a2, a3, a4, a5, a6, b1, b2, b3, b4, b5, b6]), x2, x3, none, some (.pure a1), some (.pure a2), some (.pure a3), some (.pure a4), some (.pure a5), some (.pure a6), none, none, none, none, none, none, none] := by
  have ec := cut_drop (ts := [a1, a2, a3, a4, a5, a6, b1, b2, b3, b4, b5, b6]) (i := 6) (by omega)
  generalize e : [a1, a2, a3, a4, a5, a6, b1, b2, b3, b4, b5, b6] = L at ec h ⊢
  sizeOf_list_dec
  rw [ec]
  subst e
  refine ⟨rfl, ?_⟩
  rw [show List.drop (Int.toNat 6) [a1, a2, a3, a4, a5, a6, b1, b2, b3, b4, b5, b6] = [b1, b2, b3, b4, b5, b6] from rfl]
  sizeOf_list_dec
  exact ⟨rfl, rfl, rfl, rfl, rfl, rfl, h⟩
theorem mm6 (h : R D [x0, x1, x2, x3, some (.pure (due (K12.zip [a1, a2, a3, a4, a5, a6, b1, b2, b3, b4, b5, b6]))), some (.pure a1), some (.pure a2), some (.pure a3), some (.pure a4), some (.pure a5), some (.pure a6), some (.pure b1), some (.pure b2), some (.pure b3), some (.pure b4), some (.pure b5), some (.pure b6), none]) :
    sSeq (sSet 4 (tLamC sp__law_told (fun Ea => (tCallE [false, false, false, false, false, false, false, false, false, false, false, false] (kwSp ["d", "b", "zz", "m", "ab", "x", "aa", "p", "s", "c", "yy", "da"] sp_priced) Ea (tConsA (tName 5) (tConsA (tName 6) (tConsA (tName 7) (tConsA (tName 8) (tConsA (tName 9) (tConsA (tName 10) (tConsA (tName 11) (tConsA (tName 12) (tConsA (tName 13) (tConsA (tName 14) (tConsA (tName 15) (tConsA (tName 16) tNilA)))))))))))))))) R D [x0, x1, x2, x3, none, some (.pure a1), some (.pure a2), some (.pure a3), some (.pure a4), some (.pure a5), some (.pure a6), some (.pure b1), some (.pure b2), some (.pure b3), some (.pure b4), some (.pure b5), some (.pure b6), none] := by
  simp only [sSeq, sNext, sRet, sRetN, sDrop, sIf, sSet, sFor, sPar, sAsg, bAnd, bOr, bNot, tTst, tCst, tBin, tUny, tNilA, tConsA, getAll, tCallB, tCallF, tTupD, tLstD, tChainA, tChainE, tRg, rgK.eq_1, tStripX, strip1K.eq_1, strip2K.eq_1, tAndE, tOrE, tNotE, tIfE, tComp, bYes, tDct0, tRange.eq_1, tgName, tgTup.eq_1, tgCons.eq_1, tgNil.eq_1, takeAll, back.eq_1, back.eq_2, back_nil, setO, tName_k, nameK.eq_1, nameK.eq_2, nameK.eq_3, nameK.eq_4, nameK.eq_5, nameK.eq_6, takeA_v, takeA_s, O.fz.eq_1, O.fz.eq_2, O.fz.eq_3, O.fz.eq_4, O.alias.eq_1, O.alias.eq_2, O.alias.eq_3, O.alias.eq_4, O.alias.eq_5, O.alias.eq_6, atK.eq_1, take1_v, take1_s, takeO_v, takeO_s, takeR_v, takeR_s, prep_n, prep_tv, prep_ts, prep_f, lstK.eq_1, lstAt_k, g2K.eq_1, g2_k, g1K.eq_1, g1_k, gNK.eq_1, gN_k, boK.eq_1, bOf_k, isiK.eq_1, tIsi_k, partK.eq_1, part_n, part_s, join2K.eq_1, join1K.eq_1, tJoin, tTindex, tix1K.eq_1, tix2K.eq_1, tSplit, spl1K.eq_1, spl2K.eq_1, tTxt2, txt1K.eq_1, txt2K.eq_1, gIntT.eq_1, tgUnl.eq_1, tOrS, orSK.eq_1, slcK.eq_1, slcK.eq_2, slcK.eq_3, slcK.eq_4, tSlc_k, revK.eq_1, revK.eq_2, revK.eq_3, tRev_k, strMK.eq_1, tStrM_k, itK.eq_1, tIter_k, enumK.eq_1, tEnum_k, zipK.eq_1, zipK.eq_2, tZip_k, intsK.eq_1, intsK.eq_2, intsOf_k, endK.eq_1, endO_k, extK.eq_1, tExtend_k, tAppend_k, setIxK.eq_1, sSetIx_k, popAtK.eq_1, tPopAt_k, bO.eq_1, itemsOf.eq_1, itemsOf.eq_2, itemsOf.eq_3, gAdd.eq_1, gAdd.eq_2, gAdd.eq_3, gAdd.eq_4, gAdd.eq_5, gAdd.eq_6, gSub_.eq_1, gSub_.eq_2, gMul3_t, gMul3_s, gMul3_i, gMul3_l, gMulT.eq_1, gMul2_s, gMul2_i, gMul2_l, gMulS.eq_1, gMul.eq_1, gMul.eq_2, gFdiv.eq_1, gMod.eq_1, gPow.eq_1, gNeg.eq_1, gNeg.eq_2, gGe.eq_1, gGt.eq_1, gLe.eq_1, gLt.eq_1, gLt.eq_2, gEq.eq_1, gNe.eq_1, gNe.eq_2, gNe.eq_3, gNe.eq_4, gInW.eq_1, gInW.eq_2, gIs.eq_1, gIsNot.eq_1, gLen.eq_1, gLen.eq_2, gAllAny.eq_1, gAbs.eq_1, gInt.eq_1, gInt.eq_2, gStr.eq_1, gStr.eq_2, gStr.eq_3, gM2.eq_1, gListOf.eq_1, gListOf.eq_2, gTupOf.eq_1, gTupOf.eq_2, gSort, gSortS.eq_1, gSortD.eq_1, gSortSet.eq_1, gRepr.eq_1, gM2S.eq_1, gIsB.eq_1, tCompN, tCompD, tCompI, tCompDI, tComp2, tCompL, gIx.eq_1, gIx.eq_2, ati0, ati1, ati2, Option.some.injEq, exists_eq, exists_eq', false_implies, Opd.slot.injEq, forall_eq, forall_eq', Opd.get.eq_1, Opd.get.eq_2, at_join, join_some, O.frz.eq_1, O.frz.eq_2, frz_dct, O.frz.eq_4, lsO.eq_1, lsO.eq_2, tuO.eq_1, seqO_l, seqO_p, seqO_t, endsOf, outsOf, startA, wipeA, List.getElem?_cons_zero, List.getElem?_cons_succ, List.length_cons, List.length_nil, List.map_cons, List.map_nil, List.set_cons_zero, List.set_cons_succ, List.replicate_succ, List.replicate_zero, List.cons_append, List.nil_append, List.getD_cons_zero, List.getD_cons_succ, if_true, if_false, Bool.false_eq_true, reduceIte, reduceCtorEq, Bool.not_true, Bool.not_false, implies_true, true_and, and_true, Nat.sub_self, Nat.reduceAdd, Nat.reduceSub, Nat.zero_add, List.all_cons, List.all_nil, Bool.and_true, Bool.true_and, tLamC, lamSpec, vws, vwE, pureT, sp__law_told, tCallE, Option.map_some, Option.map_none, Opd.val.injEq]
  intro A B hA hB
  exact told_due (ks := K12) (ts := [a1, a2, a3, a4, a5, a6, b1, b2, b3, b4, b5, b6]) (Q := fun o => Nat.blt 4 18 = true ∧ R D [x0, x1, x2, x3, some o, some (.pure a1), some (.pure a2), some (.pure a3), some (.pure a4), some (.pure a5), some (.pure a6), some (.pure b1), some (.pure b2), some (.pure b3), some (.pure b4), some (.pure b5), some (.pure b6), none]) rfl (by decide +kernel) (by decide) (by decide +kernel) ⟨rfl, h⟩ (fun t z => ⟨_, rfl, hA t z⟩) fun t z => hB t z
theorem mm7 {t : T} {xs : List (Option O)} (hg : Gd 200 6 B0 t) (h : D.rt (.pure (.bool true)) (x0 :: x1 :: x2 :: some (.pure t) :: some (.pure t) :: xs)) : (sRet (fun j => [true].getD j false) (tBin gEq (tCallB gRepr (tConsA (tName 4) tNilA)) (tCallB gRepr (tConsA (tName 3) tNilA)))) D (x0 :: x1 :: x2 :: some (.pure t) :: some (.pure t) :: xs) := by
  obtain ⟨r1, r2, r3⟩ := repr_ok (by omega) (by omega) (by unfold B0; decide) hg
  sizeOf_list_dec
  generalize t.shown = z at r3 ⊢
  refine ⟨r1, r2, r3, r1, r2, r3, by simp [cmpOk], by simp [PyData.depth], ?_⟩
  rw [show PyData.eqv (PyData.str z) (PyData.str z) = true by simp [PyData.eqv]]
  exact h
end
end
def sp__law_many_right : FSpec := fun os Q => ∃ n d, n ≤ 700000 ∧ os = [d] ∧ Dk n d ∧ ∀ d', Dk (n + 28) d' → Q (.pure (.bool true)) [d']
theorem pl__law_many_right (os : List O) (Qa : O → List O → Prop) (_ : os.length = 1) (h : sp__law_many_right os Qa) : t__law_many_right (endsOf [true] Qa) (startA 18 os) := by
  obtain ⟨n, d, hn, rfl, hd, h⟩ := h
  refine mm0 hd (by omega) fun ts0 ds0 hl0 hc0 hd0 => mm1 hd0 (by omega) hl0 hc0 fun ts ds hl hc hd' => mm2 (mm3 hl ?_ rfl)
  match ts, hl, hc with
  | [a1, a2, a3, a4, a5, a6, b1, b2, b3, b4, b5, b6], hl, hc =>
    refine mm4 (mm5 (mm6 (mm7 (du_gd (by simp [K12]) (k12_names rfl) fun t m => hc t ?_) ?_)))
    · rw [List.map_snd_zip (by simp [K12])] at m
      exact m
    · sizeOf_list_dec
      exact h _ hd'
end WK
set_option Elab.async false
set_option linter.all false
set_option maxRecDepth 100000
set_option maxHeartbeats 4000000
/-! prices by keywords: the price of a schedule, the law -/
namespace WK
open PySem PySem.Spec L2 DL WS
open PyProof.Rows hiding St
local macro_rules
  | `(tactic| sizeOf_list_dec) => `(tactic| simp only [sSeq, sNext, sRet, sRetN, sDrop, sIf, sSet, sFor, sPar, sAsg, bAnd, bOr, bNot, tTst, tCst, tBin, tUny, tNilA, tConsA, getAll, tCallB, tCallF, tTupD, tLstD, tChainA, tChainE, tRg, rgK.eq_1, tStripX, strip1K.eq_1, strip2K.eq_1, tAndE, tOrE, tNotE, tIfE, tComp, bYes, tDct0, tRange.eq_1, tgName, tgTup.eq_1, tgCons.eq_1, tgNil.eq_1, takeAll, back.eq_1, back.eq_2, back_nil, setO, tName_k, nameK.eq_1, nameK.eq_2, nameK.eq_3, nameK.eq_4, nameK.eq_5, nameK.eq_6, takeA_v, takeA_s, O.fz.eq_1, O.fz.eq_2, O.fz.eq_3, O.fz.eq_4, O.alias.eq_1, O.alias.eq_2, O.alias.eq_3, O.alias.eq_4, O.alias.eq_5, O.alias.eq_6, atK.eq_1, take1_v, take1_s, takeO_v, takeO_s, takeR_v, takeR_s, prep_n, prep_tv, prep_ts, prep_f, lstK.eq_1, lstAt_k, g2K.eq_1, g2_k, g1K.eq_1, g1_k, gNK.eq_1, gN_k, boK.eq_1, bOf_k, isiK.eq_1, tIsi_k, partK.eq_1, part_n, part_s, join2K.eq_1, join1K.eq_1, tJoin, tTindex, tix1K.eq_1, tix2K.eq_1, tSplit, spl1K.eq_1, spl2K.eq_1, tTxt2, txt1K.eq_1, txt2K.eq_1, gIntT.eq_1, tgUnl.eq_1, tOrS, orSK.eq_1, slcK.eq_1, slcK.eq_2, slcK.eq_3, slcK.eq_4, tSlc_k, revK.eq_1, revK.eq_2, revK.eq_3, tRev_k, strMK.eq_1, tStrM_k, itK.eq_1, tIter_k, enumK.eq_1, tEnum_k, zipK.eq_1, zipK.eq_2, tZip_k, intsK.eq_1, intsK.eq_2, intsOf_k, endK.eq_1, endO_k, extK.eq_1, tExtend_k, tAppend_k, setIxK.eq_1, sSetIx_k, popAtK.eq_1, tPopAt_k, bO.eq_1, itemsOf.eq_1, itemsOf.eq_2, itemsOf.eq_3, gAdd.eq_1, gAdd.eq_2, gAdd.eq_3, gAdd.eq_4, gAdd.eq_5, gAdd.eq_6, gSub_.eq_1, gSub_.eq_2, gMul3_t, gMul3_s, gMul3_i, gMul3_l, gMulT.eq_1, gMul2_s, gMul2_i, gMul2_l, gMulS.eq_1, gMul.eq_1, gMul.eq_2, gFdiv.eq_1, gMod.eq_1, gPow.eq_1, gNeg.eq_1, gNeg.eq_2, gGe.eq_1, gGt.eq_1, gLe.eq_1, gLt.eq_1, gLt.eq_2, gEq.eq_1, gNe.eq_1, gNe.eq_2, gNe.eq_3, gNe.eq_4, gInW.eq_1, gInW.eq_2, gIs.eq_1, gIsNot.eq_1, gLen.eq_1, gLen.eq_2, gAllAny.eq_1, gAbs.eq_1, gInt.eq_1, gInt.eq_2, gStr.eq_1, gStr.eq_2, gStr.eq_3, gM2.eq_1, gListOf.eq_1, gListOf.eq_2, gTupOf.eq_1, gTupOf.eq_2, gSort, gSortS.eq_1, gSortD.eq_1, gSortSet.eq_1, gRepr.eq_1, gM2S.eq_1, gIsB.eq_1, tCompN, tCompD, tCompI, tCompDI, tComp2, tCompL, gIx.eq_1, gIx.eq_2, ati0, ati1, ati2, Option.some.injEq, exists_eq, exists_eq', false_implies, Opd.slot.injEq, forall_eq, forall_eq', Opd.get.eq_1, Opd.get.eq_2, at_join, join_some, O.frz.eq_1, O.frz.eq_2, frz_dct, O.frz.eq_4, lsO.eq_1, lsO.eq_2, tuO.eq_1, seqO_l, seqO_p, seqO_t, endsOf, outsOf, startA, wipeA, List.getElem?_cons_zero, List.getElem?_cons_succ, List.length_cons, List.length_nil, List.map_cons, List.map_nil, List.set_cons_zero, List.set_cons_succ, List.replicate_succ, List.replicate_zero, List.cons_append, List.nil_append, List.getD_cons_zero, List.getD_cons_succ, if_true, if_false, Bool.false_eq_true, reduceIte, reduceCtorEq, Bool.not_true, Bool.not_false, implies_true, true_and, and_true, Nat.sub_self, Nat.reduceAdd, Nat.reduceSub, Nat.zero_add, List.all_cons, List.all_nil, Bool.and_true, Bool.true_and])
local instance : Tbs := ⟨[], fun _ => 0, []⟩
local instance : Bas := ⟨fun _ => none, fun _ => False, []⟩
theorem compW_fmap {α : Type} {g : GT} {tt : BT} {te : XT} {vs : List Nat} {ρ : AEnv} {Q : List T → AEnv → Prop} (i f : α → T) (p : α → Bool) : ∀ (as : List α) (acc : List T),
    (∀ a ∈ as, ∀ Q' : List T → AEnv → Prop, ∀ acc' ts', (p a = true → compW g tt te vs ts' (acc' ++ [f a]) ρ Q') → (p a = false → compW g tt te vs ts' acc' ρ Q') → compW g tt te vs (i a :: ts') acc' ρ Q') → Q (acc ++ (as.filter p).map f) ρ → compW g tt te vs (as.map i) acc ρ Q
  | [], acc, _, q => by simpa [compW] using q
  | a :: as, acc, h, q => by
    refine h a List.mem_cons_self Q acc (as.map i) (fun e => ?_) fun e => ?_
    · exact compW_fmap i f p as _ (fun t m => h t (List.mem_cons_of_mem _ m)) (by simpa [List.filter_cons, e] using q)
    · exact compW_fmap i f p as _ (fun t m => h t (List.mem_cons_of_mem _ m)) (by simpa [List.filter_cons, e] using q)
/-- a price -/
def Pr (t : T) : Prop := ∃ i : Int, t = .int i ∧ 1 ≤ i ∧ i ≤ 1000000
def LOk (l : List (Key × T)) : Prop := ∀ p ∈ l, (∃ x : Str, p.1 = .inr x) ∧ Pr p.2
theorem LOk.put {l : List (Key × T)} (h : LOk l) {x : Str} {t : T} (ht : Pr t) : LOk (kput l (.inr x) t) ∧ (kput l (.inr x) t).length ≤ l.length + 1 := by
  unfold kput
  split
  · refine ⟨fun p m => ?_, by simp⟩
    obtain ⟨q, mq, rfl⟩ := List.mem_map.mp m
    split
    · exact ⟨(h q mq).1, ht⟩
    · exact h q mq
  · refine ⟨fun p m => ?_, by simp⟩
    rcases List.mem_append.mp m with m | m
    · exact h p m
    · rw [List.mem_singleton.mp m]; exact ⟨⟨x, rfl⟩, ht⟩
theorem LOk.alike {l : List (Key × T)} (h : LOk l) : PySem.W.AllAlike (l.map itemT) ∧ PySem.W.Sortable (l.map itemT) ∧ ∀ t ∈ l.map itemT, t.depth ≤ 100 := by
  refine ⟨fun a ha b hb => ?_, .inl fun a ha => ?_, fun a ha => ?_⟩
  · obtain ⟨p, m1, rfl⟩ := List.mem_map.mp ha
    obtain ⟨q, m2, rfl⟩ := List.mem_map.mp hb
    obtain ⟨⟨x, e1⟩, i, e2, _⟩ := h p m1
    obtain ⟨⟨y, e3⟩, j, e4, _⟩ := h q m2
    unfold itemT
    rw [e1, e2, e3, e4]
    simp [keyT, PySem.W.alike, PySem.W.alikeAll]
  · obtain ⟨p, m1, rfl⟩ := List.mem_map.mp ha
    exact ⟨_, _, rfl⟩
  · obtain ⟨p, m1, rfl⟩ := List.mem_map.mp ha
    obtain ⟨⟨x, e1⟩, i, e2, _⟩ := h p m1
    unfold itemT
    rw [e1, e2]
    simp [keyT, PyData.depth, PyData.depthAll]
/-- pairs of names and prices -/
def PsOk (ps : List (Str × T)) : Prop := ∀ p ∈ ps, Pr p.2
theorem ps_of : ∀ {ts : List T}, (∀ t ∈ ts, ∃ (x : Str) (u : T), t = .tuple [.str x, u] ∧ Pr u) → ∃ ps : List (Str × T), ts = ps.map tup0 ∧ PsOk ps
  | [], _ => ⟨[], rfl, fun _ m => nomatch m⟩
  | t :: ts, h => by
    obtain ⟨x, u, rfl, hu⟩ := h t List.mem_cons_self
    obtain ⟨ps, rfl, hp⟩ := ps_of (ts := ts) fun t m => h t (List.mem_cons_of_mem _ m)
    exact ⟨(x, u) :: ps, rfl, fun p m => (List.mem_cons.mp m).elim (fun e => e ▸ hu) (hp p)⟩
theorem LOk.ps {l : List (Key × T)} (h : LOk l) : ∃ ps : List (Str × T), (l.map itemT).mergeSort dLe = ps.map tup0 ∧ PsOk ps := ps_of fun t m => by
  obtain ⟨p, m1, rfl⟩ := List.mem_map.mp ((List.mergeSort_perm _ _).mem_iff.mp m)
  obtain ⟨⟨x, e1⟩, hp⟩ := h p m1
  exact ⟨x, p.2, by unfold itemT; rw [e1]; try rfl, hp⟩
theorem pairs_ps : ∀ ps : List (Str × T), pairsT (ps.map tup0) = some (kvOf ps)
  | [] => rfl
  | p :: ps => by
    have e := pairs_ps ps
    rw [List.map_cons]
    show (match pairT (tup0 p), pairsT (ps.map tup0) with
      | some p, some l => some (p :: l)
      | _, _ => none) = _
    rw [e]
    rfl
def sp__law_costs : FSpec := fun os Q => ∃ n d ns, n ≤ 800000 ∧ os = [d, .pure (.tuple [.tuple ns, .tuple []])] ∧ Dk n d ∧ (∀ t ∈ ns, ∃ x : Str, t = .str x) ∧ ns.length ≤ 20 ∧ ∀ ps d', PsOk ps → ps.length ≤ 22 → Dk (n + 88) d' → Q (.pure (.tuple (ps.map tup0))) [d']
/-- _law_costs: slots 0:_law_deck_here 1:_law_network 2:_law_found 3:_law_name -/
def t__law_costs_b1 : ST := (sIf (tTst (tBin gGt (tCallF [true, false] sp__law_draw (tConsA (tName 0) (tConsA (tCst (.int 3)) tNilA))) (tCst (.int 0)))) (sSetIxD 2 (tCallF [true, false] sp__law_any (tConsA (tName 0) (tConsA (tLstD (tConsA (tCst (.int 1)) (tConsA (tCst (.int 2)) (tConsA (tBin gPow (tCst (.int 10)) (tCst (.int 6))) (tConsA (tBin gAdd (tCst (.int 1)) (tCallF [true, false] sp__law_draw (tConsA (tName 0) (tConsA (tCst (.int 9)) tNilA)))) (tConsA (tBin gAdd (tCst (.int 1)) (tCallF [true, false] sp__law_draw (tConsA (tName 0) (tConsA (tBin gPow (tCst (.int 10)) (tCst (.int 6))) tNilA)))) tNilA)))))) tNilA))) (tName 3)) sNext)
def t__law_costs : ST := (sSeq (sSet 2 tDct0)
  (sSeq (sFor (tIter (tBin gAdd (tBin gIx (tName 1) (tCst (.int 0))) (tTupD (tConsA (tCst (.str "zz")) (tConsA (tCst (.str "other")) tNilA))))) (tgName 3) t__law_costs_b1)
  (sRet (fun j => [true, false].getD j false) (tCallB gTupOf (tConsA (tSortI 2) tNilA)))))
theorem pl__law_costs (os : List O) (Qa : O → List O → Prop) (_ : os.length = 2) (h : sp__law_costs os Qa) : t__law_costs (endsOf [true, false] Qa) (startA 4 os) := by
  obtain ⟨n, d, ns, hn, rfl, hd, hx, hl, h⟩ := h
  obtain ⟨ds, rfl⟩ := hd.frz
  unfold t__law_costs
  sizeOf_list_dec
  have hx2 : ∀ t ∈ ns ++ [PyData.str "zz", PyData.str "other"], ∃ x : Str, t = .str x := fun t m => by
    rcases List.mem_append.mp m with m | m
    · exact hx t m
    · simp only [List.mem_cons, List.not_mem_nil, or_false] at m
      rcases m with rfl | rfl <;> exact ⟨_, rfl⟩
  refine ⟨rfl, by omega, forW_inv (fun i ρ => ∃ ds l x3, Dk (n + 4 * i) (.lst ds) ∧ LOk l ∧ l.length ≤ i ∧ ρ = [some (.lst ds), some (.pure (.tuple [.tuple ns, .tuple []])), some (.dct l), x3]) (ns.length + 2) _ 0 _ (by simp) (fun i t ρ D' mt hi hinv n1 _ _ _ => ?_) ⟨ds, [], none, hd, (fun _ m => nomatch m), Nat.le_refl _, rfl⟩ fun ρ hinv => ?_⟩
  · obtain ⟨ds, l, x3, hd, hl1, hl2, rfl⟩ := hinv
    obtain ⟨x, rfl⟩ := hx2 t mt
    generalize PyData.tuple [.tuple ns, .tuple []] = net at n1 ⊢
    unfold t__law_costs_b1
    sizeOf_list_dec
    refine ⟨rfl, n + 4 * i, _, _, by omega, rfl, hd, by decide, by decide, fun r d1 q0 q1 hd1 => ?_⟩
    obtain ⟨ds1, rfl⟩ := hd1.frz
    sizeOf_list_dec
    split
    · clear hx2 mt
      simp only [sSeq, sNext, sRet, sRetN, sDrop, sIf, sSet, sFor, sPar, sAsg, bAnd, bOr, bNot, tTst, tCst, tBin, tUny, tNilA, tConsA, getAll, tCallB, tCallF, tTupD, tLstD, tChainA, tChainE, tRg, rgK.eq_1, tStripX, strip1K.eq_1, strip2K.eq_1, tAndE, tOrE, tNotE, tIfE, tComp, bYes, tDct0, tRange.eq_1, tgName, tgTup.eq_1, tgCons.eq_1, tgNil.eq_1, takeAll, back.eq_1, back.eq_2, back_nil, setO, tName_k, nameK.eq_1, nameK.eq_2, nameK.eq_3, nameK.eq_4, nameK.eq_5, nameK.eq_6, takeA_v, takeA_s, O.fz.eq_1, O.fz.eq_2, O.fz.eq_3, O.fz.eq_4, O.alias.eq_1, O.alias.eq_2, O.alias.eq_3, O.alias.eq_4, O.alias.eq_5, O.alias.eq_6, atK.eq_1, take1_v, take1_s, takeO_v, takeO_s, takeR_v, takeR_s, prep_n, prep_tv, prep_ts, prep_f, lstK.eq_1, lstAt_k, g2K.eq_1, g2_k, g1K.eq_1, g1_k, gNK.eq_1, gN_k, boK.eq_1, bOf_k, isiK.eq_1, tIsi_k, partK.eq_1, part_n, part_s, join2K.eq_1, join1K.eq_1, tJoin, tTindex, tix1K.eq_1, tix2K.eq_1, tSplit, spl1K.eq_1, spl2K.eq_1, tTxt2, txt1K.eq_1, txt2K.eq_1, gIntT.eq_1, tgUnl.eq_1, tOrS, orSK.eq_1, slcK.eq_1, slcK.eq_2, slcK.eq_3, slcK.eq_4, tSlc_k, revK.eq_1, revK.eq_2, revK.eq_3, tRev_k, strMK.eq_1, tStrM_k, itK.eq_1, tIter_k, enumK.eq_1, tEnum_k, zipK.eq_1, zipK.eq_2, tZip_k, intsK.eq_1, intsK.eq_2, intsOf_k, endK.eq_1, endO_k, extK.eq_1, tExtend_k, tAppend_k, setIxK.eq_1, sSetIx_k, popAtK.eq_1, tPopAt_k, bO.eq_1, itemsOf.eq_1, itemsOf.eq_2, itemsOf.eq_3, gAdd.eq_1, gAdd.eq_2, gAdd.eq_3, gAdd.eq_4, gAdd.eq_5, gAdd.eq_6, gSub_.eq_1, gSub_.eq_2, gMul3_t, gMul3_s, gMul3_i, gMul3_l, gMulT.eq_1, gMul2_s, gMul2_i, gMul2_l, gMulS.eq_1, gMul.eq_1, gMul.eq_2, gFdiv.eq_1, gMod.eq_1, gPow.eq_1, gNeg.eq_1, gNeg.eq_2, gGe.eq_1, gGt.eq_1, gLe.eq_1, gLt.eq_1, gLt.eq_2, gEq.eq_1, gNe.eq_1, gNe.eq_2, gNe.eq_3, gNe.eq_4, gInW.eq_1, gInW.eq_2, gIs.eq_1, gIsNot.eq_1, gLen.eq_1, gLen.eq_2, gAllAny.eq_1, gAbs.eq_1, gInt.eq_1, gInt.eq_2, gStr.eq_1, gStr.eq_2, gStr.eq_3, gM2.eq_1, gListOf.eq_1, gListOf.eq_2, gTupOf.eq_1, gTupOf.eq_2, gSort, gSortS.eq_1, gSortD.eq_1, gSortSet.eq_1, gRepr.eq_1, gM2S.eq_1, gIsB.eq_1, tCompN, tCompD, tCompI, tCompDI, tComp2, tCompL, gIx.eq_1, gIx.eq_2, ati0, ati1, ati2, Option.some.injEq, exists_eq, exists_eq', false_implies, Opd.slot.injEq, forall_eq, forall_eq', Opd.get.eq_1, Opd.get.eq_2, at_join, join_some, O.frz.eq_1, O.frz.eq_2, frz_dct, O.frz.eq_4, lsO.eq_1, lsO.eq_2, tuO.eq_1, seqO_l, seqO_p, seqO_t, endsOf, outsOf, startA, wipeA, List.getElem?_cons_zero, List.getElem?_cons_succ, List.length_cons, List.length_nil, List.map_cons, List.map_nil, List.set_cons_zero, List.set_cons_succ, List.replicate_succ, List.replicate_zero, List.cons_append, List.nil_append, List.getD_cons_zero, List.getD_cons_succ, if_true, if_false, Bool.false_eq_true, reduceIte, reduceCtorEq, Bool.not_true, Bool.not_false, implies_true, true_and, and_true, Nat.sub_self, Nat.reduceAdd, Nat.reduceSub, Nat.zero_add, List.all_cons, List.all_nil, Bool.and_true, Bool.true_and, sSetIxD]
      refine ⟨by decide, by decide, by decide, n + 4 * i + 1, _, _, by omega, rfl, hd1, by decide, by decide, fun r2 d2 q2 q3 hd2 => ?_⟩
      obtain ⟨ds2, rfl⟩ := hd2.frz
      simp only [sSeq, sNext, sRet, sRetN, sDrop, sIf, sSet, sFor, sPar, sAsg, bAnd, bOr, bNot, tTst, tCst, tBin, tUny, tNilA, tConsA, getAll, tCallB, tCallF, tTupD, tLstD, tChainA, tChainE, tRg, rgK.eq_1, tStripX, strip1K.eq_1, strip2K.eq_1, tAndE, tOrE, tNotE, tIfE, tComp, bYes, tDct0, tRange.eq_1, tgName, tgTup.eq_1, tgCons.eq_1, tgNil.eq_1, takeAll, back.eq_1, back.eq_2, back_nil, setO, tName_k, nameK.eq_1, nameK.eq_2, nameK.eq_3, nameK.eq_4, nameK.eq_5, nameK.eq_6, takeA_v, takeA_s, O.fz.eq_1, O.fz.eq_2, O.fz.eq_3, O.fz.eq_4, O.alias.eq_1, O.alias.eq_2, O.alias.eq_3, O.alias.eq_4, O.alias.eq_5, O.alias.eq_6, atK.eq_1, take1_v, take1_s, takeO_v, takeO_s, takeR_v, takeR_s, prep_n, prep_tv, prep_ts, prep_f, lstK.eq_1, lstAt_k, g2K.eq_1, g2_k, g1K.eq_1, g1_k, gNK.eq_1, gN_k, boK.eq_1, bOf_k, isiK.eq_1, tIsi_k, partK.eq_1, part_n, part_s, join2K.eq_1, join1K.eq_1, tJoin, tTindex, tix1K.eq_1, tix2K.eq_1, tSplit, spl1K.eq_1, spl2K.eq_1, tTxt2, txt1K.eq_1, txt2K.eq_1, gIntT.eq_1, tgUnl.eq_1, tOrS, orSK.eq_1, slcK.eq_1, slcK.eq_2, slcK.eq_3, slcK.eq_4, tSlc_k, revK.eq_1, revK.eq_2, revK.eq_3, tRev_k, strMK.eq_1, tStrM_k, itK.eq_1, tIter_k, enumK.eq_1, tEnum_k, zipK.eq_1, zipK.eq_2, tZip_k, intsK.eq_1, intsK.eq_2, intsOf_k, endK.eq_1, endO_k, extK.eq_1, tExtend_k, tAppend_k, setIxK.eq_1, sSetIx_k, popAtK.eq_1, tPopAt_k, bO.eq_1, itemsOf.eq_1, itemsOf.eq_2, itemsOf.eq_3, gAdd.eq_1, gAdd.eq_2, gAdd.eq_3, gAdd.eq_4, gAdd.eq_5, gAdd.eq_6, gSub_.eq_1, gSub_.eq_2, gMul3_t, gMul3_s, gMul3_i, gMul3_l, gMulT.eq_1, gMul2_s, gMul2_i, gMul2_l, gMulS.eq_1, gMul.eq_1, gMul.eq_2, gFdiv.eq_1, gMod.eq_1, gPow.eq_1, gNeg.eq_1, gNeg.eq_2, gGe.eq_1, gGt.eq_1, gLe.eq_1, gLt.eq_1, gLt.eq_2, gEq.eq_1, gNe.eq_1, gNe.eq_2, gNe.eq_3, gNe.eq_4, gInW.eq_1, gInW.eq_2, gIs.eq_1, gIsNot.eq_1, gLen.eq_1, gLen.eq_2, gAllAny.eq_1, gAbs.eq_1, gInt.eq_1, gInt.eq_2, gStr.eq_1, gStr.eq_2, gStr.eq_3, gM2.eq_1, gListOf.eq_1, gListOf.eq_2, gTupOf.eq_1, gTupOf.eq_2, gSort, gSortS.eq_1, gSortD.eq_1, gSortSet.eq_1, gRepr.eq_1, gM2S.eq_1, gIsB.eq_1, tCompN, tCompD, tCompI, tCompDI, tComp2, tCompL, gIx.eq_1, gIx.eq_2, ati0, ati1, ati2, Option.some.injEq, exists_eq, exists_eq', false_implies, Opd.slot.injEq, forall_eq, forall_eq', Opd.get.eq_1, Opd.get.eq_2, at_join, join_some, O.frz.eq_1, O.frz.eq_2, frz_dct, O.frz.eq_4, lsO.eq_1, lsO.eq_2, tuO.eq_1, seqO_l, seqO_p, seqO_t, endsOf, outsOf, startA, wipeA, List.getElem?_cons_zero, List.getElem?_cons_succ, List.length_cons, List.length_nil, List.map_cons, List.map_nil, List.set_cons_zero, List.set_cons_succ, List.replicate_succ, List.replicate_zero, List.cons_append, List.nil_append, List.getD_cons_zero, List.getD_cons_succ, if_true, if_false, Bool.false_eq_true, reduceIte, reduceCtorEq, Bool.not_true, Bool.not_false, implies_true, true_and, and_true, Nat.sub_self, Nat.reduceAdd, Nat.reduceSub, Nat.zero_add, List.all_cons, List.all_nil, Bool.and_true, Bool.true_and, sSetIxD]
      refine ⟨by decide, by decide, by decide, n + 4 * i + 2, _, _, by omega, rfl, hd2, by decide, by decide, fun r3 d3 q4 q5 hd3 => ?_⟩
      obtain ⟨ds3, rfl⟩ := hd3.frz
      simp only [sSeq, sNext, sRet, sRetN, sDrop, sIf, sSet, sFor, sPar, sAsg, bAnd, bOr, bNot, tTst, tCst, tBin, tUny, tNilA, tConsA, getAll, tCallB, tCallF, tTupD, tLstD, tChainA, tChainE, tRg, rgK.eq_1, tStripX, strip1K.eq_1, strip2K.eq_1, tAndE, tOrE, tNotE, tIfE, tComp, bYes, tDct0, tRange.eq_1, tgName, tgTup.eq_1, tgCons.eq_1, tgNil.eq_1, takeAll, back.eq_1, back.eq_2, back_nil, setO, tName_k, nameK.eq_1, nameK.eq_2, nameK.eq_3, nameK.eq_4, nameK.eq_5, nameK.eq_6, takeA_v, takeA_s, O.fz.eq_1, O.fz.eq_2, O.fz.eq_3, O.fz.eq_4, O.alias.eq_1, O.alias.eq_2, O.alias.eq_3, O.alias.eq_4, O.alias.eq_5, O.alias.eq_6, atK.eq_1, take1_v, take1_s, takeO_v, takeO_s, takeR_v, takeR_s, prep_n, prep_tv, prep_ts, prep_f, lstK.eq_1, lstAt_k, g2K.eq_1, g2_k, g1K.eq_1, g1_k, gNK.eq_1, gN_k, boK.eq_1, bOf_k, isiK.eq_1, tIsi_k, partK.eq_1, part_n, part_s, join2K.eq_1, join1K.eq_1, tJoin, tTindex, tix1K.eq_1, tix2K.eq_1, tSplit, spl1K.eq_1, spl2K.eq_1, tTxt2, txt1K.eq_1, txt2K.eq_1, gIntT.eq_1, tgUnl.eq_1, tOrS, orSK.eq_1, slcK.eq_1, slcK.eq_2, slcK.eq_3, slcK.eq_4, tSlc_k, revK.eq_1, revK.eq_2, revK.eq_3, tRev_k, strMK.eq_1, tStrM_k, itK.eq_1, tIter_k, enumK.eq_1, tEnum_k, zipK.eq_1, zipK.eq_2, tZip_k, intsK.eq_1, intsK.eq_2, intsOf_k, endK.eq_1, endO_k, extK.eq_1, tExtend_k, tAppend_k, setIxK.eq_1, sSetIx_k, popAtK.eq_1, tPopAt_k, bO.eq_1, itemsOf.eq_1, itemsOf.eq_2, itemsOf.eq_3, gAdd.eq_1, gAdd.eq_2, gAdd.eq_3, gAdd.eq_4, gAdd.eq_5, gAdd.eq_6, gSub_.eq_1, gSub_.eq_2, gMul3_t, gMul3_s, gMul3_i, gMul3_l, gMulT.eq_1, gMul2_s, gMul2_i, gMul2_l, gMulS.eq_1, gMul.eq_1, gMul.eq_2, gFdiv.eq_1, gMod.eq_1, gPow.eq_1, gNeg.eq_1, gNeg.eq_2, gGe.eq_1, gGt.eq_1, gLe.eq_1, gLt.eq_1, gLt.eq_2, gEq.eq_1, gNe.eq_1, gNe.eq_2, gNe.eq_3, gNe.eq_4, gInW.eq_1, gInW.eq_2, gIs.eq_1, gIsNot.eq_1, gLen.eq_1, gLen.eq_2, gAllAny.eq_1, gAbs.eq_1, gInt.eq_1, gInt.eq_2, gStr.eq_1, gStr.eq_2, gStr.eq_3, gM2.eq_1, gListOf.eq_1, gListOf.eq_2, gTupOf.eq_1, gTupOf.eq_2, gSort, gSortS.eq_1, gSortD.eq_1, gSortSet.eq_1, gRepr.eq_1, gM2S.eq_1, gIsB.eq_1, tCompN, tCompD, tCompI, tCompDI, tComp2, tCompL, gIx.eq_1, gIx.eq_2, ati0, ati1, ati2, Option.some.injEq, exists_eq, exists_eq', false_implies, Opd.slot.injEq, forall_eq, forall_eq', Opd.get.eq_1, Opd.get.eq_2, at_join, join_some, O.frz.eq_1, O.frz.eq_2, frz_dct, O.frz.eq_4, lsO.eq_1, lsO.eq_2, tuO.eq_1, seqO_l, seqO_p, seqO_t, endsOf, outsOf, startA, wipeA, List.getElem?_cons_zero, List.getElem?_cons_succ, List.length_cons, List.length_nil, List.map_cons, List.map_nil, List.set_cons_zero, List.set_cons_succ, List.replicate_succ, List.replicate_zero, List.cons_append, List.nil_append, List.getD_cons_zero, List.getD_cons_succ, if_true, if_false, Bool.false_eq_true, reduceIte, reduceCtorEq, Bool.not_true, Bool.not_false, implies_true, true_and, and_true, Nat.sub_self, Nat.reduceAdd, Nat.reduceSub, Nat.zero_add, List.all_cons, List.all_nil, Bool.and_true, Bool.true_and, sSetIxD]
      refine ⟨n + 4 * i + 3, _, _, by omega, rfl, hd3, by simp, by simp, fun t d4 mt hd4 => ?_⟩
      obtain ⟨ds4, rfl⟩ := hd4.frz
      have e6 : (10 : Int) ^ Int.toNat 6 = 1000000 := by decide
      rw [e6] at mt q5
      have ht : Pr t := by
        simp only [List.mem_cons, List.not_mem_nil, or_false] at mt
        rcases mt with rfl | rfl | rfl | rfl | rfl
        · exact ⟨_, rfl, by decide, by decide⟩
        · exact ⟨_, rfl, by decide, by decide⟩
        · exact ⟨_, rfl, by decide, by decide⟩
        · exact ⟨_, rfl, by omega, by omega⟩
        · exact ⟨_, rfl, by omega, by omega⟩
      obtain ⟨p1, p2⟩ := hl1.put (x := x) ht
      simp only [sSeq, sNext, sRet, sRetN, sDrop, sIf, sSet, sFor, sPar, sAsg, bAnd, bOr, bNot, tTst, tCst, tBin, tUny, tNilA, tConsA, getAll, tCallB, tCallF, tTupD, tLstD, tChainA, tChainE, tRg, rgK.eq_1, tStripX, strip1K.eq_1, strip2K.eq_1, tAndE, tOrE, tNotE, tIfE, tComp, bYes, tDct0, tRange.eq_1, tgName, tgTup.eq_1, tgCons.eq_1, tgNil.eq_1, takeAll, back.eq_1, back.eq_2, back_nil, setO, tName_k, nameK.eq_1, nameK.eq_2, nameK.eq_3, nameK.eq_4, nameK.eq_5, nameK.eq_6, takeA_v, takeA_s, O.fz.eq_1, O.fz.eq_2, O.fz.eq_3, O.fz.eq_4, O.alias.eq_1, O.alias.eq_2, O.alias.eq_3, O.alias.eq_4, O.alias.eq_5, O.alias.eq_6, atK.eq_1, take1_v, take1_s, takeO_v, takeO_s, takeR_v, takeR_s, prep_n, prep_tv, prep_ts, prep_f, lstK.eq_1, lstAt_k, g2K.eq_1, g2_k, g1K.eq_1, g1_k, gNK.eq_1, gN_k, boK.eq_1, bOf_k, isiK.eq_1, tIsi_k, partK.eq_1, part_n, part_s, join2K.eq_1, join1K.eq_1, tJoin, tTindex, tix1K.eq_1, tix2K.eq_1, tSplit, spl1K.eq_1, spl2K.eq_1, tTxt2, txt1K.eq_1, txt2K.eq_1, gIntT.eq_1, tgUnl.eq_1, tOrS, orSK.eq_1, slcK.eq_1, slcK.eq_2, slcK.eq_3, slcK.eq_4, tSlc_k, revK.eq_1, revK.eq_2, revK.eq_3, tRev_k, strMK.eq_1, tStrM_k, itK.eq_1, tIter_k, enumK.eq_1, tEnum_k, zipK.eq_1, zipK.eq_2, tZip_k, intsK.eq_1, intsK.eq_2, intsOf_k, endK.eq_1, endO_k, extK.eq_1, tExtend_k, tAppend_k, setIxK.eq_1, sSetIx_k, popAtK.eq_1, tPopAt_k, bO.eq_1, itemsOf.eq_1, itemsOf.eq_2, itemsOf.eq_3, gAdd.eq_1, gAdd.eq_2, gAdd.eq_3, gAdd.eq_4, gAdd.eq_5, gAdd.eq_6, gSub_.eq_1, gSub_.eq_2, gMul3_t, gMul3_s, gMul3_i, gMul3_l, gMulT.eq_1, gMul2_s, gMul2_i, gMul2_l, gMulS.eq_1, gMul.eq_1, gMul.eq_2, gFdiv.eq_1, gMod.eq_1, gPow.eq_1, gNeg.eq_1, gNeg.eq_2, gGe.eq_1, gGt.eq_1, gLe.eq_1, gLt.eq_1, gLt.eq_2, gEq.eq_1, gNe.eq_1, gNe.eq_2, gNe.eq_3, gNe.eq_4, gInW.eq_1, gInW.eq_2, gIs.eq_1, gIsNot.eq_1, gLen.eq_1, gLen.eq_2, gAllAny.eq_1, gAbs.eq_1, gInt.eq_1, gInt.eq_2, gStr.eq_1, gStr.eq_2, gStr.eq_3, gM2.eq_1, gListOf.eq_1, gListOf.eq_2, gTupOf.eq_1, gTupOf.eq_2, gSort, gSortS.eq_1, gSortD.eq_1, gSortSet.eq_1, gRepr.eq_1, gM2S.eq_1, gIsB.eq_1, tCompN, tCompD, tCompI, tCompDI, tComp2, tCompL, gIx.eq_1, gIx.eq_2, ati0, ati1, ati2, Option.some.injEq, exists_eq, exists_eq', false_implies, Opd.slot.injEq, forall_eq, forall_eq', Opd.get.eq_1, Opd.get.eq_2, at_join, join_some, O.frz.eq_1, O.frz.eq_2, frz_dct, O.frz.eq_4, lsO.eq_1, lsO.eq_2, tuO.eq_1, seqO_l, seqO_p, seqO_t, endsOf, outsOf, startA, wipeA, List.getElem?_cons_zero, List.getElem?_cons_succ, List.length_cons, List.length_nil, List.map_cons, List.map_nil, List.set_cons_zero, List.set_cons_succ, List.replicate_succ, List.replicate_zero, List.cons_append, List.nil_append, List.getD_cons_zero, List.getD_cons_succ, if_true, if_false, Bool.false_eq_true, reduceIte, reduceCtorEq, Bool.not_true, Bool.not_false, implies_true, true_and, and_true, Nat.sub_self, Nat.reduceAdd, Nat.reduceSub, Nat.zero_add, List.all_cons, List.all_nil, Bool.and_true, Bool.true_and, sSetIxD]
      exact ⟨⟨l, rfl⟩, l, _, _, rfl, rfl, rfl, by omega, n1 _ ⟨_, _, _, hd4.mono (by omega), p1, by omega, rfl⟩⟩
    · exact n1 _ ⟨_, l, _, hd1.mono (by omega), hl1, by omega, rfl⟩
  · obtain ⟨ds, l, x3, hd, hl1, hl2, rfl⟩ := hinv
    generalize PyData.tuple [.tuple ns, .tuple []] = net
    obtain ⟨a1, a2, a3⟩ := hl1.alike
    obtain ⟨ps, e, hp⟩ := hl1.ps
    simp only [sSeq, sNext, sRet, sRetN, sDrop, sIf, sSet, sFor, sPar, sAsg, bAnd, bOr, bNot, tTst, tCst, tBin, tUny, tNilA, tConsA, getAll, tCallB, tCallF, tTupD, tLstD, tChainA, tChainE, tRg, rgK.eq_1, tStripX, strip1K.eq_1, strip2K.eq_1, tAndE, tOrE, tNotE, tIfE, tComp, bYes, tDct0, tRange.eq_1, tgName, tgTup.eq_1, tgCons.eq_1, tgNil.eq_1, takeAll, back.eq_1, back.eq_2, back_nil, setO, tName_k, nameK.eq_1, nameK.eq_2, nameK.eq_3, nameK.eq_4, nameK.eq_5, nameK.eq_6, takeA_v, takeA_s, O.fz.eq_1, O.fz.eq_2, O.fz.eq_3, O.fz.eq_4, O.alias.eq_1, O.alias.eq_2, O.alias.eq_3, O.alias.eq_4, O.alias.eq_5, O.alias.eq_6, atK.eq_1, take1_v, take1_s, takeO_v, takeO_s, takeR_v, takeR_s, prep_n, prep_tv, prep_ts, prep_f, lstK.eq_1, lstAt_k, g2K.eq_1, g2_k, g1K.eq_1, g1_k, gNK.eq_1, gN_k, boK.eq_1, bOf_k, isiK.eq_1, tIsi_k, partK.eq_1, part_n, part_s, join2K.eq_1, join1K.eq_1, tJoin, tTindex, tix1K.eq_1, tix2K.eq_1, tSplit, spl1K.eq_1, spl2K.eq_1, tTxt2, txt1K.eq_1, txt2K.eq_1, gIntT.eq_1, tgUnl.eq_1, tOrS, orSK.eq_1, slcK.eq_1, slcK.eq_2, slcK.eq_3, slcK.eq_4, tSlc_k, revK.eq_1, revK.eq_2, revK.eq_3, tRev_k, strMK.eq_1, tStrM_k, itK.eq_1, tIter_k, enumK.eq_1, tEnum_k, zipK.eq_1, zipK.eq_2, tZip_k, intsK.eq_1, intsK.eq_2, intsOf_k, endK.eq_1, endO_k, extK.eq_1, tExtend_k, tAppend_k, setIxK.eq_1, sSetIx_k, popAtK.eq_1, tPopAt_k, bO.eq_1, itemsOf.eq_1, itemsOf.eq_2, itemsOf.eq_3, gAdd.eq_1, gAdd.eq_2, gAdd.eq_3, gAdd.eq_4, gAdd.eq_5, gAdd.eq_6, gSub_.eq_1, gSub_.eq_2, gMul3_t, gMul3_s, gMul3_i, gMul3_l, gMulT.eq_1, gMul2_s, gMul2_i, gMul2_l, gMulS.eq_1, gMul.eq_1, gMul.eq_2, gFdiv.eq_1, gMod.eq_1, gPow.eq_1, gNeg.eq_1, gNeg.eq_2, gGe.eq_1, gGt.eq_1, gLe.eq_1, gLt.eq_1, gLt.eq_2, gEq.eq_1, gNe.eq_1, gNe.eq_2, gNe.eq_3, gNe.eq_4, gInW.eq_1, gInW.eq_2, gIs.eq_1, gIsNot.eq_1, gLen.eq_1, gLen.eq_2, gAllAny.eq_1, gAbs.eq_1, gInt.eq_1, gInt.eq_2, gStr.eq_1, gStr.eq_2, gStr.eq_3, gM2.eq_1, gListOf.eq_1, gListOf.eq_2, gTupOf.eq_1, gTupOf.eq_2, gSort, gSortS.eq_1, gSortD.eq_1, gSortSet.eq_1, gRepr.eq_1, gM2S.eq_1, gIsB.eq_1, tCompN, tCompD, tCompI, tCompDI, tComp2, tCompL, gIx.eq_1, gIx.eq_2, ati0, ati1, ati2, Option.some.injEq, exists_eq, exists_eq', false_implies, Opd.slot.injEq, forall_eq, forall_eq', Opd.get.eq_1, Opd.get.eq_2, at_join, join_some, O.frz.eq_1, O.frz.eq_2, frz_dct, O.frz.eq_4, lsO.eq_1, lsO.eq_2, tuO.eq_1, seqO_l, seqO_p, seqO_t, endsOf, outsOf, startA, wipeA, List.getElem?_cons_zero, List.getElem?_cons_succ, List.length_cons, List.length_nil, List.map_cons, List.map_nil, List.set_cons_zero, List.set_cons_succ, List.replicate_succ, List.replicate_zero, List.cons_append, List.nil_append, List.getD_cons_zero, List.getD_cons_succ, if_true, if_false, Bool.false_eq_true, reduceIte, reduceCtorEq, Bool.not_true, Bool.not_false, implies_true, true_and, and_true, Nat.sub_self, Nat.reduceAdd, Nat.reduceSub, Nat.zero_add, List.all_cons, List.all_nil, Bool.and_true, Bool.true_and, tSortI]
    refine ⟨l, rfl, a1, a2, a3, by omega, ?_⟩
    rw [e]
    have el : ps.length ≤ 22 := by
      have := congrArg List.length e
      rw [List.length_mergeSort, List.length_map, List.length_map] at this
      omega
    exact h ps _ hp el (hd.mono (by omega))
/-- the price of a name -/
def pv (ps : List (Str × T)) (x : Str) : T := (klook (kmerge [] (kvOf ps)) (.inr x)).getD (.int 1)
theorem merge_ok : ∀ {ps : List (Str × T)} {l : List (Key × T)}, PsOk ps → LOk l → LOk (kmerge l (kvOf ps)) ∧ (kmerge l (kvOf ps)).length ≤ l.length + ps.length
  | [], l, _, hl => ⟨hl, Nat.le_refl _⟩
  | p :: ps, l, hp, hl => by
    obtain ⟨h1, h2⟩ := hl.put (x := p.1) (hp p List.mem_cons_self)
    obtain ⟨h3, h4⟩ := merge_ok (ps := ps) (l := kput l (.inr p.1) p.2) (fun q m => hp q (List.mem_cons_of_mem _ m)) h1
    exact ⟨h3, by show (kmerge (kput l (.inr p.1) p.2) (kvOf ps)).length ≤ _; rw [List.length_cons]; omega⟩
theorem pv_pr {ps : List (Str × T)} (h : PsOk ps) (x : Str) : Pr (pv ps x) := by
  unfold pv klook
  cases e : (kmerge [] (kvOf ps)).find? fun p => decide (p.1 = .inr x) with
  | none => exact ⟨1, rfl, by decide, by decide⟩
  | some p => exact ((merge_ok h (l := []) (fun _ m => absurd m List.not_mem_nil)).1 p (List.mem_of_find?_eq_some e)).2
def pi (ps : List (Str × T)) (x : Str) : Int := match pv ps x with
  | .int i => i
  | _ => 0
theorem pv_pi {ps : List (Str × T)} (h : PsOk ps) (x : Str) : pv ps x = .int (pi ps x) ∧ 1 ≤ pi ps x ∧ pi ps x ≤ 1000000 := by
  obtain ⟨i, e, h1, h2⟩ := pv_pr h x
  unfold pi
  rw [e]
  exact ⟨rfl, h1, h2⟩
def sp_price_beside : FSpec := fun os Q => ∃ ps x, os = [.pure (.tuple (ps.map tup0)), .pure (.str x)] ∧ Q (.pure (pv ps x)) []
/-- price_beside: slots 0:prices 1:service -/
def t_price_beside : ST := (sRet (fun j => [false, false].getD j false) (tGetV (tCallB gDictP (tConsA (tName 0) tNilA)) (tName 1) (tCst (.int 1))))
theorem pl_price_beside (os : List O) (Qa : O → List O → Prop) (_ : os.length = 2) (h : sp_price_beside os Qa) : t_price_beside (endsOf [false, false] Qa) (startA 2 os) := by
  obtain ⟨ps, x, rfl, h⟩ := h
  unfold t_price_beside
  have e := pairs_ps ps
  generalize ps.map tup0 = ts at e ⊢
  simp only [sSeq, sNext, sRet, sRetN, sDrop, sIf, sSet, sFor, sPar, sAsg, bAnd, bOr, bNot, tTst, tCst, tBin, tUny, tNilA, tConsA, getAll, tCallB, tCallF, tTupD, tLstD, tChainA, tChainE, tRg, rgK.eq_1, tStripX, strip1K.eq_1, strip2K.eq_1, tAndE, tOrE, tNotE, tIfE, tComp, bYes, tDct0, tRange.eq_1, tgName, tgTup.eq_1, tgCons.eq_1, tgNil.eq_1, takeAll, back.eq_1, back.eq_2, back_nil, setO, tName_k, nameK.eq_1, nameK.eq_2, nameK.eq_3, nameK.eq_4, nameK.eq_5, nameK.eq_6, takeA_v, takeA_s, O.fz.eq_1, O.fz.eq_2, O.fz.eq_3, O.fz.eq_4, O.alias.eq_1, O.alias.eq_2, O.alias.eq_3, O.alias.eq_4, O.alias.eq_5, O.alias.eq_6, atK.eq_1, take1_v, take1_s, takeO_v, takeO_s, takeR_v, takeR_s, prep_n, prep_tv, prep_ts, prep_f, lstK.eq_1, lstAt_k, g2K.eq_1, g2_k, g1K.eq_1, g1_k, gNK.eq_1, gN_k, boK.eq_1, bOf_k, isiK.eq_1, tIsi_k, partK.eq_1, part_n, part_s, join2K.eq_1, join1K.eq_1, tJoin, tTindex, tix1K.eq_1, tix2K.eq_1, tSplit, spl1K.eq_1, spl2K.eq_1, tTxt2, txt1K.eq_1, txt2K.eq_1, gIntT.eq_1, tgUnl.eq_1, tOrS, orSK.eq_1, slcK.eq_1, slcK.eq_2, slcK.eq_3, slcK.eq_4, tSlc_k, revK.eq_1, revK.eq_2, revK.eq_3, tRev_k, strMK.eq_1, tStrM_k, itK.eq_1, tIter_k, enumK.eq_1, tEnum_k, zipK.eq_1, zipK.eq_2, tZip_k, intsK.eq_1, intsK.eq_2, intsOf_k, endK.eq_1, endO_k, extK.eq_1, tExtend_k, tAppend_k, setIxK.eq_1, sSetIx_k, popAtK.eq_1, tPopAt_k, bO.eq_1, itemsOf.eq_1, itemsOf.eq_2, itemsOf.eq_3, gAdd.eq_1, gAdd.eq_2, gAdd.eq_3, gAdd.eq_4, gAdd.eq_5, gAdd.eq_6, gSub_.eq_1, gSub_.eq_2, gMul3_t, gMul3_s, gMul3_i, gMul3_l, gMulT.eq_1, gMul2_s, gMul2_i, gMul2_l, gMulS.eq_1, gMul.eq_1, gMul.eq_2, gFdiv.eq_1, gMod.eq_1, gPow.eq_1, gNeg.eq_1, gNeg.eq_2, gGe.eq_1, gGt.eq_1, gLe.eq_1, gLt.eq_1, gLt.eq_2, gEq.eq_1, gNe.eq_1, gNe.eq_2, gNe.eq_3, gNe.eq_4, gInW.eq_1, gInW.eq_2, gIs.eq_1, gIsNot.eq_1, gLen.eq_1, gLen.eq_2, gAllAny.eq_1, gAbs.eq_1, gInt.eq_1, gInt.eq_2, gStr.eq_1, gStr.eq_2, gStr.eq_3, gM2.eq_1, gListOf.eq_1, gListOf.eq_2, gTupOf.eq_1, gTupOf.eq_2, gSort, gSortS.eq_1, gSortD.eq_1, gSortSet.eq_1, gRepr.eq_1, gM2S.eq_1, gIsB.eq_1, tCompN, tCompD, tCompI, tCompDI, tComp2, tCompL, gIx.eq_1, gIx.eq_2, ati0, ati1, ati2, Option.some.injEq, exists_eq, exists_eq', false_implies, Opd.slot.injEq, forall_eq, forall_eq', Opd.get.eq_1, Opd.get.eq_2, at_join, join_some, O.frz.eq_1, O.frz.eq_2, frz_dct, O.frz.eq_4, lsO.eq_1, lsO.eq_2, tuO.eq_1, seqO_l, seqO_p, seqO_t, endsOf, outsOf, startA, wipeA, List.getElem?_cons_zero, List.getElem?_cons_succ, List.length_cons, List.length_nil, List.map_cons, List.map_nil, List.set_cons_zero, List.set_cons_succ, List.replicate_succ, List.replicate_zero, List.cons_append, List.nil_append, List.getD_cons_zero, List.getD_cons_succ, if_true, if_false, Bool.false_eq_true, reduceIte, reduceCtorEq, Bool.not_true, Bool.not_false, implies_true, true_and, and_true, Nat.sub_self, Nat.reduceAdd, Nat.reduceSub, Nat.zero_add, List.all_cons, List.all_nil, Bool.and_true, Bool.true_and, gDictP, tGetV]
  rw [e]
  exact ⟨_, rfl, _, _, _, rfl, rfl, rfl, h⟩
def scT (p : Str × Str) : T := .tuple [.str p.1, .str p.2]
def sumP (ps : List (Str × T)) (rs : List (Str × Str)) : Int := (rs.map fun r => pi ps r.1).sum
def sp_price_of : FSpec := fun os Q => ∃ ps rs, os = [.pure (.tuple (rs.map scT)), .pure (.tuple (ps.map tup0))] ∧ PsOk ps ∧ Q (.pure (.int (sumP ps rs))) []
/-- price_of: slots 0:schedule 1:prices 2:service 3:release -/
def t_price_of : ST := (sRet (fun j => [false, false].getD j false) (tCallB gSum (tConsA (tComp (tIter (tName 0)) (tgTup 2 (tgCons (tgName 2) (tgCons (tgName 3) tgNil))) bYes (tCallF [false, false] sp_price_beside (tConsA (tName 1) (tConsA (tName 2) tNilA))) [2, 3]) tNilA)))
theorem pl_price_of (os : List O) (Qa : O → List O → Prop) (_ : os.length = 2) (h : sp_price_of os Qa) : t_price_of (endsOf [false, false] Qa) (startA 4 os) := by
  obtain ⟨ps, rs, rfl, hp, h⟩ := h
  unfold t_price_of
  generalize e : PyData.tuple (ps.map tup0) = tp
  simp only [sSeq, sNext, sRet, sRetN, sDrop, sIf, sSet, sFor, sPar, sAsg, bAnd, bOr, bNot, tTst, tCst, tBin, tUny, tNilA, tConsA, getAll, tCallB, tCallF, tTupD, tLstD, tChainA, tChainE, tRg, rgK.eq_1, tStripX, strip1K.eq_1, strip2K.eq_1, tAndE, tOrE, tNotE, tIfE, tComp, bYes, tDct0, tRange.eq_1, tgName, tgTup.eq_1, tgCons.eq_1, tgNil.eq_1, takeAll, back.eq_1, back.eq_2, back_nil, setO, tName_k, nameK.eq_1, nameK.eq_2, nameK.eq_3, nameK.eq_4, nameK.eq_5, nameK.eq_6, takeA_v, takeA_s, O.fz.eq_1, O.fz.eq_2, O.fz.eq_3, O.fz.eq_4, O.alias.eq_1, O.alias.eq_2, O.alias.eq_3, O.alias.eq_4, O.alias.eq_5, O.alias.eq_6, atK.eq_1, take1_v, take1_s, takeO_v, takeO_s, takeR_v, takeR_s, prep_n, prep_tv, prep_ts, prep_f, lstK.eq_1, lstAt_k, g2K.eq_1, g2_k, g1K.eq_1, g1_k, gNK.eq_1, gN_k, boK.eq_1, bOf_k, isiK.eq_1, tIsi_k, partK.eq_1, part_n, part_s, join2K.eq_1, join1K.eq_1, tJoin, tTindex, tix1K.eq_1, tix2K.eq_1, tSplit, spl1K.eq_1, spl2K.eq_1, tTxt2, txt1K.eq_1, txt2K.eq_1, gIntT.eq_1, tgUnl.eq_1, tOrS, orSK.eq_1, slcK.eq_1, slcK.eq_2, slcK.eq_3, slcK.eq_4, tSlc_k, revK.eq_1, revK.eq_2, revK.eq_3, tRev_k, strMK.eq_1, tStrM_k, itK.eq_1, tIter_k, enumK.eq_1, tEnum_k, zipK.eq_1, zipK.eq_2, tZip_k, intsK.eq_1, intsK.eq_2, intsOf_k, endK.eq_1, endO_k, extK.eq_1, tExtend_k, tAppend_k, setIxK.eq_1, sSetIx_k, popAtK.eq_1, tPopAt_k, bO.eq_1, itemsOf.eq_1, itemsOf.eq_2, itemsOf.eq_3, gAdd.eq_1, gAdd.eq_2, gAdd.eq_3, gAdd.eq_4, gAdd.eq_5, gAdd.eq_6, gSub_.eq_1, gSub_.eq_2, gMul3_t, gMul3_s, gMul3_i, gMul3_l, gMulT.eq_1, gMul2_s, gMul2_i, gMul2_l, gMulS.eq_1, gMul.eq_1, gMul.eq_2, gFdiv.eq_1, gMod.eq_1, gPow.eq_1, gNeg.eq_1, gNeg.eq_2, gGe.eq_1, gGt.eq_1, gLe.eq_1, gLt.eq_1, gLt.eq_2, gEq.eq_1, gNe.eq_1, gNe.eq_2, gNe.eq_3, gNe.eq_4, gInW.eq_1, gInW.eq_2, gIs.eq_1, gIsNot.eq_1, gLen.eq_1, gLen.eq_2, gAllAny.eq_1, gAbs.eq_1, gInt.eq_1, gInt.eq_2, gStr.eq_1, gStr.eq_2, gStr.eq_3, gM2.eq_1, gListOf.eq_1, gListOf.eq_2, gTupOf.eq_1, gTupOf.eq_2, gSort, gSortS.eq_1, gSortD.eq_1, gSortSet.eq_1, gRepr.eq_1, gM2S.eq_1, gIsB.eq_1, tCompN, tCompD, tCompI, tCompDI, tComp2, tCompL, gIx.eq_1, gIx.eq_2, ati0, ati1, ati2, Option.some.injEq, exists_eq, exists_eq', false_implies, Opd.slot.injEq, forall_eq, forall_eq', Opd.get.eq_1, Opd.get.eq_2, at_join, join_some, O.frz.eq_1, O.frz.eq_2, frz_dct, O.frz.eq_4, lsO.eq_1, lsO.eq_2, tuO.eq_1, seqO_l, seqO_p, seqO_t, endsOf, outsOf, startA, wipeA, List.getElem?_cons_zero, List.getElem?_cons_succ, List.length_cons, List.length_nil, List.map_cons, List.map_nil, List.set_cons_zero, List.set_cons_succ, List.replicate_succ, List.replicate_zero, List.cons_append, List.nil_append, List.getD_cons_zero, List.getD_cons_succ, if_true, if_false, Bool.false_eq_true, reduceIte, reduceCtorEq, Bool.not_true, Bool.not_false, implies_true, true_and, and_true, Nat.sub_self, Nat.reduceAdd, Nat.reduceSub, Nat.zero_add, List.all_cons, List.all_nil, Bool.and_true, Bool.true_and, gSum]
  refine compW_fmap scT (fun r => pv ps r.1) (fun _ => true) rs [] (fun r mr Q' acc' ts' k1 _ => ?_) ?_
  · have k1 := k1 rfl
    unfold compW scT
    sizeOf_list_dec
    refine ⟨rfl, rfl, ps, r.1, by rw [e], ?_⟩
    sizeOf_list_dec
    exact k1
  · rw [List.nil_append, List.filter_eq_self.mpr (fun _ _ => rfl)]
    refine ⟨rs.map (fun r : Str × Str => pi ps r.1), ?_, h⟩
    rw [List.map_map]
    exact List.map_congr_left fun r _ => (pv_pi hp r.1).1
theorem sc_of : ∀ {ts : List T}, (∀ t ∈ ts, ∃ p : Str × Str, t = scT p) → ∃ rs : List (Str × Str), ts = rs.map scT
  | [], _ => ⟨[], rfl⟩
  | t :: ts, h => by
    obtain ⟨p, rfl⟩ := h t List.mem_cons_self
    obtain ⟨rs, rfl⟩ := sc_of (ts := ts) fun t m => h t (List.mem_cons_of_mem _ m)
    exact ⟨p :: rs, rfl⟩
theorem sum_le {ps : List (Str × T)} (hp : PsOk ps) : ∀ rs : List (Str × Str), 0 ≤ sumP ps rs ∧ sumP ps rs ≤ 1000000 * rs.length
  | [] => ⟨by simp [sumP], by simp [sumP]⟩
  | r :: rs => by
    obtain ⟨h1, h2⟩ := sum_le hp rs
    obtain ⟨_, h3, h4⟩ := pv_pi hp r.1
    unfold sumP at h1 h2 ⊢
    rw [List.map_cons, List.sum_cons, List.length_cons]
    constructor
    · omega
    · push_cast; omega
theorem sum_bd {ps : List (Str × T)} (hp : PsOk ps) {rs : List (Str × Str)} (hl : rs.length ≤ 30) : (sumP ps rs).natAbs ≤ 40000000 := by
  obtain ⟨h1, h2⟩ := sum_le hp rs
  omega
def sp__law_sum_right : FSpec := fun os Q => ∃ n d, n ≤ 600000 ∧ os = [d] ∧ Dk n d ∧ ∀ d', Dk (n + 152) d' → Q (.pure (.bool true)) [d']
/-- _law_sum_right: slots 0:_law_deck_here 1:_law_services 2:_law_costs_here 3:_law_schedule 4:_law_known 5:_law_due_here 6:_law_turn 7:_law_service 8:_law_release -/
def t__law_sum_right : ST := (sSeq (sSet 1 (tCallF [true, false] sp__law_names (tConsA (tName 0) (tConsA (tCst (.int 6)) tNilA))))
  (sSeq (sSet 2 (tCallF [true, false] sp__law_costs (tConsA (tName 0) (tConsA (tTupD (tConsA (tCallB gTupOf (tConsA (tName 1) tNilA)) (tConsA (tTupD tNilA) tNilA))) tNilA))))
  (sSeq (sSet 3 (tCallB gTupOf (tConsA (tComp (tRange (tConsA (tCallF [true, false] sp__law_draw (tConsA (tName 0) (tConsA (tCst (.int 30)) tNilA))) tNilA)) (tgName 6) bYes (tTupD (tConsA (tCallF [true, false] sp__law_any (tConsA (tName 0) (tConsA (tName 1) tNilA))) (tConsA (tCallF [true, false] sp__law_any (tConsA (tName 0) (tConsA (tLstD (tConsA (tCst (.str "ra")) (tConsA (tCst (.str "rb")) tNilA))) tNilA))) tNilA))) [6]) tNilA)))
  (sSeq (sSet 4 (tCallB gDictP (tConsA (tCallB gListOf (tConsA (tName 2) tNilA)) tNilA)))
  (sSeq (sSet 5 (tCallB gSum (tConsA (tComp (tIter (tName 3)) (tgTup 2 (tgCons (tgName 7) (tgCons (tgName 8) tgNil))) bYes (tGetD 4 (tName 7) (tCst (.int 1))) [7, 8]) tNilA)))
  (sRet (fun j => [true].getD j false) (tBin gEq (tCallB gRepr (tConsA (tCallF [false, false] sp_price_of (tConsA (tName 3) (tConsA (tName 2) tNilA))) tNilA)) (tCallB gRepr (tConsA (tName 5) tNilA)))))))))
section
variable {D : AEnds} {R : ST}
theorem ss0 {n : Nat} {d : O} (hd : Dk n d) (hn : n ≤ 600000) (h : ∀ (ns : List T) ds, ns.length = 6 → (∀ t ∈ ns, ∃ x : Str, t = .str x) → Dk (n + 2) (.lst ds) → R D [some (.lst ds), some (.lst ns), none, none, none, none, none, none, none]) :
    sSeq (sSet 1 (tCallF [true, false] sp__law_names (tConsA (tName 0) (tConsA (tCst (.int 6)) tNilA)))) R D [some d, none, none, none, none, none, none, none, none] := by
  obtain ⟨ds, rfl⟩ := hd.frz
  sizeOf_list_dec
  refine ⟨n, _, 6, by omega, rfl, hd, by omega, fun ts d' hl hn2 _ _ hd' => ?_⟩
  obtain ⟨ds', rfl⟩ := hd'.frz
  sizeOf_list_dec
  exact ⟨rfl, h ts ds' hl (fun t m => let ⟨x, e, _⟩ := hn2 t m; ⟨x, e⟩) hd'⟩
theorem ss1 {n : Nat} {ds ns : List T} (hd : Dk n (.lst ds)) (hn : n ≤ 700000) (hl : ns.length = 6) (hx : ∀ t ∈ ns, ∃ x : Str, t = .str x) (h : ∀ ps ds, PsOk ps → ps.length ≤ 22 → Dk (n + 88) (.lst ds) → R D [some (.lst ds), some (.lst ns), some (.pure (.tuple (ps.map tup0))), none, none, none, none, none, none]) :
    sSeq (sSet 2 (tCallF [true, false] sp__law_costs (tConsA (tName 0) (tConsA (tTupD (tConsA (tCallB gTupOf (tConsA (tName 1) tNilA)) (tConsA (tTupD tNilA) tNilA))) tNilA)))) R D [some (.lst ds), some (.lst ns), none, none, none, none, none, none, none] := by
  sizeOf_list_dec
  refine ⟨n, _, ns, by omega, rfl, hd, hx, by omega, fun ps d' hp hl2 hd' => ?_⟩
  obtain ⟨ds', rfl⟩ := hd'.frz
  have h := h ps ds' hp hl2 hd'
  generalize PyData.tuple (ps.map tup0) = tp at h ⊢
  sizeOf_list_dec
  exact ⟨rfl, h⟩
theorem ss2 {n : Nat} {ds ns : List T} (hd : Dk n (.lst ds)) (hn : n ≤ 800000) (hl : ns.length = 6) (hx : ∀ t ∈ ns, ∃ x : Str, t = .str x) {x2 : Option O} (h : ∀ (rs : List (Str × Str)) ds x1, rs.length ≤ 30 → Dk (n + 61) (.lst ds) → R D [some (.lst ds), x1, x2, some (.pure (.tuple (rs.map scT))), none, none, none, none, none]) :
    sSeq (sSet 3 (tCallB gTupOf (tConsA (tComp (tRange (tConsA (tCallF [true, false] sp__law_draw (tConsA (tName 0) (tConsA (tCst (.int 30)) tNilA))) tNilA)) (tgName 6) bYes (tTupD (tConsA (tCallF [true, false] sp__law_any (tConsA (tName 0) (tConsA (tName 1) tNilA))) (tConsA (tCallF [true, false] sp__law_any (tConsA (tName 0) (tConsA (tLstD (tConsA (tCst (.str "ra")) (tConsA (tCst (.str "rb")) tNilA))) tNilA))) tNilA))) [6]) tNilA))) R D [some (.lst ds), some (.lst ns), x2, none, none, none, none, none, none] := by
  sizeOf_list_dec
  refine ⟨n, _, _, by omega, rfl, hd, by decide, by decide, fun r d1 q0 q1 hd1 => ?_⟩
  obtain ⟨ds1, rfl⟩ := hd1.frz
  sizeOf_list_dec
  have e30 : r.toNat ≤ 30 := by omega
  refine ⟨by omega, by omega, compW_inv (fun i acc ρ => (acc.length = i ∧ ∀ t ∈ acc, ∃ p : Str × Str, t = scT p) ∧ ∃ ds o1, Dk (n + 1 + 2 * i) (.lst ds) ∧ (o1 = .lst ns ∨ o1 = .pure (.list ns)) ∧ ρ = [some (.lst ds), some o1, x2, none, none, none, none, none, none]) r.toNat _ 0 _ _ (by simp [rngItems]) (fun i t acc ρ ts' Q' mt hik hinv nx => ?_) ⟨⟨rfl, fun _ m => nomatch m⟩, ds1, _, hd1, .inl rfl, rfl⟩ fun acc ρ hinv => ?_⟩
  · obtain ⟨⟨hl3, hc⟩, ds, o1, hd, ho, rfl⟩ := hinv
    unfold compW
    rcases ho with rfl | rfl
    all_goals
     sizeOf_list_dec
     refine ⟨rfl, n + 1 + 2 * i, _, ns, by omega, rfl, hd, (fun z => by rw [z] at hl; cases hl), by omega, fun t d2 mt hd2 => ?_⟩
     obtain ⟨ds2, rfl⟩ := hd2.frz
     obtain ⟨x, rfl⟩ := hx t mt
     sizeOf_list_dec
     refine ⟨n + 1 + 2 * i + 1, _, _, by omega, rfl, hd2, by simp, by simp, fun u d3 mu hd3 => ?_⟩
     obtain ⟨ds3, rfl⟩ := hd3.frz
     obtain ⟨y, rfl⟩ : ∃ y : Str, u = .str y := by
       simp only [List.mem_cons, List.not_mem_nil, or_false] at mu
       rcases mu with rfl | rfl <;> exact ⟨_, rfl⟩
     sizeOf_list_dec
     exact nx _ _ ⟨⟨by rw [List.length_append, hl3]; rfl, fun u m => (List.mem_append.mp m).elim (hc u) fun m => ⟨(x, y), by rw [List.mem_singleton.mp m]; rfl⟩⟩, ds3, _, hd3.mono (by omega), .inr rfl, rfl⟩
  · obtain ⟨⟨hl3, hc⟩, ds, o1, hd, _, rfl⟩ := hinv
    obtain ⟨rs, rfl⟩ := sc_of hc
    rw [List.length_map] at hl3
    have h := h rs ds (some o1) (by omega) (hd.mono (by omega))
    generalize rs.map scT = tr at h ⊢
    sizeOf_list_dec
    exact ⟨rfl, h⟩
section
variable {x0 x1 : Option O} {ps : List (Str × T)} {rs : List (Str × Str)}
theorem ss3 (h : R D [x0, x1, some (.pure (.tuple (ps.map tup0))), some (.pure (.tuple (rs.map scT))), some (.dct (kmerge [] (kvOf ps))), none, none, none, none]) :
    sSeq (sSet 4 (tCallB gDictP (tConsA (tCallB gListOf (tConsA (tName 2) tNilA)) tNilA))) R D [x0, x1, some (.pure (.tuple (ps.map tup0))), some (.pure (.tuple (rs.map scT))), none, none, none, none, none] := by
  have e := pairs_ps ps
  generalize ps.map tup0 = tp at e h ⊢
  generalize rs.map scT = tr at h ⊢
  simp only [sSeq, sNext, sRet, sRetN, sDrop, sIf, sSet, sFor, sPar, sAsg, bAnd, bOr, bNot, tTst, tCst, tBin, tUny, tNilA, tConsA, getAll, tCallB, tCallF, tTupD, tLstD, tChainA, tChainE, tRg, rgK.eq_1, tStripX, strip1K.eq_1, strip2K.eq_1, tAndE, tOrE, tNotE, tIfE, tComp, bYes, tDct0, tRange.eq_1, tgName, tgTup.eq_1, tgCons.eq_1, tgNil.eq_1, takeAll, back.eq_1, back.eq_2, back_nil, setO, tName_k, nameK.eq_1, nameK.eq_2, nameK.eq_3, nameK.eq_4, nameK.eq_5, nameK.eq_6, takeA_v, takeA_s, O.fz.eq_1, O.fz.eq_2, O.fz.eq_3, O.fz.eq_4, O.alias.eq_1, O.alias.eq_2, O.alias.eq_3, O.alias.eq_4, O.alias.eq_5, O.alias.eq_6, atK.eq_1, take1_v, take1_s, takeO_v, takeO_s, takeR_v, takeR_s, prep_n, prep_tv, prep_ts, prep_f, lstK.eq_1, lstAt_k, g2K.eq_1, g2_k, g1K.eq_1, g1_k, gNK.eq_1, gN_k, boK.eq_1, bOf_k, isiK.eq_1, tIsi_k, partK.eq_1, part_n, part_s, join2K.eq_1, join1K.eq_1, tJoin, tTindex, tix1K.eq_1, tix2K.eq_1, tSplit, spl1K.eq_1, spl2K.eq_1, tTxt2, txt1K.eq_1, txt2K.eq_1, gIntT.eq_1, tgUnl.eq_1, tOrS, orSK.eq_1, slcK.eq_1, slcK.eq_2, slcK.eq_3, slcK.eq_4, tSlc_k, revK.eq_1, revK.eq_2, revK.eq_3, tRev_k, strMK.eq_1, tStrM_k, itK.eq_1, tIter_k, enumK.eq_1, tEnum_k, zipK.eq_1, zipK.eq_2, tZip_k, intsK.eq_1, intsK.eq_2, intsOf_k, endK.eq_1, endO_k, extK.eq_1, tExtend_k, tAppend_k, setIxK.eq_1, sSetIx_k, popAtK.eq_1, tPopAt_k, bO.eq_1, itemsOf.eq_1, itemsOf.eq_2, itemsOf.eq_3, gAdd.eq_1, gAdd.eq_2, gAdd.eq_3, gAdd.eq_4, gAdd.eq_5, gAdd.eq_6, gSub_.eq_1, gSub_.eq_2, gMul3_t, gMul3_s, gMul3_i, gMul3_l, gMulT.eq_1, gMul2_s, gMul2_i, gMul2_l, gMulS.eq_1, gMul.eq_1, gMul.eq_2, gFdiv.eq_1, gMod.eq_1, gPow.eq_1, gNeg.eq_1, gNeg.eq_2, gGe.eq_1, gGt.eq_1, gLe.eq_1, gLt.eq_1, gLt.eq_2, gEq.eq_1, gNe.eq_1, gNe.eq_2, gNe.eq_3, gNe.eq_4, gInW.eq_1, gInW.eq_2, gIs.eq_1, gIsNot.eq_1, gLen.eq_1, gLen.eq_2, gAllAny.eq_1, gAbs.eq_1, gInt.eq_1, gInt.eq_2, gStr.eq_1, gStr.eq_2, gStr.eq_3, gM2.eq_1, gListOf.eq_1, gListOf.eq_2, gTupOf.eq_1, gTupOf.eq_2, gSort, gSortS.eq_1, gSortD.eq_1, gSortSet.eq_1, gRepr.eq_1, gM2S.eq_1, gIsB.eq_1, tCompN, tCompD, tCompI, tCompDI, tComp2, tCompL, gIx.eq_1, gIx.eq_2, ati0, ati1, ati2, Option.some.injEq, exists_eq, exists_eq', false_implies, Opd.slot.injEq, forall_eq, forall_eq', Opd.get.eq_1, Opd.get.eq_2, at_join, join_some, O.frz.eq_1, O.frz.eq_2, frz_dct, O.frz.eq_4, lsO.eq_1, lsO.eq_2, tuO.eq_1, seqO_l, seqO_p, seqO_t, endsOf, outsOf, startA, wipeA, List.getElem?_cons_zero, List.getElem?_cons_succ, List.length_cons, List.length_nil, List.map_cons, List.map_nil, List.set_cons_zero, List.set_cons_succ, List.replicate_succ, List.replicate_zero, List.cons_append, List.nil_append, List.getD_cons_zero, List.getD_cons_succ, if_true, if_false, Bool.false_eq_true, reduceIte, reduceCtorEq, Bool.not_true, Bool.not_false, implies_true, true_and, and_true, Nat.sub_self, Nat.reduceAdd, Nat.reduceSub, Nat.zero_add, List.all_cons, List.all_nil, Bool.and_true, Bool.true_and, gDictP]
  rw [e]
  exact ⟨rfl, h⟩
theorem ss4 (hp : PsOk ps) {x2 : Option O} (h : R D [x0, x1, x2, some (.pure (.tuple (rs.map scT))), some (.dct (kmerge [] (kvOf ps))), some (.pure (.int (sumP ps rs))), none, none, none]) :
    sSeq (sSet 5 (tCallB gSum (tConsA (tComp (tIter (tName 3)) (tgTup 2 (tgCons (tgName 7) (tgCons (tgName 8) tgNil))) bYes (tGetD 4 (tName 7) (tCst (.int 1))) [7, 8]) tNilA))) R D [x0, x1, x2, some (.pure (.tuple (rs.map scT))), some (.dct (kmerge [] (kvOf ps))), none, none, none, none] := by
  generalize ek : kmerge [] (kvOf ps) = kv at h ⊢
  simp only [sSeq, sNext, sRet, sRetN, sDrop, sIf, sSet, sFor, sPar, sAsg, bAnd, bOr, bNot, tTst, tCst, tBin, tUny, tNilA, tConsA, getAll, tCallB, tCallF, tTupD, tLstD, tChainA, tChainE, tRg, rgK.eq_1, tStripX, strip1K.eq_1, strip2K.eq_1, tAndE, tOrE, tNotE, tIfE, tComp, bYes, tDct0, tRange.eq_1, tgName, tgTup.eq_1, tgCons.eq_1, tgNil.eq_1, takeAll, back.eq_1, back.eq_2, back_nil, setO, tName_k, nameK.eq_1, nameK.eq_2, nameK.eq_3, nameK.eq_4, nameK.eq_5, nameK.eq_6, takeA_v, takeA_s, O.fz.eq_1, O.fz.eq_2, O.fz.eq_3, O.fz.eq_4, O.alias.eq_1, O.alias.eq_2, O.alias.eq_3, O.alias.eq_4, O.alias.eq_5, O.alias.eq_6, atK.eq_1, take1_v, take1_s, takeO_v, takeO_s, takeR_v, takeR_s, prep_n, prep_tv, prep_ts, prep_f, lstK.eq_1, lstAt_k, g2K.eq_1, g2_k, g1K.eq_1, g1_k, gNK.eq_1, gN_k, boK.eq_1, bOf_k, isiK.eq_1, tIsi_k, partK.eq_1, part_n, part_s, join2K.eq_1, join1K.eq_1, tJoin, tTindex, tix1K.eq_1, tix2K.eq_1, tSplit, spl1K.eq_1, spl2K.eq_1, tTxt2, txt1K.eq_1, txt2K.eq_1, gIntT.eq_1, tgUnl.eq_1, tOrS, orSK.eq_1, slcK.eq_1, slcK.eq_2, slcK.eq_3, slcK.eq_4, tSlc_k, revK.eq_1, revK.eq_2, revK.eq_3, tRev_k, strMK.eq_1, tStrM_k, itK.eq_1, tIter_k, enumK.eq_1, tEnum_k, zipK.eq_1, zipK.eq_2, tZip_k, intsK.eq_1, intsK.eq_2, intsOf_k, endK.eq_1, endO_k, extK.eq_1, tExtend_k, tAppend_k, setIxK.eq_1, sSetIx_k, popAtK.eq_1, tPopAt_k, bO.eq_1, itemsOf.eq_1, itemsOf.eq_2, itemsOf.eq_3, gAdd.eq_1, gAdd.eq_2, gAdd.eq_3, gAdd.eq_4, gAdd.eq_5, gAdd.eq_6, gSub_.eq_1, gSub_.eq_2, gMul3_t, gMul3_s, gMul3_i, gMul3_l, gMulT.eq_1, gMul2_s, gMul2_i, gMul2_l, gMulS.eq_1, gMul.eq_1, gMul.eq_2, gFdiv.eq_1, gMod.eq_1, gPow.eq_1, gNeg.eq_1, gNeg.eq_2, gGe.eq_1, gGt.eq_1, gLe.eq_1, gLt.eq_1, gLt.eq_2, gEq.eq_1, gNe.eq_1, gNe.eq_2, gNe.eq_3, gNe.eq_4, gInW.eq_1, gInW.eq_2, gIs.eq_1, gIsNot.eq_1, gLen.eq_1, gLen.eq_2, gAllAny.eq_1, gAbs.eq_1, gInt.eq_1, gInt.eq_2, gStr.eq_1, gStr.eq_2, gStr.eq_3, gM2.eq_1, gListOf.eq_1, gListOf.eq_2, gTupOf.eq_1, gTupOf.eq_2, gSort, gSortS.eq_1, gSortD.eq_1, gSortSet.eq_1, gRepr.eq_1, gM2S.eq_1, gIsB.eq_1, tCompN, tCompD, tCompI, tCompDI, tComp2, tCompL, gIx.eq_1, gIx.eq_2, ati0, ati1, ati2, Option.some.injEq, exists_eq, exists_eq', false_implies, Opd.slot.injEq, forall_eq, forall_eq', Opd.get.eq_1, Opd.get.eq_2, at_join, join_some, O.frz.eq_1, O.frz.eq_2, frz_dct, O.frz.eq_4, lsO.eq_1, lsO.eq_2, tuO.eq_1, seqO_l, seqO_p, seqO_t, endsOf, outsOf, startA, wipeA, List.getElem?_cons_zero, List.getElem?_cons_succ, List.length_cons, List.length_nil, List.map_cons, List.map_nil, List.set_cons_zero, List.set_cons_succ, List.replicate_succ, List.replicate_zero, List.cons_append, List.nil_append, List.getD_cons_zero, List.getD_cons_succ, if_true, if_false, Bool.false_eq_true, reduceIte, reduceCtorEq, Bool.not_true, Bool.not_false, implies_true, true_and, and_true, Nat.sub_self, Nat.reduceAdd, Nat.reduceSub, Nat.zero_add, List.all_cons, List.all_nil, Bool.and_true, Bool.true_and, gSum]
  generalize e : some (O.pure (PyData.tuple (rs.map scT))) = x3 at h ⊢
  refine compW_fmap scT (fun r => pv ps r.1) (fun _ => true) rs [] (fun r mr Q' acc' ts' k1 _ => ?_) ?_
  · have k1 := k1 rfl
    unfold compW scT
    unfold pv at k1
    rw [ek] at k1
    simp only [sSeq, sNext, sRet, sRetN, sDrop, sIf, sSet, sFor, sPar, sAsg, bAnd, bOr, bNot, tTst, tCst, tBin, tUny, tNilA, tConsA, getAll, tCallB, tCallF, tTupD, tLstD, tChainA, tChainE, tRg, rgK.eq_1, tStripX, strip1K.eq_1, strip2K.eq_1, tAndE, tOrE, tNotE, tIfE, tComp, bYes, tDct0, tRange.eq_1, tgName, tgTup.eq_1, tgCons.eq_1, tgNil.eq_1, takeAll, back.eq_1, back.eq_2, back_nil, setO, tName_k, nameK.eq_1, nameK.eq_2, nameK.eq_3, nameK.eq_4, nameK.eq_5, nameK.eq_6, takeA_v, takeA_s, O.fz.eq_1, O.fz.eq_2, O.fz.eq_3, O.fz.eq_4, O.alias.eq_1, O.alias.eq_2, O.alias.eq_3, O.alias.eq_4, O.alias.eq_5, O.alias.eq_6, atK.eq_1, take1_v, take1_s, takeO_v, takeO_s, takeR_v, takeR_s, prep_n, prep_tv, prep_ts, prep_f, lstK.eq_1, lstAt_k, g2K.eq_1, g2_k, g1K.eq_1, g1_k, gNK.eq_1, gN_k, boK.eq_1, bOf_k, isiK.eq_1, tIsi_k, partK.eq_1, part_n, part_s, join2K.eq_1, join1K.eq_1, tJoin, tTindex, tix1K.eq_1, tix2K.eq_1, tSplit, spl1K.eq_1, spl2K.eq_1, tTxt2, txt1K.eq_1, txt2K.eq_1, gIntT.eq_1, tgUnl.eq_1, tOrS, orSK.eq_1, slcK.eq_1, slcK.eq_2, slcK.eq_3, slcK.eq_4, tSlc_k, revK.eq_1, revK.eq_2, revK.eq_3, tRev_k, strMK.eq_1, tStrM_k, itK.eq_1, tIter_k, enumK.eq_1, tEnum_k, zipK.eq_1, zipK.eq_2, tZip_k, intsK.eq_1, intsK.eq_2, intsOf_k, endK.eq_1, endO_k, extK.eq_1, tExtend_k, tAppend_k, setIxK.eq_1, sSetIx_k, popAtK.eq_1, tPopAt_k, bO.eq_1, itemsOf.eq_1, itemsOf.eq_2, itemsOf.eq_3, gAdd.eq_1, gAdd.eq_2, gAdd.eq_3, gAdd.eq_4, gAdd.eq_5, gAdd.eq_6, gSub_.eq_1, gSub_.eq_2, gMul3_t, gMul3_s, gMul3_i, gMul3_l, gMulT.eq_1, gMul2_s, gMul2_i, gMul2_l, gMulS.eq_1, gMul.eq_1, gMul.eq_2, gFdiv.eq_1, gMod.eq_1, gPow.eq_1, gNeg.eq_1, gNeg.eq_2, gGe.eq_1, gGt.eq_1, gLe.eq_1, gLt.eq_1, gLt.eq_2, gEq.eq_1, gNe.eq_1, gNe.eq_2, gNe.eq_3, gNe.eq_4, gInW.eq_1, gInW.eq_2, gIs.eq_1, gIsNot.eq_1, gLen.eq_1, gLen.eq_2, gAllAny.eq_1, gAbs.eq_1, gInt.eq_1, gInt.eq_2, gStr.eq_1, gStr.eq_2, gStr.eq_3, gM2.eq_1, gListOf.eq_1, gListOf.eq_2, gTupOf.eq_1, gTupOf.eq_2, gSort, gSortS.eq_1, gSortD.eq_1, gSortSet.eq_1, gRepr.eq_1, gM2S.eq_1, gIsB.eq_1, tCompN, tCompD, tCompI, tCompDI, tComp2, tCompL, gIx.eq_1, gIx.eq_2, ati0, ati1, ati2, Option.some.injEq, exists_eq, exists_eq', false_implies, Opd.slot.injEq, forall_eq, forall_eq', Opd.get.eq_1, Opd.get.eq_2, at_join, join_some, O.frz.eq_1, O.frz.eq_2, frz_dct, O.frz.eq_4, lsO.eq_1, lsO.eq_2, tuO.eq_1, seqO_l, seqO_p, seqO_t, endsOf, outsOf, startA, wipeA, List.getElem?_cons_zero, List.getElem?_cons_succ, List.length_cons, List.length_nil, List.map_cons, List.map_nil, List.set_cons_zero, List.set_cons_succ, List.replicate_succ, List.replicate_zero, List.cons_append, List.nil_append, List.getD_cons_zero, List.getD_cons_succ, if_true, if_false, Bool.false_eq_true, reduceIte, reduceCtorEq, Bool.not_true, Bool.not_false, implies_true, true_and, and_true, Nat.sub_self, Nat.reduceAdd, Nat.reduceSub, Nat.zero_add, List.all_cons, List.all_nil, Bool.and_true, Bool.true_and, tGetD]
    exact ⟨rfl, rfl, ⟨_, rfl⟩, _, _, _, _, rfl, rfl, rfl, rfl, k1⟩
  · rw [List.nil_append, List.filter_eq_self.mpr (fun _ _ => rfl)]
    refine ⟨rs.map (fun r : Str × Str => pi ps r.1), ?_, rfl, h⟩
    rw [List.map_map]
    exact List.map_congr_left fun r _ => (pv_pi hp r.1).1
theorem ss5 (hp : PsOk ps) (hl : rs.length ≤ 30) {x4 x6 x7 x8 : Option O} (h : ∀ ρ, D.rt (.pure (.bool true)) (x0 :: ρ)) : (sRet (fun j => [true].getD j false) (tBin gEq (tCallB gRepr (tConsA (tCallF [false, false] sp_price_of (tConsA (tName 3) (tConsA (tName 2) tNilA))) tNilA)) (tCallB gRepr (tConsA (tName 5) tNilA)))) D [x0, x1, some (.pure (.tuple (ps.map tup0))), some (.pure (.tuple (rs.map scT))), x4, some (.pure (.int (sumP ps rs))), x6, x7, x8] := by
  have g : Gd 1 0 40000000 (.int (sumP ps rs)) := Gd.int (sum_bd hp hl)
  obtain ⟨r1, r2, r3⟩ := repr_ok (by omega) (by omega) (by decide) g
  generalize e1 : PyData.tuple (ps.map tup0) = tp
  generalize e2 : PyData.tuple (rs.map scT) = tr
  sizeOf_list_dec
  refine ⟨ps, rs, by rw [e1, e2], hp, ?_⟩
  generalize PyData.int (sumP ps rs) = t at r1 r2 r3 ⊢
  sizeOf_list_dec
  generalize t.shown = z at r3 ⊢
  refine ⟨r1, r2, r3, r1, r2, r3, by simp [cmpOk], by simp [PyData.depth], ?_⟩
  rw [show PyData.eqv (PyData.str z) (PyData.str z) = true by simp [PyData.eqv]]
  exact h _
end
end
theorem pl__law_sum_right (os : List O) (Qa : O → List O → Prop) (_ : os.length = 1) (h : sp__law_sum_right os Qa) : t__law_sum_right (endsOf [true] Qa) (startA 9 os) := by
  obtain ⟨n, d, hn, rfl, hd, h⟩ := h
  refine ss0 hd hn fun ns ds hl hx hd0 => ss1 hd0 (by omega) hl hx fun ps ds hp hl2 hd1 => ss2 hd1 (by omega) hl hx fun rs ds x1 hl3 hd2 => ss3 (ss4 hp (ss5 hp hl3 fun ρ => ?_))
  sizeOf_list_dec
  exact h _ (hd2.mono (by omega))
def sp_law : FSpec := fun os Q => ∃ ts, os = [.pure (.list ts)] ∧ (∀ t ∈ ts, ∃ i : Int, t = .int i) ∧ Q (.pure (.bool true)) []
/-- law: slots 0:_law_script 1:_law_k 2:_law_deck_here 3:_law_turn -/
def t_law_b1 : ST := (sIf (bOr (bNot (tTst (tCallF [true] sp__law_right (tConsA (tName 2) tNilA)))) (bOr (bNot (tTst (tCallF [true] sp__law_sum_right (tConsA (tName 2) tNilA)))) (bNot (tTst (tCallF [true] sp__law_many_right (tConsA (tName 2) tNilA)))))) (sRet (fun j => [false].getD j false) (tCst (.bool false))) sNext)
def t_law_b2 : ST := (sSeq (sSet 2 (tCallF [false, false] sp__law_deck (tConsA (tName 0) (tConsA (tName 1) tNilA))))
  (sFor (tRange (tConsA (tCst (.int 8)) tNilA)) (tgName 3) t_law_b1))
def t_law : ST := (sSeq (sFor (tRange (tConsA (tCallB (gM2 fun i j => if j > i then j else i) (tConsA (tCst (.int 1)) (tConsA (tCallB (gM2 fun i j => if j < i then j else i) (tConsA (tCst (.int 3)) (tConsA (tCallB gLen (tConsA (tName 0) tNilA)) tNilA))) tNilA))) tNilA)) (tgName 1) t_law_b2)
  (sRet (fun j => [false].getD j false) (tBin gEq (tCallF [false, false] sp_price_of (tConsA (tBin gMul3 (tTupD (tConsA (tTupD (tConsA (tCst (.str "a")) (tConsA (tCst (.str "ra")) tNilA))) tNilA)) (tCst (.int 400))) (tConsA (tTupD (tConsA (tTupD (tConsA (tCst (.str "a")) (tConsA (tBin gPow (tCst (.int 10)) (tCst (.int 6))) tNilA))) tNilA)) tNilA))) (tBin gMul3 (tCst (.int 400)) (tBin gPow (tCst (.int 10)) (tCst (.int 6)))))))
theorem rep_sc : repL 400 [PyData.tuple [.str "a", .str "ra"]] = (List.replicate 400 (("a", "ra") : Str × Str)).map scT := by
  unfold repL
  rw [List.map_replicate]
  have : ∀ (n : Nat) (x : T), (List.replicate n [x]).flatten = List.replicate n x := fun n x => by
    induction n with
    | zero => rfl
    | succ n ih => rw [List.replicate_succ, List.flatten_cons, ih]; rfl
  rw [this]
  rfl
theorem sum_rep {ps : List (Str × T)} {r : Str × Str} {n : Nat} : sumP ps (List.replicate n r) = (n : Int) * pi ps r.1 := by
  unfold sumP
  induction n with
  | zero => simp
  | succ n ih =>
    rw [List.replicate_succ, List.map_cons, List.sum_cons, ih]
    push_cast
    rw [Int.add_mul, Int.one_mul, Int.add_comm]
theorem lw1 {ts : List T} {j : Int} {x3 : Option O} {n : Nat} {ds : List T} (hn : n ≤ 500000) (hd : Dk n (.lst ds)) {D : AEnds} (nx : ∀ ds x3, Dk (n + 200) (.lst ds) → D.nx [some (.pure (.list ts)), some (.pure (.int j)), some (.lst ds), x3]) :
    t_law_b1 D [some (.pure (.list ts)), some (.pure (.int j)), some (.lst ds), x3] := by
  unfold t_law_b1
  sizeOf_list_dec
  refine ⟨n, _, by omega, rfl, hd, fun d1 hd1 => ?_⟩
  obtain ⟨ds1, rfl⟩ := hd1.frz
  sizeOf_list_dec
  refine ⟨n + 12, _, by omega, rfl, hd1, fun d2 hd2 => ?_⟩
  obtain ⟨ds2, rfl⟩ := hd2.frz
  sizeOf_list_dec
  refine ⟨n + 12 + 152, _, by omega, rfl, hd2, fun d3 hd3 => ?_⟩
  obtain ⟨ds3, rfl⟩ := hd3.frz
  sizeOf_list_dec
  exact nx _ _ (hd3.mono (by omega))
theorem lw2 {ts : List T} (hi : ∀ t ∈ ts, ∃ i : Int, t = .int i) {j : Int} (j0 : 0 ≤ j) (j1 : j ≤ 3) {x2 x3 : Option O} {D : AEnds} (nx : ∀ x2 x3, D.nx [some (.pure (.list ts)), some (.pure (.int j)), x2, x3]) :
    t_law_b2 D [some (.pure (.list ts)), some (.pure (.int j)), x2, x3] := by
  unfold t_law_b2
  sizeOf_list_dec
  refine ⟨ts, j, rfl, hi, by omega, by omega, fun d hd => ?_⟩
  obtain ⟨ds, rfl⟩ := hd.frz
  refine ⟨rfl, by omega, by omega, forW_inv (fun i ρ => ∃ ds x3, Dk (200 * i) (.lst ds) ∧ ρ = [some (.pure (.list ts)), some (.pure (.int j)), some (.lst ds), x3]) 8 _ 0 _ (by simp [rngItems]) (fun i t ρ D' mt hik hinv n1 _ _ _ => ?_) ⟨ds, _, hd, rfl⟩ fun ρ hinv => ?_⟩
  · obtain ⟨ds, x3, hd, rfl⟩ := hinv
    sizeOf_list_dec
    refine ⟨rfl, ?_⟩
    exact lw1 (by omega) hd fun ds x3 hd => n1 _ ⟨ds, x3, hd.mono (by omega), rfl⟩
  · obtain ⟨ds, x3, hd, rfl⟩ := hinv
    exact nx _ _
theorem pl_law (os : List O) (Qa : O → List O → Prop) (_ : os.length = 1) (h : sp_law os Qa) : t_law (endsOf [false] Qa) (startA 4 os) := by
  obtain ⟨ts, rfl, hi, h⟩ := h
  unfold t_law
  sizeOf_list_dec
  obtain ⟨m, e, h1, h2⟩ : ∃ m : Int, (if (if (ts.length : Int) < 3 then (ts.length : Int) else 3) > 1 then (if (ts.length : Int) < 3 then (ts.length : Int) else 3) else 1) = m ∧ 1 ≤ m ∧ m ≤ 3 := ⟨_, rfl, by split <;> split <;> omega, by split <;> split <;> omega⟩
  rw [e]
  refine ⟨by omega, by omega, forW_inv (fun i ρ => ∃ x1 x2 x3, ρ = [some (.pure (.list ts)), x1, x2, x3]) m.toNat _ 0 _ (by simp [rngItems]) (fun i t ρ D' mt hik hinv n1 _ _ _ => ?_) ⟨none, none, none, rfl⟩ fun ρ hinv => ?_⟩
  · obtain ⟨x1, x2, x3, rfl⟩ := hinv
    obtain ⟨j, hj, rfl⟩ := rng_mem mt
    refine ⟨rfl, ?_⟩
    exact lw2 hi (by omega) (by omega) fun x2 x3 => n1 _ ⟨_, x2, x3, rfl⟩
  · obtain ⟨x1, x2, x3, rfl⟩ := hinv
    sizeOf_list_dec
    have e6 : (10 : Int) ^ Int.toNat 6 = 1000000 := by decide
    rw [e6]
    refine ⟨by decide, by decide, by decide, by decide, by decide, by decide, by decide, [("a", .int 1000000)], List.replicate 400 ("a", "ra"), by rw [rep_sc]; rfl, fun p m => ?_, ?_⟩
    · rw [List.mem_singleton.mp m]
      exact ⟨_, rfl, by decide, by decide⟩
    · rw [sum_rep]
      generalize es : (400 : Int) * pi [("a", PyData.int 1000000)] "a" = sm
      have e4 : sm = 400 * 1000000 := by rw [← es]; decide +kernel
      sizeOf_list_dec
      refine ⟨by decide, by decide, by decide, by decide, by simp [cmpOk], by simp [PyData.depth], ?_⟩
      rw [e4, show PyData.eqv (PyData.int (400 * 1000000)) (PyData.int (400 * 1000000)) = true by simp [PyData.eqv]]
      exact h
end WK
set_option Elab.async false
set_option linter.all false
set_option maxRecDepth 100000
set_option maxHeartbeats 4000000
namespace WK
open PySem PySem.Spec L2 DL WS
open PyProof.Rows hiding St
variable [Tbs]
def top (i : Nat) : Stmt := PySem.Challenge.pw_gridupgrade_k38_prices_by_keywords.main.body.getD i (.Pass ⟨0, 0, 0, 0⟩)
abbrev FnP (K : PySem.W.Frag) (x : Str) (st : Stmt) (f : Addr) (fd : FuncData) : Prop := FunD K x x (defArgs st) (defBody st) (defScope st) [] [] f fd
theorem sc_is_integer : FnScope ["value", "least", "greatest"] ["value", "least", "greatest"] (defScope (top 8)) := ⟨rfl, rfl, rfl, by decide +kernel, rfl, by decide +kernel, by decide +kernel⟩
theorem ok_is_integer {P : Program} {w : World} {K : PySem.W.Frag} {mg : Str → Option Value} {base : Heap} {f : Addr} {fd : FuncData} (F : FnP K "is_integer" (top 8) f fd)
    (m_isinstance : mg "isinstance" = none)
    (m_int : mg "int" = none)
    (m_bool : mg "bool" = none)
    {spec : FSpec} (rd : ∀ os Qa, os.length = 3 → spec os Qa → t_is_integer (endsOf [false, false, false] Qa) (startA 3 os)) : FnG P w K mg base CX0 (0 + 1) f fd ["value", "least", "greatest"] (ASp K [false, false, false] spec) := by
  refine fng_ok (N := ["value", "least", "greatest"]) [false, false, false] t_is_integer F sc_is_integer rfl (fun cdv A outer s H E hr B => ?_) rd
  have hr0 := hr.mono (Nat.zero_le _)
  have hu := hr0.room.un
  have nd := sc_is_integer.nd
  exact by_t (sxs_one (sx_ret (ex_and (ex_isi tyOk_int (by rfl) m_isinstance (by rfl) m_int bn_int (ex_name 0)) (ex_and (ex_not (ex_isi tyOk_bool (by rfl) m_isinstance (by rfl) m_bool bn_bool (ex_name 0))) (ex_one (ex_chainE opA_le opA_le (ex_name 1) (ex_name 0) (ex_name 2))))))) (by rfl)
theorem sc_is_name : FnScope ["value", "letter"] ["value"] (defScope (top 9)) := ⟨rfl, rfl, rfl, by decide +kernel, rfl, by decide +kernel, by decide +kernel⟩
theorem ok_is_name {P : Program} {w : World} {K : PySem.W.Frag} {mg : Str → Option Value} {base : Heap} {f : Addr} {fd : FuncData} (F : FnP K "is_name" (top 9) f fd)
    (m_isinstance : mg "isinstance" = none)
    (m_str : mg "str" = none)
    (m_len : mg "len" = none)
    (m_MOST_LETTERS : ∃ t, mg "MOST_LETTERS" = some (.int 8 t))
    (m_LETTERS : ∃ t, mg "LETTERS" = some (.str "abcdefghijklmnopqrstuvwxyz" t))
    (m_all : mg "all" = none)
    {spec : FSpec} (rd : ∀ os Qa, os.length = 1 → spec os Qa → t_is_name (endsOf [false] Qa) (startA 2 os)) : FnG P w K mg base CX0 (0 + 1) f fd ["value"] (ASp K [false] spec) := by
  refine fng_ok (N := ["value", "letter"]) [false] t_is_name F sc_is_name rfl (fun cdv A outer s H E hr B => ?_) rd
  have hr0 := hr.mono (Nat.zero_le _)
  have hu := hr0.room.un
  have nd := sc_is_name.nd
  exact by_t (sxs_cons (sx_if (wx_or (tx_not (tx_val (ex_isi tyOk_str (by rfl) m_isinstance (by rfl) m_str bn_str (ex_name 0)))) (wx_or1 (tx_not (ex_chain opA_le opA_le ex_int (ex_callB callA_len (by rfl) m_len bn_len (exs_cons (ex_name 0) exs_nil)) (ex_gint (by rfl) m_MOST_LETTERS))))).tx (sxs_one (sx_ret ex_bl)) sxs_nil)
    (sxs_one (sx_ret (ex_callB (callA_all rfl) (by rfl) m_all bn_all (exs_cons (ex_lc rfl nd (ix_any (ex_name 0)) (blkOk_by (own := [("letter", 1)]) (by rfl)) (fun _ _ _ _ _ => (gx_name 1 nd rfl (by first | exact Or.inl rfl | exact Or.inr rfl))) (fun _ _ _ _ _ => bxs_nil) (fun _ _ _ _ _ => (ex_cmp (opA_in hu) (ex_name 1) (ex_gstr (by rfl) m_LETTERS) (by rfl)))) exs_nil))))) (by rfl)
theorem sc_is_price : FnScope ["value"] ["value"] (defScope (top 13)) := ⟨rfl, rfl, rfl, by decide +kernel, rfl, by decide +kernel, by decide +kernel⟩
theorem ok_is_price {P : Program} {w : World} {K : PySem.W.Frag} {mg : Str → Option Value} {base : Heap} {f : Addr} {fd : FuncData} (F : FnP K "is_price" (top 13) f fd)
    (m_GREATEST_PRICE : ∃ t, mg "GREATEST_PRICE" = some (.int 1000000 t))
    {f_is_integer : Addr} {d_is_integer : FuncData} (F_is_integer : FnG P w K mg base CX0 1 f_is_integer d_is_integer ["value", "least", "greatest"] (ASp K [false, false, false] sp_is_integer)) (g_is_integer : mg "is_integer" = some (.ref f_is_integer)) (k_is_integer : PySem.W.keepIn K (.ref f_is_integer) = true) (b_is_integer : Binds K d_is_integer ["value", "least", "greatest"] [])
    {spec : FSpec} (rd : ∀ os Qa, os.length = 1 → spec os Qa → t_is_price (endsOf [false] Qa) (startA 1 os)) : FnG P w K mg base CX0 (1 + 1) f fd ["value"] (ASp K [false] spec) := by
  refine fng_ok (N := ["value"]) [false] t_is_price F sc_is_price rfl (fun cdv A outer s H E hr B => ?_) rd
  have hr0 := hr.mono (Nat.zero_le _)
  have hu := hr0.room.un
  have nd := sc_is_price.nd
  exact by_t (sxs_one (sx_ret (ex_callG F_is_integer (hr.mono (by omega)) (by rfl) g_is_integer k_is_integer b_is_integer (exs_cons (ex_name 0) (exs_cons ex_int (exs_cons (ex_gint (by rfl) m_GREATEST_PRICE) exs_nil)))))) (by rfl)
theorem sc_priced : FnScope ["prices", "name"] ["prices"] (defScope (top 14)) := ⟨rfl, rfl, rfl, by decide +kernel, rfl, by decide +kernel, by decide +kernel⟩
theorem ok_priced {P : Program} {w : World} {K : PySem.W.Frag} {mg : Str → Option Value} {base : Heap} {f : Addr} {fd : FuncData} (F : FnP K "priced" (top 14) f fd)
    (m_sorted : mg "sorted" = none)
    {f_is_name : Addr} {d_is_name : FuncData} (F_is_name : FnG P w K mg base CX0 1 f_is_name d_is_name ["value"] (ASp K [false] sp_is_name)) (g_is_name : mg "is_name" = some (.ref f_is_name)) (k_is_name : PySem.W.keepIn K (.ref f_is_name) = true) (b_is_name : Binds K d_is_name ["value"] [])
    {f_is_price : Addr} {d_is_price : FuncData} (F_is_price : FnG P w K mg base CX0 2 f_is_price d_is_price ["value"] (ASp K [false] sp_is_price)) (g_is_price : mg "is_price" = some (.ref f_is_price)) (k_is_price : PySem.W.keepIn K (.ref f_is_price) = true) (b_is_price : Binds K d_is_price ["value"] [])
    {i_BadPrice : Addr} {d_BadPrice : FuncData} (T_BadPrice : ExcC1 K (Tbs.cad "BadPrice") i_BadPrice "name") (n_BadPrice : ("BadPrice" : Str) ∈ Tbs.nms) (I_BadPrice : FnOk P w K mg base CX0 1 i_BadPrice d_BadPrice ["self", "name"] (spInit K (Tbs.cad "BadPrice") "name")) (b_BadPrice : Binds K d_BadPrice ["self", "name"] []) (g_BadPrice : mg "BadPrice" = some (.ref (Tbs.cad "BadPrice")))
    (m_tuple : mg "tuple" = none)
    {spec : FSpecK} (rd : ∀ kts Qa Ea, spec kts Qa Ea → t_priced Ea (endsE Qa) (startA 2 [.dct kts])) : ∀ ks : List Str, ks.Nodup → ks.length ≤ 64 → FnW P w K mg base (L2.CX P w) (3 + 1) f ks (ASpE K ks.length (kwSp ks spec)) := by
  intro ks hnd hl
  refine fnkw_ok (N := ["prices", "name"]) (pd := ⟨"prices", none, ⟨33, 13, 33, 19⟩⟩) t_priced F sc_priced rfl rfl rfl rfl rfl (fun cdv A outer s H E hr B Ea tk hp => ?_) rd hnd hl
  have hr0 := hr.mono (Nat.zero_le _)
  have hu := hr0.room.un
  have nd := sc_priced.nd
  exact by_t (sxs_cons (sx_for hp rfl (ix_any (ex_callB (callA_sortK rfl hu) (by rfl) m_sorted bn_sorted (exs_cons (ex_name 0) exs_nil))) (gx_name 1 nd rfl (Or.inl rfl)) (sxs_one (sx_if (wx_or (tx_not (tx_val (ex_callG F_is_name (hr.mono (by omega)) (by rfl) g_is_name k_is_name b_is_name (exs_cons (ex_name 1) exs_nil)))) (wx_or1 (tx_not (tx_val (ex_callG F_is_price (hr.mono (by omega)) (by rfl) g_is_price k_is_price b_is_price (exs_cons (ex_ix (ixA_dict (hu1 hu)) (ex_name 0) (ex_name 1) (fun _ _ => rfl)) exs_nil)))))).tx (sxs_one (sx_raise rfl tk T_BadPrice n_BadPrice I_BadPrice (hr.room.mono (by omega)) b_BadPrice (by rfl) g_BadPrice (exs_cons (ex_name 1) exs_nil))) sxs_nil)))
    (sxs_one (sx_ret (ex_callTy (callA_tuple rfl) (by rfl) m_tuple bn_tuple (exs_cons (ex_sortItems 0 rfl hu rfl (by rfl) m_sorted bn_sorted) exs_nil))))) (by rfl)
theorem sc_price_beside : FnScope ["prices", "service"] ["prices", "service"] (defScope (top 15)) := ⟨rfl, rfl, rfl, by decide +kernel, rfl, by decide +kernel, by decide +kernel⟩
theorem ok_price_beside {P : Program} {w : World} {K : PySem.W.Frag} {mg : Str → Option Value} {base : Heap} {f : Addr} {fd : FuncData} (F : FnP K "price_beside" (top 15) f fd)
    (m_dict : mg "dict" = none)
    (m_USUAL_PRICE : ∃ t, mg "USUAL_PRICE" = some (.int 1 t))
    {spec : FSpec} (rd : ∀ os Qa, os.length = 2 → spec os Qa → t_price_beside (endsOf [false, false] Qa) (startA 2 os)) : FnG P w K mg base CX0 (0 + 1) f fd ["prices", "service"] (ASp K [false, false] spec) := by
  refine fng_ok (N := ["prices", "service"]) [false, false] t_price_beside F sc_price_beside rfl (fun cdv A outer s H E hr B => ?_) rd
  have hr0 := hr.mono (Nat.zero_le _)
  have hu := hr0.room.un
  have nd := sc_price_beside.nd
  exact by_t (sxs_one (sx_ret (ex_getV (hu1 hu) (ex_callTy (callA_dictP rfl) (by rfl) m_dict bn_dict (exs_cons (ex_name 0) exs_nil)) (ex_name 1) (ex_gint (by rfl) m_USUAL_PRICE) ⟨rfl, rfl, rfl, rfl⟩))) (by rfl)
theorem sc_price_of : FnScope ["schedule", "prices", "service", "release"] ["schedule", "prices"] (defScope (top 16)) := ⟨rfl, rfl, rfl, by decide +kernel, rfl, by decide +kernel, by decide +kernel⟩
theorem ok_price_of {P : Program} {w : World} {K : PySem.W.Frag} {mg : Str → Option Value} {base : Heap} {f : Addr} {fd : FuncData} (F : FnP K "price_of" (top 16) f fd)
    {f_price_beside : Addr} {d_price_beside : FuncData} (F_price_beside : FnG P w K mg base CX0 1 f_price_beside d_price_beside ["prices", "service"] (ASp K [false, false] sp_price_beside)) (g_price_beside : mg "price_beside" = some (.ref f_price_beside)) (k_price_beside : PySem.W.keepIn K (.ref f_price_beside) = true) (b_price_beside : Binds K d_price_beside ["prices", "service"] [])
    (m_sum : mg "sum" = none)
    {spec : FSpec} (rd : ∀ os Qa, os.length = 2 → spec os Qa → t_price_of (endsOf [false, false] Qa) (startA 4 os)) : FnG P w K mg base CX0 (1 + 1) f fd ["schedule", "prices"] (ASp K [false, false] spec) := by
  refine fng_ok (N := ["schedule", "prices", "service", "release"]) [false, false] t_price_of F sc_price_of rfl (fun cdv A outer s H E hr B => ?_) rd
  have hr0 := hr.mono (Nat.zero_le _)
  have hu := hr0.room.un
  have nd := sc_price_of.nd
  exact by_t (sxs_one (sx_ret (ex_callB (callA_sum rfl) (by rfl) m_sum bn_sum (exs_cons (ex_lc rfl nd (ix_any (ex_name 0)) (blkOk_by (own := [("service", 2), ("release", 3)]) (by rfl)) (fun _ _ _ _ _ => (gx_tup (n := 2) rfl (gxs_cons (gx_name 2 nd rfl (by first | exact Or.inl rfl | exact Or.inr rfl)) (gxs_cons (gx_name 3 nd rfl (by first | exact Or.inl rfl | exact Or.inr rfl)) gxs_nil)))) (fun _ _ _ _ _ => bxs_nil) (fun _ _ _ _ _ => (ex_callG F_price_beside (hr.mono (by omega)) (by rfl) g_price_beside k_price_beside b_price_beside (exs_cons (ex_name 1) (exs_cons (ex_name 2) exs_nil))))) exs_nil)))) (by rfl)
theorem sc__law_deck : FnScope ["_law_script", "_law_k", "_law_cell", "_law_own"] ["_law_script", "_law_k"] (defScope (top 18)) := ⟨rfl, rfl, rfl, by decide +kernel, rfl, by decide +kernel, by decide +kernel⟩
theorem ok__law_deck {P : Program} {w : World} {K : PySem.W.Frag} {mg : Str → Option Value} {base : Heap} {f : Addr} {fd : FuncData} (F : FnP K "_law_deck" (top 18) f fd)
    (m_len : mg "len" = none)
    (m_abs : mg "abs" = none)
    (m_int : mg "int" = none)
    {spec : FSpec} (rd : ∀ os Qa, os.length = 2 → spec os Qa → t__law_deck (endsOf [false, false] Qa) (startA 4 os)) : FnG P w K mg base CX0 (0 + 1) f fd ["_law_script", "_law_k"] (ASp K [false, false] spec) := by
  refine fng_ok (N := ["_law_script", "_law_k", "_law_cell", "_law_own"]) [false, false] t__law_deck F sc__law_deck rfl (fun cdv A outer s H E hr B => ?_) rd
  have hr0 := hr.mono (Nat.zero_le _)
  have hu := hr0.room.un
  have nd := sc__law_deck.nd
  exact by_t (sxs_cons (sx_set 2 nd rfl (Or.inl rfl) (ex_bin opA_add (ex_bin opA_mul3 ex_int (ex_name 1)) ex_int))
    (sxs_cons (sx_if (tx_cmp (opA_lt hu) (ex_name 1) (ex_callB callA_len (by rfl) m_len bn_len (exs_cons (ex_name 0) exs_nil)) (nomark _)) (sxs_one (sx_set 2 nd rfl (Or.inl rfl) (ex_ix ixA_seq (ex_name 0) (ex_name 1) (fun _ _ => rfl)))) sxs_nil)
    (sxs_cons (sx_set 3 nd rfl (Or.inl rfl) (ex_bin opA_mul3 (ex_bin opA_mod (ex_callB callA_abs (by rfl) m_abs bn_abs (exs_cons (ex_name 2) exs_nil)) (ex_bin opA_pow (ex_bin opA_pow ex_int ex_int) ex_int)) (ex_callTy callA_int (by rfl) m_int bn_int (exs_cons (ex_cmp opA_ge (ex_callB callA_abs (by rfl) m_abs bn_abs (exs_cons (ex_name 2) exs_nil)) (ex_bin opA_pow ex_int ex_int) (nomark _)) exs_nil))))
    (sxs_one (sx_ret (ex_lst (exs_cons (ex_name 3) (exs_cons (ex_bin opA_mod (ex_bin opA_add (ex_bin opA_add (ex_bin opA_mul3 (ex_bin opA_mod (ex_name 2) ex_int) ex_int) (ex_bin opA_mul3 (ex_bin opA_mul3 ex_int (ex_name 1)) (ex_name 1))) ex_int) ex_int) (exs_cons ex_int exs_nil))))))))) (by rfl)
theorem sc__law_draw : FnScope ["_law_deck_here", "_law_many", "_law_digit", "_law_prime", "_law_mixed"] ["_law_deck_here", "_law_many"] (defScope (top 19)) := ⟨rfl, rfl, rfl, by decide +kernel, rfl, by decide +kernel, by decide +kernel⟩
theorem ok__law_draw {P : Program} {w : World} {K : PySem.W.Frag} {mg : Str → Option Value} {base : Heap} {f : Addr} {fd : FuncData} (F : FnP K "_law_draw" (top 19) f fd)
    {spec : FSpec} (rd : ∀ os Qa, os.length = 2 → spec os Qa → t__law_draw (endsOf [true, false] Qa) (startA 5 os)) : FnG P w K mg base CX0 (0 + 1) f fd ["_law_deck_here", "_law_many"] (ASp K [true, false] spec) := by
  refine fng_ok (N := ["_law_deck_here", "_law_many", "_law_digit", "_law_prime", "_law_mixed"]) [true, false] t__law_draw F sc__law_draw rfl (fun cdv A outer s H E hr B => ?_) rd
  have hr0 := hr.mono (Nat.zero_le _)
  have hu := hr0.room.un
  have nd := sc__law_draw.nd
  exact by_t (sxs_cons (sx_if (tx_cmp opA_gt (ex_ix ixA_seq (ex_name 0) ex_int (fun _ _ => rfl)) ex_int (nomark _)) (sxs_cons (sx_set 2 nd rfl (Or.inl rfl) (ex_bin opA_mod (ex_ix ixA_seq (ex_name 0) ex_int (fun _ _ => rfl)) (ex_name 1)))
    (sxs_cons (sx_setIx 0 rfl (ex_bin opA_fdiv (ex_ix ixA_seq (ex_name 0) ex_int (fun _ _ => rfl)) (ex_name 1)) ex_int)
    (sxs_one (sx_ret (ex_name 2))))) sxs_nil)
    (sxs_cons (sx_setIx 0 rfl (ex_bin opA_add (ex_ix ixA_seq (ex_name 0) ex_int (fun _ _ => rfl)) ex_int) ex_int)
    (sxs_cons (sx_set 3 nd rfl (Or.inl rfl) (ex_ix ixA_seq (ex_lst (exs_cons ex_int (exs_cons ex_int (exs_cons ex_int (exs_cons ex_int (exs_cons ex_int exs_nil)))))) (ex_bin opA_mod (ex_ix ixA_seq (ex_name 0) ex_int (fun _ _ => rfl)) ex_int) (fun _ _ => rfl)))
    (sxs_cons (sx_set 4 nd rfl (Or.inl rfl) (ex_bin opA_mod (ex_bin opA_pow (ex_bin opA_add (ex_bin opA_add (ex_ix ixA_seq (ex_name 0) ex_int (fun _ _ => rfl)) (ex_bin opA_mul3 (ex_bin opA_mul3 ex_int (ex_ix ixA_seq (ex_name 0) ex_int (fun _ _ => rfl))) (ex_ix ixA_seq (ex_name 0) ex_int (fun _ _ => rfl)))) ex_int) ex_int) (ex_name 3)))
    (sxs_one (sx_ret (ex_bin opA_mod (ex_bin opA_fdiv (ex_bin opA_mod (ex_bin opA_mul3 (ex_name 4) (ex_bin opA_add (ex_bin opA_mod (ex_name 4) ex_int) (ex_bin opA_mul3 ex_int (ex_ix ixA_seq (ex_name 0) ex_int (fun _ _ => rfl))))) ex_int) ex_int) (ex_name 1)))))))) (by rfl)
theorem sc__law_any : FnScope ["_law_deck_here", "_law_items"] ["_law_deck_here", "_law_items"] (defScope (top 20)) := ⟨rfl, rfl, rfl, by decide +kernel, rfl, by decide +kernel, by decide +kernel⟩
theorem ok__law_any {P : Program} {w : World} {K : PySem.W.Frag} {mg : Str → Option Value} {base : Heap} {f : Addr} {fd : FuncData} (F : FnP K "_law_any" (top 20) f fd)
    (m_len : mg "len" = none)
    {f__law_draw : Addr} {d__law_draw : FuncData} (F__law_draw : FnG P w K mg base CX0 1 f__law_draw d__law_draw ["_law_deck_here", "_law_many"] (ASp K [true, false] sp__law_draw)) (g__law_draw : mg "_law_draw" = some (.ref f__law_draw)) (k__law_draw : PySem.W.keepIn K (.ref f__law_draw) = true) (b__law_draw : Binds K d__law_draw ["_law_deck_here", "_law_many"] [])
    {spec : FSpec} (rd : ∀ os Qa, os.length = 2 → spec os Qa → t__law_any (endsOf [true, false] Qa) (startA 2 os)) : FnG P w K mg base CX0 (1 + 1) f fd ["_law_deck_here", "_law_items"] (ASp K [true, false] spec) := by
  refine fng_ok (N := ["_law_deck_here", "_law_items"]) [true, false] t__law_any F sc__law_any rfl (fun cdv A outer s H E hr B => ?_) rd
  have hr0 := hr.mono (Nat.zero_le _)
  have hu := hr0.room.un
  have nd := sc__law_any.nd
  exact by_t (sxs_one (sx_ret (ex_ix ixA_seq (ex_name 1) (ex_callG F__law_draw (hr.mono (by omega)) (by rfl) g__law_draw k__law_draw b__law_draw (exs_cons (ex_name 0) (exs_cons (ex_callB callA_len (by rfl) m_len bn_len (exs_cons (ex_name 1) exs_nil)) exs_nil))) (fun _ _ => rfl)))) (by rfl)
theorem sc__law_names : FnScope ["_law_deck_here", "_law_many", "_law_stem", "_law_first", "_law_letters", "_law_at"] ["_law_deck_here", "_law_many"] (defScope (top 21)) := ⟨rfl, rfl, rfl, by decide +kernel, rfl, by decide +kernel, by decide +kernel⟩
theorem ok__law_names {P : Program} {w : World} {K : PySem.W.Frag} {mg : Str → Option Value} {base : Heap} {f : Addr} {fd : FuncData} (F : FnP K "_law_names" (top 21) f fd)
    {f__law_any : Addr} {d__law_any : FuncData} (F__law_any : FnG P w K mg base CX0 2 f__law_any d__law_any ["_law_deck_here", "_law_items"] (ASp K [true, false] sp__law_any)) (g__law_any : mg "_law_any" = some (.ref f__law_any)) (k__law_any : PySem.W.keepIn K (.ref f__law_any) = true) (b__law_any : Binds K d__law_any ["_law_deck_here", "_law_items"] [])
    {f__law_draw : Addr} {d__law_draw : FuncData} (F__law_draw : FnG P w K mg base CX0 1 f__law_draw d__law_draw ["_law_deck_here", "_law_many"] (ASp K [true, false] sp__law_draw)) (g__law_draw : mg "_law_draw" = some (.ref f__law_draw)) (k__law_draw : PySem.W.keepIn K (.ref f__law_draw) = true) (b__law_draw : Binds K d__law_draw ["_law_deck_here", "_law_many"] [])
    (m_range : mg "range" = none)
    (m_sorted : mg "sorted" = none)
    {spec : FSpec} (rd : ∀ os Qa, os.length = 2 → spec os Qa → t__law_names (endsOf [true, false] Qa) (startA 6 os)) : FnG P w K mg base CX0 (2 + 1) f fd ["_law_deck_here", "_law_many"] (ASp K [true, false] spec) := by
  refine fng_ok (N := ["_law_deck_here", "_law_many", "_law_stem", "_law_first", "_law_letters", "_law_at"]) [true, false] t__law_names F sc__law_names rfl (fun cdv A outer s H E hr B => ?_) rd
  have hr0 := hr.mono (Nat.zero_le _)
  have hu := hr0.room.un
  have nd := sc__law_names.nd
  exact by_t (sxs_cons (sx_parC2 2 3 rfl nd rfl rfl (Or.inr rfl) (Or.inr rfl) (exs_cons (ex_callG F__law_any (hr.mono (by omega)) (by rfl) g__law_any k__law_any b__law_any (exs_cons (ex_name 0) (exs_cons (ex_lst (exs_cons ex_str (exs_cons ex_str (exs_cons ex_str (exs_cons ex_str (exs_cons ex_str exs_nil)))))) exs_nil))) (exs_cons (ex_callG F__law_draw (hr.mono (by omega)) (by rfl) g__law_draw k__law_draw b__law_draw (exs_cons (ex_name 0) (exs_cons ex_int exs_nil))) exs_nil)))
    (sxs_cons (sx_set 4 nd rfl (Or.inr rfl) ex_str)
    (sxs_one (sx_ret (ex_callB (callA_sort hu) (by rfl) m_sorted bn_sorted (exs_cons (ex_lc rfl nd (ix_range1 (by rfl) m_range (exs_cons (ex_name 1) exs_nil)) (blkOk_by (own := [("_law_at", 5)]) (by rfl)) (fun _ _ _ _ _ => (gx_name 5 nd rfl (by first | exact Or.inl rfl | exact Or.inr rfl))) (fun _ _ _ _ _ => bxs_nil) (fun _ _ _ _ _ => (ex_bin opA_add (ex_name 2) (ex_ix ixA_seq (ex_name 4) (ex_bin opA_mod (ex_bin opA_add (ex_name 3) (ex_bin opA_mul3 ex_int (ex_name 5))) ex_int) (fun _ _ => rfl))))) exs_nil)))))) (by rfl)
theorem sc__law_is_number : FnScope ["_law_thing", "_law_least", "_law_most"] ["_law_thing", "_law_least", "_law_most"] (defScope (top 22)) := ⟨rfl, rfl, rfl, by decide +kernel, rfl, by decide +kernel, by decide +kernel⟩
theorem ok__law_is_number {P : Program} {w : World} {K : PySem.W.Frag} {mg : Str → Option Value} {base : Heap} {f : Addr} {fd : FuncData} (F : FnP K "_law_is_number" (top 22) f fd)
    (m_isinstance : mg "isinstance" = none)
    (m_int : mg "int" = none)
    (m_bool : mg "bool" = none)
    {spec : FSpec} (rd : ∀ os Qa, os.length = 3 → spec os Qa → t__law_is_number (endsOf [false, false, false] Qa) (startA 3 os)) : FnG P w K mg base CX0 (0 + 1) f fd ["_law_thing", "_law_least", "_law_most"] (ASp K [false, false, false] spec) := by
  refine fng_ok (N := ["_law_thing", "_law_least", "_law_most"]) [false, false, false] t__law_is_number F sc__law_is_number rfl (fun cdv A outer s H E hr B => ?_) rd
  have hr0 := hr.mono (Nat.zero_le _)
  have hu := hr0.room.un
  have nd := sc__law_is_number.nd
  exact by_t (sxs_one (sx_ret (ex_and (ex_isi tyOk_int (by rfl) m_isinstance (by rfl) m_int bn_int (ex_name 0)) (ex_and (ex_not (ex_isi tyOk_bool (by rfl) m_isinstance (by rfl) m_bool bn_bool (ex_name 0))) (ex_one (ex_chainE opA_le opA_le (ex_name 1) (ex_name 0) (ex_name 2))))))) (by rfl)
theorem sc__law_costs : FnScope ["_law_deck_here", "_law_network", "_law_found", "_law_name"] ["_law_deck_here", "_law_network"] (defScope (top 23)) := ⟨rfl, rfl, rfl, by decide +kernel, rfl, by decide +kernel, by decide +kernel⟩
theorem ok__law_costs {P : Program} {w : World} {K : PySem.W.Frag} {mg : Str → Option Value} {base : Heap} {f : Addr} {fd : FuncData} (F : FnP K "_law_costs" (top 23) f fd)
    {f__law_draw : Addr} {d__law_draw : FuncData} (F__law_draw : FnG P w K mg base CX0 1 f__law_draw d__law_draw ["_law_deck_here", "_law_many"] (ASp K [true, false] sp__law_draw)) (g__law_draw : mg "_law_draw" = some (.ref f__law_draw)) (k__law_draw : PySem.W.keepIn K (.ref f__law_draw) = true) (b__law_draw : Binds K d__law_draw ["_law_deck_here", "_law_many"] [])
    {f__law_any : Addr} {d__law_any : FuncData} (F__law_any : FnG P w K mg base CX0 2 f__law_any d__law_any ["_law_deck_here", "_law_items"] (ASp K [true, false] sp__law_any)) (g__law_any : mg "_law_any" = some (.ref f__law_any)) (k__law_any : PySem.W.keepIn K (.ref f__law_any) = true) (b__law_any : Binds K d__law_any ["_law_deck_here", "_law_items"] [])
    (m_sorted : mg "sorted" = none)
    (m_tuple : mg "tuple" = none)
    {spec : FSpec} (rd : ∀ os Qa, os.length = 2 → spec os Qa → t__law_costs (endsOf [true, false] Qa) (startA 4 os)) : FnG P w K mg base CX0 (2 + 1) f fd ["_law_deck_here", "_law_network"] (ASp K [true, false] spec) := by
  refine fng_ok (N := ["_law_deck_here", "_law_network", "_law_found", "_law_name"]) [true, false] t__law_costs F sc__law_costs rfl (fun cdv A outer s H E hr B => ?_) rd
  have hr0 := hr.mono (Nat.zero_le _)
  have hu := hr0.room.un
  have nd := sc__law_costs.nd
  exact by_t (sxs_cons (sx_set 2 nd rfl (Or.inl rfl) ex_dct0)
    (sxs_cons (sx_for PassesOwn.never rfl (ix_any (ex_bin opA_add (ex_ix ixA_seq (ex_name 1) ex_int (fun _ _ => rfl)) (ex_tup (exs_cons ex_str (exs_cons ex_str exs_nil))))) (gx_name 3 nd rfl (Or.inl rfl)) (sxs_one (sx_if (tx_cmp opA_gt (ex_callG F__law_draw (hr.mono (by omega)) (by rfl) g__law_draw k__law_draw b__law_draw (exs_cons (ex_name 0) (exs_cons ex_int exs_nil))) ex_int (nomark _)) (sxs_one (sx_setIxD 2 (hu1 hu) rfl (ex_callG F__law_any (hr.mono (by omega)) (by rfl) g__law_any k__law_any b__law_any (exs_cons (ex_name 0) (exs_cons (ex_lst (exs_cons ex_int (exs_cons ex_int (exs_cons (ex_bin opA_pow ex_int ex_int) (exs_cons (ex_bin opA_add ex_int (ex_callG F__law_draw (hr.mono (by omega)) (by rfl) g__law_draw k__law_draw b__law_draw (exs_cons (ex_name 0) (exs_cons ex_int exs_nil)))) (exs_cons (ex_bin opA_add ex_int (ex_callG F__law_draw (hr.mono (by omega)) (by rfl) g__law_draw k__law_draw b__law_draw (exs_cons (ex_name 0) (exs_cons (ex_bin opA_pow ex_int ex_int) exs_nil)))) exs_nil)))))) exs_nil))) (ex_name 3))) sxs_nil)))
    (sxs_one (sx_ret (ex_callTy (callA_tuple rfl) (by rfl) m_tuple bn_tuple (exs_cons (ex_sortItems 2 rfl hu rfl (by rfl) m_sorted bn_sorted) exs_nil)))))) (by rfl)
theorem sc__law_told : FnScope ["_law_ask", "_law_caught", "_law_told_here", "error"] ["_law_ask"] (defScope (top 24)) := ⟨rfl, rfl, rfl, by decide +kernel, rfl, by decide +kernel, by decide +kernel⟩
theorem giv__law_told {P : Program} {w : World} {K : PySem.W.Frag} {mg : Str → Option Value} {base : Heap}
    (g_UpgradeError : mg "UpgradeError" = some (.ref (Tbs.cad "UpgradeError")))
    (x_UpgradeError : ∀ m ∈ Tbs.nms, PySem.W.exmOne K (.ref (Tbs.cad m)) (.ref (Tbs.cad "UpgradeError")) = some (exSub ["BadPath", "BadPrice", "BadText"] m))
    (hE : ∀ m ∈ Tbs.nms, ExcC K (Tbs.cad m))
    (g_BadPrice : mg "BadPrice" = some (.ref (Tbs.cad "BadPrice")))
    (q_BadPrice : ∀ m ∈ Tbs.nms, PySem.W.kitOne K (.ref (Tbs.cad m)) (.ref (Tbs.cad "BadPrice")) = some (exSub ["BadPrice"] m))
    (m_isinstance : mg "isinstance" = none)
    (g_BadPath : mg "BadPath" = some (.ref (Tbs.cad "BadPath")))
    (q_BadPath : ∀ m ∈ Tbs.nms, PySem.W.kitOne K (.ref (Tbs.cad m)) (.ref (Tbs.cad "BadPath")) = some (exSub ["BadPath"] m))
    (g_BadText : mg "BadText" = some (.ref (Tbs.cad "BadText")))
    (q_BadText : ∀ m ∈ Tbs.nms, PySem.W.kitOne K (.ref (Tbs.cad m)) (.ref (Tbs.cad "BadText")) = some (exSub ["BadText"] m))
    (m_ValueError : mg "ValueError" = none)
    (q_ValueError : ∀ m ∈ Tbs.nms, PySem.W.kitOne K (.ref (Tbs.cad m)) (.type "ValueError") = some (exSub ["BadPath", "BadPrice", "BadText"] m))
    (no_name : ∀ m ∈ Tbs.nms, PySem.W.findIn K (.ref (Tbs.cad m)) "name" = some none)
    : GivesT P w K mg base ["_law_ask", "_law_caught", "_law_told_here", "error"] "_law_told" (defScope (top 24)) "_law_ask" (defBody (top 24)) t__law_told := by
  intro g cdv A outer s H k spec act B
  have nd := sc__law_told.nd
  exact by_t (sxs_cons (sx_asg (ex_tup (exs_cons ex_non (exs_cons ex_non exs_nil))) (gx_tup (n := 2) rfl (gxs_cons (gx_name 1 nd rfl (Or.inl rfl)) (gxs_cons (gx_name 2 nd rfl (Or.inl rfl)) gxs_nil))))
    (sxs_cons (sx_try (i := 3) (isC := (exSub ["BadPath", "BadPrice", "BadText"])) (tb := fun Eb => (sSet 2 (tAct k spec Eb))) rfl rfl rfl nd rfl rfl ⟨(by rfl), (by decide), .inl g_UpgradeError⟩ tkNo (fun _ => rfl) x_UpgradeError (fun B pn xe Eb tkT hpT => (sxs_one (sx_set 2 nd rfl (Or.inl rfl) (act _ _ _ _ _ _ tkT)))) (fun a pn => (sxs_one (sx_set 1 nd rfl (Or.inl rfl) (ex_name 3)))))
    (sxs_cons (sx_if (tx_cmp opA_is (ex_name 1) ex_non (nomark _)) (sxs_one (sx_ret (ex_tup (exs_cons ex_str (exs_cons (ex_name 2) exs_nil))))) sxs_nil)
    (sxs_cons (sx_if (wx_or (tx_not (tx_val (ex_isX hE q_BadPrice (by rfl) m_isinstance (ex_name 1) (ce_own (by rfl) g_BadPrice)))) (wx_or (tx_val (ex_isX2 (f := (fun m => (exSub ["BadPath"]) m || (exSub ["BadText"]) m)) hE (fun m hm => kitAny2 (q_BadPath m hm) (q_BadText m hm)) (by rfl) m_isinstance (ex_name 1) (ce_own (by rfl) g_BadPath) (ce_own (by rfl) g_BadText))) (wx_or1 (tx_not (tx_val (ex_isX hE q_ValueError (by rfl) m_isinstance (ex_name 1) (ce_bi (by rfl) m_ValueError (by decide +kernel)))))))).tx (sxs_one (sx_ret (ex_tup (exs_cons ex_str (exs_cons ex_non exs_nil))))) sxs_nil)
    (sxs_one (sx_ret (ex_tup (exs_cons ex_str (exs_cons (ex_xfl hE no_name (ex_name 1)) exs_nil))))))))) (by rfl)
theorem sc__law_due : FnScope ["_law_pairs", "_law_name", "_law_cost_here", "_law_is_word"] ["_law_pairs"] (defScope (top 25)) := ⟨rfl, rfl, rfl, by decide +kernel, rfl, by decide +kernel, by decide +kernel⟩
theorem ok__law_due {P : Program} {w : World} {K : PySem.W.Frag} {mg : Str → Option Value} {base : Heap} {f : Addr} {fd : FuncData} (F : FnP K "_law_due" (top 25) f fd)
    {c__law_due P__law_due : Addr} (L__law_due : LamD base mg fd.code (("_law_due" : Str) ++ ".<locals>." ++ "<lambda>") c__law_due P__law_due)
    (m_sorted : mg "sorted" = none)
    (m_len : mg "len" = none)
    {f__law_is_number : Addr} {d__law_is_number : FuncData} (F__law_is_number : FnG P w K mg base CX0 1 f__law_is_number d__law_is_number ["_law_thing", "_law_least", "_law_most"] (ASp K [false, false, false] sp__law_is_number)) (g__law_is_number : mg "_law_is_number" = some (.ref f__law_is_number)) (k__law_is_number : PySem.W.keepIn K (.ref f__law_is_number) = true) (b__law_is_number : Binds K d__law_is_number ["_law_thing", "_law_least", "_law_most"] [])
    (m_tuple : mg "tuple" = none)
    {spec : FSpec} (rd : ∀ os Qa, os.length = 1 → spec os Qa → t__law_due (endsOf [false] Qa) (startA 4 os)) : FnG P w K mg base CX0 (3 + 1) f fd ["_law_pairs"] (ASp K [false] spec) := by
  refine fng_okC (N := ["_law_pairs", "_law_name", "_law_cost_here", "_law_is_word"]) [false] t__law_due F sc__law_due rfl (fun cdv A outer s H E hcd hr B => ?_) rd
  have lam := L__law_due
  rw [hcd] at lam
  have hr0 := hr.mono (Nat.zero_le _)
  have hu := hr0.room.un
  have nd := sc__law_due.nd
  exact by_t (sxs_cons (sx_for PassesOwn.never rfl (ix_any (ex_sortKey0 hu hr (by rfl) m_sorted bn_sorted (exs_cons (ex_name 0) exs_nil) lam (lamP_by (by decide +kernel)) rfl (fun _ _ _ _ _ _ => rfl))) (gx_tup (n := 2) rfl (gxs_cons (gx_name 1 nd rfl (Or.inl rfl)) (gxs_cons (gx_name 2 nd rfl (Or.inl rfl)) gxs_nil))) (sxs_cons (sx_set 3 nd rfl (Or.inl rfl) (ex_and (ex_cmp (opA_lt hu) (ex_callB callA_len (by rfl) m_len bn_len (exs_cons (ex_name 1) exs_nil)) ex_int (nomark _)) (ex_one (ex_cmp (opA_eq hu) (ex_stripC (ex_name 1) ex_str) ex_str (nomark _)))))
    (sxs_one (sx_if (wx_or (tx_not (tx_val (ex_name 3))) (wx_or1 (tx_not (tx_val (ex_callG F__law_is_number (hr.mono (by omega)) (by rfl) g__law_is_number k__law_is_number b__law_is_number (exs_cons (ex_name 2) (exs_cons ex_int (exs_cons (ex_bin opA_pow ex_int ex_int) exs_nil)))))))).tx (sxs_one (sx_ret (ex_tup (exs_cons ex_str (exs_cons (ex_name 1) exs_nil))))) sxs_nil))))
    (sxs_one (sx_ret (ex_tup (exs_cons ex_str (exs_cons (ex_callTy (callA_tuple rfl) (by rfl) m_tuple bn_tuple (exs_cons (ex_callB (callA_sort hu) (by rfl) m_sorted bn_sorted (exs_cons (ex_name 0) exs_nil)) exs_nil)) exs_nil)))))) (by rfl)
theorem sc__law_cost : FnScope ["_law_deck_here", "_law_some"] ["_law_deck_here"] (defScope (top 26)) := ⟨rfl, rfl, rfl, by decide +kernel, rfl, by decide +kernel, by decide +kernel⟩
theorem ok__law_cost {P : Program} {w : World} {K : PySem.W.Frag} {mg : Str → Option Value} {base : Heap} {f : Addr} {fd : FuncData} (F : FnP K "_law_cost" (top 26) f fd)
    {f__law_draw : Addr} {d__law_draw : FuncData} (F__law_draw : FnG P w K mg base CX0 1 f__law_draw d__law_draw ["_law_deck_here", "_law_many"] (ASp K [true, false] sp__law_draw)) (g__law_draw : mg "_law_draw" = some (.ref f__law_draw)) (k__law_draw : PySem.W.keepIn K (.ref f__law_draw) = true) (b__law_draw : Binds K d__law_draw ["_law_deck_here", "_law_many"] [])
    {f__law_any : Addr} {d__law_any : FuncData} (F__law_any : FnG P w K mg base CX0 2 f__law_any d__law_any ["_law_deck_here", "_law_items"] (ASp K [true, false] sp__law_any)) (g__law_any : mg "_law_any" = some (.ref f__law_any)) (k__law_any : PySem.W.keepIn K (.ref f__law_any) = true) (b__law_any : Binds K d__law_any ["_law_deck_here", "_law_items"] [])
    {spec : FSpec} (rd : ∀ os Qa, os.length = 1 → spec os Qa → t__law_cost (endsOf [true] Qa) (startA 2 os)) : FnG P w K mg base CX0 (2 + 1) f fd ["_law_deck_here"] (ASp K [true] spec) := by
  refine fng_ok (N := ["_law_deck_here", "_law_some"]) [true] t__law_cost F sc__law_cost rfl (fun cdv A outer s H E hr B => ?_) rd
  have hr0 := hr.mono (Nat.zero_le _)
  have hu := hr0.room.un
  have nd := sc__law_cost.nd
  exact by_t (sxs_cons (sx_set 1 nd rfl (Or.inl rfl) (ex_bin opA_mul3 (ex_lst (exs_cons ex_int (exs_cons (ex_bin opA_pow ex_int ex_int) (exs_cons (ex_bin opA_add ex_int (ex_callG F__law_draw (hr.mono (by omega)) (by rfl) g__law_draw k__law_draw b__law_draw (exs_cons (ex_name 0) (exs_cons (ex_bin opA_pow ex_int ex_int) exs_nil)))) (exs_cons (ex_bin opA_add ex_int (ex_callG F__law_draw (hr.mono (by omega)) (by rfl) g__law_draw k__law_draw b__law_draw (exs_cons (ex_name 0) (exs_cons ex_int exs_nil)))) exs_nil))))) ex_int))
    (sxs_one (sx_ret (ex_callG F__law_any (hr.mono (by omega)) (by rfl) g__law_any k__law_any b__law_any (exs_cons (ex_name 0) (exs_cons (ex_bin opA_add (ex_name 1) (ex_lst (exs_cons ex_int (exs_cons (ex_un unA_neg ex_int) (exs_cons (ex_bin opA_add (ex_bin opA_pow ex_int ex_int) ex_int) (exs_cons ex_bl (exs_cons ex_non (exs_cons ex_str (exs_cons (ex_tup exs_nil) (exs_cons (ex_tup (exs_cons ex_int exs_nil)) (exs_cons (ex_lst exs_nil) (exs_cons ex_dct0 exs_nil)))))))))))) exs_nil)))))) (by rfl)
theorem sc__law_right : FnScope ["_law_deck_here", "_law_told_here", "_law_due_here", "_law_four", "_law_one", "_law_three", "_law_two", "_law_turn"] ["_law_deck_here"] (defScope (top 27)) := ⟨rfl, rfl, rfl, by decide +kernel, rfl, by decide +kernel, by decide +kernel⟩
theorem ok__law_right {P : Program} {w : World} {K : PySem.W.Frag} {mg : Str → Option Value} {base : Heap} {f : Addr} {fd : FuncData} (F : FnP K "_law_right" (top 27) f fd)
    (m_range : mg "range" = none)
    {f__law_cost : Addr} {d__law_cost : FuncData} (F__law_cost : FnG P w K mg base CX0 3 f__law_cost d__law_cost ["_law_deck_here"] (ASp K [true] sp__law_cost)) (g__law_cost : mg "_law_cost" = some (.ref f__law_cost)) (k__law_cost : PySem.W.keepIn K (.ref f__law_cost) = true) (b__law_cost : Binds K d__law_cost ["_law_deck_here"] [])
    {c__law_right P__law_right : Addr} (L__law_right : LamD base mg fd.code (("_law_right" : Str) ++ ".<locals>." ++ "<lambda>") c__law_right P__law_right)
    {f__law_told : Addr} {d__law_told : FuncData} (giv__law_told_ : GivesT P w K mg base ["_law_ask", "_law_caught", "_law_told_here", "error"] "_law_told" (defScope (top 24)) "_law_ask" (defBody (top 24)) t__law_told) (D__law_told : FnP K "_law_told" (top 24) f__law_told d__law_told) (g__law_told : mg "_law_told" = some (.ref f__law_told)) (b__law_told : Binds K d__law_told ["_law_ask"] [])
    {f_priced : Addr} (F_priced : ∀ ks : List Str, ks.Nodup → ks.length ≤ 64 → FnW P w K mg base (L2.CX P w) 4 f_priced ks (ASpE K ks.length (kwSp ks sp_priced))) (g_priced : mg "priced" = some (.ref f_priced)) (k_priced : PySem.W.keepIn K (.ref f_priced) = true)
    {f__law_due : Addr} {d__law_due : FuncData} (F__law_due : FnG P w K mg base CX0 4 f__law_due d__law_due ["_law_pairs"] (ASp K [false] sp__law_due)) (g__law_due : mg "_law_due" = some (.ref f__law_due)) (k__law_due : PySem.W.keepIn K (.ref f__law_due) = true) (b__law_due : Binds K d__law_due ["_law_pairs"] [])
    (m_repr : mg "repr" = none)
    {spec : FSpec} (rd : ∀ os Qa, os.length = 1 → spec os Qa → t__law_right (endsOf [true] Qa) (startA 8 os)) : FnG P w K mg base CX0 (8 + 1) f fd ["_law_deck_here"] (ASp K [true] spec) := by
  refine fng_okC (N := ["_law_deck_here", "_law_told_here", "_law_due_here", "_law_four", "_law_one", "_law_three", "_law_two", "_law_turn"]) [true] t__law_right F sc__law_right rfl (fun cdv A outer s H E hcd hr B => ?_) rd
  have lam := L__law_right
  rw [hcd] at lam
  have hr0 := hr.mono (Nat.zero_le _)
  have hu := hr0.room.un
  have nd := sc__law_right.nd
  exact by_t (sxs_cons (sx_asg (ex_lc rfl nd (ix_range1 (by rfl) m_range (exs_cons ex_int exs_nil)) (blkOk_by (own := [("_law_turn", 7)]) (by rfl)) (fun _ _ _ _ _ => (gx_name 7 nd rfl (by first | exact Or.inl rfl | exact Or.inr rfl))) (fun _ _ _ _ _ => bxs_nil) (fun _ _ _ _ _ => (ex_callG F__law_cost (hr.mono (by omega)) (by rfl) g__law_cost k__law_cost b__law_cost (exs_cons (ex_name 0) exs_nil)))) (gx_unl (n := 4) rfl (gxs_cons (gx_name 4 nd rfl (Or.inr rfl)) (gxs_cons (gx_name 6 nd rfl (Or.inr rfl)) (gxs_cons (gx_name 5 nd rfl (Or.inr rfl)) (gxs_cons (gx_name 3 nd rfl (Or.inr rfl)) gxs_nil))))))
    (sxs_cons (sx_set 1 nd rfl (Or.inl rfl) (ex_lst (exs_cons (ex_lamcall (k := 6) (by rfl) g__law_told D__law_told b__law_told sc__law_told rfl (Or.inl rfl) giv__law_told_ pl__law_told lam (hr.mono (by omega)) (show LamX.LamS (defScope (top 27)) _ from LamX.lamS_by (by decide +kernel)) rfl (fun _ _ _ _ _ => rfl) (fun A outer s H E f c' hr2 B Ea tkL => (ex_callKw (fl := []) (F_priced [] (by decide +kernel) (by decide)) (hr2.mono (by omega)) (by rfl) g_priced k_priced tkL kxs_nil))) exs_nil)))
    (sxs_cons (sx_expr (ex_append 1 rfl (ex_lamcall (k := 6) (by rfl) g__law_told D__law_told b__law_told sc__law_told rfl (Or.inl rfl) giv__law_told_ pl__law_told lam (hr.mono (by omega)) (show LamX.LamS (defScope (top 27)) _ from LamX.lamS_by (by decide +kernel)) rfl (fun _ _ _ _ _ => rfl) (fun A outer s H E f c' hr2 B Ea tkL => (ex_callKw (fl := [false]) (F_priced ["s"] (by decide +kernel) (by decide)) (hr2.mono (by omega)) (by rfl) g_priced k_priced tkL (kxs_cons (ex_name 4) kxs_nil))))))
    (sxs_cons (sx_expr (ex_append 1 rfl (ex_lamcall (k := 6) (by rfl) g__law_told D__law_told b__law_told sc__law_told rfl (Or.inl rfl) giv__law_told_ pl__law_told lam (hr.mono (by omega)) (show LamX.LamS (defScope (top 27)) _ from LamX.lamS_by (by decide +kernel)) rfl (fun _ _ _ _ _ => rfl) (fun A outer s H E f c' hr2 B Ea tkL => (ex_callKw (fl := [false, false]) (F_priced ["m", "a"] (by decide +kernel) (by decide)) (hr2.mono (by omega)) (by rfl) g_priced k_priced tkL (kxs_cons (ex_name 6) (kxs_cons (ex_name 4) kxs_nil)))))))
    (sxs_cons (sx_set 2 nd rfl (Or.inl rfl) (ex_lst (exs_cons (ex_tup (exs_cons ex_str (exs_cons (ex_tup exs_nil) exs_nil))) (exs_cons (ex_callG F__law_due (hr.mono (by omega)) (by rfl) g__law_due k__law_due b__law_due (exs_cons (ex_lst (exs_cons (ex_tup (exs_cons ex_str (exs_cons (ex_name 4) exs_nil))) exs_nil)) exs_nil)) (exs_cons (ex_callG F__law_due (hr.mono (by omega)) (by rfl) g__law_due k__law_due b__law_due (exs_cons (ex_lst (exs_cons (ex_tup (exs_cons ex_str (exs_cons (ex_name 6) exs_nil))) (exs_cons (ex_tup (exs_cons ex_str (exs_cons (ex_name 4) exs_nil))) exs_nil))) exs_nil)) exs_nil)))))
    (sxs_cons (sx_expr (ex_append 1 rfl (ex_lamcall (k := 6) (by rfl) g__law_told D__law_told b__law_told sc__law_told rfl (Or.inl rfl) giv__law_told_ pl__law_told lam (hr.mono (by omega)) (show LamX.LamS (defScope (top 27)) _ from LamX.lamS_by (by decide +kernel)) rfl (fun _ _ _ _ _ => rfl) (fun A outer s H E f c' hr2 B Ea tkL => (ex_callKw (fl := [false, false, false, false]) (F_priced ["zebra", "alpha", "mid", "eightabc"] (by decide +kernel) (by decide)) (hr2.mono (by omega)) (by rfl) g_priced k_priced tkL (kxs_cons (ex_name 4) (kxs_cons (ex_name 6) (kxs_cons (ex_name 5) (kxs_cons (ex_name 3) kxs_nil)))))))))
    (sxs_cons (sx_expr (ex_append 2 rfl (ex_callG F__law_due (hr.mono (by omega)) (by rfl) g__law_due k__law_due b__law_due (exs_cons (ex_lst (exs_cons (ex_tup (exs_cons ex_str (exs_cons (ex_name 4) exs_nil))) (exs_cons (ex_tup (exs_cons ex_str (exs_cons (ex_name 6) exs_nil))) (exs_cons (ex_tup (exs_cons ex_str (exs_cons (ex_name 5) exs_nil))) (exs_cons (ex_tup (exs_cons ex_str (exs_cons (ex_name 3) exs_nil))) exs_nil))))) exs_nil))))
    (sxs_cons (sx_expr (ex_append 1 rfl (ex_lamcall (k := 6) (by rfl) g__law_told D__law_told b__law_told sc__law_told rfl (Or.inl rfl) giv__law_told_ pl__law_told lam (hr.mono (by omega)) (show LamX.LamS (defScope (top 27)) _ from LamX.lamS_by (by decide +kernel)) rfl (fun _ _ _ _ _ => rfl) (fun A outer s H E f c' hr2 B Ea tkL => (ex_callKw (fl := [false, false, false]) (F_priced ["b", "A", "x1"] (by decide +kernel) (by decide)) (hr2.mono (by omega)) (by rfl) g_priced k_priced tkL (kxs_cons (ex_name 4) (kxs_cons (ex_name 6) (kxs_cons (ex_name 5) kxs_nil))))))))
    (sxs_cons (sx_expr (ex_append 2 rfl (ex_callG F__law_due (hr.mono (by omega)) (by rfl) g__law_due k__law_due b__law_due (exs_cons (ex_lst (exs_cons (ex_tup (exs_cons ex_str (exs_cons (ex_name 4) exs_nil))) (exs_cons (ex_tup (exs_cons ex_str (exs_cons (ex_name 6) exs_nil))) (exs_cons (ex_tup (exs_cons ex_str (exs_cons (ex_name 5) exs_nil))) exs_nil)))) exs_nil))))
    (sxs_cons (sx_expr (ex_append 1 rfl (ex_lamcall (k := 6) (by rfl) g__law_told D__law_told b__law_told sc__law_told rfl (Or.inl rfl) giv__law_told_ pl__law_told lam (hr.mono (by omega)) (show LamX.LamS (defScope (top 27)) _ from LamX.lamS_by (by decide +kernel)) rfl (fun _ _ _ _ _ => rfl) (fun A outer s H E f c' hr2 B Ea tkL => (ex_callKw (fl := [false, false]) (F_priced ["ninechars", "a"] (by decide +kernel) (by decide)) (hr2.mono (by omega)) (by rfl) g_priced k_priced tkL (kxs_cons (ex_name 4) (kxs_cons (ex_name 6) kxs_nil)))))))
    (sxs_cons (sx_expr (ex_append 2 rfl (ex_callG F__law_due (hr.mono (by omega)) (by rfl) g__law_due k__law_due b__law_due (exs_cons (ex_lst (exs_cons (ex_tup (exs_cons ex_str (exs_cons (ex_name 4) exs_nil))) (exs_cons (ex_tup (exs_cons ex_str (exs_cons (ex_name 6) exs_nil))) exs_nil))) exs_nil))))
    (sxs_one (sx_ret (ex_cmp (opA_eq hu) (ex_callB (callA_repr hr0) (by rfl) m_repr bn_repr (exs_cons (ex_name 1) exs_nil)) (ex_callB (callA_repr hr0) (by rfl) m_repr bn_repr (exs_cons (ex_name 2) exs_nil)) (nomark _))))))))))))))) (by rfl)
theorem sc__law_many_right : FnScope ["_law_deck_here", "_law_some", "_law_names_here", "_law_due_here", "_law_told_here", "_law_v0", "_law_v1", "_law_v2", "_law_v3", "_law_v4", "_law_v5", "_law_v6", "_law_v7", "_law_v8", "_law_v9", "_law_w0", "_law_w1", "_law_turn"] ["_law_deck_here"] (defScope (top 28)) := ⟨rfl, rfl, rfl, by decide +kernel, rfl, by decide +kernel, by decide +kernel⟩
theorem ok__law_many_right {P : Program} {w : World} {K : PySem.W.Frag} {mg : Str → Option Value} {base : Heap} {f : Addr} {fd : FuncData} (F : FnP K "_law_many_right" (top 28) f fd)
    (m_range : mg "range" = none)
    {f__law_draw : Addr} {d__law_draw : FuncData} (F__law_draw : FnG P w K mg base CX0 1 f__law_draw d__law_draw ["_law_deck_here", "_law_many"] (ASp K [true, false] sp__law_draw)) (g__law_draw : mg "_law_draw" = some (.ref f__law_draw)) (k__law_draw : PySem.W.keepIn K (.ref f__law_draw) = true) (b__law_draw : Binds K d__law_draw ["_law_deck_here", "_law_many"] [])
    {f__law_any : Addr} {d__law_any : FuncData} (F__law_any : FnG P w K mg base CX0 2 f__law_any d__law_any ["_law_deck_here", "_law_items"] (ASp K [true, false] sp__law_any)) (g__law_any : mg "_law_any" = some (.ref f__law_any)) (k__law_any : PySem.W.keepIn K (.ref f__law_any) = true) (b__law_any : Binds K d__law_any ["_law_deck_here", "_law_items"] [])
    {f__law_cost : Addr} {d__law_cost : FuncData} (F__law_cost : FnG P w K mg base CX0 3 f__law_cost d__law_cost ["_law_deck_here"] (ASp K [true] sp__law_cost)) (g__law_cost : mg "_law_cost" = some (.ref f__law_cost)) (k__law_cost : PySem.W.keepIn K (.ref f__law_cost) = true) (b__law_cost : Binds K d__law_cost ["_law_deck_here"] [])
    (m_list : mg "list" = none)
    (m_zip : mg "zip" = none)
    {f__law_due : Addr} {d__law_due : FuncData} (F__law_due : FnG P w K mg base CX0 4 f__law_due d__law_due ["_law_pairs"] (ASp K [false] sp__law_due)) (g__law_due : mg "_law_due" = some (.ref f__law_due)) (k__law_due : PySem.W.keepIn K (.ref f__law_due) = true) (b__law_due : Binds K d__law_due ["_law_pairs"] [])
    {c__law_many_right P__law_many_right : Addr} (L__law_many_right : LamD base mg fd.code (("_law_many_right" : Str) ++ ".<locals>." ++ "<lambda>") c__law_many_right P__law_many_right)
    {f__law_told : Addr} {d__law_told : FuncData} (giv__law_told_ : GivesT P w K mg base ["_law_ask", "_law_caught", "_law_told_here", "error"] "_law_told" (defScope (top 24)) "_law_ask" (defBody (top 24)) t__law_told) (D__law_told : FnP K "_law_told" (top 24) f__law_told d__law_told) (g__law_told : mg "_law_told" = some (.ref f__law_told)) (b__law_told : Binds K d__law_told ["_law_ask"] [])
    {f_priced : Addr} (F_priced : ∀ ks : List Str, ks.Nodup → ks.length ≤ 64 → FnW P w K mg base (L2.CX P w) 4 f_priced ks (ASpE K ks.length (kwSp ks sp_priced))) (g_priced : mg "priced" = some (.ref f_priced)) (k_priced : PySem.W.keepIn K (.ref f_priced) = true)
    (m_repr : mg "repr" = none)
    {spec : FSpec} (rd : ∀ os Qa, os.length = 1 → spec os Qa → t__law_many_right (endsOf [true] Qa) (startA 18 os)) : FnG P w K mg base CX0 (8 + 1) f fd ["_law_deck_here"] (ASp K [true] spec) := by
  refine fng_okC (N := ["_law_deck_here", "_law_some", "_law_names_here", "_law_due_here", "_law_told_here", "_law_v0", "_law_v1", "_law_v2", "_law_v3", "_law_v4", "_law_v5", "_law_v6", "_law_v7", "_law_v8", "_law_v9", "_law_w0", "_law_w1", "_law_turn"]) [true] t__law_many_right F sc__law_many_right rfl (fun cdv A outer s H E hcd hr B => ?_) rd
  have lam := L__law_many_right
  rw [hcd] at lam
  have hr0 := hr.mono (Nat.zero_le _)
  have hu := hr0.room.un
  have nd := sc__law_many_right.nd
  exact by_t (sxs_cons (sx_setLc 1  rfl nd rfl rfl rfl (ix_range1 (by rfl) m_range (exs_cons ex_int exs_nil)) (blkOk_by (own := [("_law_turn", 17)]) (by rfl)) (fun _ _ _ _ _ => (gx_name 17 nd rfl (by first | exact Or.inl rfl | exact Or.inr rfl))) (fun _ _ _ _ _ => bxs_nil) (fun _ _ _ _ _ => (ex_callG F__law_any (hr.mono (by omega)) (by rfl) g__law_any k__law_any b__law_any (exs_cons (ex_name 0) (exs_cons (ex_lst (exs_cons ex_int (exs_cons (ex_bin opA_pow ex_int ex_int) (exs_cons (ex_bin opA_add ex_int (ex_callG F__law_draw (hr.mono (by omega)) (by rfl) g__law_draw k__law_draw b__law_draw (exs_cons (ex_name 0) (exs_cons (ex_bin opA_pow ex_int ex_int) exs_nil)))) exs_nil)))) exs_nil)))))
    (sxs_cons (sx_if (tx_cmp (opA_eq hu) (ex_callG F__law_draw (hr.mono (by omega)) (by rfl) g__law_draw k__law_draw b__law_draw (exs_cons (ex_name 0) (exs_cons ex_int exs_nil))) ex_int (nomark _)) (sxs_one (sx_set 1 nd rfl (Or.inl rfl) (ex_bin opA_add (ex_slice (ex_name 1) ox_none (ox_some ex_int)) (ex_lst (exs_cons (ex_callG F__law_cost (hr.mono (by omega)) (by rfl) g__law_cost k__law_cost b__law_cost (exs_cons (ex_name 0) exs_nil)) exs_nil))))) sxs_nil)
    (sxs_cons (sx_set 2 nd rfl (Or.inl rfl) (ex_lst (exs_cons ex_str (exs_cons ex_str (exs_cons ex_str (exs_cons ex_str (exs_cons ex_str (exs_cons ex_str (exs_cons ex_str (exs_cons ex_str (exs_cons ex_str (exs_cons ex_str (exs_cons ex_str (exs_cons ex_str exs_nil))))))))))))))
    (sxs_cons (sx_set 3 nd rfl (Or.inl rfl) (ex_callG F__law_due (hr.mono (by omega)) (by rfl) g__law_due k__law_due b__law_due (exs_cons (ZL.ex_listZipL rfl (by rfl) m_list (by rfl) m_zip (exs_cons (ex_name 2) (exs_cons (ex_name 1) exs_nil))) exs_nil)))
    (sxs_cons (sx_asg (ex_slice (ex_name 1) ox_none (ox_some ex_int)) (gx_unl (n := 6) rfl (gxs_cons (gx_name 5 nd rfl (Or.inr rfl)) (gxs_cons (gx_name 6 nd rfl (Or.inr rfl)) (gxs_cons (gx_name 7 nd rfl (Or.inr rfl)) (gxs_cons (gx_name 8 nd rfl (Or.inr rfl)) (gxs_cons (gx_name 9 nd rfl (Or.inr rfl)) (gxs_cons (gx_name 10 nd rfl (Or.inr rfl)) gxs_nil))))))))
    (sxs_cons (sx_asg (ex_slice (ex_name 1) (ox_some ex_int) ox_none) (gx_unl (n := 6) rfl (gxs_cons (gx_name 11 nd rfl (Or.inr rfl)) (gxs_cons (gx_name 12 nd rfl (Or.inr rfl)) (gxs_cons (gx_name 13 nd rfl (Or.inr rfl)) (gxs_cons (gx_name 14 nd rfl (Or.inr rfl)) (gxs_cons (gx_name 15 nd rfl (Or.inr rfl)) (gxs_cons (gx_name 16 nd rfl (Or.inr rfl)) gxs_nil))))))))
    (sxs_cons (sx_set 4 nd rfl (Or.inl rfl) (ex_lamcall (k := 6) (by rfl) g__law_told D__law_told b__law_told sc__law_told rfl (Or.inl rfl) giv__law_told_ pl__law_told lam (hr.mono (by omega)) (show LamX.LamS (defScope (top 28)) _ from LamX.lamS_by (by decide +kernel)) rfl (fun _ _ _ _ _ => rfl) (fun A outer s H E f c' hr2 B Ea tkL => (ex_callKw (fl := [false, false, false, false, false, false, false, false, false, false, false, false]) (F_priced ["d", "b", "zz", "m", "ab", "x", "aa", "p", "s", "c", "yy", "da"] (by decide +kernel) (by decide)) (hr2.mono (by omega)) (by rfl) g_priced k_priced tkL (kxs_cons (ex_name 5) (kxs_cons (ex_name 6) (kxs_cons (ex_name 7) (kxs_cons (ex_name 8) (kxs_cons (ex_name 9) (kxs_cons (ex_name 10) (kxs_cons (ex_name 11) (kxs_cons (ex_name 12) (kxs_cons (ex_name 13) (kxs_cons (ex_name 14) (kxs_cons (ex_name 15) (kxs_cons (ex_name 16) kxs_nil))))))))))))))))
    (sxs_one (sx_ret (ex_cmp (opA_eq hu) (ex_callB (callA_repr hr0) (by rfl) m_repr bn_repr (exs_cons (ex_name 4) exs_nil)) (ex_callB (callA_repr hr0) (by rfl) m_repr bn_repr (exs_cons (ex_name 3) exs_nil)) (nomark _))))))))))) (by rfl)
theorem sc__law_sum_right : FnScope ["_law_deck_here", "_law_services", "_law_costs_here", "_law_schedule", "_law_known", "_law_due_here", "_law_turn", "_law_service", "_law_release"] ["_law_deck_here"] (defScope (top 29)) := ⟨rfl, rfl, rfl, by decide +kernel, rfl, by decide +kernel, by decide +kernel⟩
theorem ok__law_sum_right {P : Program} {w : World} {K : PySem.W.Frag} {mg : Str → Option Value} {base : Heap} {f : Addr} {fd : FuncData} (F : FnP K "_law_sum_right" (top 29) f fd)
    {f__law_names : Addr} {d__law_names : FuncData} (F__law_names : FnG P w K mg base CX0 3 f__law_names d__law_names ["_law_deck_here", "_law_many"] (ASp K [true, false] sp__law_names)) (g__law_names : mg "_law_names" = some (.ref f__law_names)) (k__law_names : PySem.W.keepIn K (.ref f__law_names) = true) (b__law_names : Binds K d__law_names ["_law_deck_here", "_law_many"] [])
    (m_tuple : mg "tuple" = none)
    {f__law_costs : Addr} {d__law_costs : FuncData} (F__law_costs : FnG P w K mg base CX0 3 f__law_costs d__law_costs ["_law_deck_here", "_law_network"] (ASp K [true, false] sp__law_costs)) (g__law_costs : mg "_law_costs" = some (.ref f__law_costs)) (k__law_costs : PySem.W.keepIn K (.ref f__law_costs) = true) (b__law_costs : Binds K d__law_costs ["_law_deck_here", "_law_network"] [])
    {f__law_draw : Addr} {d__law_draw : FuncData} (F__law_draw : FnG P w K mg base CX0 1 f__law_draw d__law_draw ["_law_deck_here", "_law_many"] (ASp K [true, false] sp__law_draw)) (g__law_draw : mg "_law_draw" = some (.ref f__law_draw)) (k__law_draw : PySem.W.keepIn K (.ref f__law_draw) = true) (b__law_draw : Binds K d__law_draw ["_law_deck_here", "_law_many"] [])
    (m_range : mg "range" = none)
    {f__law_any : Addr} {d__law_any : FuncData} (F__law_any : FnG P w K mg base CX0 2 f__law_any d__law_any ["_law_deck_here", "_law_items"] (ASp K [true, false] sp__law_any)) (g__law_any : mg "_law_any" = some (.ref f__law_any)) (k__law_any : PySem.W.keepIn K (.ref f__law_any) = true) (b__law_any : Binds K d__law_any ["_law_deck_here", "_law_items"] [])
    (m_list : mg "list" = none)
    (m_dict : mg "dict" = none)
    (m_sum : mg "sum" = none)
    {f_price_of : Addr} {d_price_of : FuncData} (F_price_of : FnG P w K mg base CX0 2 f_price_of d_price_of ["schedule", "prices"] (ASp K [false, false] sp_price_of)) (g_price_of : mg "price_of" = some (.ref f_price_of)) (k_price_of : PySem.W.keepIn K (.ref f_price_of) = true) (b_price_of : Binds K d_price_of ["schedule", "prices"] [])
    (m_repr : mg "repr" = none)
    {spec : FSpec} (rd : ∀ os Qa, os.length = 1 → spec os Qa → t__law_sum_right (endsOf [true] Qa) (startA 9 os)) : FnG P w K mg base CX0 (3 + 1) f fd ["_law_deck_here"] (ASp K [true] spec) := by
  refine fng_ok (N := ["_law_deck_here", "_law_services", "_law_costs_here", "_law_schedule", "_law_known", "_law_due_here", "_law_turn", "_law_service", "_law_release"]) [true] t__law_sum_right F sc__law_sum_right rfl (fun cdv A outer s H E hr B => ?_) rd
  have hr0 := hr.mono (Nat.zero_le _)
  have hu := hr0.room.un
  have nd := sc__law_sum_right.nd
  exact by_t (sxs_cons (sx_set 1 nd rfl (Or.inr rfl) (ex_callG F__law_names (hr.mono (by omega)) (by rfl) g__law_names k__law_names b__law_names (exs_cons (ex_name 0) (exs_cons ex_int exs_nil))))
    (sxs_cons (sx_set 2 nd rfl (Or.inl rfl) (ex_callG F__law_costs (hr.mono (by omega)) (by rfl) g__law_costs k__law_costs b__law_costs (exs_cons (ex_name 0) (exs_cons (ex_tup (exs_cons (ex_callTy (callA_tuple rfl) (by rfl) m_tuple bn_tuple (exs_cons (ex_name 1) exs_nil)) (exs_cons (ex_tup exs_nil) exs_nil))) exs_nil))))
    (sxs_cons (sx_set 3 nd rfl (Or.inl rfl) (ex_callTy (callA_tuple rfl) (by rfl) m_tuple bn_tuple (exs_cons (ex_lc rfl nd (ix_range1 (by rfl) m_range (exs_cons (ex_callG F__law_draw (hr.mono (by omega)) (by rfl) g__law_draw k__law_draw b__law_draw (exs_cons (ex_name 0) (exs_cons ex_int exs_nil))) exs_nil)) (blkOk_by (own := [("_law_turn", 6)]) (by rfl)) (fun _ _ _ _ _ => (gx_name 6 nd rfl (by first | exact Or.inl rfl | exact Or.inr rfl))) (fun _ _ _ _ _ => bxs_nil) (fun _ _ _ _ _ => (ex_tup (exs_cons (ex_callG F__law_any (hr.mono (by omega)) (by rfl) g__law_any k__law_any b__law_any (exs_cons (ex_name 0) (exs_cons (ex_name 1) exs_nil))) (exs_cons (ex_callG F__law_any (hr.mono (by omega)) (by rfl) g__law_any k__law_any b__law_any (exs_cons (ex_name 0) (exs_cons (ex_lst (exs_cons ex_str (exs_cons ex_str exs_nil))) exs_nil))) exs_nil))))) exs_nil)))
    (sxs_cons (sx_set 4 nd rfl (Or.inr rfl) (ex_callTy (callA_dictP rfl) (by rfl) m_dict bn_dict (exs_cons (ex_callTy (callA_list rfl) (by rfl) m_list bn_list (exs_cons (ex_name 2) exs_nil)) exs_nil)))
    (sxs_cons (sx_set 5 nd rfl (Or.inl rfl) (ex_callB (callA_sum rfl) (by rfl) m_sum bn_sum (exs_cons (ex_lc rfl nd (ix_any (ex_name 3)) (blkOk_by (own := [("_law_service", 7), ("_law_release", 8)]) (by rfl)) (fun _ _ _ _ _ => (gx_tup (n := 2) rfl (gxs_cons (gx_name 7 nd rfl (by first | exact Or.inl rfl | exact Or.inr rfl)) (gxs_cons (gx_name 8 nd rfl (by first | exact Or.inl rfl | exact Or.inr rfl)) gxs_nil)))) (fun _ _ _ _ _ => bxs_nil) (fun _ _ _ _ _ => (ex_getD 4 (hu1 hu) rfl (ex_name 7) ex_int ⟨rfl, rfl, rfl, rfl⟩))) exs_nil)))
    (sxs_one (sx_ret (ex_cmp (opA_eq hu) (ex_callB (callA_repr hr0) (by rfl) m_repr bn_repr (exs_cons (ex_callG F_price_of (hr.mono (by omega)) (by rfl) g_price_of k_price_of b_price_of (exs_cons (ex_name 3) (exs_cons (ex_name 2) exs_nil))) exs_nil)) (ex_callB (callA_repr hr0) (by rfl) m_repr bn_repr (exs_cons (ex_name 5) exs_nil)) (nomark _))))))))) (by rfl)
theorem sc_law : FnScope ["_law_script", "_law_k", "_law_deck_here", "_law_turn"] ["_law_script"] (defScope (top 30)) := ⟨rfl, rfl, rfl, by decide +kernel, rfl, by decide +kernel, by decide +kernel⟩
theorem ok_law {P : Program} {w : World} {K : PySem.W.Frag} {mg : Str → Option Value} {base : Heap} {f : Addr} {fd : FuncData} (F : FnP K "law" (top 30) f fd)
    (m_len : mg "len" = none)
    (m_min : mg "min" = none)
    (m_max : mg "max" = none)
    (m_range : mg "range" = none)
    {f__law_deck : Addr} {d__law_deck : FuncData} (F__law_deck : FnG P w K mg base CX0 1 f__law_deck d__law_deck ["_law_script", "_law_k"] (ASp K [false, false] sp__law_deck)) (g__law_deck : mg "_law_deck" = some (.ref f__law_deck)) (k__law_deck : PySem.W.keepIn K (.ref f__law_deck) = true) (b__law_deck : Binds K d__law_deck ["_law_script", "_law_k"] [])
    {f__law_right : Addr} {d__law_right : FuncData} (F__law_right : FnG P w K mg base CX0 9 f__law_right d__law_right ["_law_deck_here"] (ASp K [true] sp__law_right)) (g__law_right : mg "_law_right" = some (.ref f__law_right)) (k__law_right : PySem.W.keepIn K (.ref f__law_right) = true) (b__law_right : Binds K d__law_right ["_law_deck_here"] [])
    {f__law_sum_right : Addr} {d__law_sum_right : FuncData} (F__law_sum_right : FnG P w K mg base CX0 4 f__law_sum_right d__law_sum_right ["_law_deck_here"] (ASp K [true] sp__law_sum_right)) (g__law_sum_right : mg "_law_sum_right" = some (.ref f__law_sum_right)) (k__law_sum_right : PySem.W.keepIn K (.ref f__law_sum_right) = true) (b__law_sum_right : Binds K d__law_sum_right ["_law_deck_here"] [])
    {f__law_many_right : Addr} {d__law_many_right : FuncData} (F__law_many_right : FnG P w K mg base CX0 9 f__law_many_right d__law_many_right ["_law_deck_here"] (ASp K [true] sp__law_many_right)) (g__law_many_right : mg "_law_many_right" = some (.ref f__law_many_right)) (k__law_many_right : PySem.W.keepIn K (.ref f__law_many_right) = true) (b__law_many_right : Binds K d__law_many_right ["_law_deck_here"] [])
    {f_price_of : Addr} {d_price_of : FuncData} (F_price_of : FnG P w K mg base CX0 2 f_price_of d_price_of ["schedule", "prices"] (ASp K [false, false] sp_price_of)) (g_price_of : mg "price_of" = some (.ref f_price_of)) (k_price_of : PySem.W.keepIn K (.ref f_price_of) = true) (b_price_of : Binds K d_price_of ["schedule", "prices"] [])
    {spec : FSpec} (rd : ∀ os Qa, os.length = 1 → spec os Qa → t_law (endsOf [false] Qa) (startA 4 os)) : FnG P w K mg base CX0 (9 + 1) f fd ["_law_script"] (ASp K [false] spec) := by
  refine fng_ok (N := ["_law_script", "_law_k", "_law_deck_here", "_law_turn"]) [false] t_law F sc_law rfl (fun cdv A outer s H E hr B => ?_) rd
  have hr0 := hr.mono (Nat.zero_le _)
  have hu := hr0.room.un
  have nd := sc_law.nd
  exact by_t (sxs_cons (sx_for PassesOwn.never rfl (ix_range1 (by rfl) m_range (exs_cons (ex_callB (callA_max2 rfl) (by rfl) m_max bn_max (exs_cons ex_int (exs_cons (ex_callB (callA_min2 rfl) (by rfl) m_min bn_min (exs_cons ex_int (exs_cons (ex_callB callA_len (by rfl) m_len bn_len (exs_cons (ex_name 0) exs_nil)) exs_nil))) exs_nil))) exs_nil)) (gx_name 1 nd rfl (Or.inl rfl)) (sxs_cons (sx_set 2 nd rfl (Or.inl rfl) (ex_callG F__law_deck (hr.mono (by omega)) (by rfl) g__law_deck k__law_deck b__law_deck (exs_cons (ex_name 0) (exs_cons (ex_name 1) exs_nil))))
    (sxs_one (sx_for PassesOwn.never rfl (ix_range1 (by rfl) m_range (exs_cons ex_int exs_nil)) (gx_name 3 nd rfl (Or.inl rfl)) (sxs_one (sx_if (wx_or (tx_not (tx_val (ex_callG F__law_right (hr.mono (by omega)) (by rfl) g__law_right k__law_right b__law_right (exs_cons (ex_name 2) exs_nil)))) (wx_or (tx_not (tx_val (ex_callG F__law_sum_right (hr.mono (by omega)) (by rfl) g__law_sum_right k__law_sum_right b__law_sum_right (exs_cons (ex_name 2) exs_nil)))) (wx_or1 (tx_not (tx_val (ex_callG F__law_many_right (hr.mono (by omega)) (by rfl) g__law_many_right k__law_many_right b__law_many_right (exs_cons (ex_name 2) exs_nil))))))).tx (sxs_one (sx_ret ex_bl)) sxs_nil))))))
    (sxs_one (sx_ret (ex_cmp (opA_eq hu) (ex_callG F_price_of (hr.mono (by omega)) (by rfl) g_price_of k_price_of b_price_of (exs_cons (ex_bin opA_mul3 (ex_tup (exs_cons (ex_tup (exs_cons ex_str (exs_cons ex_str exs_nil))) exs_nil)) ex_int) (exs_cons (ex_tup (exs_cons (ex_tup (exs_cons ex_str (exs_cons (ex_bin opA_pow ex_int ex_int) exs_nil))) exs_nil)) exs_nil))) (ex_bin opA_mul3 ex_int (ex_bin opA_pow ex_int ex_int)) (nomark _))))) (by rfl)
end WK
namespace Hd
open PySem PySem.Spec PyProof.Rows L2
def top (i : Nat) : Stmt := PySem.Challenge.pw_gridupgrade_k38_prices_by_keywords.main.body.getD i (.Pass ⟨0, 0, 0, 0⟩)
def mkD (x : Str) (st : Stmt) : He.DefD := ⟨(x, none), x, x, defArgs st, defBody st, defScope st, [], []⟩
def mkM (C x : Str) (st : Stmt) : He.DefD := ⟨(C, some x), x, C ++ "." ++ x, defArgs st, defBody st, defScope st, [], []⟩
def fn : List He.DefD := [mkD "is_integer" (top 8), mkD "is_name" (top 9), mkD "is_price" (top 13), mkD "priced" (top 14), mkD "price_beside" (top 15), mkD "price_of" (top 16), mkD "_law_deck" (top 18), mkD "_law_draw" (top 19), mkD "_law_any" (top 20), mkD "_law_names" (top 21), mkD "_law_is_number" (top 22), mkD "_law_costs" (top 23), mkD "_law_told" (top 24), mkD "_law_due" (top 25), mkD "_law_cost" (top 26), mkD "_law_right" (top 27), mkD "_law_many_right" (top 28), mkD "_law_sum_right" (top 29), mkD "law" (top 30), mkM "BadPath" "__init__" (DL.clsSt (top 2) 0), mkM "BadPrice" "__init__" (DL.clsSt (top 3) 0), mkM "BadText" "__init__" (DL.clsSt (top 4) 0)]
def fa : List He.Fa := [.glo "is_integer", .glo "is_name", .glo "is_price", .glo "priced", .glo "price_beside", .glo "price_of", .glo "_law_deck", .glo "_law_draw", .glo "_law_any", .glo "_law_names", .glo "_law_is_number", .glo "_law_costs", .glo "_law_told", .glo "_law_due", .glo "_law_cost", .glo "_law_right", .glo "_law_many_right", .glo "_law_sum_right", .glo "law", .glo "UpgradeError", .glo "BadPath", .glo "BadPrice", .glo "BadText", .free "ValueError", .free "all", .free "sorted", .free "tuple", .free "sum", .free "dict", .free "range", .free "isinstance", .free "int", .free "len", .free "repr", .free "list", .free "max", .free "bool", .free "str", .free "abs", .free "zip", .free "min", .str "LETTERS" "abcdefghijklmnopqrstuvwxyz", .int "MOST_LETTERS" 8, .int "GREATEST_PRICE" 1000000, .int "USUAL_PRICE" 1]
def tf : List He.Defn := [("_law_right", none), ("_law_due", none), ("_law_many_right", none)]
def nms : List Str := ["BadPath", "BadPrice", "BadText"]
def ex (K : PySem.W.Frag) : Bool := (nms.all fun m => DL.excB K (He.ga K m)) && (DL.exc1B K (He.ga K "BadPath") "value" && (DL.exc1B K (He.ga K "BadPrice") "name" && (DL.exc1B K (He.ga K "BadText") "value" && (DL.baseB K (He.ga K "UpgradeError") && ((nms.all fun m => DL.eqS (PySem.W.findIn K (.ref (He.ga K m)) "name") (some none)) && (decide ((He.cT K ("_law_right", none)).2 ≠ (He.cT K ("_law_due", none)).2) && (decide ((He.cT K ("_law_right", none)).2 ≠ (He.cT K ("_law_many_right", none)).2) && (decide ((He.cT K ("_law_due", none)).2 ≠ (He.cT K ("_law_many_right", none)).2) && (DL.exmB K nms (.ref (He.ga K "UpgradeError")) (DL.exSub ["BadPath", "BadPrice", "BadText"]) && (DL.kitB1 K nms (.ref (He.ga K "BadPrice")) (DL.exSub ["BadPrice"]) && (DL.kitB1 K nms (.ref (He.ga K "BadPath")) (DL.exSub ["BadPath"]) && (DL.kitB1 K nms (.ref (He.ga K "BadText")) (DL.exSub ["BadText"]) && (DL.kitB1 K nms (.type "ValueError") (DL.exSub ["BadPath", "BadPrice", "BadText"]))))))))))))))
abbrev R : PySem.W.OpenRow := PySem.W.OpenLaw.row PySem.Challenge.rw_gridupgrade_k38_prices_by_keywords
abbrev hk : PySem.W.Hook := DL.hookY 5 fa fn tf ex
def ob (s : PySem.W.SharedT) : He.AlX := DL.obsY 5 fa fn tf ex (HandSHeadRun.getT s)
theorem ob_eq (s : PySem.W.SharedT) : ob s = hk.obs s.abs := DL.obsY_eq (HandSHeadRun.getT_eq s)
def lo0 : List PySem.Str := ["UpgradeError", "BadPath", "BadPrice", "BadText", "LETTERS", "MOST_LETTERS", "is_integer", "is_name", "GREATEST_PRICE", "USUAL_PRICE", "is_price", "priced", "price_beside", "price_of", "_law_deck", "_law_draw", "_law_any", "_law_names", "_law_is_number", "_law_costs", "_law_told", "_law_due", "_law_cost", "_law_right", "_law_many_right", "_law_sum_right"]
def lo : List PySem.Str := lo0
theorem run (w : World) : HandSHeadRun.RunEq R (PySem.W.view R.prog [30]) hk ob 2260 lo w := by
  intro os
  kernel_rfl
end Hd
namespace Lw
open PySem PySem.Spec L2 DL WK WS
open PyProof.Rows hiding St
theorem law_end {P : Program} (w : World) {K : PySem.W.Frag} {h : Heap} {mg : Str → Option Value} {fa : Addr} (X : K.In h) (Gh : h.Ns mainGlobals mg) (hfa : mg ("law" : Str) = some (.ref fa)) (cx : He.SaysX Hd.fa Hd.fn [] Hd.tf Hd.ex w h K) :
    ∃ (K : PySem.W.Frag) (fd : FuncData) (cs : List (Addr × Addr)) (sp : Sp), K.In h ∧ (∀ p ∈ cs, h.get? p.2 = some { cls := .none, data := .fields #[] }) ∧ (∀ p ∈ cs, K.lookup p.2 = none) ∧ (∀ p ∈ cs, PySem.W.CodeHd h p.1 p.2) ∧
      (∀ (s : Shared) (u : Value), BindsTo s fd ⟨[u], []⟩ [("_law_script", u)]) ∧
      (∀ (H : Hp) (a : Addr) (ns : List Int), ns.length ≤ 63 → OnlyT cs H → SqL K H a (ns.map V.int) → sp [.ref a] H (fun v _ => v = .bl true) fun _ _ _ => False) ∧
      ∀ base : Heap, K.In base → base.Ns mainGlobals mg → (∀ p ∈ cs, LamX.TabB base mg p.1 p.2) → FnG P w K mg base CX0 10 fa fd ["_law_script"] sp := by
  have c := cx.t.d
  have xx := cx.more
  unfold Hd.ex at xx
  obtain ⟨e_exc, xx⟩ := ba2 xx
  obtain ⟨e_one_BadPath, xx⟩ := ba2 xx
  obtain ⟨e_one_BadPrice, xx⟩ := ba2 xx
  obtain ⟨e_one_BadText, xx⟩ := ba2 xx
  obtain ⟨e_base_UpgradeError, xx⟩ := ba2 xx
  obtain ⟨e_no_name, xx⟩ := ba2 xx
  obtain ⟨e_lam_0_1, xx⟩ := ba2 xx
  obtain ⟨e_lam_0_2, xx⟩ := ba2 xx
  obtain ⟨e_lam_1_2, xx⟩ := ba2 xx
  obtain ⟨e_x_UpgradeError, xx⟩ := ba2 xx
  obtain ⟨e_q_BadPrice, xx⟩ := ba2 xx
  obtain ⟨e_q_BadPath, xx⟩ := ba2 xx
  obtain ⟨e_q_BadText, xx⟩ := ba2 xx
  have e_q_ValueError := xx
  letI TT : Tbs := ⟨[((He.cT K ("_law_right", none)).2, (("_law_right" : Str) ++ ".<locals>." ++ "<lambda>")), ((He.cT K ("_law_due", none)).2, (("_law_due" : Str) ++ ".<locals>." ++ "<lambda>")), ((He.cT K ("_law_many_right", none)).2, (("_law_many_right" : Str) ++ ".<locals>." ++ "<lambda>"))], He.ga K, Hd.nms⟩
  have hE : ∀ m ∈ Tbs.nms, ExcC K (Tbs.cad m) := fun m hm => excB_ok (all_mem e_exc m hm)
  have no_name : ∀ m ∈ Tbs.nms, PySem.W.findIn K (.ref (Tbs.cad m)) "name" = some none := fun m hm => of_decide_eq_true (all_mem e_no_name m hm)
  have x_UpgradeError := exmB_ok e_x_UpgradeError
  have q_BadPrice := kitB1_ok e_q_BadPrice
  have q_BadPath := kitB1_ok e_q_BadPath
  have q_BadText := kitB1_ok e_q_BadText
  have q_ValueError := kitB1_ok e_q_ValueError
  obtain ⟨d_is_integer, D_is_integer⟩ := c.def_ 0 (d := Hd.mkD "is_integer" (Hd.top 8)) rfl
  have g_is_integer := He.glo_ok X Gh (c.fact 0 (f := .glo "is_integer") rfl)
  have b_is_integer : Binds K d_is_integer ["value", "least", "greatest"] [] := FunD.bindsN D_is_integer fun _ _ _ _ _ _ us hl => match us, hl with | [_, _, _], _ => rfl
  obtain ⟨d_is_name, D_is_name⟩ := c.def_ 1 (d := Hd.mkD "is_name" (Hd.top 9)) rfl
  have g_is_name := He.glo_ok X Gh (c.fact 1 (f := .glo "is_name") rfl)
  have b_is_name : Binds K d_is_name ["value"] [] := FunD.bindsN D_is_name fun _ _ _ _ _ _ us hl => match us, hl with | [_], _ => rfl
  obtain ⟨d_is_price, D_is_price⟩ := c.def_ 2 (d := Hd.mkD "is_price" (Hd.top 13)) rfl
  have g_is_price := He.glo_ok X Gh (c.fact 2 (f := .glo "is_price") rfl)
  have b_is_price : Binds K d_is_price ["value"] [] := FunD.bindsN D_is_price fun _ _ _ _ _ _ us hl => match us, hl with | [_], _ => rfl
  obtain ⟨d_priced, D_priced⟩ := c.def_ 3 (d := Hd.mkD "priced" (Hd.top 14)) rfl
  have g_priced := He.glo_ok X Gh (c.fact 3 (f := .glo "priced") rfl)
  obtain ⟨d_price_beside, D_price_beside⟩ := c.def_ 4 (d := Hd.mkD "price_beside" (Hd.top 15)) rfl
  have g_price_beside := He.glo_ok X Gh (c.fact 4 (f := .glo "price_beside") rfl)
  have b_price_beside : Binds K d_price_beside ["prices", "service"] [] := FunD.bindsN D_price_beside fun _ _ _ _ _ _ us hl => match us, hl with | [_, _], _ => rfl
  obtain ⟨d_price_of, D_price_of⟩ := c.def_ 5 (d := Hd.mkD "price_of" (Hd.top 16)) rfl
  have g_price_of := He.glo_ok X Gh (c.fact 5 (f := .glo "price_of") rfl)
  have b_price_of : Binds K d_price_of ["schedule", "prices"] [] := FunD.bindsN D_price_of fun _ _ _ _ _ _ us hl => match us, hl with | [_, _], _ => rfl
  obtain ⟨d__law_deck, D__law_deck⟩ := c.def_ 6 (d := Hd.mkD "_law_deck" (Hd.top 18)) rfl
  have g__law_deck := He.glo_ok X Gh (c.fact 6 (f := .glo "_law_deck") rfl)
  have b__law_deck : Binds K d__law_deck ["_law_script", "_law_k"] [] := FunD.bindsN D__law_deck fun _ _ _ _ _ _ us hl => match us, hl with | [_, _], _ => rfl
  obtain ⟨d__law_draw, D__law_draw⟩ := c.def_ 7 (d := Hd.mkD "_law_draw" (Hd.top 19)) rfl
  have g__law_draw := He.glo_ok X Gh (c.fact 7 (f := .glo "_law_draw") rfl)
  have b__law_draw : Binds K d__law_draw ["_law_deck_here", "_law_many"] [] := FunD.bindsN D__law_draw fun _ _ _ _ _ _ us hl => match us, hl with | [_, _], _ => rfl
  obtain ⟨d__law_any, D__law_any⟩ := c.def_ 8 (d := Hd.mkD "_law_any" (Hd.top 20)) rfl
  have g__law_any := He.glo_ok X Gh (c.fact 8 (f := .glo "_law_any") rfl)
  have b__law_any : Binds K d__law_any ["_law_deck_here", "_law_items"] [] := FunD.bindsN D__law_any fun _ _ _ _ _ _ us hl => match us, hl with | [_, _], _ => rfl
  obtain ⟨d__law_names, D__law_names⟩ := c.def_ 9 (d := Hd.mkD "_law_names" (Hd.top 21)) rfl
  have g__law_names := He.glo_ok X Gh (c.fact 9 (f := .glo "_law_names") rfl)
  have b__law_names : Binds K d__law_names ["_law_deck_here", "_law_many"] [] := FunD.bindsN D__law_names fun _ _ _ _ _ _ us hl => match us, hl with | [_, _], _ => rfl
  obtain ⟨d__law_is_number, D__law_is_number⟩ := c.def_ 10 (d := Hd.mkD "_law_is_number" (Hd.top 22)) rfl
  have g__law_is_number := He.glo_ok X Gh (c.fact 10 (f := .glo "_law_is_number") rfl)
  have b__law_is_number : Binds K d__law_is_number ["_law_thing", "_law_least", "_law_most"] [] := FunD.bindsN D__law_is_number fun _ _ _ _ _ _ us hl => match us, hl with | [_, _, _], _ => rfl
  obtain ⟨d__law_costs, D__law_costs⟩ := c.def_ 11 (d := Hd.mkD "_law_costs" (Hd.top 23)) rfl
  have g__law_costs := He.glo_ok X Gh (c.fact 11 (f := .glo "_law_costs") rfl)
  have b__law_costs : Binds K d__law_costs ["_law_deck_here", "_law_network"] [] := FunD.bindsN D__law_costs fun _ _ _ _ _ _ us hl => match us, hl with | [_, _], _ => rfl
  obtain ⟨d__law_told, D__law_told⟩ := c.def_ 12 (d := Hd.mkD "_law_told" (Hd.top 24)) rfl
  have g__law_told := He.glo_ok X Gh (c.fact 12 (f := .glo "_law_told") rfl)
  have b__law_told : Binds K d__law_told ["_law_ask"] [] := FunD.bindsN D__law_told fun _ _ _ _ _ _ us hl => match us, hl with | [_], _ => rfl
  obtain ⟨d__law_due, D__law_due⟩ := c.def_ 13 (d := Hd.mkD "_law_due" (Hd.top 25)) rfl
  have g__law_due := He.glo_ok X Gh (c.fact 13 (f := .glo "_law_due") rfl)
  have b__law_due : Binds K d__law_due ["_law_pairs"] [] := FunD.bindsN D__law_due fun _ _ _ _ _ _ us hl => match us, hl with | [_], _ => rfl
  obtain ⟨d__law_cost, D__law_cost⟩ := c.def_ 14 (d := Hd.mkD "_law_cost" (Hd.top 26)) rfl
  have g__law_cost := He.glo_ok X Gh (c.fact 14 (f := .glo "_law_cost") rfl)
  have b__law_cost : Binds K d__law_cost ["_law_deck_here"] [] := FunD.bindsN D__law_cost fun _ _ _ _ _ _ us hl => match us, hl with | [_], _ => rfl
  obtain ⟨d__law_right, D__law_right⟩ := c.def_ 15 (d := Hd.mkD "_law_right" (Hd.top 27)) rfl
  have g__law_right := He.glo_ok X Gh (c.fact 15 (f := .glo "_law_right") rfl)
  have b__law_right : Binds K d__law_right ["_law_deck_here"] [] := FunD.bindsN D__law_right fun _ _ _ _ _ _ us hl => match us, hl with | [_], _ => rfl
  obtain ⟨d__law_many_right, D__law_many_right⟩ := c.def_ 16 (d := Hd.mkD "_law_many_right" (Hd.top 28)) rfl
  have g__law_many_right := He.glo_ok X Gh (c.fact 16 (f := .glo "_law_many_right") rfl)
  have b__law_many_right : Binds K d__law_many_right ["_law_deck_here"] [] := FunD.bindsN D__law_many_right fun _ _ _ _ _ _ us hl => match us, hl with | [_], _ => rfl
  obtain ⟨d__law_sum_right, D__law_sum_right⟩ := c.def_ 17 (d := Hd.mkD "_law_sum_right" (Hd.top 29)) rfl
  have g__law_sum_right := He.glo_ok X Gh (c.fact 17 (f := .glo "_law_sum_right") rfl)
  have b__law_sum_right : Binds K d__law_sum_right ["_law_deck_here"] [] := FunD.bindsN D__law_sum_right fun _ _ _ _ _ _ us hl => match us, hl with | [_], _ => rfl
  obtain ⟨d_law, D_law⟩ := c.def_ 18 (d := Hd.mkD "law" (Hd.top 30)) rfl
  have e := hfa.symm.trans (He.glo_ok X Gh (c.fact 18 (f := .glo "law") rfl))
  cases e
  have g_law := He.glo_ok X Gh (c.fact 18 (f := .glo "law") rfl)
  have b_law : Binds K d_law ["_law_script"] [] := FunD.bindsN D_law fun _ _ _ _ _ _ us hl => match us, hl with | [_], _ => rfl
  have g_UpgradeError : mg "UpgradeError" = some (.ref (Tbs.cad "UpgradeError")) := He.glo_ok X Gh (c.fact 19 (f := .glo "UpgradeError") rfl)
  have g_BadPath : mg "BadPath" = some (.ref (Tbs.cad "BadPath")) := He.glo_ok X Gh (c.fact 20 (f := .glo "BadPath") rfl)
  have g_BadPrice : mg "BadPrice" = some (.ref (Tbs.cad "BadPrice")) := He.glo_ok X Gh (c.fact 21 (f := .glo "BadPrice") rfl)
  have g_BadText : mg "BadText" = some (.ref (Tbs.cad "BadText")) := He.glo_ok X Gh (c.fact 22 (f := .glo "BadText") rfl)
  obtain ⟨d_BadPath, D_BadPath⟩ := c.def_ 19 (d := Hd.mkM "BadPath" "__init__" (clsSt (Hd.top 2) 0)) rfl
  have b_BadPath : Binds K d_BadPath ["self", "value"] [] := FunD.bindsN D_BadPath fun _ _ _ _ _ _ us hl => match us, hl with | [_, _], _ => rfl
  have n_BadPath : ("BadPath" : Str) ∈ Tbs.nms := (show ("BadPath" : Str) ∈ Hd.nms by decide +kernel)
  have T_BadPath : ExcC1 K (Tbs.cad "BadPath") (He.ma K (He.ga K "BadPath") "__init__") "value" := exc1B_ok e_one_BadPath
  obtain ⟨d_BadPrice, D_BadPrice⟩ := c.def_ 20 (d := Hd.mkM "BadPrice" "__init__" (clsSt (Hd.top 3) 0)) rfl
  have b_BadPrice : Binds K d_BadPrice ["self", "name"] [] := FunD.bindsN D_BadPrice fun _ _ _ _ _ _ us hl => match us, hl with | [_, _], _ => rfl
  have n_BadPrice : ("BadPrice" : Str) ∈ Tbs.nms := (show ("BadPrice" : Str) ∈ Hd.nms by decide +kernel)
  have T_BadPrice : ExcC1 K (Tbs.cad "BadPrice") (He.ma K (He.ga K "BadPrice") "__init__") "name" := exc1B_ok e_one_BadPrice
  obtain ⟨d_BadText, D_BadText⟩ := c.def_ 21 (d := Hd.mkM "BadText" "__init__" (clsSt (Hd.top 4) 0)) rfl
  have b_BadText : Binds K d_BadText ["self", "value"] [] := FunD.bindsN D_BadText fun _ _ _ _ _ _ us hl => match us, hl with | [_, _], _ => rfl
  have n_BadText : ("BadText" : Str) ∈ Tbs.nms := (show ("BadText" : Str) ∈ Hd.nms by decide +kernel)
  have T_BadText : ExcC1 K (Tbs.cad "BadText") (He.ma K (He.ga K "BadText") "__init__") "value" := exc1B_ok e_one_BadText
  have m_len := He.free_ok X Gh (c.fact 32 (f := .free "len") rfl)
  have m_min := He.free_ok X Gh (c.fact 40 (f := .free "min") rfl)
  have m_max := He.free_ok X Gh (c.fact 35 (f := .free "max") rfl)
  have m_range := He.free_ok X Gh (c.fact 29 (f := .free "range") rfl)
  have m_abs := He.free_ok X Gh (c.fact 38 (f := .free "abs") rfl)
  have m_int := He.free_ok X Gh (c.fact 31 (f := .free "int") rfl)
  have m_repr := He.free_ok X Gh (c.fact 33 (f := .free "repr") rfl)
  have m_isinstance := He.free_ok X Gh (c.fact 30 (f := .free "isinstance") rfl)
  have m_ValueError := He.free_ok X Gh (c.fact 23 (f := .free "ValueError") rfl)
  have m_sorted := He.free_ok X Gh (c.fact 25 (f := .free "sorted") rfl)
  have m_tuple := He.free_ok X Gh (c.fact 26 (f := .free "tuple") rfl)
  have m_str := He.free_ok X Gh (c.fact 37 (f := .free "str") rfl)
  have m_MOST_LETTERS := He.int_ok X Gh (c.fact 42 (f := .int "MOST_LETTERS" 8) rfl)
  have m_LETTERS := He.str_ok X Gh (c.fact 41 (f := .str "LETTERS" "abcdefghijklmnopqrstuvwxyz") rfl)
  have m_all := He.free_ok X Gh (c.fact 24 (f := .free "all") rfl)
  have m_GREATEST_PRICE := He.int_ok X Gh (c.fact 43 (f := .int "GREATEST_PRICE" 1000000) rfl)
  have m_bool := He.free_ok X Gh (c.fact 36 (f := .free "bool") rfl)
  have m_list := He.free_ok X Gh (c.fact 34 (f := .free "list") rfl)
  have m_dict := He.free_ok X Gh (c.fact 28 (f := .free "dict") rfl)
  have m_sum := He.free_ok X Gh (c.fact 27 (f := .free "sum") rfl)
  have m_USUAL_PRICE := He.int_ok X Gh (c.fact 44 (f := .int "USUAL_PRICE" 1) rfl)
  have m_zip := He.free_ok X Gh (c.fact 39 (f := .free "zip") rfl)
  have bl := FunD.bindsA (ps := ["_law_script"]) D_law fun _ _ _ _ _ _ us hl => match us, hl with | [_], _ => rfl
  refine ⟨K, d_law, Hd.tf.map (He.cT K), ASp K [false] sp_law, X, fun z hz => ?_, fun z hz => ?_, fun z hz => ?_, fun s v => bl s [v] rfl, fun H a ns hl hO hS => asp_ints (tabs_start hO fun z hz => ?_) hS ⟨_, rfl, fun t m => by obtain ⟨i, _, rfl⟩ := List.mem_map.mp m; exact ⟨i, rfl⟩, rfl⟩ fun _ => rfl, fun base KB GB TB => ?_⟩
  · obtain ⟨y, hy, rfl⟩ := List.mem_map.mp hz; exact cx.empty y hy
  · obtain ⟨y, hy, rfl⟩ := List.mem_map.mp hz; exact cx.out y hy
  · obtain ⟨y, hy, rfl⟩ := List.mem_map.mp hz; exact PySem.W.codeHd_of_K X (cx.hd y hy)
  · have hz : z ∈ ([((He.cT K ("_law_right", none)).2, (("_law_right" : Str) ++ ".<locals>." ++ "<lambda>")), ((He.cT K ("_law_due", none)).2, (("_law_due" : Str) ++ ".<locals>." ++ "<lambda>")), ((He.cT K ("_law_many_right", none)).2, (("_law_many_right" : Str) ++ ".<locals>." ++ "<lambda>"))] : List (Addr × Str)) := hz
    simp only [List.mem_cons, List.not_mem_nil, or_false] at hz
    rcases hz with rfl | rfl | rfl
    · exact List.mem_map.mpr ⟨_, List.mem_map.mpr ⟨("_law_right", none), List.mem_cons_self, rfl⟩, rfl⟩
    · exact List.mem_map.mpr ⟨_, List.mem_map.mpr ⟨("_law_due", none), (List.mem_cons_of_mem _ List.mem_cons_self), rfl⟩, rfl⟩
    · exact List.mem_map.mpr ⟨_, List.mem_map.mpr ⟨("_law_many_right", none), (List.mem_cons_of_mem _ (List.mem_cons_of_mem _ List.mem_cons_self)), rfl⟩, rfl⟩
  have L__law_right : LamD base mg d__law_right.code (("_law_right" : Str) ++ ".<locals>." ++ "<lambda>") (He.cT K ("_law_right", none)).1 (He.cT K ("_law_right", none)).2 := lamD_of (p := ("_law_right", none)) D__law_right (TB _ (List.mem_map.mpr ⟨("_law_right", none), List.mem_cons_self, rfl⟩)) List.mem_cons_self fun z hz ez => by
    have hz : z ∈ ([((He.cT K ("_law_right", none)).2, (("_law_right" : Str) ++ ".<locals>." ++ "<lambda>")), ((He.cT K ("_law_due", none)).2, (("_law_due" : Str) ++ ".<locals>." ++ "<lambda>")), ((He.cT K ("_law_many_right", none)).2, (("_law_many_right" : Str) ++ ".<locals>." ++ "<lambda>"))] : List (Addr × Str)) := hz
    simp only [List.mem_cons, List.not_mem_nil, or_false] at hz
    rcases hz with rfl | rfl | rfl
    · rfl
    · exact absurd ez.symm (of_decide_eq_true e_lam_0_1)
    · exact absurd ez.symm (of_decide_eq_true e_lam_0_2)
  have L__law_due : LamD base mg d__law_due.code (("_law_due" : Str) ++ ".<locals>." ++ "<lambda>") (He.cT K ("_law_due", none)).1 (He.cT K ("_law_due", none)).2 := lamD_of (p := ("_law_due", none)) D__law_due (TB _ (List.mem_map.mpr ⟨("_law_due", none), (List.mem_cons_of_mem _ List.mem_cons_self), rfl⟩)) (List.mem_cons_of_mem _ List.mem_cons_self) fun z hz ez => by
    have hz : z ∈ ([((He.cT K ("_law_right", none)).2, (("_law_right" : Str) ++ ".<locals>." ++ "<lambda>")), ((He.cT K ("_law_due", none)).2, (("_law_due" : Str) ++ ".<locals>." ++ "<lambda>")), ((He.cT K ("_law_many_right", none)).2, (("_law_many_right" : Str) ++ ".<locals>." ++ "<lambda>"))] : List (Addr × Str)) := hz
    simp only [List.mem_cons, List.not_mem_nil, or_false] at hz
    rcases hz with rfl | rfl | rfl
    · exact absurd ez (of_decide_eq_true e_lam_0_1)
    · rfl
    · exact absurd ez.symm (of_decide_eq_true e_lam_1_2)
  have L__law_many_right : LamD base mg d__law_many_right.code (("_law_many_right" : Str) ++ ".<locals>." ++ "<lambda>") (He.cT K ("_law_many_right", none)).1 (He.cT K ("_law_many_right", none)).2 := lamD_of (p := ("_law_many_right", none)) D__law_many_right (TB _ (List.mem_map.mpr ⟨("_law_many_right", none), (List.mem_cons_of_mem _ (List.mem_cons_of_mem _ List.mem_cons_self)), rfl⟩)) (List.mem_cons_of_mem _ (List.mem_cons_of_mem _ List.mem_cons_self)) fun z hz ez => by
    have hz : z ∈ ([((He.cT K ("_law_right", none)).2, (("_law_right" : Str) ++ ".<locals>." ++ "<lambda>")), ((He.cT K ("_law_due", none)).2, (("_law_due" : Str) ++ ".<locals>." ++ "<lambda>")), ((He.cT K ("_law_many_right", none)).2, (("_law_many_right" : Str) ++ ".<locals>." ++ "<lambda>"))] : List (Addr × Str)) := hz
    simp only [List.mem_cons, List.not_mem_nil, or_false] at hz
    rcases hz with rfl | rfl | rfl
    · exact absurd ez (of_decide_eq_true e_lam_0_2)
    · exact absurd ez (of_decide_eq_true e_lam_1_2)
    · rfl
  have I_BadPrice : FnOk P w K mg base CX0 1 (He.ma K (He.ga K "BadPrice") "__init__") d_BadPrice ["self", "name"] (spInit K (Tbs.cad "BadPrice") "name") := init_ok (baseB_ok g_UpgradeError e_base_UpgradeError) T_BadPrice D_BadPrice ⟨rfl, rfl, rfl, by decide +kernel, rfl, by decide +kernel, by decide +kernel⟩ (fun _ _ _ => rfl) (by decide) (by decide) (by decide) (fun _ _ _ => .inl rfl) (fun _ _ _ => .inl rfl) (fun _ => ⟨_, rfl⟩) (fun _ => rfl) (fun _ => rfl)
  have F__law_deck : FnG P w K mg base CX0 1 _ d__law_deck ["_law_script", "_law_k"] (ASp K [false, false] sp__law_deck) := WK.ok__law_deck D__law_deck m_len m_abs m_int (rd := pl__law_deck)
  have F__law_draw : FnG P w K mg base CX0 1 _ d__law_draw ["_law_deck_here", "_law_many"] (ASp K [true, false] sp__law_draw) := WK.ok__law_draw D__law_draw  (rd := pl__law_draw)
  have F__law_any : FnG P w K mg base CX0 2 _ d__law_any ["_law_deck_here", "_law_items"] (ASp K [true, false] sp__law_any) := WK.ok__law_any D__law_any m_len F__law_draw g__law_draw D__law_draw.kp b__law_draw (rd := pl__law_any)
  have F__law_cost : FnG P w K mg base CX0 3 _ d__law_cost ["_law_deck_here"] (ASp K [true] sp__law_cost) := WK.ok__law_cost D__law_cost F__law_draw g__law_draw D__law_draw.kp b__law_draw F__law_any g__law_any D__law_any.kp b__law_any (rd := pl__law_cost)
  have giv__law_told := WK.giv__law_told (P := P) (w := w) (K := K) (mg := mg) (base := base) g_UpgradeError x_UpgradeError hE g_BadPrice q_BadPrice m_isinstance g_BadPath q_BadPath g_BadText q_BadText m_ValueError q_ValueError no_name
  have F_is_name : FnG P w K mg base CX0 1 _ d_is_name ["value"] (ASp K [false] sp_is_name) := WK.ok_is_name D_is_name m_isinstance m_str m_len m_MOST_LETTERS m_LETTERS m_all (rd := pl_is_name)
  have F_is_integer : FnG P w K mg base CX0 1 _ d_is_integer ["value", "least", "greatest"] (ASp K [false, false, false] sp_is_integer) := WK.ok_is_integer D_is_integer m_isinstance m_int m_bool (rd := pl_is_integer)
  have F_is_price : FnG P w K mg base CX0 2 _ d_is_price ["value"] (ASp K [false] sp_is_price) := WK.ok_is_price D_is_price m_GREATEST_PRICE F_is_integer g_is_integer D_is_integer.kp b_is_integer (rd := pl_is_price)
  have F_priced : ∀ ks : List Str, ks.Nodup → ks.length ≤ 64 → FnW P w K mg base (L2.CX P w) 4 _ ks (ASpE K ks.length (kwSp ks sp_priced)) := WK.ok_priced D_priced m_sorted F_is_name g_is_name D_is_name.kp b_is_name F_is_price g_is_price D_is_price.kp b_is_price T_BadPrice n_BadPrice I_BadPrice b_BadPrice g_BadPrice m_tuple (rd := pl_priced)
  have F__law_is_number : FnG P w K mg base CX0 1 _ d__law_is_number ["_law_thing", "_law_least", "_law_most"] (ASp K [false, false, false] sp__law_is_number) := WK.ok__law_is_number D__law_is_number m_isinstance m_int m_bool (rd := pl__law_is_number)
  have F__law_due : FnG P w K mg base CX0 4 _ d__law_due ["_law_pairs"] (ASp K [false] sp__law_due) := WK.ok__law_due D__law_due L__law_due m_sorted m_len F__law_is_number g__law_is_number D__law_is_number.kp b__law_is_number m_tuple (rd := pl__law_due)
  have F__law_right : FnG P w K mg base CX0 9 _ d__law_right ["_law_deck_here"] (ASp K [true] sp__law_right) := WK.ok__law_right D__law_right m_range F__law_cost g__law_cost D__law_cost.kp b__law_cost L__law_right giv__law_told D__law_told g__law_told b__law_told F_priced g_priced D_priced.kp F__law_due g__law_due D__law_due.kp b__law_due m_repr (rd := pl__law_right)
  have F__law_names : FnG P w K mg base CX0 3 _ d__law_names ["_law_deck_here", "_law_many"] (ASp K [true, false] sp__law_names) := WK.ok__law_names D__law_names F__law_any g__law_any D__law_any.kp b__law_any F__law_draw g__law_draw D__law_draw.kp b__law_draw m_range m_sorted (rd := pl__law_names)
  have F__law_costs : FnG P w K mg base CX0 3 _ d__law_costs ["_law_deck_here", "_law_network"] (ASp K [true, false] sp__law_costs) := WK.ok__law_costs D__law_costs F__law_draw g__law_draw D__law_draw.kp b__law_draw F__law_any g__law_any D__law_any.kp b__law_any m_sorted m_tuple (rd := pl__law_costs)
  have F_price_beside : FnG P w K mg base CX0 1 _ d_price_beside ["prices", "service"] (ASp K [false, false] sp_price_beside) := WK.ok_price_beside D_price_beside m_dict m_USUAL_PRICE (rd := pl_price_beside)
  have F_price_of : FnG P w K mg base CX0 2 _ d_price_of ["schedule", "prices"] (ASp K [false, false] sp_price_of) := WK.ok_price_of D_price_of F_price_beside g_price_beside D_price_beside.kp b_price_beside m_sum (rd := pl_price_of)
  have F__law_sum_right : FnG P w K mg base CX0 4 _ d__law_sum_right ["_law_deck_here"] (ASp K [true] sp__law_sum_right) := WK.ok__law_sum_right D__law_sum_right F__law_names g__law_names D__law_names.kp b__law_names m_tuple F__law_costs g__law_costs D__law_costs.kp b__law_costs F__law_draw g__law_draw D__law_draw.kp b__law_draw m_range F__law_any g__law_any D__law_any.kp b__law_any m_list m_dict m_sum F_price_of g_price_of D_price_of.kp b_price_of m_repr (rd := pl__law_sum_right)
  have F__law_many_right : FnG P w K mg base CX0 9 _ d__law_many_right ["_law_deck_here"] (ASp K [true] sp__law_many_right) := WK.ok__law_many_right D__law_many_right m_range F__law_draw g__law_draw D__law_draw.kp b__law_draw F__law_any g__law_any D__law_any.kp b__law_any F__law_cost g__law_cost D__law_cost.kp b__law_cost m_list m_zip F__law_due g__law_due D__law_due.kp b__law_due L__law_many_right giv__law_told D__law_told g__law_told b__law_told F_priced g_priced D_priced.kp m_repr (rd := pl__law_many_right)
  have F_law : FnG P w K mg base CX0 10 _ d_law ["_law_script"] (ASp K [false] sp_law) := WK.ok_law D_law m_len m_min m_max m_range F__law_deck g__law_deck D__law_deck.kp b__law_deck F__law_right g__law_right D__law_right.kp b__law_right F__law_sum_right g__law_sum_right D__law_sum_right.kp b__law_sum_right F__law_many_right g__law_many_right D__law_many_right.kp b__law_many_right F_price_of g_price_of D_price_of.kp b_price_of (rd := pl_law)
  exact F_law
end Lw
open PySem PySem.W PySem.Calls PyProof.Rows
theorem PySem.Challenge.cw_gridupgrade_k38_prices_by_keywords_holds : PySem.Challenge.rw_gridupgrade_k38_prices_by_keywords.Holds := by
  w_on; o_law
  refine HandSHeadRun.head_any (r := OpenLaw.row PySem.Challenge.rw_gridupgrade_k38_prices_by_keywords) (q := view (OpenLaw.row PySem.Challenge.rw_gridupgrade_k38_prices_by_keywords).prog [30]) (H := Hd.hk) (ob := Hd.ob) (M := 2260) (loose := Hd.lo) (d := HandSHeadRun.topDef (OpenLaw.row PySem.Challenge.rw_gridupgrade_k38_prices_by_keywords).prog 30) (kwd := []) Hd.ob_eq
    (by kernel_rfl) (fun s => by kernel_rfl) Hd.run (by kernel_rfl) (by kernel_rfl) (by kernel_rfl) (by rfl) (by first | assumption | decide +kernel) (by decide +kernel) ⟨rfl, rfl, rfl, rfl, rfl, by decide +kernel⟩ ?hw ?hc
  case hw => w_witness2
  case hc =>
    refine DL.walk_ofGT (l := PySem.Challenge.rw_gridupgrade_k38_prices_by_keywords) (n := 63) (k := 10) (x := "_law_script") rfl (by decide) (by kernel_rfl) ⟨rfl, by decide, by decide⟩ ?F
    intro w mg fa h Y G hmg0
    obtain ⟨K, KX, c⟩ := Y
    have hmg : mg ("law" : PySem.Str) = some (.ref fa) := by
      have e : (HandSHeadRun.topDef (OpenLaw.row PySem.Challenge.rw_gridupgrade_k38_prices_by_keywords).prog 30).name = ("law" : PySem.Str) := by kernel_rfl
      rw [← e]
      exact hmg0
    exact Lw.law_end w KX G hmg c
