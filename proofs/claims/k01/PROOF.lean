import PyProof.Rows.All
import Wide.All
import OpenK.AllK
import Wide.FinOn
import HandS.ForMost
import HandS.Exc
import HandS.CallSlots
import KE.DataEq
import KE.KDictKeyed
import HandS.SetBool
import HandS.TupAny
import HandS.TupMul
import HandS.Text
import HandS.Star
import HandS.Flow
import HandS.Style
import HandS.IsInst
import HandS.RaiseMore
import HandS.Comp
import HandS.Iter
import HandS.Evl
import KE.GoesEnum
import HandS.Defaults
import HandS.More
import HandS.Small
import HandS.OwnEq
import HandS.NamedTupGet
import KE.KCallOwn
import HandS.ClsMeth
import HandS.Property
import HandS.MakeKw
import HandS.Head0
import HandS.Head1
import HandS.Head2
import HandS.HeadEnd
import HandS.HeadHook1
import HandS.HeadHook2
import HandS.ExcSuper
import KE.KSuper
import HandS.Ends
import HandS.ExcField
import HandS.ExcIs
import KE.KExcIs
import PyProof.RowDictHeap
import KE.GoesZip
import PyProof.ListNew
import KE.KItemsList
import PyProof.EqKinds
import PyProof.SeqRoads2
import KE.KDictPairs
import HandS.Sort
import HandS.Deep
import HandS.TupSets
import KE.SortUse
import KE.SortData
import KE.OsSetLaws
import KE.KDictList
import HandS.DictComp
import HandS.TryOnly
import KE.KRevSl
import PyProof.IsRules
import KE.KEqDict
import PyProof.NeKinds
import HandS.StrSplit
import KE.KIndexOf
import HandS.TupLen
import KE.KDictExact
import KE.DataMinMax
import KE.KDictWalk
import HandS.Strs
import PyProof.Rows.IntBool
import HandS.DictTup
import HandS.ListItems
import HandS.SetFor
import KE.KDictCopyH
import HandS.SetKeys
import KE.KDictDisplayH
import HandS.HotCalls
import KE.KDictZip
import PyProof.WalksEnum
import HandS.Codes
import PySem.Challenge.RW_namesabove_k01_errors_of_any_value
set_option Elab.async false
set_option linter.all false
set_option maxRecDepth 100000
namespace Nb
open PySem PySem.Spec PyProof.Rows L2
inductive D where
  | non
  | bl (b : Bool)
  | int (i : Int)
  | str (s : Str)
  | ty (n : String)
  | cls (c : Nat)
  | tup (ds : List D)
  | scr (ds : List D)
  | lst (o : Bool) (ds : List D)
  | dic (o : Bool) (ks : List Key) (ds : List D)
  | ins (o : Bool) (c : Nat) (fs : List Str) (ds : List D)
  /-- a dict whose keys are tuples, nested -/
  | dcn (o : Bool) (ks ds : List D)
  /-- a dict that is locked: read, walked, never written again -/
  | dil (ks : List Key) (ds : List D)
  /-- a tuple whose object is known to have no dict -/
  | tuk (ds : List D)
  /-- a dict from bools to ints -/
  | dcb (o : Bool) (bs : List Bool) (ns : List Int)
  /-- an error that is kept as a value -/
  | err (c : Nat) (fs : List Str) (ds : List D)
mutual
/-- nothing of it is owned -/
def D.fz : D → Bool
  | .tup ds => fzs ds
  | .tuk ds => fzs ds
  | .scr ds => fzs ds
  | .lst o ds => !o && fzs ds
  | .dic o _ ds => !o && fzs ds
  | .ins o _ _ ds => !o && fzs ds
  | .dcn o _ ds => !o && fzs ds
  | .dil _ ds => fzs ds
  | .dcb o _ _ => !o
  | .err _ _ ds => fzs ds
  | _ => true
def fzs : List D → Bool
  | [] => true
  | d :: ds => d.fz && fzs ds
end
mutual
def D.frz : D → D
  | .tup ds => .tup (frzs ds)
  | .tuk ds => .tuk (frzs ds)
  | .scr ds => .scr (frzs ds)
  | .lst _ ds => .lst false (frzs ds)
  | .dic _ ks ds => .dic false ks (frzs ds)
  | .ins _ c fs ds => .ins false c fs (frzs ds)
  | .dcn _ ks ds => .dcn false ks (frzs ds)
  | .dil ks ds => .dil ks (frzs ds)
  | .dcb _ bs ns => .dcb false bs ns
  | .err c fs ds => .err c fs (frzs ds)
  | d => d
def frzs : List D → List D
  | [] => []
  | d :: ds => d.frz :: frzs ds
end
structure Gh where
  K : PySem.W.Frag
  cl : Nat → Addr
  w : World
mutual
/-- a key of a dict, nested -/
def D.nk : D → Option NestedKey
  | .non => some .none
  | .bl b => some (.num (if b = true then 1 else 0))
  | .int i => some (.num i)
  | .str s => some (.text s)
  | .tup ds => (nks ds).map .tup
  | .tuk ds => (nks ds).map .tup
  | _ => none
def nks : List D → Option (List NestedKey)
  | [] => some []
  | d :: ds => match d.nk, nks ds with
    | some k, some ks => some (k :: ks)
    | _, _ => none
end
def ents : List NestedKey → List Addr → List Value → List (NestedKey × Addr × Value)
  | k :: ks, a :: as, u :: us => (k, a, u) :: ents ks as us
  | _, _, _ => []
def DcnOk (w : World) (p : Addr) (ks : List NestedKey) (as : List Addr) (vs : List V) (h : Heap) : Prop :=
  ks.Nodup ∧ as.length = ks.length ∧ vs.length = ks.length ∧ ks.length ≤ sizeLine ∧ (p == sysModules) = false ∧ ∃ us o es ep, Vals vs us ∧ h.get? p = some o ∧ o.ExactDict ∧ o.data = .dict es ep ∧
    es.toList = (ents ks as us).map fun x => ⟨x.1.hash w, .ref x.2.1, x.2.2⟩
def dcnO (w : World) (p : Addr) (ks : List NestedKey) (as : List Addr) (vs : List V) : HO := .ext (DcnOk w p ks as vs)
def DcbOk (p : Addr) (bs : List Bool) (ns : List Int) (h : Heap) : Prop :=
  (p == sysModules) = false ∧ ns.length = bs.length ∧ bs.length ≤ sizeLine ∧ ∃ us, Vals (ns.map V.int) us ∧ ∀ (P : Program) (w : World), h.DictOf (PpSet.boolK P w) p (bs.zip us)
def dcbO (p : Addr) (bs : List Bool) (ns : List Int) : HO := .ext (DcbOk p bs ns)
def KnT (K : PySem.W.Frag) (F : Hp) (p : Addr) (vs : List V) : Prop := (∃ o, F p = some (.frz o (.tup vs)) ∧ o.dict = none) ∨
  ∃ (o : Obj) (its : Array Value) (n : Nat), K.lookup p = some o ∧ o.cls = .type "tuple" ∧ o.data = .seq its n ∧ its.size ≤ sizeLine ∧ Vals vs its.toList ∧ o.dict = none
theorem knt_sq {K : PySem.W.Frag} {F : Hp} {p : Addr} {vs : List V} (h : KnT K F p vs) : SqT K F p vs := by
  rcases h with ⟨o, h, _⟩ | ⟨o, its, n, h1, h2, h3, h4, h5, _⟩
  · exact .inl (.inr ⟨o, h⟩)
  · exact .inr ⟨o, its, n, h1, h2, h3, h4, h5⟩
theorem exh_k {K : PySem.W.Frag} {H H' : Hp} {a : Addr} {xs : List V} (e : ∀ a o, H a = some o → H' a = some o) (h : KnT K H a xs) : KnT K H' a xs := by
  rcases h with ⟨o, h, z⟩ | h
  · exact .inl ⟨o, e _ _ h, z⟩
  · exact .inr h
def XdAt (H : Hp) (d : Option Addr) (fs : List Str) (vs : List V) : Prop := match fs with
  | [] => d = none ∧ vs = []
  | _ => ∃ dx, d = some dx ∧ H dx = some (.xd (fs.zip vs))
def ErrAt (F : Hp) (p C : Addr) (d : Option Addr) : Prop := ∃ (oe : Obj) (us : Array Value), F p = some (.frz oe (.ext fun _ => True)) ∧ oe.cls = .ref C ∧ oe.dict = d ∧ oe.data = .fields us
mutual
/-- v stands for d: F is the frozen part of the heap H, P the owned addresses in order -/
def Rep (g : Gh) (F H : Hp) : D → V → List Addr → Prop
  | .non, v, P => v = .non ∧ P = []
  | .bl b, v, P => v = .bl b ∧ P = []
  | .int i, v, P => v = .int i ∧ P = []
  | .str s, v, P => v = .str s ∧ P = []
  | .ty n, v, P => v = .ty n ∧ P = []
  | .cls c, v, P => v = .ref (g.cl c) ∧ P = []
  | .tup ds, v, P => ∃ p vs, v = .ref p ∧ SqT g.K F p vs ∧ Reps g F H ds vs P
  | .tuk ds, v, P => ∃ p vs, v = .ref p ∧ KnT g.K F p vs ∧ Reps g F H ds vs P
  | .lst true ds, v, P => ∃ p vs P2, v = .ref p ∧ H p = some (.lst vs) ∧ P = p :: P2 ∧ Reps g F H ds vs P2
  | .lst false ds, v, P => ∃ p vs, v = .ref p ∧ F p = some (.lst vs) ∧ P = [] ∧ Reps g F H ds vs []
  | .scr ds, v, P => ∃ p vs, v = .ref p ∧ SqL g.K F p vs ∧ P = [] ∧ Reps g F H ds vs []
  | .dic true ks ds, v, P => ∃ p vs P2, v = .ref p ∧ H p = some (.dK (ks.zip vs)) ∧ ks.length = vs.length ∧ P = p :: P2 ∧ Reps g F H ds vs P2
  | .dic false ks ds, v, P => ∃ p vs, v = .ref p ∧ F p = some (.dK (ks.zip vs)) ∧ ks.length = vs.length ∧ P = [] ∧ Reps g F H ds vs []
  | .dcn true ks ds, v, P => ∃ p nk as vs P2, v = .ref p ∧ H p = some (dcnO g.w p nk as vs) ∧ nks ks = some nk ∧ Reps g F H ks (as.map V.ref) [] ∧ P = p :: P2 ∧ Reps g F H ds vs P2
  | .dcn false ks ds, v, P => ∃ p nk as vs, v = .ref p ∧ F p = some (dcnO g.w p nk as vs) ∧ nks ks = some nk ∧ Reps g F H ks (as.map V.ref) [] ∧ P = [] ∧ Reps g F H ds vs []
  | .dil ks ds, v, P => ∃ p vs o, v = .ref p ∧ F p = some (.frz o (.dK (ks.zip vs))) ∧ ks.length = vs.length ∧ P = [] ∧ Reps g F H ds vs []
  | .dcb true bs ns, v, P => ∃ p, v = .ref p ∧ H p = some (dcbO p bs ns) ∧ P = [p]
  | .dcb false bs ns, v, P => ∃ p, v = .ref p ∧ F p = some (dcbO p bs ns) ∧ P = []
  | .err c fs ds, v, P => ∃ p d vs, v = .ref p ∧ ErrAt F p (g.cl c) d ∧ XdAt F d fs vs ∧ fs.length = vs.length ∧ P = [] ∧ Reps g F H ds vs []
  | .ins true c fs ds, v, P => ∃ p dx vs P2, v = .ref p ∧ H p = some (.ins (g.cl c) dx (fs.zip vs)) ∧ fs.length = vs.length ∧ P = p :: P2 ∧ Reps g F H ds vs P2
  | .ins false c fs ds, v, P => ∃ p dx vs, v = .ref p ∧ F p = some (.ins (g.cl c) dx (fs.zip vs)) ∧ fs.length = vs.length ∧ P = [] ∧ Reps g F H ds vs []
def Reps (g : Gh) (F H : Hp) : List D → List V → List Addr → Prop
  | [], vs, P => vs = [] ∧ P = []
  | d :: ds, vs, P => ∃ v vr P1 P2, vs = v :: vr ∧ P = P1 ++ P2 ∧ Rep g F H d v P1 ∧ Reps g F H ds vr P2
end
abbrev Exh (H H' : Hp) : Prop := ∀ a o, H a = some o → H' a = some o
theorem Exh.rfl' (H : Hp) : Exh H H := fun _ _ h => h
theorem Exh.tr {H H1 H2 : Hp} (a : Exh H H1) (b : Exh H1 H2) : Exh H H2 := fun x o h => b x o (a x o h)
theorem exh_rd {H H' : Hp} {a : Addr} {u : HO} (e : Exh H H') (h : Rd H a u) : Rd H' a u := by
  rcases h with h | ⟨o, h⟩
  · exact .inl (e a _ h)
  · exact .inr ⟨o, e a _ h⟩
theorem exh_l {K : PySem.W.Frag} {H H' : Hp} {a : Addr} {xs : List V} (e : Exh H H') (h : SqL K H a xs) : SqL K H' a xs := by
  rcases h with h | h
  · exact .inl (exh_rd e h)
  · exact .inr h
theorem exh_t {K : PySem.W.Frag} {H H' : Hp} {a : Addr} {xs : List V} (e : Exh H H') (h : SqT K H a xs) : SqT K H' a xs := by
  rcases h with h | h
  · exact .inl (exh_rd e h)
  · exact .inr h
theorem xd_mono {H H' : Hp} (e : Exh H H') {d : Option Addr} {fs : List Str} {vs : List V} (h : XdAt H d fs vs) : XdAt H' d fs vs := by
  cases fs with
  | nil => exact h
  | cons f fs =>
    obtain ⟨dx, h1, h2⟩ := h
    exact ⟨dx, h1, e _ _ h2⟩
theorem err_mono {F F' : Hp} (e : Exh F F') {p C : Addr} {d : Option Addr} (h : ErrAt F p C d) : ErrAt F' p C d := by
  obtain ⟨oe, us, h1, h2⟩ := h
  exact ⟨oe, us, e _ _ h1, h2⟩
section
variable {g : Gh} {F H F' H' : Hp}
mutual
/-- it stands where the frozen part grows and the owned objects stay -/
theorem Rep.move (e : Exh F F') : ∀ (d : D) (v : V) (P : List Addr), (∀ p ∈ P, H' p = H p) → Rep g F H d v P → Rep g F' H' d v P
  | .non, _, _, _, h => h
  | .bl _, _, _, _, h => h
  | .int _, _, _, _, h => h
  | .str _, _, _, _, h => h
  | .ty _, _, _, _, h => h
  | .cls _, _, _, _, h => h
  | .tup ds, v, P, k, ⟨p, vs, h1, h2, h3⟩ => ⟨p, vs, h1, exh_t e h2, Reps.move e ds vs P k h3⟩
  | .tuk ds, v, P, k, ⟨p, vs, h1, h2, h3⟩ => ⟨p, vs, h1, exh_k e h2, Reps.move e ds vs P k h3⟩
  | .lst true ds, v, P, k, ⟨p, vs, P2, h1, h2, h3, h4⟩ => ⟨p, vs, P2, h1, by rw [k p (by rw [h3]; exact List.mem_cons_self)]; exact h2, h3, Reps.move e ds vs P2 (fun q hq => k q (by rw [h3]; exact List.mem_cons_of_mem _ hq)) h4⟩
  | .lst false ds, v, P, k, ⟨p, vs, h1, h2, h3, h4⟩ => ⟨p, vs, h1, e _ _ h2, h3, Reps.move e ds vs [] (fun _ h => nomatch h) h4⟩
  | .scr ds, v, P, k, ⟨p, vs, h1, h2, h3, h4⟩ => ⟨p, vs, h1, exh_l e h2, h3, Reps.move e ds vs [] (fun _ h => nomatch h) h4⟩
  | .dic true ks ds, v, P, k, ⟨p, vs, P2, h1, h2, hl, h3, h4⟩ => ⟨p, vs, P2, h1, by rw [k p (by rw [h3]; exact List.mem_cons_self)]; exact h2, hl, h3, Reps.move e ds vs P2 (fun q hq => k q (by rw [h3]; exact List.mem_cons_of_mem _ hq)) h4⟩
  | .dic false ks ds, v, P, k, ⟨p, vs, h1, h2, hl, h3, h4⟩ => ⟨p, vs, h1, e _ _ h2, hl, h3, Reps.move e ds vs [] (fun _ h => nomatch h) h4⟩
  | .dcn true ks ds, v, P, k, ⟨p, nk, as, vs, P2, h1, h2, hk, hr, h3, h4⟩ => ⟨p, nk, as, vs, P2, h1, by rw [k p (by rw [h3]; exact List.mem_cons_self)]; exact h2, hk, Reps.move e ks _ [] (fun _ h => nomatch h) hr, h3, Reps.move e ds vs P2 (fun q hq => k q (by rw [h3]; exact List.mem_cons_of_mem _ hq)) h4⟩
  | .dcn false ks ds, v, P, k, ⟨p, nk, as, vs, h1, h2, hk, hr, h3, h4⟩ => ⟨p, nk, as, vs, h1, e _ _ h2, hk, Reps.move e ks _ [] (fun _ h => nomatch h) hr, h3, Reps.move e ds vs [] (fun _ h => nomatch h) h4⟩
  | .dil ks ds, v, P, k, ⟨p, vs, o, h1, h2, hl, h3, h4⟩ => ⟨p, vs, o, h1, e _ _ h2, hl, h3, Reps.move e ds vs [] (fun _ h => nomatch h) h4⟩
  | .dcb true bs ns, v, P, k, ⟨p, h1, h2, h3⟩ => ⟨p, h1, by rw [k p (by rw [h3]; exact List.mem_cons_self)]; exact h2, h3⟩
  | .dcb false bs ns, v, P, k, ⟨p, h1, h2, h3⟩ => ⟨p, h1, e _ _ h2, h3⟩
  | .err c fs ds, v, P, k, ⟨p, d, vs, h1, h2, h3, hl, h4, h5⟩ => ⟨p, d, vs, h1, err_mono e h2, xd_mono e h3, hl, h4, Reps.move e ds vs [] (fun _ h => nomatch h) h5⟩
  | .ins true c fs ds, v, P, k, ⟨p, dx, vs, P2, h1, h2, hl, h3, h4⟩ => ⟨p, dx, vs, P2, h1, by rw [k p (by rw [h3]; exact List.mem_cons_self)]; exact h2, hl, h3, Reps.move e ds vs P2 (fun q hq => k q (by rw [h3]; exact List.mem_cons_of_mem _ hq)) h4⟩
  | .ins false c fs ds, v, P, k, ⟨p, dx, vs, h1, h2, hl, h3, h4⟩ => ⟨p, dx, vs, h1, e _ _ h2, hl, h3, Reps.move e ds vs [] (fun _ h => nomatch h) h4⟩
theorem Reps.move (e : Exh F F') : ∀ (ds : List D) (vs : List V) (P : List Addr), (∀ p ∈ P, H' p = H p) → Reps g F H ds vs P → Reps g F' H' ds vs P
  | [], _, _, _, h => h
  | d :: ds, vs, P, k, ⟨v, vr, P1, P2, h1, h2, h3, h4⟩ => ⟨v, vr, P1, P2, h1, h2, Rep.move e d v P1 (fun q hq => k q (by rw [h2]; exact List.mem_append_left _ hq)) h3, Reps.move e ds vr P2 (fun q hq => k q (by rw [h2]; exact List.mem_append_right _ hq)) h4⟩
end
mutual
theorem Rep.alive : ∀ (d : D) (v : V) (P : List Addr), Rep g F H d v P → ∀ p ∈ P, H p ≠ none
  | .non, _, _, h, p, hp => by rw [h.2] at hp; cases hp
  | .bl _, _, _, h, p, hp => by rw [h.2] at hp; cases hp
  | .int _, _, _, h, p, hp => by rw [h.2] at hp; cases hp
  | .str _, _, _, h, p, hp => by rw [h.2] at hp; cases hp
  | .ty _, _, _, h, p, hp => by rw [h.2] at hp; cases hp
  | .cls _, _, _, h, p, hp => by rw [h.2] at hp; cases hp
  | .tup ds, v, P, ⟨p, vs, h1, h2, h3⟩, q, hq => Reps.alive ds vs P h3 q hq
  | .tuk ds, v, P, ⟨p, vs, h1, h2, h3⟩, q, hq => Reps.alive ds vs P h3 q hq
  | .lst true ds, v, P, ⟨p, vs, P2, h1, h2, h3, h4⟩, q, hq => by
    rw [h3] at hq
    rcases List.mem_cons.mp hq with e | hq
    · rw [e, h2]; exact fun z => nomatch z
    · exact Reps.alive ds vs P2 h4 q hq
  | .lst false ds, v, P, ⟨p, vs, h1, h2, h3, h4⟩, q, hq => by rw [h3] at hq; cases hq
  | .scr ds, v, P, ⟨p, vs, h1, h2, h3, h4⟩, q, hq => by rw [h3] at hq; cases hq
  | .dic true ks ds, v, P, ⟨p, vs, P2, h1, h2, hl, h3, h4⟩, q, hq => by
    rw [h3] at hq
    rcases List.mem_cons.mp hq with e | hq
    · rw [e, h2]; exact fun z => nomatch z
    · exact Reps.alive ds vs P2 h4 q hq
  | .dic false ks ds, v, P, ⟨p, vs, h1, h2, hl, h3, h4⟩, q, hq => by rw [h3] at hq; cases hq
  | .dcn true ks ds, v, P, ⟨p, nk, as, vs, P2, h1, h2, hk, hr, h3, h4⟩, q, hq => by
    rw [h3] at hq
    rcases List.mem_cons.mp hq with e | hq
    · rw [e, h2]; exact fun z => nomatch z
    · exact Reps.alive ds vs P2 h4 q hq
  | .dcn false ks ds, v, P, ⟨p, nk, as, vs, h1, h2, hk, hr, h3, h4⟩, q, hq => by rw [h3] at hq; cases hq
  | .dil ks ds, v, P, ⟨p, vs, o, h1, h2, hl, h3, h4⟩, q, hq => by rw [h3] at hq; cases hq
  | .dcb true bs ns, v, P, ⟨p, h1, h2, h3⟩, q, hq => by
    rw [h3] at hq
    rw [List.mem_singleton.mp hq, h2]
    exact fun z => nomatch z
  | .dcb false bs ns, v, P, ⟨p, h1, h2, h3⟩, q, hq => by rw [h3] at hq; cases hq
  | .err c fs ds, v, P, ⟨p, d, vs, h1, h2, h3, hl, h4, h5⟩, q, hq => by rw [h4] at hq; cases hq
  | .ins true c fs ds, v, P, ⟨p, dx, vs, P2, h1, h2, hl, h3, h4⟩, q, hq => by
    rw [h3] at hq
    rcases List.mem_cons.mp hq with e | hq
    · rw [e, h2]; exact fun z => nomatch z
    · exact Reps.alive ds vs P2 h4 q hq
  | .ins false c fs ds, v, P, ⟨p, dx, vs, h1, h2, hl, h3, h4⟩, q, hq => by rw [h3] at hq; cases hq
theorem Reps.alive : ∀ (ds : List D) (vs : List V) (P : List Addr), Reps g F H ds vs P → ∀ p ∈ P, H p ≠ none
  | [], _, _, h, p, hp => by rw [h.2] at hp; cases hp
  | d :: ds, vs, P, ⟨v, vr, P1, P2, h1, h2, h3, h4⟩, q, hq => by
    rw [h2] at hq
    rcases List.mem_append.mp hq with hq | hq
    · exact Rep.alive d v P1 h3 q hq
    · exact Reps.alive ds vr P2 h4 q hq
end
theorem Reps.length : ∀ (ds : List D) (vs : List V) (P : List Addr), Reps g F H ds vs P → ds.length = vs.length
  | [], _, _, h => by rw [h.1]; rfl
  | d :: ds, vs, P, ⟨v, vr, P1, P2, h1, h2, h3, h4⟩ => by
    rw [h1, List.length_cons, List.length_cons, Reps.length ds vr P2 h4]
end
def fzH (F H : Hp) (P : List Addr) : Hp := fun b => if b ∈ P then H b else F b
theorem fzH_out {F H : Hp} {P : List Addr} {b : Addr} (h : b ∉ P) : fzH F H P b = F b := if_neg h
theorem fzH_ext {F H : Hp} {P : List Addr} (off : ∀ p ∈ P, F p = none) : Exh F (fzH F H P) := fun a o e => by
  rw [fzH_out (fun h => by rw [off a h] at e; cases e)]
  exact e
theorem fzH_top {F H : Hp} {P : List Addr} (t : Exh F H) : Exh (fzH F H P) H := fun a o e => by
  unfold fzH at e
  split at e
  · exact e
  · exact t a o e
section
variable {g : Gh} {F H F' : Hp}
end
structure Stp (F H : Hp) (P : List Addr) (F' H' : Hp) (P' : List Addr) : Prop where
  sub : Exh F F'
  top : Exh F' H'
  keep : ∀ b o, H b = some o → b ∉ P → H' b = some o
  own : ∀ b ∈ P', b ∈ P ∨ H b = none
  fre : ∀ b o, F' b = some o → F b = some o ∨ b ∈ P ∨ H b = none
  nd : P'.Nodup
  off : ∀ b ∈ P', F' b = none
theorem Stp.rfl' {F H : Hp} {P : List Addr} (t : Exh F H) (nd : P.Nodup) (off : ∀ b ∈ P, F b = none) : Stp F H P F H P :=
  ⟨fun _ _ h => h, t, fun _ _ h _ => h, fun _ h => .inl h, fun _ _ h => .inl h, nd, off⟩
theorem Stp.tr {F H F1 H1 F2 H2 : Hp} {P P1 P2 : List Addr} (a : Stp F H P F1 H1 P1) (b : Stp F1 H1 P1 F2 H2 P2) : Stp F H P F2 H2 P2 where
  sub := a.sub.tr b.sub
  top := b.top
  keep := fun x o h n => by
    refine b.keep x o (a.keep x o h n) fun z => ?_
    rcases a.own x z with q | q
    · exact n q
    · rw [q] at h; cases h
  own := fun x hx => by
    rcases b.own x hx with q | q
    · exact a.own x q
    · by_cases n : x ∈ P
      · exact .inl n
      · cases e : H x with
        | none => exact .inr rfl
        | some o => rw [a.keep x o e n] at q; cases q
  fre := fun x o hx => by
    rcases b.fre x o hx with q | q | q
    · exact a.fre x o q
    · rcases a.own x q with z | z
      · exact .inr (.inl z)
      · exact .inr (.inr z)
    · by_cases n : x ∈ P
      · exact .inr (.inl n)
      · cases e : H x with
        | none => exact .inr (.inr rfl)
        | some o' => rw [a.keep x o' e n] at q; cases q
  nd := b.nd
  off := b.off
theorem Stp.carry {F H F1 H1 F2 H2 : Hp} {P R P1 P2 : List Addr} (a : Stp F H P F1 H1 (R ++ P1)) (al : ∀ p ∈ R, H1 p ≠ none) (b : Stp F1 H1 P1 F2 H2 P2) :
    Stp F H P F2 H2 (R ++ P2) ∧ ∀ p ∈ R, H2 p = H1 p := by
  have nd := List.nodup_append.mp a.nd
  have out : ∀ p ∈ R, p ∉ P1 := fun p hp z => nd.2.2 p hp p z rfl
  have same : ∀ p ∈ R, H2 p = H1 p := fun p hp => by
    cases e : H1 p with
    | none => exact absurd e (al p hp)
    | some o => exact b.keep p o e (out p hp)
  have offR : ∀ p ∈ R, F2 p = none := fun p hp => by
    cases e : F2 p with
    | none => rfl
    | some o =>
      rcases b.fre p o e with q | q | q
      · rw [a.off p (List.mem_append_left _ hp)] at q; cases q
      · exact absurd q (out p hp)
      · exact absurd q (al p hp)
  have c : Stp F1 H1 (R ++ P1) F2 H2 (R ++ P2) := by
    refine ⟨b.sub, b.top, fun x o h n => b.keep x o h fun z => n (List.mem_append_right _ z), fun x hx => ?_, fun x o hx => ?_, ?_, fun x hx => ?_⟩
    · rcases List.mem_append.mp hx with q | q
      · exact .inl (List.mem_append_left _ q)
      · rcases b.own x q with z | z
        · exact .inl (List.mem_append_right _ z)
        · exact .inr z
    · rcases b.fre x o hx with q | q | q
      · exact .inl q
      · exact .inr (.inl (List.mem_append_right _ q))
      · exact .inr (.inr q)
    · refine List.nodup_append.mpr ⟨nd.1, b.nd, fun x hx y hy e => ?_⟩
      subst e
      rcases b.own x hy with z | z
      · exact out x hx z
      · exact al x hx z
    · rcases List.mem_append.mp hx with q | q
      · exact offR x q
      · exact b.off x q
  exact ⟨a.tr c, same⟩
theorem Stp.drop {F H F1 H1 : Hp} {P P1 P2 : List Addr} (a : Stp F H P F1 H1 P1) (s : P2.Sublist P1) : Stp F H P F1 H1 P2 :=
  ⟨a.sub, a.top, a.keep, fun b hb => a.own b (s.subset hb), a.fre, a.nd.sublist s, fun b hb => a.off b (s.subset hb)⟩
theorem Stp.fz {F H F1 H1 : Hp} {P A R B : List Addr} (a : Stp F H P F1 H1 (A ++ R ++ B)) : Stp F H P (fzH F1 H1 R) H1 (A ++ B) := by
  have offR : ∀ p ∈ R, F1 p = none := fun p hp => a.off p (List.mem_append_left _ (List.mem_append_right _ hp))
  have s : (A ++ B).Sublist (A ++ R ++ B) := List.Sublist.append (List.sublist_append_left A R) (List.Sublist.refl B)
  have n1 := List.nodup_append.mp a.nd
  have n2 := List.nodup_append.mp n1.1
  refine ⟨a.sub.tr (fzH_ext offR), fzH_top a.top, a.keep, fun b hb => a.own b (s.subset hb), fun b o hb => ?_, a.nd.sublist s, fun b hb => ?_⟩
  · by_cases h : b ∈ R
    · rcases a.own b (List.mem_append_left _ (List.mem_append_right _ h)) with q | q
      · exact .inr (.inl q)
      · exact .inr (.inr q)
    · rw [fzH_out h] at hb
      exact a.fre b o hb
  · have hR : b ∉ R := fun z => by
      rcases List.mem_append.mp hb with q | q
      · exact n2.2.2 b q b z rfl
      · exact n1.2.2 b (List.mem_append_right _ z) b q rfl
    rw [fzH_out hR]
    exact a.off b (s.subset hb)
end Nb
namespace Nb
open PySem PySem.Spec PyProof.Rows L2
theorem Stp.base {F H F1 H1 : Hp} {P P1 : List Addr} (a : Stp F H P F1 H1 P1) : Stp F1 H1 P1 F1 H1 P1 := Stp.rfl' a.top a.nd a.off
inductive SV where
  | no
  | val (d : D)
  | bor (d : D)
  /-- lent, and put aside: nothing of it is told but that the name stays -/
  | fix
abbrev Ev := List SV
def Slt (g : Gh) (F H : Hp) (s : SV) (x b : Option V) (P : List Addr) : Prop :=
  match s with
  | .no => P = []
  | .val d => ∃ v, x = some v ∧ Rep g F H d v P
  | .bor d => ∃ v, x = some v ∧ b = some v ∧ Rep g F H d v P
  | .fix => x = b ∧ P = []
def EnvR (g : Gh) (F H : Hp) : Ev → L2.St → List (Option V) → List Addr → Prop
  | [], σ, β, P => σ = [] ∧ β = [] ∧ P = []
  | s :: ε, σ, β, P => ∃ x σr b βr P1 P2, σ = x :: σr ∧ β = b :: βr ∧ P = P1 ++ P2 ∧ Slt g F H s x b P1 ∧ EnvR g F H ε σr βr P2
section
variable {g : Gh} {F H F' H' : Hp}
theorem Slt.move (e : Exh F F') {s : SV} {x b : Option V} {P : List Addr} (k : ∀ p ∈ P, H' p = H p) (h : Slt g F H s x b P) : Slt g F' H' s x b P := by
  cases s with
  | no => exact h
  | val d =>
    obtain ⟨v, h1, h2⟩ := h
    exact ⟨v, h1, Rep.move e d v P k h2⟩
  | bor d =>
    obtain ⟨v, h1, h2, h3⟩ := h
    exact ⟨v, h1, h2, Rep.move e d v P k h3⟩
  | fix => exact h
theorem Slt.alive {s : SV} {x b : Option V} {P : List Addr} (h : Slt g F H s x b P) : ∀ p ∈ P, H p ≠ none := by
  cases s with
  | no =>
    intro p hp
    rw [show P = [] from h] at hp
    cases hp
  | val d =>
    obtain ⟨v, h1, h2⟩ := h
    exact Rep.alive d v P h2
  | bor d =>
    obtain ⟨v, h1, h2, h3⟩ := h
    exact Rep.alive d v P h3
  | fix =>
    intro p hp
    rw [h.2] at hp
    cases hp
theorem EnvR.move (e : Exh F F') : ∀ (ε : Ev) (σ : L2.St) (β : List (Option V)) (P : List Addr), (∀ p ∈ P, H' p = H p) → EnvR g F H ε σ β P → EnvR g F' H' ε σ β P
  | [], _, _, _, _, h => h
  | s :: ε, σ, β, P, k, ⟨x, σr, b, βr, P1, P2, h1, h2, h3, h4, h5⟩ =>
    ⟨x, σr, b, βr, P1, P2, h1, h2, h3, Slt.move e (fun q hq => k q (by rw [h3]; exact List.mem_append_left _ hq)) h4, EnvR.move e ε σr βr P2 (fun q hq => k q (by rw [h3]; exact List.mem_append_right _ hq)) h5⟩
theorem EnvR.alive : ∀ (ε : Ev) (σ : L2.St) (β : List (Option V)) (P : List Addr), EnvR g F H ε σ β P → ∀ p ∈ P, H p ≠ none
  | [], _, _, _, h, p, hp => by rw [h.2.2] at hp; cases hp
  | s :: ε, σ, β, P, ⟨x, σr, b, βr, P1, P2, h1, h2, h3, h4, h5⟩, p, hp => by
    rw [h3] at hp
    rcases List.mem_append.mp hp with hp | hp
    · exact Slt.alive h4 p hp
    · exact EnvR.alive ε σr βr P2 h5 p hp
theorem EnvR.length : ∀ (ε : Ev) (σ : L2.St) (β : List (Option V)) (P : List Addr), EnvR g F H ε σ β P → σ.length = ε.length
  | [], _, _, _, h => by rw [h.1]; rfl
  | s :: ε, σ, β, P, ⟨x, σr, b, βr, P1, P2, h1, h2, h3, h4, h5⟩ => by
    rw [h1, List.length_cons, List.length_cons, EnvR.length ε σr βr P2 h5]
theorem EnvR.at : ∀ (ε : Ev) (σ : L2.St) (β : List (Option V)) (P : List Addr) (i : Nat) (s : SV), ε[i]? = some s → EnvR g F H ε σ β P →
    ∃ x b A P1 B, σ[i]? = some x ∧ β[i]? = some b ∧ P = A ++ P1 ++ B ∧ Slt g F H s x b P1 ∧
      ∀ (F' H' : Hp) (s' : SV) (x' : Option V) (P1' : List Addr), Exh F F' → (∀ p ∈ A ++ B, H' p = H p) → Slt g F' H' s' x' b P1' → EnvR g F' H' (ε.set i s') (σ.set i x') β (A ++ P1' ++ B)
  | [], _, _, _, i, s, e, _ => by simp at e
  | s0 :: ε, σ, β, P, 0, s, e, ⟨x, σr, b, βr, P1, P2, h1, h2, h3, h4, h5⟩ => by
    have e' : s0 = s := by simpa using e
    subst e'
    refine ⟨x, b, [], P1, P2, by rw [h1]; rfl, by rw [h2]; rfl, by rw [h3]; rfl, h4, fun F' H' s' x' P1' ex k hs => ?_⟩
    exact ⟨x', σr, b, βr, P1', P2, by rw [h1]; rfl, h2, rfl, hs, EnvR.move ex ε σr βr P2 (fun q hq => k q hq) h5⟩
  | s0 :: ε, σ, β, P, i + 1, s, e, ⟨x, σr, b, βr, P1, P2, h1, h2, h3, h4, h5⟩ => by
    obtain ⟨x2, b2, A, R, B, g1, g2, g3, g4, g5⟩ := EnvR.at ε σr βr P2 i s (by simpa using e) h5
    refine ⟨x2, b2, P1 ++ A, R, B, by rw [h1]; simpa using g1, by rw [h2]; simpa using g2, by rw [h3, g3]; simp, g4, fun F' H' s' x' P1' ex k hs => ?_⟩
    refine ⟨x, σr.set i x', b, βr, P1, A ++ P1' ++ B, by rw [h1]; rfl, h2, by simp, Slt.move ex (fun q hq => k q (by simp [hq])) h4, g5 F' H' s' x' P1' ex (fun q hq => k q ?_) hs⟩
    rcases List.mem_append.mp hq with z | z
    · simp [z]
    · simp [z]
end
inductive Res (α : Type) where
  | ok (a : α) (ε : Ev)
  | exc (c : Nat) (fs : List Str) (ds : List D) (ε : Ev)
  | bad
def Res.bind {α β : Type} (r : Res α) (k : α → Ev → Res β) : Res β := match r with
  | .ok a ε => k a ε
  | .exc c fs ds ε => .exc c fs ds ε
  | .bad => .bad
abbrev FE := Ev → Res D
abbrev FT := Ev → Res Bool
def PostR {α ν : Type} (g : Gh) (β : List (Option V)) (W : WX) (σ : L2.St) (rel : Hp → Hp → α → ν → List Addr → Prop) (F H : Hp) (P : List Addr) (r : Res α) (Q : ν → Hp → Prop) : Prop :=
  match r with
  | .ok a ε' => ∀ v H' F' R P', rel F' H' a v R → EnvR g F' H' ε' σ β P' → Stp F H P F' H' (R ++ P') → Q v H'
  | .exc c fs ds ε' => ∀ dx vs H' F' P', XdAt F' dx fs vs → fs.length = vs.length → Reps g F' H' ds vs [] → EnvR g F' H' ε' σ β P' → Stp F H P F' H' P' → W (.ref (g.cl c)) dx σ H'
  | .bad => False
def rdR {α ν : Type} (g : Gh) (β : List (Option V)) (W : WX) (rel : Hp → Hp → α → ν → List Addr → Prop) (f : Ev → Res α) : L2.St → Hp → (ν → Hp → Prop) → Prop :=
  fun σ H Q => ∃ F ε P, EnvR g F H ε σ β P ∧ Stp F H P F H P ∧ PostR g β W σ rel F H P (f ε) Q
section
variable {g : Gh} {β : List (Option V)} {W : WX} {σ : L2.St}
theorem PostR.next {α α' ν ν' : Type} {rel : Hp → Hp → α → ν → List Addr → Prop} {rel' : Hp → Hp → α' → ν' → List Addr → Prop} {F H F1 H1 : Hp} {P P1 A : List Addr} {r : Res α} {k : α → Ev → Res α'} {Q : ν' → Hp → Prop} {Q2 : ν → Hp → Prop}
    (h : PostR g β W σ rel' F H P (r.bind k) Q) (s1 : Stp F H P F1 H1 (A ++ P1)) (al : ∀ p ∈ A, H1 p ≠ none)
    (hk : ∀ a ε2, r = .ok a ε2 → ∀ v H2 F2 R2 P2, rel F2 H2 a v R2 → EnvR g F2 H2 ε2 σ β P2 → Stp F H P F2 H2 (A ++ (R2 ++ P2)) → (∀ p ∈ A, H2 p = H1 p) → Exh F1 F2 → PostR g β W σ rel' F H P (k a ε2) Q → Q2 v H2) :
    PostR g β W σ rel F1 H1 P1 r Q2 := by
  cases r with
  | ok a ε2 =>
    intro v H2 F2 R2 P2 rl en st
    obtain ⟨c, d⟩ := s1.carry al st
    exact hk a ε2 rfl v H2 F2 R2 P2 rl en c d st.sub h
  | exc c fs ds ε2 =>
    intro dx vs H2 F2 P2 h1 h2 h3 en st
    exact h dx vs H2 F2 P2 h1 h2 h3 en ((s1.drop (List.sublist_append_right A P1)).tr st)
  | bad => exact h
theorem rdR.bind {α α' ν ν' : Type} {rel : Hp → Hp → α → ν → List Addr → Prop} {rel' : Hp → Hp → α' → ν' → List Addr → Prop} {H : Hp} {f : Ev → Res α} {k : α → Ev → Res α'} {Q : ν' → Hp → Prop} {Q2 : ν → Hp → Prop}
    (h : rdR g β W rel' (fun ε => (f ε).bind k) σ H Q)
    (hk : ∀ F P a ε2 v H2 F2 R2 P2, rel F2 H2 a v R2 → EnvR g F2 H2 ε2 σ β P2 → Stp F H P F2 H2 (R2 ++ P2) → PostR g β W σ rel' F H P (k a ε2) Q → Q2 v H2) : rdR g β W rel f σ H Q2 := by
  obtain ⟨F, ε, P, en, st, po⟩ := h
  exact ⟨F, ε, P, en, st, PostR.next (A := []) po st (fun _ z => nomatch z) fun a ε2 _ v H2 F2 R2 P2 rl en2 st2 _ _ po2 => hk F P a ε2 v H2 F2 R2 P2 rl en2 st2 po2⟩
end
abbrev gx (X : Cx) (cl : Nat → Addr) : Gh := ⟨X.K, cl, X.w⟩
abbrev rdE (X : Cx) (cl : Nat → Addr) (β : List (Option V)) (W : WX) (f : FE) : TE := rdR (gx X cl) β W (Rep (gx X cl)) f
theorem _root_.L2.PE.mono {X : Cx} {e : Expr} {t t' : TE} (h : PE X e t) (m : ∀ σ H Q, t' σ H Q → t σ H Q) : PE X e t' := ⟨fun pins s σ H Q I q => h.run pins s σ H Q I (m σ H Q q)⟩
theorem _root_.L2.PT.mono {X : Cx} {e : Expr} {t t' : TT} (h : PT X e t) (m : ∀ σ H Q, t' σ H Q → t σ H Q) : PT X e t' := ⟨fun pins s σ H Q I q => h.run pins s σ H Q I (m σ H Q q)⟩
section
variable {X : Cx} {cl : Nat → Addr} {β : List (Option V)} {W : WX} {pos : Pos}
def fVar (i : Nat) : FE := fun ε => match ε[i]? with
  | some (.val d) => .ok d.frz (ε.set i (.val d.frz))
  | some (.bor d) => if d.fz then .ok d ε else .bad
  | _ => .bad
def fMov (i : Nat) : FE := fun ε => match ε[i]? with
  | some (.val d) => .ok d (ε.set i .no)
  | _ => .bad
def fC (d : D) : FE := fun ε => .ok d ε
def Res.of (o : Option D) (ε : Ev) : Res D := match o with
  | some d => .ok d ε
  | none => .bad
def fBin (k : D → D → Option D) (fa fb : FE) : FE := fun ε => (fa ε).bind fun d1 ε1 => (fb ε1).bind fun d2 ε2 => .of (k d1 d2) ε2
end
end Nb
namespace Nb
open PySem PySem.Spec PyProof.Rows L2
theorem Stp.nil {F H : Hp} (t : Exh F H) : Stp F H [] F H [] := Stp.rfl' t List.nodup_nil fun _ h => nomatch h
theorem none_of_exh {F H : Hp} {p : Addr} (t : Exh F H) (h : H p = none) : F p = none := by
  cases e : F p with
  | none => rfl
  | some o => rw [t p o e] at h; cases h
theorem exh_upd {H : Hp} {p : Addr} {o : HO} (h : H p = none) : Exh H (upd H p o) := fun a u e => by
  rw [upd_ne (ne_of_none e h)]
  exact e
theorem Stp.new {F H : Hp} {p : Addr} {o : HO} (t : Exh F H) (h : H p = none) : Stp F H [] F (upd H p o) [p] where
  sub := fun _ _ e => e
  top := t.tr (exh_upd h)
  keep := fun b u e _ => exh_upd h b u e
  own := fun b hb => by
    rw [List.mem_singleton.mp hb]
    exact .inr h
  fre := fun _ _ e => .inl e
  nd := List.nodup_cons.mpr ⟨(fun h => nomatch h), List.nodup_nil⟩
  off := fun b hb => by
    rw [List.mem_singleton.mp hb]
    exact none_of_exh t h
section
variable {g : Gh} {F H : Hp}
theorem Reps.append : ∀ (ds es : List D) (vs ws : List V) (P R : List Addr), Reps g F H ds vs P → Reps g F H es ws R → Reps g F H (ds ++ es) (vs ++ ws) (P ++ R)
  | [], es, vs, ws, P, R, h, k => by
    rw [h.1, h.2]
    exact k
  | d :: ds, es, vs, ws, P, R, ⟨v, vr, P1, P2, h1, h2, h3, h4⟩, k =>
    ⟨v, vr ++ ws, P1, P2 ++ R, by rw [h1]; rfl, by rw [h2, List.append_assoc], h3, Reps.append ds es vr ws P2 R h4 k⟩
theorem Reps.get : ∀ (ds : List D) (vs : List V) (P : List Addr) (i : Nat) (d : D), Reps g F H ds vs P → ds[i]? = some d →
    ∃ v A R B, vs[i]? = some v ∧ P = A ++ R ++ B ∧ Rep g F H d v R
  | [], _, _, i, d, _, e => by simp at e
  | d0 :: ds, vs, P, 0, d, ⟨v, vr, P1, P2, h1, h2, h3, h4⟩, e => by
    have e' : d0 = d := by simpa using e
    subst e'
    exact ⟨v, [], P1, P2, by rw [h1]; rfl, by rw [h2]; rfl, h3⟩
  | d0 :: ds, vs, P, i + 1, d, ⟨v, vr, P1, P2, h1, h2, h3, h4⟩, e => by
    obtain ⟨w, A, R, B, g1, g2, g3⟩ := Reps.get ds vr P2 i d h4 (by simpa using e)
    exact ⟨w, P1 ++ A, R, B, by rw [h1]; simpa using g1, by rw [h2, g2]; simp, g3⟩
theorem fzs_append (xs ys : List D) : fzs (xs ++ ys) = (fzs xs && fzs ys) := by
  induction xs with
  | nil => rfl
  | cons d xs ih => show (d.fz && fzs (xs ++ ys)) = ((d.fz && fzs xs) && fzs ys); rw [ih, Bool.and_assoc]
theorem fzs_take {xs : List D} (n : Nat) (h : fzs xs = true) : fzs (xs.take n) = true := by
  induction xs generalizing n with
  | nil => simp [fzs]
  | cons d xs ih =>
    have h' : d.fz = true ∧ fzs xs = true := Bool.and_eq_true_iff.mp h
    cases n with
    | zero => rfl
    | succ n => exact Bool.and_eq_true_iff.mpr ⟨h'.1, ih n h'.2⟩
theorem fzs_drop {xs : List D} (n : Nat) (h : fzs xs = true) : fzs (xs.drop n) = true := by
  induction xs generalizing n with
  | nil => simp [fzs]
  | cons d xs ih =>
    have h' : d.fz = true ∧ fzs xs = true := Bool.and_eq_true_iff.mp h
    cases n with
    | zero => exact h
    | succ n => exact ih n h'.2
theorem fzs_reverse {xs : List D} (h : fzs xs = true) : fzs xs.reverse = true := by
  induction xs with
  | nil => rfl
  | cons d xs ih =>
    have h' : d.fz = true ∧ fzs xs = true := Bool.and_eq_true_iff.mp h
    rw [List.reverse_cons, fzs_append, ih h'.2]
    exact Bool.and_eq_true_iff.mpr ⟨rfl, Bool.and_eq_true_iff.mpr ⟨h'.1, rfl⟩⟩
theorem Reps.iff : ∀ (ds : List D) (vs : List V), fzs ds = true → (Reps g F H ds vs [] ↔ ds.length = vs.length ∧ ∀ (i : Nat) d v, ds[i]? = some d → vs[i]? = some v → Rep g F H d v [])
  | [], vs, _ => ⟨fun h => ⟨by rw [h.1]; rfl, fun i d v e => by simp at e⟩, fun h => ⟨List.length_eq_zero_iff.mp h.1.symm, rfl⟩⟩
  | d0 :: ds, vs, z => by
    have z' : d0.fz = true ∧ fzs ds = true := Bool.and_eq_true_iff.mp z
    constructor
    · rintro ⟨v, vr, P1, P2, h1, h2, h3, h4⟩
      obtain ⟨e1, e2⟩ := List.append_eq_nil_iff.mp h2.symm
      subst e1 e2
      obtain ⟨k1, k2⟩ := (Reps.iff ds vr z'.2).mp h4
      refine ⟨by rw [h1, List.length_cons, List.length_cons, k1], fun i d w e1 e2 => ?_⟩
      rw [h1] at e2
      cases i with
      | zero =>
        have a : d0 = d := by simpa using e1
        have b : v = w := by simpa using e2
        subst a b
        exact h3
      | succ i => exact k2 i d w (by simpa using e1) (by simpa using e2)
    · rintro ⟨k1, k2⟩
      cases vs with
      | nil => simp at k1
      | cons v vr =>
        exact ⟨v, vr, [], [], rfl, rfl, k2 0 d0 v rfl rfl, (Reps.iff ds vr z'.2).mpr ⟨by simpa using k1, fun i d w e1 e2 => k2 (i + 1) d w (by simpa using e1) (by simpa using e2)⟩⟩
theorem Reps.take {ds : List D} {vs : List V} (z : fzs ds = true) (h : Reps g F H ds vs []) (n : Nat) : Reps g F H (ds.take n) (vs.take n) [] := by
  obtain ⟨k1, k2⟩ := (Reps.iff ds vs z).mp h
  refine (Reps.iff _ _ (fzs_take n z)).mpr ⟨by rw [List.length_take, List.length_take, k1], fun i d v e1 e2 => ?_⟩
  rw [List.getElem?_take] at e1 e2
  split at e1
  · rename_i hi
    rw [if_pos hi] at e2
    exact k2 i d v e1 e2
  · cases e1
theorem Reps.drop {ds : List D} {vs : List V} (z : fzs ds = true) (h : Reps g F H ds vs []) (n : Nat) : Reps g F H (ds.drop n) (vs.drop n) [] := by
  obtain ⟨k1, k2⟩ := (Reps.iff ds vs z).mp h
  refine (Reps.iff _ _ (fzs_drop n z)).mpr ⟨by rw [List.length_drop, List.length_drop, k1], fun i d v e1 e2 => ?_⟩
  rw [List.getElem?_drop] at e1 e2
  exact k2 _ d v e1 e2
theorem Reps.reverse {ds : List D} {vs : List V} (z : fzs ds = true) (h : Reps g F H ds vs []) : Reps g F H ds.reverse vs.reverse [] := by
  obtain ⟨k1, k2⟩ := (Reps.iff ds vs z).mp h
  refine (Reps.iff _ _ (fzs_reverse z)).mpr ⟨by rw [List.length_reverse, List.length_reverse, k1], fun i d v e1 e2 => ?_⟩
  have h1 : i < ds.length := by
    have := (List.getElem?_eq_some_iff.mp e1).1
    rwa [List.length_reverse] at this
  rw [List.getElem?_reverse h1] at e1
  rw [List.getElem?_reverse (by omega)] at e2
  rw [← k1] at e2
  exact k2 _ d v e1 e2
end
abbrev mx : Nat := 100000
section
variable {X : Cx} {cl : Nat → Addr}
def kAdd : D → D → Option D
  | .int i, .int j => some (.int (i + j))
  | .str a, .str b => if a.length + b.length ≤ mx then some (.str (a ++ b)) else none
  | .lst _ xs, .lst _ ys => if fzs xs = true ∧ fzs ys = true ∧ xs.length + ys.length ≤ mx then some (.lst true (xs ++ ys)) else none
  | .tup xs, .tup ys => if fzs xs = true ∧ fzs ys = true ∧ xs.length + ys.length ≤ mx then some (.tup (xs ++ ys)) else none
  | _, _ => none
def kSub : D → D → Option D
  | .int i, .int j => some (.int (i - j))
  | _, _ => none
instance (i j : Int) : Decidable (CMul i j) := by unfold CMul; infer_instance
instance (i j : Int) : Decidable (CDiv i j) := by unfold CDiv; infer_instance
instance (i j : Int) : Decidable (CPow i j) := by unfold CPow; infer_instance
def kMod : D → D → Option D
  | .int i, .int j => if 0 < j then some (.int (i % j)) else none
  | _, _ => none
def kDiv : D → D → Option D
  | .int i, .int j => if CDiv i j then some (.int (i / j)) else none
  | _, _ => none
def kPow : D → D → Option D
  | .int i, .int j => if CPow i j then some (.int (i ^ j.toNat)) else none
  | _, _ => none
def kMul : D → D → Option D
  | .int i, .int j => if CMul i j then some (.int (i * j)) else none
  | .lst _ xs, .int k => if fzs xs = true ∧ 0 ≤ k ∧ k ≤ 1000 ∧ xs.length ≤ 100 then some (.lst true (List.replicate k.toNat xs).flatten) else none
  | .tup xs, .int k => if fzs xs = true ∧ 2 ≤ k ∧ k ≤ 1000 ∧ xs.length ≤ 100 ∧ xs ≠ [] then some (.tup (List.replicate k.toNat xs).flatten) else none
  | _, _ => none
mutual
def D.data : D → Option PyData
  | .non => some .none
  | .bl b => some (.bool b)
  | .int i => some (.int i)
  | .str s => some (.str s)
  | .tup ds => (datas ds).map .tuple
  | .tuk ds => (datas ds).map .tuple
  | .lst _ ds => (datas ds).map .list
  | .scr ds => (datas ds).map .list
  | _ => none
def datas : List D → Option (List PyData)
  | [] => some []
  | d :: ds => match d.data, datas ds with
    | some x, some xs => some (x :: xs)
    | _, _ => none
end
def kEq (n : Bool) : D → D → Option D := fun d1 d2 => match d1.data, d2.data with
  | some a, some b => if min a.depth b.depth ≤ 64 then some (.bl (n != PyData.eqv a b)) else none
  | _, _ => none
def kOrd (f : Int → Int → Bool) (h : List Nat → List Nat → Bool) : D → D → Option D
  | .int i, .int j => some (.bl (f i j))
  | .str a, .str b => some (.bl (h a.cps.toList b.cps.toList))
  | _, _ => none
abbrev kLt : D → D → Option D := kOrd (fun i j => decide (i < j)) fun a b => decide (a < b)
abbrev kGt : D → D → Option D := kOrd (fun i j => decide (j < i)) fun a b => decide (b < a)
abbrev kGe : D → D → Option D := kOrd (fun i j => decide (j ≤ i)) fun a b => !decide (a < b)
end
end Nb
namespace Nb
open PySem PySem.Spec PyProof.Rows L2
section
variable {X : Cx} {cl : Nat → Addr} {β : List (Option V)} {W : WX} {pos : Pos} {a b c : Expr} {fa fb fc : FE}
def asB (f : FE) : FT := fun ε => (f ε).bind fun d ε1 => match d with
  | .bl b => .ok b ε1
  | _ => .bad
def D.tru : D → Option Bool
  | .non => some false
  | .bl b => some b
  | .int i => some (i != 0)
  | .str s => if s.length ≤ mx then some ((s.length : Int) != 0) else none
  | .tup ds => some (!ds.isEmpty)
  | .tuk ds => some (!ds.isEmpty)
  | .scr ds => some (!ds.isEmpty)
  | .lst _ ds => some (!ds.isEmpty)
  | .dic _ ks _ => some (!ks.isEmpty)
  | _ => none
def fTru (f : FE) : FT := fun ε => (f ε).bind fun d ε1 => match d.tru with
  | some b => .ok b ε1
  | none => .bad
def fNotT (f : FT) : FT := fun ε => (f ε).bind fun b ε1 => .ok (!b) ε1
def fAndT (f g : FT) : FT := fun ε => (f ε).bind fun b ε1 => if b = true then g ε1 else .ok false ε1
def fOrT (f g : FT) : FT := fun ε => (f ε).bind fun b ε1 => if b = true then .ok true ε1 else g ε1
def fIf (t : FT) (f g : FE) : FE := fun ε => (t ε).bind fun b ε1 => if b = true then f ε1 else g ε1
def fNeg (f : FE) : FE := fun ε => (f ε).bind fun d ε1 => match d with
  | .int i => .ok (.int (-i)) ε1
  | _ => .bad
inductive AD where
  | v (d : D)
  | b (i : Nat)
abbrev FA := Ev → Res (List AD)
def relA (g : Gh) (σ : L2.St) (F H : Hp) : List AD → List V → List Addr → Prop
  | [], vs, R => vs = [] ∧ R = []
  | .v d :: as, vs, R => ∃ v vr R1 R2, vs = v :: vr ∧ R = R1 ++ R2 ∧ Rep g F H d v R1 ∧ relA g σ F H as vr R2
  | .b i :: as, vs, R => ∃ v vr, vs = v :: vr ∧ σ[i]? = some (some v) ∧ relA g σ F H as vr R
def aNil : FA := fun ε => .ok [] ε
def aCons (f : FE) (fs : FA) : FA := fun ε => (f ε).bind fun d ε1 => (fs ε1).bind fun as ε2 => .ok (.v d :: as) ε2
def aBor (i : Nat) (fs : FA) : FA := fun ε => match ε[i]? with
  | some (.val _) => (fs ε).bind fun as ε2 => .ok (.b i :: as) ε2
  | some (.bor _) => (fs ε).bind fun as ε2 => .ok (.b i :: as) ε2
  | _ => .bad
def D.items : D → Option (List D)
  | .tup ds => some ds
  | .tuk ds => some ds
  | .lst _ ds => some ds
  | .scr ds => some ds
  | _ => none
theorem relA.move {g : Gh} {σ : L2.St} {F H F' H' : Hp} (e : Exh F F') : ∀ (as : List AD) (vs : List V) (R : List Addr), (∀ p ∈ R, H' p = H p) → relA g σ F H as vs R → relA g σ F' H' as vs R
  | [], _, _, _, h => h
  | .v d :: as, vs, R, k, ⟨v, vr, R1, R2, h1, h2, h3, h4⟩ => ⟨v, vr, R1, R2, h1, h2, Rep.move e d v R1 (fun q hq => k q (by rw [h2]; exact List.mem_append_left _ hq)) h3, relA.move e as vr R2 (fun q hq => k q (by rw [h2]; exact List.mem_append_right _ hq)) h4⟩
  | .b i :: as, vs, R, k, ⟨v, vr, h1, h2, h3⟩ => ⟨v, vr, h1, h2, relA.move e as vr R k h3⟩
theorem relA.alive {g : Gh} {σ : L2.St} {F H : Hp} : ∀ (as : List AD) (vs : List V) (R : List Addr), relA g σ F H as vs R → ∀ p ∈ R, H p ≠ none
  | [], _, _, h, p, hp => by rw [h.2] at hp; cases hp
  | .v d :: as, vs, R, ⟨v, vr, R1, R2, h1, h2, h3, h4⟩, p, hp => by
    rw [h2] at hp
    rcases List.mem_append.mp hp with hp | hp
    · exact Rep.alive d v R1 h3 p hp
    · exact relA.alive as vr R2 h4 p hp
  | .b i :: as, vs, R, ⟨v, vr, h1, h2, h3⟩, p, hp => relA.alive as vr R h3 p hp
def allV : List AD → Option (List D)
  | [] => some []
  | .v d :: as => (allV as).map (d :: ·)
  | .b _ :: _ => none
def fTup (fs : FA) : FE := fun ε => (fs ε).bind fun as ε1 => match allV as with
  | some ds => if ds.length ≤ mx then .ok (.tup ds) ε1 else .bad
  | none => .bad
def fLst (fs : FA) : FE := fun ε => (fs ε).bind fun as ε1 => match allV as with
  | some ds => if ds.length ≤ mx then .ok (.lst true ds) ε1 else .bad
  | none => .bad
end
end Nb
namespace Nb
open PySem PySem.Spec PyProof.Rows L2
section
variable {X : Cx} {cl : Nat → Addr} {β : List (Option V)} {W : WX} {pos : Pos} {a b c : Expr} {fa fb fc : FE}
def kIx : D → D → Option D
  | .str s, .int i => if s.length ≤ mx then (atI s.cps.toList i).map fun c => .str ⟨#[c]⟩ else none
  | d, .int i => match d.items with
    | some ds => match atI ds i with
      | some e => if e.fz = true then some e else none
      | none => none
    | none => none
  | _, _ => none
def cutD {α : Type} (xs : List α) (lo hi : Option Int) : List α := (xs.drop (HT.sIx xs.length 0 lo)).take (HT.sIx xs.length xs.length hi - HT.sIx xs.length 0 lo)
def kSl (lo hi : Option Int) : D → Option D
  | .str s => if s.length ≤ mx then some (.str (cutS s lo hi)) else none
  | .tup ds => if fzs ds = true then some (.tup (cutD ds lo hi)) else none
  | .lst _ ds => if fzs ds = true then some (.lst true (cutD ds lo hi)) else none
  | .scr ds => if fzs ds = true then some (.lst true (cutD ds lo hi)) else none
  | _ => none
abbrev FO := Ev → Res (Option Int)
def oNone : FO := fun ε => .ok none ε
def oSome (f : FE) : FO := fun ε => (f ε).bind fun d ε1 => match d with
  | .int i => .ok (some i) ε1
  | _ => .bad
def fSl (f : FE) (lo hi : FO) : FE := fun ε => (f ε).bind fun d ε1 => (lo ε1).bind fun l ε2 => (hi ε2).bind fun u ε3 => if d.fz = true then .of (kSl l u d) ε3 else .bad
def fFn (k : List D → Option D) (fs : FA) : FE := fun ε => (fs ε).bind fun as ε1 => match allV as with
  | some ds => .of (k ds) ε1
  | none => .bad
def kList : List D → Option D
  | [d] => match d.items with
    | some ds => if fzs ds = true then some (.lst true ds) else none
    | none => none
  | _ => none
def kTuple : List D → Option D
  | [d] => match d.items with
    | some ds => if fzs ds = true then some (.tup ds) else none
    | none => none
  | _ => none
def kInt : List D → Option D
  | [.int i] => some (.int i)
  | [.bl b] => some (.int (if b then 1 else 0))
  | _ => none
def bools : List D → Option (List Bool)
  | [] => some []
  | .bl b :: ds => (bools ds).map (b :: ·)
  | _ => none
abbrev Tk := Sum String Nat
def tkV (cl : Nat → Addr) : Tk → Value
  | .inl n => .type n
  | .inr c => .ref (cl c)
def D.tk : D → Option Tk
  | .non => some (.inl "NoneType")
  | .bl _ => some (.inl "bool")
  | .int _ => some (.inl "int")
  | .str _ => some (.inl "str")
  | .tup _ => some (.inl "tuple")
  | .tuk _ => some (.inl "tuple")
  | .lst _ _ => some (.inl "list")
  | .dic _ _ _ => some (.inl "dict")
  | .ins _ c _ _ => some (.inr c)
  | _ => none
def D.asTk : D → Option Tk
  | .ty n => some (.inl n)
  | .cls c => some (.inr c)
  | _ => none
abbrev IsTab := List ((Tk × Tk) × Bool)
def tabGet : IsTab → Tk × Tk → Option Bool
  | [], _ => none
  | q :: t, p => if p = q.1 then some q.2 else tabGet t p
structure ClsI (K : PySem.W.Frag) (C : Addr) : Prop where
  cls : Cls K C
  at_ : PySem.W.findIn K (.ref C) "__class__" = some (some (.builtin "object.__class__"))
  get : PySem.W.specialIn K (.builtin "object.__class__") "__get__" = some (some (.builtin "getset_descriptor.__get__"))
  tks : PySem.W.takesIn K (.builtin "object.__class__") = some true
  mro : PySem.W.mroIn K C (.type "object") = some true
structure IsOk (K : PySem.W.Frag) (cl : Nat → Addr) (nc : List Nat) (tab : IsTab) : Prop where
  row : ∀ p b, tabGet tab p = some b → PySem.W.kitOne K (tkV cl p.1) (tkV cl p.2) = some b
  ins : ∀ c ∈ nc, ClsI K (cl c)
end
end Nb
namespace Nb
open PySem PySem.Spec PyProof.Rows L2
inductive Out where
  | nx (ε : Ev)
  | bk (ε : Ev)
  | ct (ε : Ev)
  | rt (d : D) (ε : Ev)
  | exc (c : Nat) (fs : List Str) (ds : List D) (ε : Ev)
  | bad
abbrev FS := Ev → Out
def Res.out {α : Type} (r : Res α) (k : α → Ev → Out) : Out := match r with
  | .ok a ε => k a ε
  | .exc c fs ds ε => .exc c fs ds ε
  | .bad => .bad
def Out.seq (r : Out) (k : FS) : Out := match r with
  | .nx ε => k ε
  | .bk ε => .bk ε
  | .ct ε => .ct ε
  | .rt d ε => .rt d ε
  | .exc c fs ds ε => .exc c fs ds ε
  | .bad => .bad
def PostS (g : Gh) (β : List (Option V)) (W : WX) (F H : Hp) (P : List Addr) (r : Out) (D : Ends) : Prop := match r with
  | .nx ε' => ∀ σ' H' F' P', EnvR g F' H' ε' σ' β P' → Stp F H P F' H' P' → D.nx σ' H'
  | .bk ε' => ∀ σ' H' F' P', EnvR g F' H' ε' σ' β P' → Stp F H P F' H' P' → D.bk σ' H'
  | .ct ε' => ∀ σ' H' F' P', EnvR g F' H' ε' σ' β P' → Stp F H P F' H' P' → D.ct σ' H'
  | .rt d ε' => ∀ v σ' H' F' R P', Rep g F' H' d v R → EnvR g F' H' ε' σ' β P' → Stp F H P F' H' (R ++ P') → D.rt v H'
  | .exc c fs ds ε' => ∀ σ' dx vs H' F' P', XdAt F' dx fs vs → fs.length = vs.length → Reps g F' H' ds vs [] → EnvR g F' H' ε' σ' β P' → Stp F H P F' H' P' → W (.ref (g.cl c)) dx σ' H'
  | .bad => False
def rdS (g : Gh) (β : List (Option V)) (W : WX) (f : FS) : TS := fun D σ H => ∃ F ε P, EnvR g F H ε σ β P ∧ Stp F H P F H P ∧ PostS g β W F H P (f ε) D
section
variable {g : Gh} {β : List (Option V)} {W : WX} {σ : L2.St}
theorem PostR.stm {α ν : Type} {rel : Hp → Hp → α → ν → List Addr → Prop} {F H : Hp} {P : List Addr} {r : Res α} {k : α → Ev → Out} {D : Ends} {Q2 : ν → Hp → Prop} (h : PostS g β W F H P (r.out k) D)
    (hk : ∀ a ε2 v H2 F2 R2 P2, rel F2 H2 a v R2 → EnvR g F2 H2 ε2 σ β P2 → Stp F H P F2 H2 (R2 ++ P2) → PostS g β W F H P (k a ε2) D → Q2 v H2) : PostR g β W σ rel F H P r Q2 := by
  cases r with
  | ok a ε2 => exact fun v H2 F2 R2 P2 rl en st => hk a ε2 v H2 F2 R2 P2 rl en st h
  | exc c fs ds ε2 => exact fun dx vs H2 F2 P2 h1 h2 h3 en st => h σ dx vs H2 F2 P2 h1 h2 h3 en st
  | bad => exact h
theorem rdS.bind {α ν : Type} {rel : Hp → Hp → α → ν → List Addr → Prop} {H : Hp} {f : Ev → Res α} {k : α → Ev → Out} {D : Ends} {Q2 : ν → Hp → Prop} (h : rdS g β W (fun ε => (f ε).out k) D σ H)
    (hk : ∀ F P a ε2 v H2 F2 R2 P2, rel F2 H2 a v R2 → EnvR g F2 H2 ε2 σ β P2 → Stp F H P F2 H2 (R2 ++ P2) → PostS g β W F H P (k a ε2) D → Q2 v H2) : rdR g β W rel f σ H Q2 := by
  obtain ⟨F, ε, P, en, st, po⟩ := h
  exact ⟨F, ε, P, en, st, PostR.stm po fun a ε2 v H2 F2 R2 P2 rl en2 st2 po2 => hk F P a ε2 v H2 F2 R2 P2 rl en2 st2 po2⟩
theorem PostS.base {F H F1 H1 : Hp} {P P1 : List Addr} {r : Out} {D : Ends} (st : Stp F H P F1 H1 P1) (h : PostS g β W F H P r D) : PostS g β W F1 H1 P1 r D := by
  cases r with
  | nx ε => exact fun σ' H' F' P' en s => h σ' H' F' P' en (st.tr s)
  | bk ε => exact fun σ' H' F' P' en s => h σ' H' F' P' en (st.tr s)
  | ct ε => exact fun σ' H' F' P' en s => h σ' H' F' P' en (st.tr s)
  | rt d ε => exact fun v σ' H' F' R P' rl en s => h v σ' H' F' R P' rl en (st.tr s)
  | exc c fs ds ε => exact fun σ' dx vs H' F' P' h1 h2 h3 en s => h σ' dx vs H' F' P' h1 h2 h3 en (st.tr s)
  | bad => exact h
end
section
variable {X : Cx} {cl : Nat → Addr} {β : List (Option V)} {W : WX} {pos : Pos} {a b c : Expr} {fa fb fc : FE} {st : Stmt} {rest sa sb : List Stmt} {f f' h h' : FS}
def fNx : FS := fun ε => .nx ε
def fSeq (f h : FS) : FS := fun ε => (f ε).seq h
def fDo (f : FE) : FS := fun ε => (f ε).out fun _ ε1 => .nx ε1
def fRt (f : FE) : FS := fun ε => (f ε).out fun d ε1 => .rt d ε1
def fIfS (t : FT) (f h : FS) : FS := fun ε => (t ε).out fun b ε1 => if b = true then f ε1 else h ε1
abbrev FG := D → Ev → Option Ev
def gNm (i : Nat) : FG := fun d ε => if i < ε.length then some (ε.set i (.val d)) else none
def fAsg (f : FE) (p : FG) : FS := fun ε => (f ε).out fun d ε1 => match p d ε1 with
  | some ε2 => .nx ε2
  | none => .bad
def fPar (i j : Nat) (fs : FA) : FS := fun ε => (fs ε).out fun as ε1 => match as with
  | [.v d, .v e] => if i < ε1.length ∧ j < ε1.length then .nx ((ε1.set i (.val d)).set j (.val e)) else .bad
  | _ => .bad
end
end Nb
namespace Nb
open PySem PySem.Spec PyProof.Rows L2
structure WalkD (g : Gh) (J : It) (F0 : Hp) (ds : List D) : Prop where
  item : ∀ (i : Nat) (d : D) (F H : Hp), ds[i]? = some d → Exh F0 F → Exh F H → J.go i H ∧ ∀ x H', J.yld i H x H' → ∃ F', Rep g F' H' d x [] ∧ Stp F H [] F' H' []
  stop : ∀ (F H : Hp), Exh F0 F → Exh F H → J.stop ds.length H
theorem WalkD.mono {g : Gh} {J : It} {F0 F1 : Hp} {ds : List D} (w : WalkD g J F0 ds) (e : Exh F0 F1) : WalkD g J F1 ds :=
  ⟨fun i d F H h1 h2 h3 => w.item i d F H h1 (e.tr h2) h3, fun F H h1 h2 => w.stop F H (e.tr h1) h2⟩
abbrev FI := Ev → Res (List D)
section
variable {X : Cx} {cl : Nat → Addr} {β : List (Option V)} {W : WX} {pos : Pos} {a b c tg : Expr} {fa fb fc : FE}
def fFz (f : FE) : FE := fun ε => (f ε).bind fun d ε1 => .ok d.frz ε1
def fIts (f : FE) : FI := fun ε => (f ε).bind fun d ε1 => match d.frz.items with
  | some ds => .ok ds ε1
  | none => .bad
def rngD (lo c : Int) (n : Nat) : List D := (List.range n).map fun i => .int (lo + (i : Nat) * c)
theorem rng_get {lo c : Int} {n i : Nat} {d : D} (h : (rngD lo c n)[i]? = some d) : i < n ∧ d = .int (lo + (i : Nat) * c) := by
  unfold rngD at h
  rw [List.getElem?_map] at h
  cases q : (List.range n)[i]? with
  | none => rw [q] at h; cases h
  | some j =>
    rw [q] at h
    obtain ⟨h1, h2⟩ := List.getElem?_eq_some_iff.mp q
    rw [List.getElem_range] at h2
    subst h2
    cases h
    exact ⟨by rwa [List.length_range] at h1, rfl⟩
theorem rng_len {lo c : Int} {n : Nat} : (rngD lo c n).length = n := by
  unfold rngD
  rw [List.length_map, List.length_range]
def inR (i : Int) : Bool := decide (-(2 ^ 62) ≤ i) && decide (i < 2 ^ 62)
def fRng1 (fs : FA) : FI := fun ε => (fs ε).bind fun as ε1 => match as with
  | [.v (.int j)] => if inR j = true then .ok (rngD 0 1 j.toNat) ε1 else .bad
  | _ => .bad
end
end Nb
namespace Nb
open PySem PySem.Spec PyProof.Rows L2
section
variable {X : Cx} {cl : Nat → Addr} {β : List (Option V)} {W : WX} {pos : Pos} {a b c tg : Expr} {fa fb fc : FE}
set_option maxHeartbeats 1000000 in
end
end Nb
namespace Nb
open PySem PySem.Spec PyProof.Rows L2
section
variable {X : Cx} {cl : Nat → Addr} {β : List (Option V)} {W : WX} {pos : Pos} {a b c tg : Expr} {fa fb fc : FE}
def Out.lp (r : Out) (k : FS) : Out := match r with
  | .nx ε => k ε
  | .ct ε => k ε
  | .bk ε => .nx ε
  | .rt d ε => .rt d ε
  | .exc c fs ds ε => .exc c fs ds ε
  | .bad => .bad
theorem PostS.lp {g : Gh} {F H F5 H5 : Hp} {P P5 : List Addr} {r : Out} {k : FS} {D : Ends} (h : PostS g β W F H P (r.lp k) D) (s5 : Stp F H P F5 H5 P5) {N : L2.St → Hp → Prop}
    (hN : ∀ ε6 σ7 H7 F7 P7, EnvR g F7 H7 ε6 σ7 β P7 → Stp F H P F7 H7 P7 → Exh F5 F7 → PostS g β W F H P (k ε6) D → N σ7 H7) : PostS g β W F5 H5 P5 r { D with nx := N, ct := N, bk := D.nx } := by
  cases r with
  | nx ε6 => exact fun σ7 H7 F7 P7 en7 s7 => hN ε6 σ7 H7 F7 P7 en7 (s5.tr s7) s7.sub h
  | ct ε6 => exact fun σ7 H7 F7 P7 en7 s7 => hN ε6 σ7 H7 F7 P7 en7 (s5.tr s7) s7.sub h
  | bk ε6 => exact fun σ7 H7 F7 P7 en7 s7 => h σ7 H7 F7 P7 en7 (s5.tr s7)
  | rt d ε6 => exact PostS.base (r := .rt d ε6) (D := D) s5 h
  | exc c fs ds ε6 => exact PostS.base (r := .exc c fs ds ε6) (D := D) s5 h
  | bad => exact h.elim
def forGo (p : FG) (body : FS) : List D → FS
  | [], ε => .nx ε
  | d :: ds, ε => match p d ε with
    | none => .bad
    | some ε1 => (body ε1).lp (forGo p body ds)
def fFor (fi : FI) (p : FG) (body : FS) : FS := fun ε => (fi ε).out fun ds ε1 => forGo p body ds ε1
end
end Nb
namespace Nb
open PySem PySem.Spec PyProof.Rows L2
def Res.nox {α : Type} (r : Res α) : Res α := match r with
  | .exc _ _ _ _ => .bad
  | r => r
def clr : List Nat → Ev → Ev
  | [], ε => ε
  | i :: is, ε => (clr is ε).set i .no
section
variable {g : Gh} {F H : Hp} {β : List (Option V)}
theorem EnvR.clr : ∀ (is : List Nat) {ε : Ev} {σ : L2.St} {P : List Addr}, EnvR g F H ε σ β P → ∃ P', P'.Sublist P ∧ EnvR g F H (Nb.clr is ε) (wipe σ is) β P'
  | [], ε, σ, P, en => ⟨P, List.Sublist.refl P, en⟩
  | i :: is, ε, σ, P, en => by
    obtain ⟨P1, s1, en1⟩ := EnvR.clr is en
    unfold Nb.clr wipe
    have hl := EnvR.length _ _ _ _ en1
    by_cases hi : i < (Nb.clr is ε).length
    · obtain ⟨x, b, A, R, B, h1, h2, h3, h4, h5⟩ := en1.at _ _ _ _ i _ (List.getElem?_eq_getElem hi)
      refine ⟨A ++ [] ++ B, ?_, h5 F H .no none [] (fun _ _ z => z) (fun _ _ => rfl) rfl⟩
      refine List.Sublist.trans ?_ s1
      rw [h3]
      exact List.Sublist.append (List.Sublist.append (List.Sublist.refl A) (List.nil_sublist R)) (List.Sublist.refl B)
    · rw [List.set_eq_of_length_le (by omega), List.set_eq_of_length_le (by omega)]
      exact ⟨P1, s1, en1⟩
end
def MS (g : Gh) (β : List (Option V)) (F H : Hp) (P : List Addr) (Dl : Addr) (F0 : Hp) (σ2 : L2.St) (acc : List D) (ε : Ev) (H' : Hp) : Prop :=
  ∃ F' P' vs Pa, H' Dl = some (.lst vs) ∧ Reps g F' H' acc vs Pa ∧ EnvR g F' H' ε σ2 β P' ∧ Stp F H P F' H' (Dl :: Pa ++ P') ∧ Exh F0 F'
def lpGo (vs : List Nat) (p : FG) (step : Ev → List D → Res (List D)) : List D → Ev → List D → Res (List D)
  | [], ε, acc => .ok acc ε
  | d :: ds, ε, acc => match p d ε with
    | none => .bad
    | some ε1 => (step ε1 acc).bind fun acc' ε2 => lpGo vs p step ds (clr vs ε2) acc'
section
variable {g : Gh} {β : List (Option V)} {W : WX} {σ : L2.St} {F H : Hp} {P : List Addr} {Dl : Addr} {α ν : Type} {rel' : Hp → Hp → α → ν → List Addr → Prop} {Q : ν → Hp → Prop}
def stp1 (tt : FT) (te : FE) : Ev → List D → Res (List D) := fun ε acc => (tt ε).nox.bind fun b ε2 => if b = true then ((te ε2).nox.bind fun y ε3 => if acc.length < mx then .ok (acc ++ [y]) ε3 else .bad) else .ok acc ε2
end
end Nb
namespace Nb
open PySem PySem.Spec PyProof.Rows L2
section
variable {g : Gh} {β : List (Option V)} {W : WX} {σ : L2.St} {F H : Hp} {P : List Addr} {Dl : Addr} {α ν : Type} {rel' : Hp → Hp → α → ν → List Addr → Prop} {Q : ν → Hp → Prop}
theorem MS.al {F0 : Hp} {σ2 : L2.St} {acc : List D} {H' : Hp} {ws : List V} {Pa : List Addr} {F' : Hp} (hD : H' Dl = some (.lst ws)) (ra : Reps g F' H' acc ws Pa) : ∀ q ∈ Dl :: Pa, H' q ≠ none := fun q hq => by
  rcases List.mem_cons.mp hq with e | hq
  · rw [e, hD]; exact fun z => nomatch z
  · exact Reps.alive _ _ _ ra q hq
def fLc (vs : List Nat) (fi : FI) (p : FG) (step : Ev → List D → Res (List D)) : FE := fun ε => (fi ε).bind fun ds ε1 => (lpGo vs p step ds (clr vs ε1) []).bind fun acc ε2 => .ok (.lst true acc) ε2
end
section
variable {X : Cx} {cl : Nat → Addr} {β : List (Option V)} {W : WX} {pos : Pos} {a b c tg : Expr} {fa fb fc : FE}
def fYes : FT := fun ε => .ok true ε
variable {elt iter tg1 iter1 : Expr} {ifs ifs1 : List Expr} {scope : Scope} {own : List (Str × Nat)} {vs1 : List Nat} {fi fi1 : FI} {p p1 : FG} {tt tt1 : FT} {te : FE}
end
end Nb
namespace Nb
open PySem PySem.Spec PyProof.Rows L2
inductive CRes where
  | ok (d : D) (os : List D)
  | exc (c : Nat) (fs : List Str) (ds : List D) (os : List D)
  | bad
def pick : List Bool → List V → List V
  | true :: bs, v :: vs => v :: pick bs vs
  | false :: bs, _ :: vs => pick bs vs
  | _, _ => []
def PostC (g : Gh) (bs : List Bool) (vs : List V) (F H : Hp) (P : List Addr) (r : CRes) (Q : VK) (E : XK) : Prop := match r with
  | .ok d os => ∀ v H' F' R Ro, Rep g F' H' d v R → Reps g F' H' os (pick bs vs) Ro → Stp F H P F' H' (R ++ Ro) → Q v H'
  | .exc c fs ds os => ∀ dx ws H' F' Ro, XdAt F' dx fs ws → fs.length = ws.length → Reps g F' H' ds ws [] → Reps g F' H' os (pick bs vs) Ro → Stp F H P F' H' Ro → E (.ref (g.cl c)) dx H'
  | .bad => False
def spD (g : Gh) (bs : List Bool) (run : List D → CRes) : Sp := fun vs H Q E => bs.length ≤ vs.length ∧ ∃ F ds P, Reps g F H ds vs P ∧ Stp F H P F H P ∧ PostC g bs vs F H P (run ds) Q E
def FnG (gd : Bool) (P : Program) (w : World) (K : PySem.W.Frag) (mg : Str → Option Value) (base : Heap) (k : Nat) (f : Addr) (sp : Sp) : Prop :=
  ∀ (A : Around) (outer : List Env) (s : Shared) (H : Hp) (us : List Value) (vs : List V) (Q : VK) (E : XK), Room k A → (gd = true → A.guards = some []) → Env0 P w K mg base A outer s H → Vals vs us → sp vs H Q E →
    codeAny (model P w) A (.call (.ref f) ⟨us, []⟩) (CR (CX P w) outer P w H s Q E) s
theorem FnG.of {P : Program} {w : World} {K : PySem.W.Frag} {mg : Str → Option Value} {base : Heap} {k : Nat} {f : Addr} {sp : Sp} (F : FnR P w K mg base (CX P w) k f sp) (gd : Bool) : FnG gd P w K mg base k f sp :=
  fun A outer s H us vs Q E hr _ e hv hs => F A outer s H us vs Q E hr e hv hs
theorem FnG.mono {gd : Bool} {P : Program} {w : World} {K : PySem.W.Frag} {mg : Str → Option Value} {base : Heap} {j k : Nat} {f : Addr} {sp : Sp} (F : FnG gd P w K mg base j f sp) (h : j ≤ k) : FnG gd P w K mg base k f sp :=
  fun A outer s H us vs Q E hr hg e hv hs => F A outer s H us vs Q E (hr.mono h) hg e hv hs
structure FnQ (gd : Bool) (P : Program) (w : World) (K : PySem.W.Frag) (mg : Str → Option Value) (base : Heap) (k : Nat) (f : Addr) (fd : FuncData) (ps : List Str) (sp : Sp) : Prop where
  len : ∀ vs H Q E, sp vs H Q E → vs.length = ps.length
  run : ∀ (A : Around) (outer : List Env) (s : Shared) (H : Hp) (args : Args) (us : List Value) (vs : List V) (Q : VK) (E : XK), Room k A → (gd = true → A.guards = some []) → Env0 P w K mg base A outer s H → BindsTo s fd args (ps.zip us) → Vals vs us → sp vs H Q E →
    codeAny (model P w) A (.call (.ref f) args) (CR (CX P w) outer P w H s Q E) s
def FnA (gd : Bool) (P : Program) (w : World) (K : PySem.W.Frag) (mg : Str → Option Value) (base : Heap) (k : Nat) (f : Addr) (n : Nat) (ks : List Str) (gV : List V → List V → List V) (sp : Sp) : Prop :=
  ∀ (A : Around) (outer : List Env) (s : Shared) (H : Hp) (us ws : List Value) (vs zs : List V) (Q : VK) (E : XK), Room k A → (gd = true → A.guards = some []) → Env0 P w K mg base A outer s H → Vals vs us → Vals zs ws → us.length = n → ws.length = ks.length → sp (gV vs zs) H Q E →
    codeAny (model P w) A (.call (.ref f) ⟨us, ks.zip ws⟩) (CR (CX P w) outer P w H s Q E) s
theorem FnQ.g {gd : Bool} {P : Program} {w : World} {K : PySem.W.Frag} {mg : Str → Option Value} {base : Heap} {k : Nat} {f : Addr} {fd : FuncData} {ps : List Str} {sp : Sp} (F : FnQ gd P w K mg base k f fd ps sp) (hb : Binds K fd ps []) : FnG gd P w K mg base k f sp := by
  intro A outer s H us vs Q E hr hgd e0 r hsp
  have kp : ∀ b o, base.get? b = some o → s.heap.get? b = some o := fun b o e => (e0.bs b o e).1
  have hbt := hb s us (e0.mod.kin.keeps kp) (by rw [List.append_nil, ← r.length]; exact F.len _ _ _ _ hsp)
  rw [List.append_nil] at hbt
  exact F.run A outer s H ⟨us, []⟩ us vs Q E hr hgd e0 hbt r hsp
theorem FnQ.a {gd : Bool} {P : Program} {w : World} {K : PySem.W.Frag} {mg : Str → Option Value} {base : Heap} {k n : Nat} {f : Addr} {fd : FuncData} {ps ks : List Str} {sp : Sp} {gv : List Value → List Value → List Value} {gV : List V → List V → List V} (F : FnQ gd P w K mg base k f fd ps sp) (hb : KBn K fd ps n ks gv gV) : FnA gd P w K mg base k f n ks gV sp := by
  intro A outer s H us ws vs zs Q E hr hgd e0 r rz h1 h2 hsp
  have kp : ∀ b o, base.get? b = some o → s.heap.get? b = some o := fun b o e => (e0.bs b o e).1
  exact F.run A outer s H _ _ _ Q E hr hgd e0 (hb.to s us ws (e0.mod.kin.keeps kp) h1 h2) (hb.rel r rz) hsp
def env0 : List Bool → List D → Nat → Ev
  | [], d :: ds, n + 1 => .val d :: env0 [] ds n
  | b :: bs, d :: ds, n + 1 => (if b then .bor d else .val d) :: env0 bs ds n
  | _, _, n => List.replicate n .no
def outs : List Bool → Ev → Option (List D)
  | [], _ => some []
  | true :: bs, .bor d :: ε => (outs bs ε).map (d :: ·)
  | false :: bs, _ :: ε => outs bs ε
  | _, _ => none
def Out.cres (bs : List Bool) (r : Out) : CRes := match r with
  | .rt d ε => (match outs bs ε with
    | some os => .ok d os
    | none => .bad)
  | .nx ε => (match outs bs ε with
    | some os => .ok .non os
    | none => .bad)
  | .exc c fs ds ε => (match outs bs ε with
    | some os => .exc c fs ds os
    | none => .bad)
  | _ => .bad
def runB (m n : Nat) (bs : List Bool) (body : FS) (ds : List D) : CRes := if ds.length = m then (body (env0 bs ds n)).cres bs else .bad
section
variable {gd : Bool} {P : Program} {w : World} {K : PySem.W.Frag} {mg : Str → Option Value} {base : Heap} {cl : Nat → Addr} {x qual : Str} {params : Arguments} {body : List Stmt} {scope : Scope} {dvs : List V} {kws : List (Str × V)} {f : Addr} {fd : FuncData} {N ps : List Str} {k : Nat} {bs : List Bool} {fb : FS}
end
def takeA : List Bool → List AD → Ev → Option (List D × Ev)
  | [], [], ε => some ([], ε)
  | [], .v d :: as, ε => (takeA [] as ε).map fun p => (d :: p.1, p.2)
  | false :: bs, .v d :: as, ε => (takeA bs as ε).map fun p => (d :: p.1, p.2)
  | true :: bs, .v d :: as, ε => (takeA bs as ε).map fun p => (d :: p.1, p.2)
  | true :: bs, .b j :: as, ε => match ε[j]? with
    | some (.val d) => (takeA bs as (ε.set j .no)).map fun p => (d :: p.1, p.2)
    | some (.bor d) => (takeA bs as (ε.set j .no)).map fun p => (d :: p.1, p.2)
    | _ => none
  | _, _, _ => none
def giveA (ε0 : Ev) : List Bool → List AD → List D → Ev → Option Ev
  | [], _, [], ε => some ε
  | false :: bs, .v _ :: as, os, ε => giveA ε0 bs as os ε
  | true :: bs, .v _ :: as, _ :: os, ε => giveA ε0 bs as os ε
  | true :: bs, .b j :: as, o :: os, ε => match ε0[j]?, ε[j]? with
    | some (.val _), some .no => giveA ε0 bs as os (ε.set j (.val o))
    | some (.bor _), some .no => giveA ε0 bs as os (ε.set j (.bor o))
    | _, _ => none
  | _, _, _, _ => none
section
variable {g : Gh} {F H : Hp} {β : List (Option V)} {σ : L2.St}
def Kept (σ : L2.St) (β : List (Option V)) (ε0 : Ev) : Prop := ∀ (j : Nat) (d : D), ε0[j]? = some (.bor d) → ∃ v, σ[j]? = some (some v) ∧ β[j]? = some (some v)
theorem EnvR.kept {ε : Ev} {P : List Addr} (en : EnvR g F H ε σ β P) : Kept σ β ε := fun j d e => by
  obtain ⟨x, b, A, P1, B, k1, k2, k3, ⟨v, hv, hb, hr⟩, k5⟩ := en.at _ _ _ _ _ _ e
  subst hv hb
  exact ⟨v, k1, k2⟩
end
end Nb
namespace Nb
open PySem PySem.Spec PyProof.Rows L2
def callR (bs : List Bool) (run : List D → CRes) (as : List AD) (ε1 : Ev) : Res D := match takeA bs as ε1 with
  | none => .bad
  | some p => match run p.1 with
    | .ok d os => (match giveA ε1 bs as os p.2 with
      | some ε3 => .ok d ε3
      | none => .bad)
    | .exc c fs xs os => (match giveA ε1 bs as os p.2 with
      | some ε3 => .exc c fs xs ε3
      | none => .bad)
    | .bad => .bad
section
variable {g : Gh} {β : List (Option V)} {W : WX} {σ : L2.St}
end
section
variable {X : Cx} {cl : Nat → Addr} {β : List (Option V)} {W : WX} {pos : Pos} {a b c : Expr} {fa fb fc : FE}
def fCall (bs : List Bool) (run : List D → CRes) (fs : FA) : FE := fun ε => (fs ε).bind fun as ε1 => callR bs run as ε1
variable {gd : Bool} {k kx : Nat} {bs : List Bool} {run : List D → CRes} {x : Str} {p : Pos} {e : Expr} {es : List Expr} {fs : FA}
end
end Nb
namespace Nb
open PySem PySem.Spec PyProof.Rows L2
def putD (f : Str) (d : D) : List Str → List D → List Str × List D
  | k :: fs, e :: ds => if k = f then (k :: fs, d :: ds) else (k :: (putD f d fs ds).1, e :: (putD f d fs ds).2)
  | _, _ => ([f], [d])
def lookK (k : Key) : List Key → List D → Option D
  | j :: ks, d :: ds => if j = k then some d else lookK k ks ds
  | _, _ => none
def putKD (k : Key) (d : D) : List Key → List D → List Key × List D
  | j :: ks, e :: ds => if j = k then (j :: ks, d :: ds) else (j :: (putKD k d ks ds).1, e :: (putKD k d ks ds).2)
  | _, _ => ([k], [d])
section
variable {g : Gh} {F H : Hp}
theorem Reps.lookK {k : Key} : ∀ (ks : List Key) (ds : List D) (vs : List V) (P : List Addr) (d : D), Reps g F H ds vs P → ks.length = vs.length → Nb.lookK k ks ds = some d → ∃ v A R B, valV (ks.zip vs) k = some v ∧ P = A ++ R ++ B ∧ Rep g F H d v R
  | [], ds, vs, P, d, r, hl, e => by simp [Nb.lookK] at e
  | j :: ks, [], vs, P, d, r, hl, e => by simp [Nb.lookK] at e
  | j :: ks, d0 :: ds, vs, P, d, ⟨v, vr, P1, P2, h1, h2, h3, h4⟩, hl, e => by
    subst h1
    unfold Nb.lookK at e
    by_cases q : j = k
    · rw [if_pos q] at e
      cases e
      exact ⟨v, [], P1, P2, valV_pos q, by rw [h2]; rfl, h3⟩
    · rw [if_neg q] at e
      obtain ⟨w, A, R, B, g1, g2, g3⟩ := Reps.lookK ks ds vr P2 d h4 (by simpa using hl) e
      exact ⟨w, P1 ++ A, R, B, (valV_neg q).trans g1, by rw [h2, g2]; simp, g3⟩
theorem Reps.put {f : Str} {d : D} {y : V} {R : List Addr} (hd : Rep g F H d y R) : ∀ (fs : List Str) (ds : List D) (vs : List V) (P : List Addr), Reps g F H ds vs P → fs.length = vs.length → ∃ vs' P' L, putF f y (fs.zip vs) = (putD f d fs ds).1.zip vs' ∧ (putD f d fs ds).1.length = vs'.length ∧ Reps g F H (putD f d fs ds).2 vs' P' ∧ (P' ++ L).Perm (P ++ R)
  | [], ds, vs, P, r, hl => by
    have e : vs = [] := List.length_eq_zero_iff.mp hl.symm
    subst e
    cases ds with
    | cons d0 ds =>
      obtain ⟨v, vr, _, _, h1, _⟩ := r
      cases h1
    | nil =>
      have e := r.2
      subst e
      exact ⟨[y], R, [], rfl, rfl, ⟨y, [], R, [], rfl, (List.append_nil R).symm, hd, rfl, rfl⟩, by simp⟩
  | k :: fs, [], vs, P, r, hl => by
    have e := r.1
    subst e
    cases hl
  | k :: fs, d0 :: ds, vs, P, ⟨v, vr, P1, P2, h1, h2, h3, h4⟩, hl => by
    subst h1
    by_cases q : k = f
    · have e1 : putD f d (k :: fs) (d0 :: ds) = (k :: fs, d :: ds) := by unfold putD; rw [if_pos q]
      rw [e1]
      refine ⟨y :: vr, R ++ P2, P1, ?_, by simpa using hl, ⟨y, vr, R, P2, rfl, rfl, hd, h4⟩, ?_⟩
      · show (if k = f then (k, y) :: fs.zip vr else _) = _
        rw [if_pos q]
        rfl
      · rw [h2, List.append_assoc, List.append_assoc]
        refine (List.Perm.append_left R List.perm_append_comm).trans ?_
        rw [← List.append_assoc P1]
        exact List.perm_append_comm
    · obtain ⟨vs', P', L, g1, g2, g3, g4⟩ := Reps.put hd fs ds vr P2 h4 (by simpa using hl)
      have e1 : putD f d (k :: fs) (d0 :: ds) = (k :: (putD f d fs ds).1, d0 :: (putD f d fs ds).2) := by
        show (if k = f then _ else _) = _
        rw [if_neg q]
      rw [e1]
      refine ⟨v :: vs', P1 ++ P', L, ?_, by simpa using g2, ⟨v, vs', P1, P', rfl, rfl, h3, g3⟩, ?_⟩
      · show (if k = f then _ else (k, v) :: putF f y (fs.zip vr)) = _
        rw [if_neg q, g1]
        rfl
      · rw [h2, List.append_assoc, List.append_assoc]
        exact List.Perm.append_left P1 g4
def apart : List Key → Bool
  | [] => true
  | k :: ks => !(ks.any fun j => decide (j = k)) && apart ks
end
section
variable {X : Cx} {cl : Nat → Addr} {β : List (Option V)} {W : WX} {pos : Pos} {a b c : Expr} {fa fb fc : FE} {qa qb : Ev → Option D}
abbrev QD := Ev → Option D
def qV (i : Nat) : QD := fun ε => match ε[i]? with
  | some (.val d) => some d
  | some (.bor d) => some d
  | _ => none
def qC (d : D) : QD := fun _ => some d
def kIxP : D → D → Option D
  | .str s, .int i => if s.length ≤ mx then (atI s.cps.toList i).map fun c => .str ⟨#[c]⟩ else none
  | .dic _ ks ds, .str s => lookK (.inr s) ks ds
  | .dic _ ks ds, .int i => lookK (.inl i) ks ds
  | .dil ks ds, .str s => lookK (.inr s) ks ds
  | .dil ks ds, .int i => lookK (.inl i) ks ds
  | d, .int i => match d.items with
    | some ds => atI ds i
    | none => none
  | _, _ => none
def qIx (qa qb : QD) : QD := fun ε => match qa ε, qb ε with
  | some d1, some d2 => kIxP d1 d2
  | _, _ => none
def kLenP : D → Option D
  | .str s => if s.length ≤ mx then some (.int s.length) else none
  | .dic _ ks _ => some (.int ks.length)
  | .dil ks _ => some (.int ks.length)
  | d => d.items.map fun ds => .int ds.length
def qLen (qa : QD) : QD := fun ε => match qa ε with
  | some d => kLenP d
  | none => none
def fQ (q : QD) : FE := fun ε => match q ε with
  | some d => if d.fz = true then .ok d ε else .bad
  | none => .bad
end
end Nb
namespace Nb
open PySem PySem.Spec PyProof.Rows L2
inductive LS where
  | ix (i : Int)
  | key (k : Key)
  | fld (c : Nat) (f : Str)
  /-- a nested key: the items of the tuple -/
  | nky (kd : List D)
def posN (k : NestedKey) : List NestedKey → Option Nat
  | [] => none
  | j :: ks => if j = k then some 0 else (posN k ks).map (· + 1)
def posD (f : Str) : List Str → Option Nat
  | [] => none
  | k :: fs => if f = k then some 0 else (posD f fs).map (· + 1)
def posK (k : Key) : List Key → Option Nat
  | [] => none
  | j :: ks => if j = k then some 0 else (posK k ks).map (· + 1)
theorem posD_look {f : Str} : ∀ {fs : List Str} {vs : List V} {j : Nat}, fs.length = vs.length → posD f fs = some j → (fs.zip vs).lookup f = vs[j]?
  | [], vs, j, hl, e => by cases e
  | k :: fs, [], j, hl, e => by cases hl
  | k :: fs, v :: vs, j, hl, e => by
    unfold posD at e
    by_cases q : f = k
    · rw [if_pos q] at e
      cases e
      have hb : (f == k) = true := beq_iff_eq.mpr q
      simp only [List.zip_cons_cons, List.lookup, hb]
      rfl
    · rw [if_neg q] at e
      obtain ⟨j', e1, e2⟩ := Option.map_eq_some_iff.mp e
      subst e2
      have hb : (f == k) = false := beq_eq_false_iff_ne.mpr q
      simp only [List.zip_cons_cons, List.lookup, hb]
      rw [posD_look (by simpa using hl) e1]
      rfl
theorem posK_val {k : Key} : ∀ {ks : List Key} {vs : List V} {j : Nat}, ks.length = vs.length → posK k ks = some j → valV (ks.zip vs) k = vs[j]?
  | [], vs, j, hl, e => by cases e
  | i :: ks, [], j, hl, e => by cases hl
  | i :: ks, v :: vs, j, hl, e => by
    unfold posK at e
    by_cases q : i = k
    · rw [if_pos q] at e
      cases e
      exact valV_pos q
    · rw [if_neg q] at e
      obtain ⟨j', e1, e2⟩ := Option.map_eq_some_iff.mp e
      subst e2
      exact (valV_neg q).trans (posK_val (by simpa using hl) e1)
def stepAt : LS → D → Option (Nat × List D)
  | .ix i, .lst true ds => (ixN ds.length i).map fun j => (j, ds)
  | .ix i, .tup ds => (ixN ds.length i).map fun j => (j, ds)
  | .key k, .dic true ks ds => (posK k ks).map fun j => (j, ds)
  | .fld c f, .ins true c' fs ds => if c' = c then (posD f fs).map fun j => (j, ds) else none
  | .nky kd, .dcn true ks ds => match nks kd, nks ks with
    | some k, some nk => if (NestedKey.tup k).depth ≤ 8 ∧ (∀ k ∈ nk, k.depth ≤ 8) then (posN (.tup k) nk).map fun j => (j, ds) else none
    | _, _ => none
  | _, _ => none
def withDs : D → List D → D
  | .lst o _, ds => .lst o ds
  | .tup _, ds => .tup ds
  | .dic o ks _, ds => .dic o ks ds
  | .ins o c fs _, ds => .ins o c fs ds
  | .dcn o ks _, ds => .dcn o ks ds
  | d, _ => d
def getL : List LS → D → Option D
  | [], d => some d
  | x :: s, d => match stepAt x d with
    | some (j, ds) => (match ds[j]? with
      | some e => getL s e
      | none => none)
    | none => none
def setL : List LS → D → D → Option D
  | [], _, e => some e
  | x :: s, d, e => match stepAt x d with
    | some (j, ds) => (match ds[j]? with
      | some d1 => (setL s d1 e).map fun d2 => withDs d (ds.set j d2)
      | none => none)
    | none => none
def StepV (g : Gh) (H : Hp) (v : V) (x : LS) (w : V) : Prop := match x with
  | .ix i => ∃ p vs, v = .ref p ∧ (SqL g.K H p vs ∨ SqT g.K H p vs) ∧ atI vs i = some w
  | .key k => ∃ p kvs, v = .ref p ∧ H p = some (.dK kvs) ∧ valV kvs k = some w
  | .fld c f => ∃ p dx fs, v = .ref p ∧ H p = some (.ins (g.cl c) dx fs) ∧ fs.lookup f = some w
  | .nky kd => ∃ (p : Addr) (nk : List NestedKey) (as : List Addr) (vs : List V) (ks : List D) (k : List NestedKey) (F : Hp) (j : Nat), v = .ref p ∧ H p = some (dcnO g.w p nk as vs) ∧ nks kd = some k ∧ nks ks = some nk ∧ Exh F H ∧ Reps g F H ks (as.map V.ref) [] ∧
    ((NestedKey.tup k).depth ≤ 8 ∧ (∀ k ∈ nk, k.depth ≤ 8)) ∧ posN (.tup k) nk = some j ∧ vs[j]? = some w
section
variable {g : Gh} {F H : Hp}
theorem Reps.at : ∀ (ds : List D) (vs : List V) (P : List Addr) (j : Nat) (d : D), Reps g F H ds vs P → ds[j]? = some d → ∃ v A R B, vs[j]? = some v ∧ P = A ++ R ++ B ∧ Rep g F H d v R ∧
    ∀ (F' H' : Hp) (d' : D) (R' : List Addr), Exh F F' → (∀ p ∈ A ++ B, H' p = H p) → Rep g F' H' d' v R' → Reps g F' H' (ds.set j d') vs (A ++ R' ++ B)
  | [], _, _, j, d, _, e => by simp at e
  | d0 :: ds, vs, P, 0, d, ⟨v, vr, P1, P2, h1, h2, h3, h4⟩, e => by
    have e' : d0 = d := by simpa using e
    subst e'
    exact ⟨v, [], P1, P2, by rw [h1]; rfl, by rw [h2]; rfl, h3, fun F' H' d' R' ex k r => ⟨v, vr, R', P2, h1, rfl, r, Reps.move ex _ _ _ (fun q hq => k q hq) h4⟩⟩
  | d0 :: ds, vs, P, j + 1, d, ⟨v, vr, P1, P2, h1, h2, h3, h4⟩, e => by
    obtain ⟨w, A, R, B, g1, g2, g3, g4⟩ := Reps.at ds vr P2 j d h4 (by simpa using e)
    refine ⟨w, P1 ++ A, R, B, by rw [h1]; simpa using g1, by rw [h2, g2]; simp, g3, fun F' H' d' R' ex k r => ?_⟩
    refine ⟨v, vr, P1, A ++ R' ++ B, h1, by simp, Rep.move ex _ _ _ (fun q hq => k q (by simp [hq])) h3, g4 F' H' d' R' ex (fun q hq => k q ?_) r⟩
    rcases List.mem_append.mp hq with z | z
    · simp [z]
    · simp [z]
theorem atI_ix {α : Type} {xs : List α} {i : Int} {j n : Nat} (hn : n = xs.length) (h : ixN n i = some j) : atI xs i = xs[j]? := by
  subst hn
  unfold atI
  rw [h]
  rfl
theorem Rep.step (t : Exh F H) {x : LS} {d e : D} {v : V} {P : List Addr} {j : Nat} {ds : List D} (r : Rep g F H d v P) (hs : stepAt x d = some (j, ds)) (he : ds[j]? = some e) : ∃ w A R B, StepV g H v x w ∧ P = A ++ R ++ B ∧ Rep g F H e w R ∧
    ∀ (F' H' : Hp) (e' : D) (R' : List Addr), Exh F F' → (∀ p ∈ A ++ B, H' p = H p) → Rep g F' H' e' w R' → Rep g F' H' (withDs d (ds.set j e')) v (A ++ R' ++ B) := by
  unfold stepAt at hs
  split at hs
  · rename_i i xs
    obtain ⟨j', e1, e2⟩ := Option.map_eq_some_iff.mp hs
    cases e2
    obtain ⟨p, vs, P2, h1, h2, h3, h4⟩ := r
    obtain ⟨w, A, R, B, k1, k2, k3, k4⟩ := Reps.at ds vs P2 j e h4 he
    refine ⟨w, p :: A, R, B, ⟨p, vs, h1, .inl (SqL.of h2), ?_⟩, by rw [h3, k2]; simp, k3, fun F' H' e' R' ex k r' => ?_⟩
    · rw [atI_ix (Reps.length _ _ _ h4) e1]; exact k1
    · exact ⟨p, vs, A ++ R' ++ B, h1, by rw [k p (by simp)]; exact h2, by simp, k4 F' H' e' R' ex (fun q hq => k q (List.mem_cons_of_mem _ hq)) r'⟩
  · rename_i i xs
    obtain ⟨j', e1, e2⟩ := Option.map_eq_some_iff.mp hs
    cases e2
    obtain ⟨p, vs, h1, h2, h4⟩ := r
    obtain ⟨w, A, R, B, k1, k2, k3, k4⟩ := Reps.at ds vs P j e h4 he
    refine ⟨w, A, R, B, ⟨p, vs, h1, .inr (exh_t t h2), ?_⟩, k2, k3, fun F' H' e' R' ex k r' => ?_⟩
    · rw [atI_ix (Reps.length _ _ _ h4) e1]; exact k1
    · exact ⟨p, vs, h1, exh_t ex h2, k4 F' H' e' R' ex k r'⟩
  · rename_i k ks xs
    obtain ⟨j', e1, e2⟩ := Option.map_eq_some_iff.mp hs
    cases e2
    obtain ⟨p, vs, P2, h1, h2, hl, h3, h4⟩ := r
    obtain ⟨w, A, R, B, k1, k2, k3, k4⟩ := Reps.at ds vs P2 j e h4 he
    refine ⟨w, p :: A, R, B, ⟨p, _, h1, h2, ?_⟩, by rw [h3, k2]; simp, k3, fun F' H' e' R' ex k r' => ?_⟩
    · rw [posK_val hl e1]; exact k1
    · exact ⟨p, vs, A ++ R' ++ B, h1, by rw [k p (by simp)]; exact h2, hl, by simp, k4 F' H' e' R' ex (fun q hq => k q (List.mem_cons_of_mem _ hq)) r'⟩
  · rename_i c f c' fs xs
    split at hs
    · rename_i hc
      subst hc
      obtain ⟨j', e1, e2⟩ := Option.map_eq_some_iff.mp hs
      cases e2
      obtain ⟨p, dx, vs, P2, h1, h2, hl, h3, h4⟩ := r
      obtain ⟨w, A, R, B, k1, k2, k3, k4⟩ := Reps.at ds vs P2 j e h4 he
      refine ⟨w, p :: A, R, B, ⟨p, dx, _, h1, h2, ?_⟩, by rw [h3, k2]; simp, k3, fun F' H' e' R' ex k r' => ?_⟩
      · rw [posD_look hl e1]; exact k1
      · exact ⟨p, dx, vs, A ++ R' ++ B, h1, by rw [k p (by simp)]; exact h2, hl, by simp, k4 F' H' e' R' ex (fun q hq => k q (List.mem_cons_of_mem _ hq)) r'⟩
    · cases hs
  · rename_i kd ks xs
    split at hs
    · rename_i k nk e1 e2
      split at hs
      · rename_i hz
        obtain ⟨j', e3, e4⟩ := Option.map_eq_some_iff.mp hs
        cases e4
        obtain ⟨p, nk', as, vs, P2, h1, h2, e5, hk, h3, h4⟩ := r
        rw [e2] at e5; cases e5
        obtain ⟨w, A, R, B, k1, k2, k3, k4⟩ := Reps.at ds vs P2 j e h4 he
        refine ⟨w, p :: A, R, B, ⟨p, nk, as, vs, ks, k, F, j, h1, h2, e1, e2, t, hk, hz, e3, k1⟩, by rw [h3, k2]; simp, k3, fun F' H' e' R' ex kk r' => ?_⟩
        exact ⟨p, nk, as, vs, A ++ R' ++ B, h1, by rw [kk p (by simp)]; exact h2, e2, Reps.move ex _ _ _ (fun _ z => nomatch z) hk, by simp, k4 F' H' e' R' ex (fun q hq => kk q (List.mem_cons_of_mem _ hq)) r'⟩
      · cases hs
    · cases hs
  · cases hs
end
abbrev QS := Ev → Option (List LS)
section
variable {X : Cx} {cl : Nat → Addr} {β : List (Option V)} {W : WX} {pos : Pos} {a b c : Expr} {fa fb fc : FE} {qa qb : QD} {qs : QS} {i : Nat}
def sNil : QS := fun _ => some []
def sIx (qs : QS) (q : QD) : QS := fun ε => match qs ε, q ε with
  | some s, some (.int n) => some (s ++ [.ix n])
  | _, _ => none
def sKey (qs : QS) (q : QD) : QS := fun ε => match qs ε, q ε with
  | some s, some (.int n) => some (s ++ [.key (.inl n)])
  | some s, some (.str n) => some (s ++ [.key (.inr n)])
  | _, _ => none
def tyD (T : String) : D → Bool
  | .lst _ _ => T == "list"
  | .dic _ _ _ => T == "dict"
  | _ => false
def kApp : D → List D → Option (D × D)
  | .lst true xs, [y] => if xs.length < mx then some (.lst true (xs ++ [y]), .non) else none
  | _, _ => none
def kPop : D → List D → Option (D × D)
  | .lst true xs, [] => match xs[xs.length - 1]? with
    | some y => some (.lst true xs.dropLast, y)
    | none => none
  | _, _ => none
def setS (i : Nat) (d : D) (ε : Ev) : Ev := match ε[i]? with
  | some (.val _) => ε.set i (.val d)
  | some (.bor _) => ε.set i (.bor d)
  | _ => ε
end
end Nb
namespace Nb
open PySem PySem.Spec PyProof.Rows L2
section
variable {X : Cx} {cl : Nat → Addr} {β : List (Option V)} {W : WX} {pos : Pos} {a b c e : Expr} {es : List Expr} {fa fb fc : FE} {qa qb : QD} {qs : QS} {i : Nat} {fs : FA}
def fMutP (T : String) (k : D → List D → Option (D × D)) (i : Nat) (qs : QS) (fs : FA) : FE := fun ε => match qs ε, qV i ε with
  | some s, some d0 => (match getL s d0 with
    | some d => if tyD T d = true then ((fs (ε.set i .no)).bind fun as ε2 => match allV as with
      | some ds => (match k d ds, ε2[i]? with
        | some p, some .no => (match setL s d0 p.1 with
          | some d0' => .ok p.2 (setS i d0' (ε2.set i (ε.getD i .no)))
          | none => .bad)
        | _, _ => .bad)
      | none => .bad) else .bad
    | none => .bad)
  | _, _ => .bad
def kSet : D → D → D → Option D
  | .lst true xs, .int n, d => (ixN xs.length n).map fun j => .lst true (xs.set j d)
  | .dic true ks ds, .int n, d => if apart ks = true ∧ ks.length < mx then some (.dic true (putKD (.inl n) d ks ds).1 (putKD (.inl n) d ks ds).2) else none
  | .dic true ks ds, .str n, d => if apart ks = true ∧ ks.length < mx then some (.dic true (putKD (.inr n) d ks ds).1 (putKD (.inr n) d ks ds).2) else none
  | _, _, _ => none
theorem Reps.set {g : Gh} {F H : Hp} {d : D} {v : V} {R : List Addr} (hd : Rep g F H d v R) : ∀ (ds : List D) (vs : List V) (P : List Addr) (j : Nat), Reps g F H ds vs P → j < ds.length → ∃ P' L, Reps g F H (ds.set j d) (vs.set j v) P' ∧ (P' ++ L).Perm (P ++ R)
  | [], vs, P, j, r, hl => by simp at hl
  | d0 :: ds, vs, P, 0, ⟨w, vr, P1, P2, h1, h2, h3, h4⟩, hl => by
    subst h1 h2
    exact ⟨R ++ P2, P1, ⟨v, vr, R, P2, rfl, rfl, hd, h4⟩, List.perm_iff_count.mpr fun a => by simp only [List.count_append]; omega⟩
  | d0 :: ds, vs, P, j + 1, ⟨w, vr, P1, P2, h1, h2, h3, h4⟩, hl => by
    subst h1 h2
    obtain ⟨P', L, g1, g2⟩ := Reps.set hd ds vr P2 j h4 (by simpa using hl)
    refine ⟨P1 ++ P', L, ⟨w, vr.set j v, P1, P', rfl, rfl, h3, g1⟩, ?_⟩
    rw [List.append_assoc, List.append_assoc]
    exact List.Perm.append_left P1 g2
def fSetI (i : Nat) (qs : QS) (q : QD) (f : FE) : FS := fun ε => (f ε).out fun d ε1 => match qs ε1, q ε1, qV i ε1 with
  | some s, some di, some d0 => (match getL s d0 with
    | some c => (match kSet c di d with
      | some c' => (match setL s d0 c' with
        | some d0' => .nx (setS i d0' ε1)
        | none => .bad)
      | none => .bad)
    | none => .bad)
  | _, _, _ => .bad
end
end Nb
namespace Nb
open PySem PySem.Spec PyProof.Rows L2
section
variable {M : Model} {prog : Program} {w : World} {A : Around} {E : Value → Shared → Prop} {s : Shared} {K : PySem.W.Frag} {x C f : Addr} {ox : Obj} {od : Option Obj} {b tb : Value}
structure OwnO (K : PySem.W.Frag) (C f : Addr) : Prop where
  eq : PySem.W.findIn K (.ref C) "__eq__" = some (some (.ref f))
  fn : PySem.W.isFn K (.ref f) = true
  ne : PySem.W.findIn K (.ref C) "__ne__" = some (some (.builtin "object.__ne__"))
  mro : PySem.W.mroIn K C (.type "object") = some true
  me : PySem.W.subIn K (.ref C) (.ref C) = some true
end
section
variable {X : Cx} {cl : Nat → Addr} {β : List (Option V)} {W : WX} {pos : Pos} {a b c : Expr} {fa fb fc : FE}
structure EqOwn (X : Cx) (cl : Nat → Addr) (gd : Bool) (k : Nat) (c : Nat) (run : List D → CRes) : Prop where
  fn : ∃ f, OwnO X.K (cl c) f ∧ FnG gd X.prog X.w X.K X.mg X.base k f (spD (gx X cl) [] run)
structure StrOwn (X : Cx) (cl : Nat → Addr) (nm : Str) (gd : Bool) (k : Nat) (c : Nat) (run : List D → CRes) : Prop where
  fn : ∃ f, PySem.W.findIn X.K (.ref (cl c)) nm = some (some (.ref f)) ∧ PySem.W.isFn X.K (.ref f) = true ∧ FnG gd X.prog X.w X.K X.mg X.base k f (spD (gx X cl) [] run)
end
end Nb
namespace Nb
open PySem PySem.Spec PyProof.Rows L2
theorem FnQ.fn {P : Program} {w : World} {K : PySem.W.Frag} {mg : Str → Option Value} {base : Heap} {k : Nat} {f : Addr} {fd : FuncData} {ps : List Str} {sp : Sp} (F : FnQ false P w K mg base k f fd ps sp) : FnOk P w K mg base (CX P w) k f fd ps sp :=
  ⟨F.len, fun A outer s H args us vs Q E hr e hb hv hs => F.run A outer s H args us vs Q E hr (fun z => nomatch z) e hb hv hs⟩
section
variable {X : Cx} {cl : Nat → Addr} {β : List (Option V)} {W : WX} {pos : Pos} {a b c e o : Expr} {es : List Expr} {fa fb fc fo : FE} {fs fk : FA} {gd : Bool} {k : Nat} {bs : List Bool} {run : List D → CRes} {x m : Str} {p apos : Pos} {kws : List Keyword} {ks : List Str}
def FA.len (fs : FA) (n : Nat) : FA := fun ε => (fs ε).bind fun as ε1 => if as.length = n then .ok as ε1 else .bad
end
end Nb
namespace Nb
open PySem PySem.Spec PyProof.Rows L2
theorem rdR.mono {g : Gh} {β : List (Option V)} {W : WX} {α ν : Type} {rel : Hp → Hp → α → ν → List Addr → Prop} {f : Ev → Res α} {σ : L2.St} {H : Hp} {Q Q' : ν → Hp → Prop} (h : rdR g β W rel f σ H Q) (m : ∀ v H', Q v H' → Q' v H') : rdR g β W rel f σ H Q' := by
  obtain ⟨F, ε, P, en, st, po⟩ := h
  refine ⟨F, ε, P, en, st, ?_⟩
  cases e : f ε with
  | ok a ε2 => rw [e] at po; exact fun v H' F' R P' h1 h2 h3 => m _ _ (po v H' F' R P' h1 h2 h3)
  | exc c fs ds ε2 => rw [e] at po; exact po
  | bad => rw [e] at po; exact po.elim
section
variable {X : Cx} {cl : Nat → Addr} {β : List (Option V)} {W : WX} {pos : Pos} {a b c e o : Expr} {es : List Expr} {fa fb fc fo : FE} {fs : FA} {qa : QD} {i : Nat}
def fNil (n : Bool) (q : QD) : FE := fun ε => match q ε with
  | some (.lst o ds) => (match datas ds with
    | some xs => .ok (.bl (n != ds.isEmpty)) ε
    | none => .bad)
  | _ => .bad
def fRev (f : FE) : FE := fun ε => (f ε).bind fun d ε1 => match d.frz with
  | .lst _ ds => .ok (.lst true ds.reverse) ε1
  | .scr ds => .ok (.lst true ds.reverse) ε1
  | _ => .bad
def fDicN : FE := fun ε => .ok (.dic true [] []) ε
def evl : List FE → FA
  | [] => aNil
  | f :: fl => aCons f (evl fl)
def fDic (ks : List Key) (fl : List FE) : FE := fun ε => (evl fl ε).bind fun as ε1 => match allV as with
  | some ds => if ds.length = ks.length ∧ apart ks = true then .ok (.dic true ks ds) ε1 else .bad
  | none => .bad
structure SPs (X : Cx) (cl : Nat → Addr) (β : List (Option V)) (W : WX) (pos : Pos) (keys : List (Option Expr)) (values : List Expr) (ks : List Key) (fl : List FE) : Prop where
  len : ks.length = fl.length
  pps : PPs X pos keys values ((ks.zip fl).map fun p => (tC (kV p.1), rdE X cl β W p.2))
def strRep (s : Str) (n : Nat) : Str := ⟨(List.replicate n s.cps).foldl (· ++ ·) #[]⟩
def kMulS : D → D → Option D
  | .str s, .int n => if 2 ≤ n ∧ n ≤ 1000 ∧ 1 ≤ s.length ∧ s.length ≤ 1000 then some (.str (strRep s n.toNat)) else none
  | d, e => kMul d e
end
end Nb
namespace Nb
open PySem PySem.Spec PyProof.Rows L2
structure DefX where
  adr : PySem.W.Frag → Addr
  name : Str
  qual : Str
  params : Arguments
  body : List Stmt
  scope : Scope
def fnX (K : PySem.W.Frag) (a : Addr) : He.FnW := match K.lookup a with
  | some ⟨_, _, .func fd, _⟩ => some (fd.name, fd.qualname, fd.params, fd.body, fd.scope, fd.globals, fd.closure, fd.builtins)
  | _ => none
def DefX.val (d : DefX) : He.FnW := some (d.name, d.qual, d.params, .stmts d.body, d.scope, mainGlobals, [], builtinsNs)
def DefX.ok (K : PySem.W.Frag) (d : DefX) : Bool := PySem.W.keepIn K (.ref (d.adr K)) && (match K.lookup (d.adr K) with
  | some ⟨_, _, .func fd, _⟩ => PySem.W.codeIn K fd.code d.qual && He.dflB K fd.defaults []
  | _ => false)
abbrev AlX : Type := Bool × List He.FnW
def obsX (fx : List (PySem.W.Frag → Bool)) (fn : List DefX) (K : PySem.W.Frag) : AlX := ((fx.all fun f => f K) && fn.all fun d => d.ok K, fn.map fun d => fnX K (d.adr K))
def valX (fn : List DefX) : AlX := (true, fn.map DefX.val)
def SaysX (fx : List (PySem.W.Frag → Bool)) (fn : List DefX) (K : PySem.W.Frag) : Prop := obsX fx fn K = valX fn
section
variable {fx : List (PySem.W.Frag → Bool)} {fn : List DefX} {K : PySem.W.Frag}
end
section
variable {K : PySem.W.Frag}
def fF (f : He.Fa) : PySem.W.Frag → Bool := fun K => f.ok K
def tkN (names : List Str) (K : PySem.W.Frag) : Tk → Value
  | .inl n => .type n
  | .inr c => .ref (He.ga K (names.getD c ""))
def fTab (names : List Str) (tab : IsTab) : PySem.W.Frag → Bool := fun K => tab.all fun r => decide (PySem.W.kitOne K (tkN names K r.1.1) (tkN names K r.1.2) = some r.2)
abbrev clN (names : List Str) (K : PySem.W.Frag) : Nat → Addr := fun c => He.ga K (names.getD c "")
end
end Nb
set_option maxHeartbeats 2000000
namespace Nb
open PySem PySem.Spec PyProof.Rows L2
def exR : List Value → Bool
  | .ref _ :: r => exR r
  | l => l == ESX.exTail
section
open Builtin Builtin.ObjectAttr
variable {prog : Program} {w : World} {A : Around} {R : Result → Shared → Prop} {hp : Heap} {g : Array GenState} {d : Drawn} {t : Nat} {os : OsState}
end
end Nb
namespace Nb
open PySem PySem.Spec PyProof.Rows L2
def exBody (txt me par fld : Str) (j : Nat) (p : Nat → Pos) : List Stmt :=
  [.Expr (.Call (.Attribute (.Call (.Name "super" (p 0)) [] [] (p 1)) "__init__" (p 2)) [.Constant (.str txt) j (p 3)] [] (p 4)) (p 5),
   .Assign [.Attribute (.Name me (p 6)) fld (p 7)] (.Name par (p 8)) (p 9)]
abbrev exCall (txt : Str) (j : Nat) (p : Nat → Pos) : Expr := .Call (.Attribute (.Call (.Name "super" (p 0)) [] [] (p 1)) "__init__" (p 2)) [.Constant (.str txt) j (p 3)] [] (p 4)
structure ExP (txt me par fld : Str) (j : Nat) (p : Nat → Pos) (env : Env) : Prop where
  call : ∃ pl, eval (exCall txt j p) env = (do
      let ov ← attributeBase (.Call (.Name "super" (p 0)) [] [] (p 1)) "__init__" env (eval (.Call (.Name "super" (p 0)) [] [] (p 1)) env)
      standAt (p 2).atName
      let (f, first) ← holding [ov] (getMethod ov "__init__" pl)
      callWith (p 4) f first (backTo (p 4) (starEach [.Constant (.str txt) j (p 3)] env)) [])
  ia : interactive env = false
  s1 : swapsWith (exCall txt j p) none (p 5).line env = pure false
  s2 : swapsWith (.Name par (p 8)) (some (.Attribute (.Name me (p 6)) fld (p 7))) (p 9).line env = pure false
structure ExI (P : Program) (K : PySem.W.Frag) (C : Addr) (me par fld : Str) : Prop where
  cls : ∃ nm q N bs bm sn sub ab col dd k0 k1 k2 k3 k5, K.lookup C = some (excClassObj nm q C N bs bm true sn sub ab col dd k0 k1 k2 k3 k5 "Exception.__new__") ∧ exR bm = true
  sa : PySem.W.findIn K (.ref C) "__setattr__" = some (some (.builtin "object.__setattr__"))
  exC : PySem.W.subIn K (.ref C) (.type "BaseException") = some true
  exE : PySem.W.subIn K (.ref C) (.type "Exception") = some true
  tyC : PySem.W.typeIn K (.ref C) = some (.type "type")
  kC : PySem.W.keepIn K (.ref C) = true
  me_ : PySem.W.mroIn K C (.ref C) = some true
  no : PySem.W.findIn K (.ref C) fld = some none
  up : PySem.W.ks_superIn K C C "__init__" = some (some (.builtin "Exception.__init__"))
  st : PySem.W.nsIn K cStatics "thirdparty.any" = some none
  su : PySem.W.nsIn K mainGlobals "super" = some none
  top : (P.main.scope.names.lookup ("super" : Str)).isSome = false
  ini : ∃ f, PySem.W.findIn K (.ref C) "__init__" = some (some (.ref f)) ∧ PySem.W.typeIn K (.ref f) = some (.type "function") ∧
    ∃ (q txt : Str) (j : Nat) (p : Nat → Pos) (oc od : _) (scope : Scope) (params : Arguments) (dV kV doc pm : Value) (an : Option Addr) (cda cc : Addr) (ct : Value) (osl : Array (Option Value)) (ccl ccx : Value) (cdd cld : Option Addr) (vs : Array Value) (ccs csl : Array (Option Value)) (file : Str) (tf : Tok),
      K.lookup f = some ⟨oc, od, .func (PySem.W.ksFn "__init__" q params (exBody txt me par fld j p) scope dV kV doc pm an (.ref cda) ct cc), osl⟩ ∧ PySem.W.codeIn K (.ref cda) q = true ∧
      K.lookup cda = some ⟨ccl, cdd, .fields vs, ccs⟩ ∧ vs[2]? = some (.str file tf) ∧ ((P.main.file : Str) == file) = true ∧ K.lookup cc = some ⟨ccx, cld, .cell (some (.ref C)), csl⟩ ∧
      (∃ a1 : Arg, a1.arg = me ∧ params.posonlyargs = [] ∧ params.args.head? = some a1) ∧
      (∀ L f', ExP txt me par fld j p (callEnv (PySem.W.ksFn "__init__" q params (exBody txt me par fld j p) scope dV kV doc pm an (.ref cda) ct cc) L f')) ∧
      (∀ a b : Value, bindArgs (PySem.W.ksFn "__init__" q params (exBody txt me par fld j p) scope dV kV doc pm an (.ref cda) ct cc) ⟨[a, b], []⟩ = pure [(me, a), (par, b)]) ∧
      scope.names.lookup me = some .local ∧ scope.names.lookup par = some .local ∧ scope.names.lookup ("super" : Str) = some .globalImplicit ∧ scope.names.lookup ("__class__" : Str) = some .free ∧ scope.kind = .function ∧
      (scope.names.all fun x => x.2 != .cell) = true ∧ scope.isCoroutine = false ∧ scope.isGenerator = false ∧ (par == me) = false ∧ (me == ("__debug__" : Str)) = false ∧ (par == ("__debug__" : Str)) = false
end Nb
namespace Nb
open PySem PySem.Spec PyProof.Rows L2
end Nb
namespace Nb
open PySem PySem.Spec PyProof.Rows L2
structure ScrH (P : Program) (w : World) (K : PySem.W.Frag) (h : Heap) (a : Addr) (H : Hp) (ns : List Int) : Prop where
  sq : SqL K H a (ns.map V.int)
  ok : HOk P w H h
  only : ∀ b, H b ≠ none → b = a
  out : H a ≠ none → K.lookup a = none
  frz : ∀ b, H b = none ∨ ∃ o xs, H b = some (.frz o (.lst xs))
theorem scrH_ex {P : Program} {w : World} {K : PySem.W.Frag} {h : Heap} {a : Addr} {vs : List Value} {ns : List Int} (KX : K.In h) (ha : h.get? a = some { cls := .type "list", data := .seq vs.toArray }) (hi : IntsAre vs ns) (hl : ns.length ≤ sizeLine) : ∃ H, ScrH P w K h a H ns := by
  have rv := vals_ints hi
  have lenV := hi.length
  cases hk : K.lookup a with
  | some o =>
    have e := KX a o hk
    rw [ha] at e
    cases e
    exact ⟨fun _ => none, .inr ⟨_, vs.toArray, _, hk, rfl, rfl, rfl, by rw [List.size_toArray, lenV]; exact hl, by simpa using rv⟩, (fun b u z => nomatch z), fun b z => absurd rfl z, fun z => absurd rfl z, fun _ => .inl rfl⟩
  | none =>
    refine ⟨upd (fun _ => none) a (.frz { cls := .type "list", data := .seq vs.toArray } (.lst (ns.map V.int))), .inl (.inr ⟨_, upd_same⟩), fun b u z => ?_, fun b z => ?_, fun _ => hk, fun b => ?_⟩
    · by_cases hb : b = a
      · subst hb
        rw [upd_same] at z
        cases z
        exact ⟨ha, by rw [List.length_map]; exact hl, vs, _, rv, ha⟩
      · rw [upd_ne hb] at z
        cases z
    · by_cases hb : b = a
      · exact hb
      · rw [upd_ne hb] at z
        exact absurd rfl z
    · by_cases hb : b = a
      · subst hb
        exact .inr ⟨_, _, upd_same⟩
      · rw [upd_ne hb]
        exact .inl rfl
theorem law_callG {P : Program} {w : World} {K : PySem.W.Frag} {mg mb : Str → Option Value} {k : Nat} {fa a : Addr} {sp : Sp} {s₁ : Shared} {vs : List Value} {ns : List Int}
    (KX : K.In s₁.heap) (hns : s₁.heap.Ns mainGlobals mg) (hb : s₁.heap.Ns builtinsNs mb) (hbb : ∀ x : Str, x ≠ "__name__" → mb x = bootBuiltins x) (hlim : s₁.heap.NoLimit) (hg : s₁.gens = #[])
    (ha : s₁.heap.get? a = some { cls := .type "list", data := .seq vs.toArray }) (hi : IntsAre vs ns) (hl : ns.length ≤ sizeLine) (hr : Room k callerA)
    (F : ∀ base : Heap, K.In base → base.Ns mainGlobals mg → FnG true P w K mg base k fa sp) (hsp : ∀ H : Hp, SqL K H a (ns.map V.int) → sp [.ref a] H (fun v _ => v = .bl true) fun _ _ _ => False) :
    codeAny (model P w) callerA (.call (.ref fa) ⟨[.ref a], []⟩) (fun r s' => r = .ok (.ret (.bool true)) ∧ OldK s₁.heap s'.heap ∧ s'.os = s₁.os ∧ AllBare s'.gens) s₁ := by
  obtain ⟨H, S⟩ := scrH_ex (P := P) (w := w) KX ha hi hl
  -- the ground: all but the script
  have notD : ∀ {b : Addr} {o : Obj} {es : Array DictEntry} {ep : Nat}, s₁.heap.get? b = some o → o.data = .dict es ep → H b = none := fun {b o es ep} e d => Classical.byContradiction fun q => by
    have e' := S.only b q
    subst e'
    rw [ha] at e
    cases e
    exact nomatch (show Data.seq vs.toArray _ = Data.dict es ep from d)
  have nsK : ∀ {b : Addr} {m : Str → Option Value}, s₁.heap.Ns b m → (hidT s₁.heap H).Ns b m := fun {b m} ⟨o, es, ep, e, d, r⟩ => ⟨o, es, ep, hidT_get e (notD e d), d, r⟩
  have hKb : K.In (hidT s₁.heap H) := fun b o e => hidT_get (KX b o e) (Classical.byContradiction fun q => by
    have e' := S.only b q
    subst e'
    rw [S.out q] at e
    cases e)
  have e0 : Env0 P w K mg (hidT s₁.heap H) callerA [] s₁ H :=
    ⟨rfl, ⟨hKb, nsK hns, ⟨mb, nsK hb, hbb⟩, let ⟨mc, h1, h2⟩ := hlim; ⟨mc, nsK h1, h2⟩⟩, fun b o e => of_hidT e, Nat.le_of_eq (hidT_size _ _), trivial, (fun b hb => absurd (show b ∈ ([] : List Addr) from hb) (by simp)), S.ok, .of_eq hg⟩
  refine codeAny_mono (F _ hKb (nsK hns) callerA [] s₁ H [.ref a] [.ref a] _ _ hr (fun _ => rfl) e0 (.cons rfl .nil) (hsp H S.sq)) fun r s' h => ?_
  cases r with
  | error e => exact let ⟨_, _, _, _, _, _, _, _, _, _, _, _, z⟩ := h; z.elim
  | ok fl =>
    cases fl with
    | next => exact False.elim h
    | brk => exact False.elim h
    | cont => exact False.elim h
    | ret u =>
      obtain ⟨v, H', os, bare, un, hok', r', q⟩ := h
      have q' : v = .bl true := q
      subst q'
      obtain rfl : u = Value.bool true := r'
      refine ⟨rfl, OldK.of_keep fun b o e => ?_, os, bare⟩
      rcases S.frz b with z | ⟨ob, xs, z⟩
      · exact un.keep b o e z (by intro z; exact absurd (show b ∈ ([] : List Addr) from z) (by simp)) (by simp)
      · obtain ⟨e1, _⟩ := S.ok b _ z
        obtain ⟨e2, _⟩ := hok' b _ (un.frzs b ob _ z)
        rw [e] at e1
        cases e1
        exact e2
theorem walk_ofG {l : PySem.W.OpenLaw} {n k : Nat} {q : Program} {loose : List Str} {XP : (Str → Option Value) → Heap → Prop} {YP : World → Heap → Prop} {d : DefRec} (hn : l.most = some n) (hn2 : n ≤ sizeLine) (hdf : d.params.defaults = []) (hr : Room k callerA)
    (F : ∀ (w : World) (mg : Str → Option Value) (fa : Addr) (h : Heap), YP w h → h.Ns mainGlobals mg → mg d.name = some (.ref fa) → ∃ (K : PySem.W.Frag) (sp : Sp), K.In h ∧
      (∀ (H : Hp) (a : Addr) (ns : List Int), ns.length ≤ n → SqL K H a (ns.map V.int) → sp [.ref a] H (fun v _ => v = .bl true) fun _ _ _ => False) ∧
      ∀ base : Heap, K.In base → base.Ns mainGlobals mg → FnG true l.prog w K mg base k fa sp) : PySem.W.WalkO q loose XP YP l.row.toRowW d [] (fun f vs => PySem.call f vs) := by
  refine Att.attach_call hn hdf fun w s₀ s₁ mg mb fa o pm cd doc a vs ns G Y ho hd hcd hmg hobj hints hlen hg => ?_
  obtain ⟨K, sp, KX, hsp, hF⟩ := F w mg fa _ Y G.T.g hmg
  exact law_callG KX G.T.g G.T.b G.T.builtins G.T.nolimit hg hobj hints (Nat.le_trans hlen hn2) hr hF fun H hS => hsp H a ns hlen hS
def scrD (ns : List Int) : List D := [.scr (ns.map .int)]
section
variable {gd : Bool} {P : Program} {w : World} {K : PySem.W.Frag} {mg : Str → Option Value} {base : Heap} {k n : Nat} {f : Addr} {bs : List Bool} {g : Gh} {ks ps : List Str} {gV : List V → List V → List V} {fd : FuncData}
end
end Nb
namespace Nb
open PySem PySem.Spec PyProof.Rows L2
def fRaise (c : Nat) (f : Str) (fe : FE) : FS := fun ε => (fe ε).out fun d ε1 => if d.fz = true then .exc c [f] [d] ε1 else .bad
section
variable {X : Cx} {cl : Nat → Addr} {β : List (Option V)} {W : WX} {pos p2 p : Pos} {e : Expr} {fe : FE}
end
end Nb
namespace Nb
open PySem PySem.Spec PyProof.Rows L2
section
variable {X : Cx} {cl : Nat → Addr} {β : List (Option V)} {W : WX} {pos pos' np yp pa : Pos}
end
end Nb
namespace Nb
open PySem PySem.Spec PyProof.Rows L2
structure CaU (K : PySem.W.Frag) (D : Addr) (f : Str) : Prop where
  x : XfC K D
  no : PySem.W.findIn K (.ref D) f = some none
  c : ExcC K D
section
variable {X : Cx} {cl : Nat → Addr}
end
section
variable {X : Cx} {cl : Nat → Addr}
end
end Nb
namespace Nb
open PySem PySem.Spec PyProof.Rows L2
structure DefE where
  cls : Str
  qual : Str
  params : Arguments
  body : List Stmt
  scope : Scope
def DefE.adr (d : DefE) (K : PySem.W.Frag) : Addr := He.ma K (He.ga K d.cls) "__init__"
def fnE (K : PySem.W.Frag) (a : Addr) : He.FnW := match K.lookup a with
  | some ⟨_, _, .func fd, _⟩ => some (fd.name, fd.qualname, fd.params, fd.body, fd.scope, fd.globals, [], fd.builtins)
  | _ => none
def DefE.val (d : DefE) : He.FnW := some ("__init__", d.qual, d.params, .stmts d.body, d.scope, mainGlobals, [], builtinsNs)
def cellOk (K : PySem.W.Frag) (C : Addr) : List (Str × Addr) → Bool
  | [(x, cc)] => decide (x = "__class__") && (match K.lookup cc with
    | some ⟨_, _, .cell (some (.ref D)), _⟩ => decide (D = C)
    | _ => false)
  | _ => false
def fileOk (K : PySem.W.Frag) (file : Str) : Value → Bool
  | .ref c => (match K.lookup c with
    | some ⟨_, _, .fields vs, _⟩ => (match (vs[2]? : Option Value) with
      | some (Value.str f _) => file == f
      | _ => false)
    | _ => false)
  | _ => false
def isNon : Value → Bool
  | .none => true
  | _ => false
def DefE.ok (K : PySem.W.Frag) (file : Str) (d : DefE) : Bool := match K.lookup (d.adr K) with
  | some ⟨_, _, .func fd, _⟩ => PySem.W.codeIn K fd.code d.qual && (cellOk K (He.ga K d.cls) fd.closure && (fileOk K file fd.code && isNon fd.defaults))
  | _ => false
def clsEB (K : PySem.W.Frag) (C : Addr) : Bool := match K.lookup C with
  | some ⟨.type "type", _, .cls cd, sl⟩ => (match cd.mro, sl.toList with
    | .ref C' :: bm, [_, _, _, _, some (.builtin n), _] => C' == C && n == "Exception.__new__" && !cd.hasDel && cd.hasDict && exR bm
    | _, _ => false)
  | _ => false
def fEx (x fld : Str) : PySem.W.Frag → Bool := fun K =>
  let C := He.ga K x
  clsEB K C && (He.eqO (PySem.W.findIn K (.ref C) "__setattr__") (some (some (.builtin "object.__setattr__"))) && (decide (PySem.W.subIn K (.ref C) (.type "BaseException") = some true) && (decide (PySem.W.subIn K (.ref C) (.type "Exception") = some true) &&
    (decide (PySem.W.typeIn K (.ref C) = some (.type "type")) && (PySem.W.keepIn K (.ref C) && (decide (PySem.W.mroIn K C (.ref C) = some true) && (He.eqO (PySem.W.findIn K (.ref C) fld) (some none) &&
    (He.eqO (PySem.W.ks_superIn K C C "__init__") (some (some (.builtin "Exception.__init__"))) && (He.eqO (PySem.W.nsIn K cStatics "thirdparty.any") (some none) && (He.eqO (PySem.W.nsIn K mainGlobals "super") (some none) &&
    (He.eqO (PySem.W.findIn K (.ref C) "__init__") (some (some (.ref (He.ma K C "__init__")))) && decide (PySem.W.typeIn K (.ref (He.ma K C "__init__")) = some (.type "function")))))))))))))
def fCa (x fld : Str) : PySem.W.Frag → Bool := fun K =>
  let C := He.ga K x
  xfB K C && (He.eqO (PySem.W.findIn K (.ref C) fld) (some none) && (He.eqO (PySem.W.findIn K (.ref C) "__class__") (some (some (.builtin "object.__class__"))) &&
    (He.eqO (PySem.W.specialIn K (.builtin "object.__class__") "__get__") (some (some (.builtin "getset_descriptor.__get__"))) && (decide (PySem.W.takesIn K (.builtin "object.__class__") = some true) && decide (PySem.W.mroIn K C (.type "object") = some true)))))
structure ExTx (me par fld : Str) (d : DefE) : Prop where
  tx : ∃ txt j p, d.body = exBody txt me par fld j p ∧ ∀ (dV kV doc pm cdv ct : Value) (an : Option Addr) (cc L f' : Addr), ExP txt me par fld j p (callEnv (PySem.W.ksFn "__init__" d.qual d.params d.body d.scope dV kV doc pm an cdv ct cc) L f')
  pa : ∃ a1 : Arg, a1.arg = me ∧ d.params.posonlyargs = [] ∧ d.params.args.head? = some a1
  bi : ∀ (kV doc pm cdv ct : Value) (an : Option Addr) (cc : Addr) (a b : Value), bindArgs (PySem.W.ksFn "__init__" d.qual d.params d.body d.scope .none kV doc pm an cdv ct cc) ⟨[a, b], []⟩ = pure [(me, a), (par, b)]
  sc : d.scope.names.lookup me = some .local ∧ d.scope.names.lookup par = some .local ∧ d.scope.names.lookup ("super" : Str) = some .globalImplicit ∧ d.scope.names.lookup ("__class__" : Str) = some .free ∧ d.scope.kind = .function ∧
      (d.scope.names.all fun x => x.2 != .cell) = true ∧ d.scope.isCoroutine = false ∧ d.scope.isGenerator = false ∧ (par == me) = false ∧ (me == ("__debug__" : Str)) = false ∧ (par == ("__debug__" : Str)) = false
abbrev AlY : Type := AlX × AlX
def obsY (fx : List (PySem.W.Frag → Bool)) (fn : List DefX) (file : Str) (en : List DefE) (K : PySem.W.Frag) : AlY := (obsX fx fn K, (en.all fun d => d.ok K file), en.map fun d => fnE K (d.adr K))
def valY (fn : List DefX) (en : List DefE) : AlY := (valX fn, true, en.map DefE.val)
def SaysY (fx : List (PySem.W.Frag → Bool)) (fn : List DefX) (file : Str) (en : List DefE) (K : PySem.W.Frag) : Prop := obsY fx fn file en K = valY fn en
theorem SaysY.x {fx : List (PySem.W.Frag → Bool)} {fn : List DefX} {file : Str} {en : List DefE} {K : PySem.W.Frag} (c : SaysY fx fn file en K) : SaysX fx fn K := congrArg (fun z : AlY => z.1) c
theorem SaysY.err {fx : List (PySem.W.Frag → Bool)} {fn : List DefX} {file : Str} {en : List DefE} {K : PySem.W.Frag} (c : SaysY fx fn file en K) (i : Nat) {d : DefE} (h : en[i]? = some d := by rfl) : fnE K (d.adr K) = d.val ∧ d.ok K file = true := by
  have c2 : (en.all fun d => d.ok K file) = true := congrArg (fun z : AlY => z.2.1) c
  have e : en.map (fun d => fnE K (d.adr K)) = en.map DefE.val := congrArg (fun z : AlY => z.2.2) c
  have e2 : (en.map fun d => fnE K (d.adr K))[i]? = (en.map DefE.val)[i]? := by rw [e]
  rw [List.getElem?_map, List.getElem?_map, h] at e2
  exact ⟨Option.some.inj e2, List.all_eq_true.mp c2 d (List.mem_of_getElem? h)⟩
end Nb
namespace Nb
open PySem PySem.Spec PyProof.Rows L2
structure ItOwn (X : Cx) (cl : Nat → Addr) (k c : Nat) (run : List D → CRes) : Prop where
  fn : ∃ f, PySem.W.findIn X.K (.ref (cl c)) "__getitem__" = some (some (.ref f)) ∧ PySem.W.isFn X.K (.ref f) = true ∧ PySem.W.fnIn X.K f = true ∧ FnG false X.prog X.w X.K X.mg X.base k f (spD (gx X cl) [] run)
section
variable {X : Cx} {cl : Nat → Addr} {β : List (Option V)} {W : WX} {pos : Pos} {o i : Expr} {fo fi : FE} {run : List D → CRes} {c k : Nat}
end
end Nb
namespace Nb
open PySem PySem.Spec PyProof.Rows L2
section
variable {X : Cx} {cl : Nat → Addr} {β : List (Option V)} {W : WX} {pos : Pos} {o e : Expr} {es : List Expr} {fo : FE} {fs fk : FA} {gd : Bool} {k : Nat} {bs : List Bool} {run : List D → CRes} {x m : Str} {p apos : Pos} {kws : List Keyword} {ks : List Str}
end
end Nb
namespace Nb
open PySem PySem.Spec PyProof.Rows L2
def keyD : Key → PyData
  | .inl i => .int i
  | .inr x => .str x
mutual
inductive DpX (K : PySem.W.Frag) (H : Hp) : V → PyData → Prop
  | non : DpX K H .non .none
  | bl (b : Bool) : DpX K H (.bl b) (.bool b)
  | int (i : Int) : DpX K H (.int i) (.int i)
  | str (x : Str) : DpX K H (.str x) (.str x)
  | lst {a : Addr} {xs : List V} {ds : List PyData} : SqL K H a xs → DpXAll K H xs ds → DpX K H (.ref a) (.list ds)
  | tup {a : Addr} {xs : List V} {ds : List PyData} : SqT K H a xs → DpXAll K H xs ds → DpX K H (.ref a) (.tuple ds)
  | dic {a : Addr} {ks : List Key} {xs : List V} {ds : List PyData} : H a = some (.dK (ks.zip xs)) → ks.length = xs.length → DpXAll K H xs ds → DpX K H (.ref a) (.dict ((ks.map keyD).zip ds))
inductive DpXAll (K : PySem.W.Frag) (H : Hp) : List V → List PyData → Prop
  | nil : DpXAll K H [] []
  | cons {v : V} {vs : List V} {d : PyData} {ds : List PyData} : DpX K H v d → DpXAll K H vs ds → DpXAll K H (v :: vs) (d :: ds)
end
section
variable {X : Cx} {pins : List (Addr × Obj)} {σ : L2.St} {H : Hp} {s : Shared}
theorem key_reads {h : Heap} {k : Key} {v : Value} (hv : (mixKind X.prog X.w).is k v = true) : Reads h v (keyD k) [] := by
  rcases keyIs_shape hv with ⟨i, t, rfl, rfl⟩ | ⟨x, t, rfl, rfl⟩
  · exact .int i t
  · exact .str x t
mutual
theorem DpX.reads (I : Inv X pins σ H s) (hS : ∀ o, s.heap.get? sysModules = some o → o.cls = .type "dict") : ∀ {v : V} {d : PyData} {u : Value}, DpX X.K H v d → RelV v u → ∃ as, Reads s.heap u d as ∧ sysModules ∉ as
  | _, _, _, .non, r => by
    cases r
    exact ⟨_, Reads.none, by simp⟩
  | _, _, _, .bl b, r => by
    cases r
    exact ⟨_, Reads.bool b, by simp⟩
  | _, _, _, .int i, r => by
    obtain ⟨t, rfl⟩ := r
    exact ⟨_, Reads.int i t, by simp⟩
  | _, _, _, .str x, r => by
    obtain ⟨t, rfl⟩ := r
    exact ⟨_, Reads.str x t, by simp⟩
  | _, _, _, .lst (a := a) hs ha, r => by
    cases r
    obtain ⟨its, rv, ⟨o, n, ho, hc, _, hd⟩, _⟩ := I.list hs
    obtain ⟨as, hr, hn⟩ := DpXAll.reads I hS ha rv
    refine ⟨_, Reads.list ho hc hd hr, fun hm => ?_⟩
    rcases List.mem_cons.mp hm with e | e
    · subst e
      have z := hS o ho
      rw [hc] at z
      injection z with z
      exact absurd z (by decide)
    · exact hn e
  | _, _, _, .tup hs ha, r => by
    cases r
    obtain ⟨its, rv, ⟨o, ho, hc, n, hd⟩, _⟩ := I.tuple hs
    obtain ⟨as, hr, hn⟩ := DpXAll.reads I hS ha rv
    exact ⟨_, Reads.tuple ho hc hd hr, hn⟩
  | _, _, _, .dic (a := a) (ks := ks) h hl ha, r => by
    cases r
    obtain ⟨_, hsy, us, kv, dof⟩ := I.hok a _ h
    obtain ⟨bs, pr, hn⟩ := DpXAll.pairs I hS ha ks us hl kv
    refine ⟨_, PyProof.V.reads_dictOf (fun k key => key_reads) dof pr, fun hm => ?_⟩
    rcases List.mem_cons.mp hm with e | e
    · exact absurd (beq_iff_eq.mpr e.symm) (by rw [hsy]; exact Bool.false_ne_true)
    · exact hn e
theorem DpXAll.reads (I : Inv X pins σ H s) (hS : ∀ o, s.heap.get? sysModules = some o → o.cls = .type "dict") : ∀ {vs : List V} {ds : List PyData} {us : List Value}, DpXAll X.K H vs ds → Vals vs us → ∃ as, ReadsAll s.heap us ds as ∧ sysModules ∉ as
  | _, _, _, .nil, r => by
    cases r
    exact ⟨_, ReadsAll.nil, by simp⟩
  | _, _, _, .cons h1 h2, r => by
    cases r with
    | cons r1 r2 =>
      obtain ⟨as, q1, n1⟩ := DpX.reads I hS h1 r1
      obtain ⟨bs, q2, n2⟩ := DpXAll.reads I hS h2 r2
      exact ⟨_, ReadsAll.cons q1 q2, fun hm => (List.mem_append.mp hm).elim n1 n2⟩
theorem DpXAll.pairs (I : Inv X pins σ H s) (hS : ∀ o, s.heap.get? sysModules = some o → o.cls = .type "dict") : ∀ {vs : List V} {ds : List PyData}, DpXAll X.K H vs ds → ∀ (ks : List Key) (us : List (Key × Value)), ks.length = vs.length → KV (ks.zip vs) us →
    ∃ bs, PyProof.V.PairsRead s.heap keyD us ((ks.map keyD).zip ds) bs ∧ sysModules ∉ bs
  | _, _, .nil, ks, us, hl, kv => by
    rw [List.zip_nil_right] at kv
    cases kv
    rw [List.zip_nil_right]
    exact ⟨_, .nil, by simp⟩
  | _, _, .cons h1 h2, [], us, hl, kv => by simp at hl
  | _, _, .cons h1 h2, k :: ks, us, hl, kv => by
    rw [List.zip_cons_cons] at kv
    cases kv with
    | @cons p q ps qs r1 r2 =>
      obtain ⟨qk, qv⟩ := q
      obtain ⟨e1, e2⟩ := r1
      dsimp only at e1 e2
      subst e1
      obtain ⟨as, q1, n1⟩ := DpX.reads I hS h1 e2
      obtain ⟨bs, q2, n2⟩ := DpXAll.pairs I hS h2 ks _ (by simpa using hl) r2
      exact ⟨_, .cons q1 q2, fun hm => (List.mem_append.mp hm).elim n1 n2⟩
end
end
def fSys : PySem.W.Frag → Bool := fun K => match K.lookup sysModules with
  | some o => o.cls == .type "dict"
  | none => false
mutual
def D.dataX : D → Option PyData
  | .non => some .none
  | .bl b => some (.bool b)
  | .int i => some (.int i)
  | .str s => some (.str s)
  | .tup ds => (datasX ds).map .tuple
  | .tuk ds => (datasX ds).map .tuple
  | .lst _ ds => (datasX ds).map .list
  | .scr ds => (datasX ds).map .list
  | .dic _ ks ds => (datasX ds).map fun xs => .dict ((ks.map keyD).zip xs)
  | _ => none
def datasX : List D → Option (List PyData)
  | [] => some []
  | d :: ds => match d.dataX, datasX ds with
    | some x, some xs => some (x :: xs)
    | _, _ => none
end
mutual
theorem data_X : ∀ (d : D) (p : PyData), d.data = some p → d.dataX = some p
  | .non, _, h | .bl _, _, h | .int _, _, h | .str _, _, h => by
    rw [D.data] at h
    rw [D.dataX]
    exact h
  | .ty _, _, h | .cls _, _, h | .dic _ _ _, _, h | .dcn _ _ _, _, h | .dcb _ _ _, _, h | .err _ _ _, _, h | .dil _ _, _, h | .ins _ _ _ _, _, h => by simp [D.data] at h
  | .tup ds, p, h => by
    simp only [D.data, Option.map_eq_some_iff] at h
    obtain ⟨xs, h1, rfl⟩ := h
    simp only [D.dataX, datas_X ds xs h1, Option.map_some]
  | .tuk ds, p, h => by
    simp only [D.data, Option.map_eq_some_iff] at h
    obtain ⟨xs, h1, rfl⟩ := h
    simp only [D.dataX, datas_X ds xs h1, Option.map_some]
  | .lst o ds, p, h => by
    simp only [D.data, Option.map_eq_some_iff] at h
    obtain ⟨xs, h1, rfl⟩ := h
    simp only [D.dataX, datas_X ds xs h1, Option.map_some]
  | .scr ds, p, h => by
    simp only [D.data, Option.map_eq_some_iff] at h
    obtain ⟨xs, h1, rfl⟩ := h
    simp only [D.dataX, datas_X ds xs h1, Option.map_some]
theorem datas_X : ∀ (ds : List D) (ps : List PyData), datas ds = some ps → datasX ds = some ps
  | [], ps, h => h
  | d :: ds, ps, h => by
    unfold datas at h
    split at h
    · rename_i x xs e1 e2
      cases h
      simp only [datasX, data_X d x e1, datas_X ds xs e2]
    · cases h
end
section
variable {X : Cx} {cl : Nat → Addr}
def kReprX : List D → Option D
  | [d] => match d.dataX with
    | some p => if p.showable = true ∧ p.depth ≤ 100 ∧ p.shown.length ≤ sizeLine then some (.str p.shown) else none
    | none => none
  | _ => none
end
end Nb
namespace Nb
open PySem PySem.Spec PyProof.Rows L2
def fXm (x y : Str) (b : Bool) : PySem.W.Frag → Bool := fun K => decide (PySem.W.exmOne K (.ref (He.ga K x)) (.ref (He.ga K y)) = some b)
end Nb
namespace Nb
open PySem PySem.Spec PyProof.Rows L2
section
variable {X : Cx} {cl : Nat → Addr} {β : List (Option V)} {W : WX} {pos : Pos} {a : Expr} {fo : FE}
end
end Nb
set_option maxHeartbeats 4000000
namespace Nb
open PySem PySem.Spec PyProof.Rows L2
theorem part3 {α β γ δ : Type} {x : Option α} {f : α → β} {h : α → γ} {k : α → δ} {b : β} {c : γ} {d : δ} (e1 : x.map (fun s => (f s, h s)) = some (b, c)) (e2 : x.map k = some d) : x.map (fun s => (f s, h s, k s)) = some (b, c, d) := by
  cases x with
  | none => simp at e1
  | some s =>
    simp only [Option.map_some, Option.some.injEq, Prod.mk.injEq] at e1 e2 ⊢
    exact ⟨e1.1, e1.2, e2⟩
end Nb
set_option maxHeartbeats 2000000
namespace Nb
open PySem PySem.Spec PyProof.Rows L2
def exBody0 (txt : Str) (j : Nat) (p : Nat → Pos) : List Stmt := [.Expr (exCall txt j p) (p 5)]
structure ExP0 (txt me : Str) (j : Nat) (p : Nat → Pos) (env : Env) : Prop where
  call : ∃ pl, eval (exCall txt j p) env = (do
      let ov ← attributeBase (.Call (.Name "super" (p 0)) [] [] (p 1)) "__init__" env (eval (.Call (.Name "super" (p 0)) [] [] (p 1)) env)
      standAt (p 2).atName
      let (f, first) ← holding [ov] (getMethod ov "__init__" pl)
      callWith (p 4) f first (backTo (p 4) (starEach [.Constant (.str txt) j (p 3)] env)) [])
  ia : interactive env = false
  s1 : swapsWith (exCall txt j p) none (p 5).line env = pure false
structure ExI0 (P : Program) (K : PySem.W.Frag) (C : Addr) (me : Str) : Prop where
  cls : ∃ nm q N bs bm sn sub ab col dd k0 k1 k2 k3 k5, K.lookup C = some (excClassObj nm q C N bs bm true sn sub ab col dd k0 k1 k2 k3 k5 "Exception.__new__") ∧ exR bm = true
  exC : PySem.W.subIn K (.ref C) (.type "BaseException") = some true
  exE : PySem.W.subIn K (.ref C) (.type "Exception") = some true
  tyC : PySem.W.typeIn K (.ref C) = some (.type "type")
  kC : PySem.W.keepIn K (.ref C) = true
  me_ : PySem.W.mroIn K C (.ref C) = some true
  up : PySem.W.ks_superIn K C C "__init__" = some (some (.builtin "Exception.__init__"))
  st : PySem.W.nsIn K cStatics "thirdparty.any" = some none
  su : PySem.W.nsIn K mainGlobals "super" = some none
  top : (P.main.scope.names.lookup ("super" : Str)).isSome = false
  ini : ∃ f, PySem.W.findIn K (.ref C) "__init__" = some (some (.ref f)) ∧ PySem.W.typeIn K (.ref f) = some (.type "function") ∧
    ∃ (q txt : Str) (j : Nat) (p : Nat → Pos) (oc od : _) (scope : Scope) (params : Arguments) (dV kV doc pm : Value) (an : Option Addr) (cda cc : Addr) (ct : Value) (osl : Array (Option Value)) (ccl ccx : Value) (cdd cld : Option Addr) (vs : Array Value) (ccs csl : Array (Option Value)) (file : Str) (tf : Tok),
      K.lookup f = some ⟨oc, od, .func (PySem.W.ksFn "__init__" q params (exBody0 txt j p) scope dV kV doc pm an (.ref cda) ct cc), osl⟩ ∧ PySem.W.codeIn K (.ref cda) q = true ∧
      K.lookup cda = some ⟨ccl, cdd, .fields vs, ccs⟩ ∧ vs[2]? = some (.str file tf) ∧ ((P.main.file : Str) == file) = true ∧ K.lookup cc = some ⟨ccx, cld, .cell (some (.ref C)), csl⟩ ∧
      (∃ a1 : Arg, a1.arg = me ∧ params.posonlyargs = [] ∧ params.args.head? = some a1) ∧
      (∀ L f', ExP0 txt me j p (callEnv (PySem.W.ksFn "__init__" q params (exBody0 txt j p) scope dV kV doc pm an (.ref cda) ct cc) L f')) ∧
      (∀ a : Value, bindArgs (PySem.W.ksFn "__init__" q params (exBody0 txt j p) scope dV kV doc pm an (.ref cda) ct cc) ⟨[a], []⟩ = pure [(me, a)]) ∧
      scope.names.lookup me = some .local ∧ scope.names.lookup ("super" : Str) = some .globalImplicit ∧ scope.names.lookup ("__class__" : Str) = some .free ∧ scope.kind = .function ∧
      (scope.names.all fun x => x.2 != .cell) = true ∧ scope.isCoroutine = false ∧ scope.isGenerator = false ∧ (me == ("__debug__" : Str)) = false
def fRaise0 (c : Nat) : FS := fun ε => .exc c [] [] ε
section
variable {X : Cx} {cl : Nat → Addr} {β : List (Option V)} {W : WX} {pos p2 p : Pos}
end
def fEx0 (x : Str) : PySem.W.Frag → Bool := fun K =>
  let C := He.ga K x
  clsEB K C && (decide (PySem.W.subIn K (.ref C) (.type "BaseException") = some true) && (decide (PySem.W.subIn K (.ref C) (.type "Exception") = some true) &&
    (decide (PySem.W.typeIn K (.ref C) = some (.type "type")) && (PySem.W.keepIn K (.ref C) && (decide (PySem.W.mroIn K C (.ref C) = some true) &&
    (He.eqO (PySem.W.ks_superIn K C C "__init__") (some (some (.builtin "Exception.__init__"))) && (He.eqO (PySem.W.nsIn K cStatics "thirdparty.any") (some none) && (He.eqO (PySem.W.nsIn K mainGlobals "super") (some none) &&
    (He.eqO (PySem.W.findIn K (.ref C) "__init__") (some (some (.ref (He.ma K C "__init__")))) && decide (PySem.W.typeIn K (.ref (He.ma K C "__init__")) = some (.type "function")))))))))))
structure ExTx0 (me : Str) (d : DefE) : Prop where
  tx : ∃ txt j p, d.body = exBody0 txt j p ∧ ∀ (dV kV doc pm cdv ct : Value) (an : Option Addr) (cc L f' : Addr), ExP0 txt me j p (callEnv (PySem.W.ksFn "__init__" d.qual d.params d.body d.scope dV kV doc pm an cdv ct cc) L f')
  pa : ∃ a1 : Arg, a1.arg = me ∧ d.params.posonlyargs = [] ∧ d.params.args.head? = some a1
  bi : ∀ (kV doc pm cdv ct : Value) (an : Option Addr) (cc : Addr) (a : Value), bindArgs (PySem.W.ksFn "__init__" d.qual d.params d.body d.scope .none kV doc pm an cdv ct cc) ⟨[a], []⟩ = pure [(me, a)]
  sc : d.scope.names.lookup me = some .local ∧ d.scope.names.lookup ("super" : Str) = some .globalImplicit ∧ d.scope.names.lookup ("__class__" : Str) = some .free ∧ d.scope.kind = .function ∧
      (d.scope.names.all fun x => x.2 != .cell) = true ∧ d.scope.isCoroutine = false ∧ d.scope.isGenerator = false ∧ (me == ("__debug__" : Str)) = false
end Nb
set_option maxHeartbeats 4000000
namespace Nb
open PySem PySem.Spec PyProof.Rows L2
def asF (g : Addr → Option Obj) (ns : List Str) : Nat → List Addr
  | 0 => (ns.map (He.ga (He.frG g [mainGlobals]))).eraseDups
  | n + 1 => He.growD g (asF g ns n)
def obsMG (n m : Nat) (ns cs : List Str) (fx : List (PySem.W.Frag → Bool)) (fn : List DefX) (file : Str) (en : List DefE) (g : Addr → Option Obj) : AlY := obsY fx fn file en (He.frG g ((mainGlobals :: cStatics :: sysModules :: asF g ns n) ++ asF g cs m))
def hookM (n m : Nat) (ns cs : List Str) (fx : List (PySem.W.Frag → Bool)) (fn : List DefX) (file : Str) (en : List DefE) : PySem.W.Hook where
  α := AlY
  obs := fun s => obsMG n m ns cs fx fn file en s.heap.get?
  val := fun _ => valY fn en
  says := fun _ h => ∃ K : PySem.W.Frag, K.In h ∧ SaysY fx fn file en K
  of := fun _ _ e => ⟨_, He.frG_in, e⟩
  keeps := fun _ _ _ ⟨K, hK, c⟩ k => ⟨K, PySem.W.Frag.In.keeps hK k, c⟩
theorem obsMG_eq {n m : Nat} {ns cs : List Str} {fx : List (PySem.W.Frag → Bool)} {fn : List DefX} {file : Str} {en : List DefE} {g : Addr → Option Obj} {s : Shared} (h : ∀ a, g a = s.heap.get? a) : obsMG n m ns cs fx fn file en g = (hookM n m ns cs fx fn file en).obs s := by
  have e : g = s.heap.get? := funext h
  rw [e] <;> rfl
end Nb
namespace Nb
open PySem PySem.Spec PyProof.Rows L2 PySem.W
end Nb
namespace Nb
open PySem PySem.Spec PyProof.Rows L2
end Nb
set_option maxHeartbeats 2000000
namespace Nb
open PySem PySem.Spec PyProof.Rows L2
section
variable {gd : Bool} {P : Program} {w : World} {K : PySem.W.Frag} {mg : Str → Option Value} {base : Heap} {k n : Nat} {f : Addr} {g : Gh} {ks : List Str} {gV : List V → List V → List V} {σ : List Nat} {run : List D → CRes}
end
end Nb
namespace Nb
open PySem PySem.Spec PyProof.Rows L2
abbrev ZipF (h : Heap) (z TI TO : Addr) (f0 : Value) (f1 : Bool) : Prop :=
  h.get? z = some { cls := .type "zip", dict := none, data := .fields #[f0, .bool f1, .bool false, .ref TI, .ref TO], slots := #[] }
section
variable {prog : Program} {w : World} {A : Around} {E : Value → Shared → Prop} {s : Shared} {z TI TO i1 i2 : Addr} {fp1 fp2 : List Addr} {n1 n2 i : Nat} {P1 P2 : Nat → Value → Prop} {St1 St2 : Nat → Heap → Prop} {a1 a2 f0 : Value} {f1 : Bool} {a : Nat}
def ZSt (z TI TO i1 i2 : Addr) (St1 St2 : Nat → Heap → Prop) (i : Nat) (h : Heap) : Prop :=
  ∃ f0 f1, ZipF h z TI TO f0 f1 ∧ (f0 = .none ∧ f1 = false ∨ ∃ a : Nat, f0 = rawInt a ∧ h.get? a ≠ none ∧ a ≠ z ∧ a ≠ TO ∧ a ≠ i1 ∧ a ≠ i2) ∧ IsTupOf2 h TI (.ref i1) (.ref i2) ∧ (∃ a1 a2, IsTupOf2 h TO a1 a2) ∧ St1 i h ∧ St2 i h
end
end Nb
namespace Nb
open PySem PySem.Spec PyProof.Rows L2
section
variable {X : Cx} {pins : List (Addr × Obj)} {σ : L2.St} {A : Around} {R : Result → Shared → Prop} {z TI TO i1 i2 S a b : Addr} {n1 n2 : Nat} {P1 P2 : Nat → Value → Prop} {St1 St2 : Nat → Heap → Prop} {xs ys : List V} {res : Value}
theorem FpOk.upd {H : Hp} {c x : Addr} {o : HO} (h : FpOk X pins H c) (hne : c ≠ x) : FpOk X pins (L2.upd H x o) c := ⟨by rw [upd_ne hne]; exact h.1, h.2⟩
end
end Nb
namespace Nb
open PySem PySem.Spec PyProof.Rows L2
theorem ZSt.keep {z TI TO i1 i2 S a b : Addr} {St1 St2 : Nat → Heap → Prop} {P : Program} {w : World} {A : Around} {n1 n2 i : Nat} {P1 P2 : Nat → Value → Prop} {h h' : Heap} (D1 : Draws P w A i1 [i1, a] n1 P1 St1) (D2 : Draws P w A i2 [i2, b] n2 P2 St2)
    (hS : S ≠ z ∧ S ≠ TI ∧ S ≠ TO ∧ S ≠ i1 ∧ S ≠ i2 ∧ S ≠ a ∧ S ≠ b) (st : ZSt z TI TO i1 i2 St1 St2 i h) (oth : ∀ c o, c ≠ S → h.get? c = some o → h'.get? c = some o) (hl : h'.get? S ≠ none) : ZSt z TI TO i1 i2 St1 St2 i h' := by
  obtain ⟨f0, f1, hz, hh, hTI, ⟨a1, a2, hTO⟩, st1, st2⟩ := st
  refine ⟨f0, f1, oth _ _ (Ne.symm hS.1) hz, ?_, oth _ _ (Ne.symm hS.2.1) hTI, ⟨a1, a2, oth _ _ (Ne.symm hS.2.2.1) hTO⟩, ?_, ?_⟩
  · rcases hh with hh | ⟨q, h1, h2, h3⟩
    · exact .inl hh
    · refine .inr ⟨q, h1, fun e => ?_, h3⟩
      by_cases hq : q = S
      · rw [hq] at e; exact hl e
      · cases e' : h.get? q with
        | none => exact h2 e'
        | some o => rw [oth q o hq e'] at e; cases e
  · exact D1.frame _ _ _ st1 fun c hc o e => oth c o (fun e' => by
      have e'' : c = i1 ∨ c = a := by simpa using hc
      rcases e'' with q | q
      · exact hS.2.2.2.1 (by rw [← e', q])
      · exact hS.2.2.2.2.2.1 (by rw [← e', q])) e
  · exact D2.frame _ _ _ st2 fun c hc o e => oth c o (fun e' => by
      have e'' : c = i2 ∨ c = b := by simpa using hc
      rcases e'' with q | q
      · exact hS.2.2.2.2.1 (by rw [← e', q])
      · exact hS.2.2.2.2.2.2 (by rw [← e', q])) e
section
variable {X : Cx} {pins : List (Addr × Obj)} {σ : L2.St} {Q : VK} {z TI TO i1 i2 a b : Addr} {n1 n2 : Nat} {P1 P2 : Nat → Value → Prop} {St1 St2 : Nat → Heap → Prop} {xs ys : List V} {E : Value → Shared → Prop}
end
end Nb
namespace Nb
open PySem PySem.Spec PyProof.Rows L2
section
variable {X : Cx} {pins : List (Addr × Obj)} {σ : L2.St}
end
end Nb
namespace Nb
open PySem PySem.Spec PyProof.Rows L2
section
variable {X : Cx} {cl : Nat → Addr} {β : List (Option V)} {W : WX} {pos : Pos}
end
end Nb
namespace Nb
open PySem PySem.Spec PyProof.Rows L2
section
variable {prog : Program} {w : World} {A : Around} {E : Value → Shared → Prop} {s : Shared} {K : PySem.W.Frag} {x C dx : Addr} {od : Option Obj}
end
end Nb
namespace Nb
open PySem PySem.Spec PyProof.Rows L2
section
variable {prog : Program} {w : World} {A : Around} {E : Value → Shared → Prop} {s : Shared} {K : PySem.W.Frag} {x C dx f : Addr} {od : Option Obj} {ox : Obj}
inductive Fgn (s : Shared) : Value → String → Prop where
  | non : Fgn s .none "NoneType"
  | bl (b : Bool) : Fgn s (.bool b) "bool"
  | int (i : Int) (t : Tok) : Fgn s (.int i t) "int"
  | str (y : Str) (t : Tok) : Fgn s (.str y t) "str"
  | lst {l : Addr} (h : s.TypeIs (.ref l) "list") : Fgn s (.ref l) "list"
  | tup {l : Addr} (h : s.TypeIs (.ref l) "tuple") : Fgn s (.ref l) "tuple"
  | dic {l : Addr} (h : s.TypeIs (.ref l) "dict") : Fgn s (.ref l) "dict"
theorem Fgn.ty {v : Value} {T : String} (h : Fgn s v T) : s.TypeIs v T := by
  cases h with
  | non => rfl
  | bl b => rfl
  | int i t => exact typeIs_int s i t
  | str y t => exact typeIs_str s y t
  | lst h => exact h
  | tup h => exact h
  | dic h => exact h
end
end Nb
namespace Nb
open PySem PySem.Spec PyProof.Rows L2
def TL : List String := ["NoneType", "bool", "int", "str", "list", "tuple", "dict"]
structure ApartC (K : PySem.W.Frag) (C : Addr) : Prop where
  sub : ∀ T ∈ TL, PySem.W.subIn K (.ref C) (.type T) = some false
  not : ∀ T ∈ TL, PySem.W.notFirst K C (.type T) = true
section
variable {X : Cx} {pins : List (Addr × Obj)} {σ : L2.St} {H : Hp} {s : Shared}
end
section
variable {X : Cx} {cl : Nat → Addr} {β : List (Option V)} {W : WX} {pos : Pos}
end
end Nb
namespace Nb
open PySem PySem.Spec PyProof.Rows L2
section
variable {X : Cx} {cl : Nat → Addr} {β : List (Option V)} {W : WX} {pos : Pos} {pins : List (Addr × Obj)} {σ : L2.St}
end
end Nb
namespace Nb
open PySem PySem.Spec PyProof.Rows L2
section
variable {prog : Program} {w : World} {A : Around} {E : Value → Shared → Prop} {s : Shared}
end
section
variable {X : Cx} {cl : Nat → Addr} {β : List (Option V)} {W : WX} {pos : Pos} {a : Expr} {fa : FE}
end
end Nb
set_option maxHeartbeats 4000000
namespace Nb
open PySem PySem.Spec PyProof.Rows L2
section
variable {X : Cx} {cl : Nat → Addr} {pins : List (Addr × Obj)} {σ : L2.St} {s : Shared} {F H : Hp}
mutual
theorem Rep.nested (I : Inv X pins σ H s) (t : Exh F H) : ∀ (d : D) (v : V) (P : List Addr) (k : NestedKey) (u : Value), Rep (gx X cl) F H d v P → d.nk = some k → RelV v u → NestedIs s.heap k u
  | .non, v, P, k, u, h, e, r => by
    rw [D.nk] at e; cases e
    rw [h.1] at r; cases (show u = Value.none from r)
    exact .none
  | .bl b, v, P, k, u, h, e, r => by
    rw [D.nk] at e; cases e
    rw [h.1] at r; cases (show u = Value.bool b from r)
    exact .bool rfl
  | .int i, v, P, k, u, h, e, r => by
    rw [D.nk] at e; cases e
    rw [h.1] at r
    obtain ⟨t, rfl⟩ := r
    exact .int i t
  | .str x, v, P, k, u, h, e, r => by
    rw [D.nk] at e; cases e
    rw [h.1] at r
    obtain ⟨t, rfl⟩ := r
    exact .text x t
  | .tuk ds, v, P, k, u, ⟨p, vs, h1, h2, h3⟩, e, r => by
    rw [D.nk] at e
    obtain ⟨ks, e1, e2⟩ := Option.map_eq_some_iff.mp e
    subst e2 h1
    cases (show u = Value.ref p from r)
    obtain ⟨its, rv, ⟨o, g1, g2, n, g3⟩, _⟩ := I.tuple (exh_t t (knt_sq h2))
    exact .tup g1 g2 g3 (by simpa using Reps.nested I t ds vs P ks its h3 e1 rv)
  | .tup ds, v, P, k, u, ⟨p, vs, h1, h2, h3⟩, e, r => by
    rw [D.nk] at e
    obtain ⟨ks, e1, e2⟩ := Option.map_eq_some_iff.mp e
    subst e2 h1
    cases (show u = Value.ref p from r)
    obtain ⟨its, rv, ⟨o, g1, g2, n, g3⟩, _⟩ := I.tuple (exh_t t h2)
    exact .tup g1 g2 g3 (by simpa using Reps.nested I t ds vs P ks its h3 e1 rv)
  | .ty _, _, _, _, _, _, e, _ => by simp [D.nk] at e
  | .cls _, _, _, _, _, _, e, _ => by simp [D.nk] at e
  | .scr _, _, _, _, _, _, e, _ => by simp [D.nk] at e
  | .lst _ _, _, _, _, _, _, e, _ => by simp [D.nk] at e
  | .dic _ _ _, _, _, _, _, _, e, _ => by simp [D.nk] at e
  | .ins _ _ _ _, _, _, _, _, _, e, _ => by simp [D.nk] at e
  | .dcn _ _ _, _, _, _, _, _, e, _ => by simp [D.nk] at e
  | .dcb _ _ _, _, _, _, _, _, e, _ => by simp [D.nk] at e
  | .err _ _ _, _, _, _, _, _, e, _ => by simp [D.nk] at e
  | .dil _ _, _, _, _, _, _, e, _ => by simp [D.nk] at e
theorem Reps.nested (I : Inv X pins σ H s) (t : Exh F H) : ∀ (ds : List D) (vs : List V) (P : List Addr) (ks : List NestedKey) (us : List Value), Reps (gx X cl) F H ds vs P → nks ds = some ks → Vals vs us → NestedAll s.heap ks us
  | [], vs, P, ks, us, h, e, r => by
    rw [nks] at e; cases e
    rw [h.1] at r
    cases r
    exact .nil
  | d :: ds, vs, P, ks, us, ⟨v, vr, P1, P2, h1, h2, h3, h4⟩, e, r => by
    rw [nks] at e
    split at e
    · rename_i k kr e1 e2
      cases e
      rw [h1] at r
      cases r with
      | cons rv rr => exact .cons (Rep.nested I t d v P1 k _ h3 e1 rv) (Reps.nested I t ds vr P2 kr _ h4 e2 rr)
    · cases e
end
def KeyAt (X : Cx) (H : Hp) (k : NestedKey) (b : Addr) : Prop := ∀ (pins : List (Addr × Obj)) (σ : L2.St) (s : Shared), Inv X pins σ H s → NestedIs s.heap k (.ref b)
def KeysAt (X : Cx) (H : Hp) : List NestedKey → List Addr → Prop
  | [], [] => True
  | k :: ks, b :: bs => KeyAt X H k b ∧ KeysAt X H ks bs
  | _, _ => False
theorem KeysAt.mem (I : Inv X pins σ H s) : ∀ {ks : List NestedKey} {as : List Addr} {us : List Value}, KeysAt X H ks as → ∀ x ∈ ents ks as us, NestedIs s.heap x.1 (.ref x.2.1) ∧ x.1 ∈ ks
  | [], [], _, _, x, hx => by simp [ents] at hx
  | k :: ks, a :: as, [], _, x, hx => by simp [ents] at hx
  | k :: ks, a :: as, u :: us, ⟨h1, h2⟩, x, hx => by
    rw [ents] at hx
    rcases List.mem_cons.mp hx with rfl | hx
    · exact ⟨h1 _ _ _ I, List.mem_cons_self⟩
    · have z := KeysAt.mem I h2 x hx
      exact ⟨z.1, List.mem_cons_of_mem _ z.2⟩
  | [], _ :: _, _, h, _, _ => h.elim
  | _ :: _, [], _, h, _, _ => h.elim
end
section
variable {X : Cx} {cl : Nat → Addr} {pins : List (Addr × Obj)} {σ : L2.St} {s : Shared} {F H : Hp} {A : Around} {E : Value → Shared → Prop}
end
end Nb
namespace Nb
open PySem PySem.Spec PyProof.Rows L2
section
variable {X : Cx} {cl : Nat → Addr} {β : List (Option V)} {W : WX} {pos : Pos} {e : Expr} {es : List Expr} {fs : FA}
end
end Nb
namespace Nb
open PySem PySem.Spec PyProof.Rows L2
section
variable {X : Cx} {pins : List (Addr × Obj)} {σ : L2.St}
end
section
variable {X : Cx} {cl : Nat → Addr} {β : List (Option V)} {W : WX} {pos : Pos}
end
end Nb
namespace Nb
open PySem PySem.Spec PyProof.Rows L2
section
variable {X : Cx} {cl : Nat → Addr} {β : List (Option V)} {W : WX} {pos : Pos} {a b c tg : Expr} {fa fb fc : FE}
def asKey : D → Option Key
  | .int i => some (.inl i)
  | .str s => some (.inr s)
  | _ => none
end
end Nb
namespace Nb
open PySem PySem.Spec PyProof.Rows L2
section
variable {X : Cx} {cl : Nat → Addr} {β : List (Option V)} {W : WX} {pos : Pos} {a b c : Expr} {fa fb fi : FE} {F H : Hp}
end
end Nb
namespace Nb
open PySem PySem.Spec PyProof.Rows L2
section
variable {X : Cx} {cl : Nat → Addr} {β : List (Option V)} {W : WX} {pos : Pos}
def kvD : List D → Option (List Key × List D)
  | [] => some ([], [])
  | .tup [k, v] :: ds => match asKey k, kvD ds with
    | some key, some (ks, vs) => some (key :: ks, v :: vs)
    | _, _ => none
  | _ => none
def kDictP : List D → Option D
  | [.lst _ ds] => if fzs ds = true then (match kvD ds with
    | some p => if apart p.1 = true then some (.dic true p.1 p.2) else none
    | none => none) else none
  | [.tuk ds] => if fzs ds = true then (match kvD ds with
    | some p => if apart p.1 = true then some (.dic true p.1 p.2) else none
    | none => none) else none
  | _ => none
end
end Nb
namespace Nb
open PySem PySem.Spec PyProof.Rows L2
section
variable {X : Cx} {cl : Nat → Addr}
end
end Nb
namespace Nb
open PySem PySem.Spec PyProof.Rows L2
section
variable {X : Cx} {cl : Nat → Addr} {β : List (Option V)} {W : WX} {pos : Pos}
end
end Nb
namespace Nb
open PySem PySem.Spec PyProof.Rows L2
section
variable {X : Cx} {cl : Nat → Addr} {β : List (Option V)} {W : WX} {pos pos2 : Pos} {a b c : Expr} {fa : FE} {fs : FA}
end
end Nb
namespace Nb
open PySem PySem.Spec PyProof.Rows L2
section
variable {X : Cx} {cl : Nat → Addr}
end
end Nb
set_option maxHeartbeats 2000000
namespace Nb
open PySem PySem.Spec PyProof.Rows L2
abbrev KeyN (h : Heap) (k : NestedKey) (b : Addr) : Prop := NestedIs h k (.ref b) ∧ k.depth ≤ 8
section
variable {P : Program} {w : World}
def StillN (P : Program) (w : World) (n : Nat) (s : Shared) (v : Value) : Prop := ∀ (A : Around) (E : Value → Shared → Prop) (Q : Bool → Shared → Prop), Q false s → wpAny (model P w) A (ofAClassStatement n v) Q E s
theorem StillN.val {n : Nat} {s : Shared} {v : Value} (h : ∀ a, v ≠ .ref a) : StillN P w n s v := fun A E Q hq => by
  have e : ofAClassStatement n v = pure false := by
    cases v <;> first | (exact absurd rfl (h _)) | (cases n <;> rfl)
  rw [e]
  exact wpAny_pure hq
variable {A : Around} {E : Value → Shared → Prop} {s : Shared}
end
end Nb
namespace Nb
open PySem PySem.Spec PyProof.Rows L2
abbrev NRow := Addr × NestedKey
def rowN (w : World) (p : NRow) : Int × Value := (p.2.hash w, .ref p.1)
structure SetN (w : World) (h : Heap) (a : Addr) (L : List NRow) (es : Array (Int × Value)) (ep : Nat) (t : SetTable) : Prop where
  obj : ∃ o, h.get? a = some o ∧ o.ExactSet ∧ o.data = .set es ep t
  row : es.toList = L.map (rowN w)
  tab : TabOk t (L.map fun p => p.2.hash w)
  one : (L.map (·.2)).Nodup
  key : ∀ p ∈ L, KeyN h p.2 p.1
  led : w.params.followText "set-order" = true ∨ t.led = true
  gap : L.length * 5 < t.mask * 3
  few : L.length < 64
section
variable {P : Program} {w : World} {A : Around} {E : Value → Shared → Prop} {s : Shared} {a : Addr} {L : List NRow} {es : Array (Int × Value)} {ep : Nat} {t : SetTable}
theorem rowsN_len {es : Array (Int × Value)} {L : List NRow} (h : es.toList = L.map (rowN w)) : es.size = L.length := by
  rw [← Array.length_toList, h, List.length_map]
theorem SetN.fits (R : SetN w s.heap a L es ep t) : t.fits es.size = true := by
  have h1 := R.tab.sz
  have h2 := rowsN_len R.row
  have h3 := R.gap
  rw [List.length_map] at h1
  simp only [SetTable.fits, SetTable.fill, R.tab.dm, Bool.and_eq_true, beq_iff_eq, decide_eq_true_eq]
  exact ⟨by omega, by show t.place.size + 0 ≤ t.mask; omega⟩
end
end Nb
set_option maxHeartbeats 3000000
namespace Nb
open PySem PySem.Spec PyProof.Rows L2
section
variable {P : Program} {w : World} {A : Around} {E : Value → Shared → Prop} {s : Shared} {a : Addr} {L : List NRow} {es : Array (Int × Value)} {ep : Nat} {t : SetTable}
end
end Nb
set_option maxHeartbeats 4000000
namespace Nb
open PySem PySem.Spec PyProof.Rows L2
structure HasN (ks : List NRow) (i : Nat) (L : List NRow) : Prop where
  sub : ∀ p ∈ L, p ∈ ks.take i
  all : ∀ p ∈ ks.take i, p.2 ∈ L.map (·.2)
  len : L.length ≤ i
theorem HasN.next {ks L L' : List NRow} {i : Nat} {x : NRow} (g : HasN ks i L) (h : ks[i]? = some x) (c1 : x.2 ∈ L.map (·.2) → L' = L) (c2 : x.2 ∉ L.map (·.2) → L'.Perm (x :: L)) : HasN ks (i + 1) L' := by
  have tk : ks.take (i + 1) = ks.take i ++ [x] := by rw [List.take_succ, h]; rfl
  have gl := g.len
  rcases Classical.em (x.2 ∈ L.map (·.2)) with c | c
  · rw [c1 c]
    refine ⟨fun p hp => by rw [tk]; exact List.mem_append_left _ (g.sub p hp), fun p hp => ?_, by omega⟩
    rw [tk] at hp
    rcases List.mem_append.mp hp with z | z
    · exact g.all p z
    · rw [List.mem_singleton.mp z]; exact c
  · have pm := c2 c
    refine ⟨fun p hp => ?_, fun p hp => ?_, by rw [pm.length_eq, List.length_cons]; omega⟩
    · rw [tk]
      rcases List.mem_cons.mp (pm.mem_iff.mp hp) with z | z
      · exact List.mem_append_right _ (List.mem_singleton.mpr z)
      · exact List.mem_append_left _ (g.sub p z)
    · rw [tk] at hp
      rw [(pm.map (·.2)).mem_iff, List.map_cons]
      rcases List.mem_append.mp hp with z | z
      · exact List.mem_cons_of_mem _ (g.all p z)
      · rw [List.mem_singleton.mp z]; exact List.mem_cons_self
section
variable {P : Program} {w : World} {A : Around} {E : Value → Shared → Prop} {s : Shared}
theorem SetN.keep {h h' : Heap} {a : Addr} {L : List NRow} {es : Array (Int × Value)} {ep : Nat} {t : SetTable} (R : SetN w h a L es ep t) (ha : ∀ o, h.get? a = some o → h'.get? a = some o) (hk : ∀ p ∈ L, KeyN h' p.2 p.1) : SetN w h' a L es ep t :=
  let ⟨o, ho, r⟩ := R.obj
  ⟨⟨o, ha o ho, r⟩, R.row, R.tab, R.one, hk, R.led, R.gap, R.few⟩
end
end Nb
namespace Nb
open PySem PySem.Spec PyProof.Rows L2 PySem.W
section
variable {P : Program} {w : World} {A : Around} {E : Value → Shared → Prop} {s : Shared} {a : Addr} {L : List NRow} {es : Array (Int × Value)} {ep : Nat} {t : SetTable}
end
end Nb
namespace Nb
open PySem PySem.Spec PyProof.Rows L2 PySem.W
section
variable {P : Program} {w : World} {A : Around} {E : Value → Shared → Prop} {s : Shared}
end
end Nb
namespace Nb
open PySem PySem.Spec PyProof.Rows L2 PySem.W
def SetN0 (w : World) (a : Addr) (L : List NRow) (h : Heap) : Prop := ∃ (es : Array (Int × Value)) (ep : Nat) (t : SetTable), (∃ o, h.get? a = some o ∧ o.ExactSet ∧ o.data = .set es ep t) ∧ es.toList = L.map (rowN w) ∧ TabOk t (L.map fun p => p.2.hash w) ∧ (L.map (·.2)).Nodup ∧
    (w.params.followText "set-order" = true ∨ t.led = true) ∧ L.length * 5 < t.mask * 3 ∧ L.length < 64
mutual
/-- numbers, texts, None and tuples of such -/
def D.pl : D → Bool
  | .non => true
  | .int _ => true
  | .str _ => true
  | .tup ds => pls ds
  | _ => false
def pls : List D → Bool
  | [] => true
  | d :: ds => d.pl && pls ds
end
section
variable {X : Cx} {cl : Nat → Addr} {pins : List (Addr × Obj)} {σ : L2.St} {s : Shared} {F H : Hp}
theorem SetN.n0 {w : World} {h : Heap} {a : Addr} {L : List NRow} {es : Array (Int × Value)} {ep : Nat} {t : SetTable} (R : SetN w h a L es ep t) : SetN0 w a L h := ⟨es, ep, t, R.obj, R.row, R.tab, R.one, R.led, R.gap, R.few⟩
end
end Nb
namespace Nb
open PySem PySem.Spec PyProof.Rows L2 PySem.W
section
variable {X : Cx} {cl : Nat → Addr} {β : List (Option V)} {W : WX} {pos : Pos}
end
end Nb
namespace Nb
open PySem PySem.Spec PyProof.Rows L2
section
variable {X : Cx} {cl : Nat → Addr} {β : List (Option V)} {W : WX} {pos : Pos}
end
end Nb
namespace Nb
open PySem PySem.Spec PyProof.Rows L2
abbrev PutT := Addr → V → V → Hp → (Hp → Prop) → Prop
structure PutOk (X : Cx) (o0 : Addr → HO) (put : PutT) : Prop where
  new : ∀ (H : Hp) (h : Heap), sysModules < h.objs.size → ObjOk X.prog X.w H (h.push { cls := .type "dict", data := .dict #[] }) h.objs.size (o0 h.objs.size)
  set : ∀ (X' : Cx) (pins : List (Addr × Obj)) (s : Shared) (σ : L2.St) (H : Hp) (D : Addr) (x y : V) (u r : Value) (K : Hp → Prop) (Q : Unit → Shared → Prop) (E : Value → Shared → Prop), X'.K = X.K → X'.w = X.w → X'.prog = X.prog → X'.A = X.A →
    Inv X' pins σ H s → RelV x u → RelV y r → put D x y H K → (∀ s' H', Inv X' pins σ H' s' → K H' → Q () s') → wpAny (model X'.prog X'.w) X'.A (dictSet D u r) Q E s
section
variable {X : Cx}
end
end Nb
namespace Nb
open PySem PySem.Spec PyProof.Rows L2
section
variable {X : Cx}
end
section
variable {g : Gh} {β : List (Option V)} {W : WX} {σ : L2.St} {F H : Hp} {P : List Addr} {Dl : Addr} {α ν : Type} {rel' : Hp → Hp → α → ν → List Addr → Prop} {Q : ν → Hp → Prop}
end
end Nb
namespace Nb
open PySem PySem.Spec PyProof.Rows L2
section
variable {X : Cx} {cl : Nat → Addr} {β : List (Option V)} {W : WX} {pos : Pos}
variable {kx vx tg iter : Expr} {ifs : List Expr} {scope : Scope} {fi : FI} {p : FG} {tt : FT} {tk tv : FE}
end
end Nb
namespace Nb
open PySem PySem.Spec PyProof.Rows L2
section
variable {prog : Program} {w : World} {K : Type} [DecidableEq K] {knd : KeyKind prog w K} {A : Around} {E : Value → Shared → Prop} {s : Shared}
end
end Nb
namespace Nb
open PySem PySem.Spec PyProof.Rows L2
section
variable {X : Cx}
end
end Nb
namespace Nb
open PySem PySem.Spec PyProof.Rows L2
section
variable {X : Cx} {cl : Nat → Addr} {β : List (Option V)} {W : WX} {pos : Pos}
end
end Nb
namespace Nb
open PySem PySem.Spec PyProof.Rows L2
section
variable {X : Cx} {cl : Nat → Addr} {β : List (Option V)} {W : WX} {pos : Pos}
variable {gd : Bool} {k : Nat} {bs : List Bool} {run : List D → CRes} {x m : Str} {p apos : Pos} {kws : List Keyword} {ks : List Str} {e : Expr} {es : List Expr} {fs fk : FA}
end
end Nb
namespace Nb
open PySem PySem.Spec PyProof.Rows L2
section
variable {X : Cx} {cl : Nat → Addr} {β : List (Option V)} {W : WX} {pos : Pos}
end
section
variable {g : Gh} {β : List (Option V)} {W : WX} {σ : L2.St}
end
section
variable {X : Cx} {cl : Nat → Addr} {β : List (Option V)} {W : WX} {pos : Pos} {k : Nat} {run : List D → CRes} {m x : Str} {p : Pos}
end
end Nb
namespace Nb
open PySem PySem.Spec PyProof.Rows L2
section
variable {X : Cx} {cl : Nat → Addr} {β : List (Option V)} {W : WX} {pos : Pos}
end
end Nb
namespace Nb
open PySem PySem.Spec PyProof.Rows L2
def fPar3 (i j l : Nat) (fs : FA) : FS := fun ε => (fs ε).out fun as ε1 => match as with
  | [.v d, .v e, .v f] => if i < ε1.length ∧ j < ε1.length ∧ l < ε1.length then .nx (((ε1.set i (.val d)).set j (.val e)).set l (.val f)) else .bad
  | _ => .bad
section
variable {X : Cx} {cl : Nat → Addr} {β : List (Option V)} {W : WX} {pos : Pos} {a b c : Expr}
end
end Nb
namespace Nb
open PySem PySem.Spec PyProof.Rows L2
structure WalkS (g : Gh) (J : It) (F H : Hp) (P : List Addr) (ds : List D) : Prop where
  item : ∀ (i : Nat) (d : D) (F' H' : Hp) (P' : List Addr), ds[i]? = some d → Stp F H P F' H' P' → J.go i H' ∧ ∀ x H'', J.yld i H' x H'' → ∃ F'', Rep g F'' H'' d x [] ∧ Stp F' H' [] F'' H'' []
  stop : ∀ (F' H' : Hp) (P' : List Addr), Stp F H P F' H' P' → J.stop ds.length H'
section
variable {g : Gh} {β : List (Option V)} {W : WX} {σ : L2.St} {F H : Hp} {P : List Addr} {Dl : Addr} {α ν : Type} {rel' : Hp → Hp → α → ν → List Addr → Prop} {Q : ν → Hp → Prop}
end
section
variable {X : Cx} {cl : Nat → Addr} {β : List (Option V)} {W : WX} {pos : Pos} {tg : Expr}
variable {elt : Expr} {ifs : List Expr} {scope : Scope} {p : FG} {tt : FT} {te : FE} {x f : Str} {xp ap : Pos}
end
end Nb
set_option maxHeartbeats 2000000
namespace Nb
open PySem PySem.Spec PyProof.Rows L2
section
variable {X : Cx} {cl : Nat → Addr} {β : List (Option V)} {W : WX} {pos pos' np yp pa : Pos}
end
end Nb
namespace Nb
open PySem PySem.Spec PyProof.Rows L2
section
variable {X : Cx} {x1 x2 n : Str} {c1 c2 : Value} {i : Nat} {body su1 su2 : List Stmt} {f1 f2 : Stmt} {np1 np2 pos pos1 pos2 : Pos} {tb : WX → TS} {t1 t2 : Addr → Value → Option Addr → TS} {Wo : WX}
end
end Nb
namespace Nb
open PySem PySem.Spec PyProof.Rows L2
section
variable {X : Cx} {cl : Nat → Addr}
end
section
variable {X : Cx} {cl : Nat → Addr} {β : List (Option V)} {W : WX} {pos pos1 pos2 np1 np2 yp1 yp2 pa1 pa2 p0 p3 p4 p5 p6 p7 : Pos}
end
end Nb
namespace Nb
open PySem PySem.Spec PyProof.Rows L2
theorem Reps.dropLast {g : Gh} {F H : Hp} : ∀ {ds : List D} {vs : List V}, fzs ds = true → Reps g F H ds vs [] → Reps g F H ds.dropLast vs.dropLast []
  | [], vs, _, h => by
    obtain ⟨rfl, _⟩ := h
    exact ⟨rfl, rfl⟩
  | [d], vs, z, h => by
    obtain ⟨v, vr, P1, P2, rfl, hp, h3, h4⟩ := h
    obtain ⟨rfl, _⟩ := h4
    exact ⟨rfl, rfl⟩
  | d :: d2 :: ds, vs, z, h => by
    obtain ⟨v, vr, P1, P2, rfl, hp, h3, h4⟩ := h
    obtain ⟨rfl, rfl⟩ := List.append_eq_nil_iff.mp hp.symm
    have ih := Reps.dropLast (ds := d2 :: ds) (by rw [fzs, Bool.and_eq_true] at z; exact z.2) h4
    obtain ⟨v2, vr2, A, B, rfl, hq, h5, h6⟩ := h4
    exact ⟨v, _, [], [], rfl, rfl, h3, ih⟩
section
variable {X : Cx} {cl : Nat → Addr} {β : List (Option V)} {W : WX} {pos : Pos} {a : Expr} {fa : FE}
end
end Nb
namespace Nb
open PySem PySem.Spec PyProof.Rows L2
section
variable {X : Cx} {cl : Nat → Addr} {β : List (Option V)} {W : WX} {pos p : Pos} {gd : Bool} {k : Nat} {bs : List Bool} {run : List D → CRes} {x : Str}
end
section
variable {X : Cx} {cl : Nat → Addr}
end
section
variable {X : Cx} {cl : Nat → Addr}
end
end Nb
namespace Nb
open PySem PySem.Spec PyProof.Rows L2
section
variable {X : Cx} {cl : Nat → Addr}
end
end Nb
namespace Nb
open PySem PySem.Spec PyProof.Rows L2
section
variable {X : Cx} {cl : Nat → Addr}
end
section
variable {X : Cx} {cl : Nat → Addr} {β : List (Option V)} {a b c : Expr} {apos pos : Pos} {qa qb qc : QD}
end
end Nb
namespace Nb
open PySem PySem.Spec PyProof.Rows L2
section
variable {X : Cx} {cl : Nat → Addr} {β : List (Option V)} {W : WX} {b c : Expr} {qs : QS} {qa : QD}
end
end Nb
set_option maxHeartbeats 4000000
namespace Nb
open PySem PySem.Spec PyProof.Rows L2
def Out.put (i : Nat) (s : SV) (r : Out) : Out := match r with
  | .nx ε => (match ε[i]? with
    | some .fix => .nx (ε.set i s)
    | _ => .bad)
  | _ => .bad
section
variable {g : Gh} {β : List (Option V)} {W : WX} {F H F' H' : Hp} {P P1 P' : List Addr} {ε' : Ev} {σ' : L2.St} {d : D} {v : V} {i : Nat} {D : Ends}
end
section
variable {X : Cx} {cl : Nat → Addr} {β : List (Option V)} {W : WX} {pos ap xp : Pos} {tg : Expr} {x f : Str}
end
section
variable {X : Cx} {cl : Nat → Addr}
end
section
variable {X : Cx} {cl : Nat → Addr} {β : List (Option V)} {W : WX} {pos apos : Pos} {o : Expr} {fo : FE} {m : Str} {run : List D → CRes} {k : Nat}
end
section
variable {X : Cx} {cl : Nat → Addr} {β : List (Option V)} {W : WX} {pos : Pos}
end
end Nb
namespace Nb
open PySem PySem.Spec PyProof.Rows L2
section
variable {X : Cx} {cl : Nat → Addr}
end
end Nb
namespace Nb
open PySem PySem.Spec PyProof.Rows L2
section
variable {X : Cx} {cl : Nat → Addr} {β : List (Option V)} {W : WX} {pos : Pos} {a b c : Expr} {fa fb fc : FE}
end
end Nb
namespace Nb
open PySem PySem.Spec PyProof.Rows L2
section
variable {X : Cx} {cl : Nat → Addr} {β : List (Option V)} {W : WX} {pos : Pos}
end
end Nb
namespace Nb
open PySem PySem.Spec PyProof.Rows L2
section
variable {X : Cx} {cl : Nat → Addr} {β : List (Option V)} {W : WX} {pos : Pos}
end
end Nb
namespace Nb
open PySem PySem.Spec PyProof.Rows L2
section
variable {X : Cx} {cl : Nat → Addr} {β : List (Option V)} {W : WX} {pos : Pos} {a b c : Expr} {fa fb fc : FE}
end
end Nb
namespace Nb
open PySem PySem.Spec PyProof.Rows L2
section
variable {X : Cx} {cl : Nat → Addr} {β : List (Option V)} {W : WX} {pos : Pos} {a b c tg : Expr} {fa fb fc : FE} {qa qb : QD}
end
end Nb
namespace Nb
open PySem PySem.Spec PyProof.Rows L2
section
variable {g : Gh} {F H : Hp}
variable {β : List (Option V)} {W : WX} {F' H' : Hp} {P P1 P' : List Addr} {ε' : Ev} {σ' : L2.St} {d : D} {v : V} {i : Nat} {D : Ends} {b0 : Option V}
end
section
variable {X : Cx} {cl : Nat → Addr} {β : List (Option V)} {W : WX} {pos xp : Pos} {tg : Expr} {x : Str}
end
end Nb
namespace Nb
open PySem PySem.Spec PyProof.Rows L2
section
variable {X : Cx} {cl : Nat → Addr} {β : List (Option V)} {W : WX} {pos : Pos} {tg : Expr}
variable {elt : Expr} {elts ifs : List Expr} {scope : Scope} {p : FG} {tt : FT} {te : FE} {x : Str} {xp ep cp tpos : Pos} {kk : Nat}
end
end Nb
namespace Nb
open PySem PySem.Spec PyProof.Rows L2
section
variable {X : Cx} {cl : Nat → Addr} {β : List (Option V)} {W : WX} {pos : Pos} {a b c : Expr} {fa fb fi : FE} {F H : Hp} {qa qb : QD} {qs : QS} {i : Nat}
end
end Nb
namespace Nb
open PySem PySem.Spec PyProof.Rows L2
section
variable {X : Cx} {cl : Nat → Addr} {β : List (Option V)} {W : WX} {pos : Pos}
end
end Nb
namespace Nb
open PySem PySem.Spec PyProof.Rows L2
section
variable {X : Cx} {cl : Nat → Addr} {β : List (Option V)} {W : WX} {pos : Pos} {a : Expr} {qa : QD}
end
end Nb
namespace Nb
open PySem PySem.Spec PyProof.Rows L2
section
variable {X : Cx} {cl : Nat → Addr} {β : List (Option V)} {W : WX} {pos : Pos} {a b : Expr} {qa qb : QD}
end
end Nb
namespace Nb
open PySem PySem.Spec PyProof.Rows L2
abbrev BodP := Addr → L2.St → Hp → (Hp → Prop) → Prop
structure BodOk (Y : Cx) (code : Code) (tl : Sem PySem.Fin) (D : Addr) (vd : List Nat) (bd : BodP) : Prop where
  run : ∀ (pins : List (Addr × Obj)) (s : Shared) (σ2 : L2.St) (H2 : Hp) (Nx : Hp → Prop) (K : Shared → Prop), Inv Y pins σ2 H2 s → bd D σ2 H2 Nx →
    (∀ (τ : L2.St) (H' : Hp) (s' : Shared), Inv Y pins τ H' s' → τ.length = σ2.length → (∀ (j : Nat) v, (wipe σ2 vd)[j]? = some (some v) → τ[j]? = some (some v)) → Nx H' → K s') →
    wpAny (model Y.prog Y.w) Y.A tl (fun fin s' => fin = .again code ∧ K s') (fun _ _ => False) s
section
variable {Y : Cx} {el : Expr} {gens : List Comprehension} {scope : Scope} {ps : Pos} {D : Addr} {ifs : List Expr} {elt : Expr} {tt : TT} {te : TE} {code : Code} {vd : List Nat}
end
section
variable {X : Cx}
end
end Nb
namespace Nb
open PySem PySem.Spec PyProof.Rows L2
section
variable {g : Gh} {β : List (Option V)} {W : WX} {σ : L2.St} {F H : Hp} {P : List Addr} {Dl : Addr} {α ν : Type} {rel' : Hp → Hp → α → ν → List Addr → Prop} {Q : ν → Hp → Prop}
end
section
variable {X : Cx} {cl : Nat → Addr} {β : List (Option V)} {W : WX} {pos : Pos} {elt tg iter tg1 iter1 tg2 iter2 : Expr} {ifs ifs1 ifs2 : List Expr} {scope : Scope} {fi fi1 fi2 : FI} {p p1 p2 : FG} {tt tt1 tt2 : FT} {te : FE}
end
end Nb
namespace Nb
open PySem PySem.Spec PyProof.Rows L2
section
variable {X : Cx} {cl : Nat → Addr} {β : List (Option V)} {W : WX} {pos : Pos} {a b c : Expr} {fa fb fi : FE} {F H : Hp}
end
end Nb
namespace Nb
open PySem PySem.Spec PyProof.Rows L2
section
variable {X : Cx} {cl : Nat → Addr} {β : List (Option V)} {W : WX} {pos : Pos}
end
end Nb
namespace Nb
open PySem PySem.Spec PyProof.Rows L2
section
variable {prog : Program} {w : World} {A : Around} {E : Value → Shared → Prop} {s : Shared} {z TI TO i1 i2 : Addr} {fp1 fp2 : List Addr} {n1 n2 i : Nat} {P1 P2 : Nat → Value → Prop} {St1 St2 : Nat → Heap → Prop} {a1 a2 f0 : Value} {f1 : Bool} {a : Nat}
end
section
variable {X : Cx} {cl : Nat → Addr} {β : List (Option V)} {W : WX} {pos : Pos}
end
section
variable {X : Cx} {cl : Nat → Addr} {β : List (Option V)} {W : WX} {pos : Pos}
variable {elt : Expr} {elts ifs : List Expr} {scope : Scope} {p : FG} {tt : FT} {te : FE} {x : Str} {xp ep cp tpos : Pos} {kk : Nat}
end
section
variable {X : Cx} {cl : Nat → Addr} {β : List (Option V)} {W : WX} {pos : Pos} {a b c e o : Expr} {es : List Expr} {fa fb fc fo : FE} {fs fk : FA} {gd : Bool} {k : Nat} {bs : List Bool} {run : List D → CRes} {x m : Str} {p apos : Pos}
end
end Nb
set_option maxHeartbeats 2000000
namespace Nb
open PySem PySem.Spec PyProof.Rows L2
section
variable {X : Cx} {cl : Nat → Addr}
end
end Nb
namespace Nb
open PySem PySem.Spec PyProof.Rows L2
section
variable {prog : Program} {w : World} {A : Around} {E : Value → Shared → Prop} {s : Shared} {l : Addr} {xs : Array (Int × Tok)}
end
section
variable {X : Cx} {cl : Nat → Addr}
end
end Nb
set_option maxHeartbeats 4000000
namespace Nb
open PySem PySem.Spec PyProof.Rows L2 PySem.W
section
variable {X : Cx} {cl : Nat → Addr}
end
section
variable {X : Cx} {cl : Nat → Addr} {β : List (Option V)} {W : WX} {pos : Pos} {o : Expr} {fo : FE} {m : Str} {run : List D → CRes} {k : Nat}
end
end Nb
set_option maxHeartbeats 2000000
namespace Nb
open PySem PySem.Spec PyProof.Rows L2
end Nb
set_option maxHeartbeats 4000000
namespace Nb
open PySem PySem.Spec PyProof.Rows L2 PySem.W
section
variable {X : Cx} {e : Expr} {td : TE} {apos cpos : Pos}
end
section
variable {X : Cx} {cl : Nat → Addr} {β : List (Option V)} {W : WX} {pos : Pos}
end
end Nb
namespace Nb
open PySem PySem.Spec PyProof.Rows L2 PySem.W
section
variable {X : Cx} {cl : Nat → Addr}
variable {β : List (Option V)} {W : WX} {pos : Pos} {a e : Expr} {es : List Expr} {fa : FE} {qs : QS} {i : Nat} {fs : FA}
end
end Nb
namespace Nb
open PySem PySem.Spec PyProof.Rows L2 PySem.W
def txOf (row : Int × Value) : Str := match row.2 with
  | .str x _ => x
  | _ => Str.empty
def TxE (P : Program) (w : World) (row : Int × Value) : Prop := ∃ x u, row.2 = Value.str x u ∧ row.1 = (PySem.strKind P w).hash x
def TxS (P : Program) (w : World) (hp : Heap) (c : Addr) (zs : List Str) : Prop :=
  ∃ ob tab gen st, hp.get? c = some ob ∧ ob.ExactSet ∧ ob.data = .set tab gen st ∧ (∀ row ∈ tab.toList, TxE P w row) ∧ (tab.toList.map txOf).Perm zs ∧ zs.Nodup ∧
    tab.size < scanBound ∧ st.fits tab.size = true ∧ Ris st.place.toList ∧ (w.params.followText "set-order" = true ∨ st.led = true)
section
variable {P : Program} {w : World} {A : Around} {E : Value → Shared → Prop} {s : Shared} {c : Addr} {zs : List Str}
theorem TxS.at {hp hp' : Heap} (Z : TxS P w hp c zs) (k : ∀ ob, hp.get? c = some ob → hp'.get? c = some ob) : TxS P w hp' c zs := by
  obtain ⟨ob, tab, gen, st, at1, more⟩ := Z
  exact ⟨ob, tab, gen, st, k ob at1, more⟩
end
end Nb
namespace Nb
open PySem PySem.Spec PyProof.Rows L2 PySem.W
structure HasT (xs : List Str) (i : Nat) (zs : List Str) : Prop where
  mem : ∀ z, z ∈ zs ↔ z ∈ xs.take i
  len : zs.length ≤ i
open Classical in
theorem HasT.next {xs zs : List Str} {i : Nat} {x : Str} (g : HasT xs i zs) (h : xs[i]? = some x) : HasT xs (i + 1) (if x ∈ zs then zs else x :: zs) := by
  have tk : xs.take (i + 1) = xs.take i ++ [x] := by rw [List.take_succ, h]; rfl
  have gl := g.len
  by_cases c : x ∈ zs
  · rw [if_pos c]
    refine ⟨fun z => ?_, by omega⟩
    rw [tk, List.mem_append, List.mem_singleton, ← g.mem z]
    exact ⟨.inl, fun q => q.elim id fun e => e ▸ c⟩
  · rw [if_neg c]
    refine ⟨fun z => ?_, by rw [List.length_cons]; omega⟩
    rw [tk, List.mem_append, List.mem_singleton, ← g.mem z, List.mem_cons]
    exact Or.comm
section
variable {P : Program} {w : World} {A : Around} {E : Value → Shared → Prop} {s : Shared}
end
end Nb
namespace Nb
open PySem PySem.Spec PyProof.Rows L2 PySem.W
def setTO (P : Program) (w : World) (c : Addr) (zs : List Str) : HO := .ext fun hp => TxS P w hp c zs
section
variable {X : Cx} {cl : Nat → Addr}
variable {β : List (Option V)} {W : WX} {pos : Pos}
end
end Nb
namespace Nb
open PySem PySem.Spec PyProof.Rows L2 PySem.W
section
variable {X : Cx} {cl : Nat → Addr}
end
end Nb
namespace Nb
open PySem PySem.Spec PyProof.Rows L2 PySem.W
section
variable {X : Cx} {cl : Nat → Addr}
end
end Nb
set_option maxHeartbeats 2000000
namespace Nb
open PySem PySem.Spec PyProof.Rows L2
section
variable {gd : Bool} {P : Program} {w : World} {K : PySem.W.Frag} {mg : Str → Option Value} {base : Heap} {k n : Nat} {f : Addr} {g : Gh} {ks : List Str} {gV : List V → List V → List V} {σ : List Nat} {run : List D → CRes} {bs : List Bool}
end
end Nb
set_option maxHeartbeats 4000000
namespace Nb
open PySem PySem.Spec PyProof.Rows L2
section
variable {X : Cx} {cl : Nat → Addr} {β : List (Option V)} {W : WX} {pos : Pos} {a b c : Expr} {fa fb : FE} {F H : Hp} {qa qb : QD} {qs : QS} {i : Nat} {pins : List (Addr × Obj)} {σ : L2.St} {s : Shared}
end
end Nb
namespace Nb
open PySem PySem.Spec PyProof.Rows L2
section
variable {X : Cx} {cl : Nat → Addr} {β : List (Option V)} {W : WX} {pos : Pos} {a : Expr} {fa : FE}
end
end Nb
namespace Nb
open PySem PySem.Spec PyProof.Rows L2
section
variable {X : Cx} {cl : Nat → Addr}
end
section
variable {X : Cx} {cl : Nat → Addr} {β : List (Option V)} {W : WX} {pos : Pos} {a k v : Expr} {fa fk fv : FE} {F H : Hp}
end
end Nb
namespace Nb
open PySem PySem.Spec PyProof.Rows L2 PySem.W L2.DX
section
variable {X : Cx} {cl : Nat → Addr}
variable {β : List (Option V)} {W : WX}
end
end Nb
namespace Nb
open PySem PySem.Spec PyProof.Rows L2
section
variable {prog : Program} {w : World} {A : Around} {R : Result → Shared → Prop} {s : Shared} {kx vx t0 i0 t1 i1 : Expr} {ifs0 ifs1 : List Expr} {scope : Scope} {pos : Pos} {it : Value} {D : Addr} {env : Env}
end
section
variable {X : Cx}
end
section
variable {g : Gh} {β : List (Option V)} {W : WX} {σ : L2.St} {F H : Hp} {P : List Addr} {Dl : Addr} {α ν : Type} {rel' : Hp → Hp → α → ν → List Addr → Prop} {Q : ν → Hp → Prop}
end
section
variable {X : Cx} {cl : Nat → Addr} {β : List (Option V)} {W : WX} {pos : Pos}
variable {kx vx tg iter tg1 iter1 : Expr} {ifs ifs1 : List Expr} {scope : Scope} {fi fi1 : FI} {p p1 : FG} {tt tt1 : FT} {tk tv : FE}
end
section
variable {X : Cx} {cl : Nat → Addr} {β : List (Option V)} {W : WX} {pos : Pos}
end
section
variable {X : Cx} {cl : Nat → Addr} {β : List (Option V)} {W : WX} {pos : Pos}
end
end Nb
namespace Nb
open PySem PySem.Spec PyProof.Rows L2 PySem.W
section
variable {X : Cx} {cl : Nat → Addr} {β : List (Option V)} {W : WX} {pos : Pos}
variable {kx vx tg iter : Expr} {ifs : List Expr} {scope : Scope} {fi : FI} {p : FG} {tt : FT} {tk tv : FE}
end
end Nb
namespace Nb
open PySem PySem.Spec PyProof.Rows L2 PySem.W
section
variable {prog : Program} {w : World} {A : Around} {R : Result → Shared → Prop} {s : Shared} {kx t0 i0 t1 i1 : Expr} {ifs0 ifs1 : List Expr} {scope : Scope} {pos : Pos} {it : Value} {D : Addr} {env : Env}
end
section
variable {X : Cx}
end
end Nb
namespace Nb
open PySem PySem.Spec PyProof.Rows L2 PySem.W
def RS (P0 : Program) (w0 : World) (Dl : Addr) (H : Hp) (acc : List Str) (R : List Addr) : Prop := R = [Dl] ∧ acc.length < 64 ∧ ∃ zs, H Dl = some (setTO P0 w0 Dl zs) ∧ (∀ z, z ∈ zs ↔ z ∈ acc) ∧ zs.length ≤ acc.length ∧ zs.Nodup
theorem RS.alive {P0 : Program} {w0 : World} {Dl : Addr} {H : Hp} {acc : List Str} {R : List Addr} (h : RS P0 w0 Dl H acc R) : ∀ q ∈ R, H q ≠ none := fun q hq => by
  obtain ⟨rfl, _, zs, e, _⟩ := h
  rw [List.mem_singleton.mp hq, e]
  exact Option.some_ne_none _
theorem RS.move {P0 : Program} {w0 : World} {Dl : Addr} {H H' : Hp} {acc : List Str} {R : List Addr} (same : ∀ q ∈ R, H' q = H q) (h : RS P0 w0 Dl H acc R) : RS P0 w0 Dl H' acc R := by
  obtain ⟨rfl, l, zs, e, m⟩ := h
  exact ⟨rfl, l, zs, by rw [same Dl (by simp)]; exact e, m⟩
section
variable {P0 : Program} {w0 : World} {g : Gh} {β : List (Option V)} {W : WX} {σ : L2.St} {F H : Hp} {P : List Addr} {Dl : Addr} {α ν : Type} {rel' : Hp → Hp → α → ν → List Addr → Prop} {Q : ν → Hp → Prop}
end
section
variable {X : Cx} {cl : Nat → Addr} {β : List (Option V)} {W : WX} {pos : Pos}
variable {kx tg iter tg1 iter1 : Expr} {ifs ifs1 : List Expr} {scope : Scope} {fi fi1 : FI} {p p1 : FG} {tt tt1 : FT} {te : FE}
end
end Nb
namespace Nb
open PySem PySem.Spec PyProof.Rows L2 PySem.W
section
variable {X : Cx}
end
section
variable {X : Cx} {cl : Nat → Addr} {β : List (Option V)} {W : WX} {pos : Pos}
variable {kx tg iter : Expr} {ifs : List Expr} {scope : Scope} {fi : FI} {p : FG} {tt : FT} {te : FE}
end
end Nb
namespace Nb
open PySem PySem.Spec PyProof.Rows L2 PySem.W L2.DX
section
variable {X : Cx} {cl : Nat → Addr}
variable {β : List (Option V)} {W : WX}
end
end Nb
namespace Nb
open PySem PySem.Spec PyProof.Rows L2 PySem.W
section
variable {P : Program} {w : World} {A : Around} {E : Value → Shared → Prop} {s : Shared}
end
section
variable {X : Cx} {cl : Nat → Addr}
variable {β : List (Option V)} {W : WX} {pos : Pos}
end
end Nb
namespace Nb
open PySem PySem.Spec PyProof.Rows L2 PySem.W L2.DX
section
variable {X : Cx} {cl : Nat → Addr}
end
end Nb
namespace Nb
open PySem PySem.Spec PyProof.Rows L2 PySem.W
section
variable {X : Cx} {cl : Nat → Addr} {β : List (Option V)} {W : WX} {a b : Expr} {apos pos tp : Pos} {qa qb : QD} {j : Nat}
end
end Nb
namespace Nb
open PySem PySem.Spec PyProof.Rows L2 PySem.W
section
variable {X : Cx} {cl : Nat → Addr} {β : List (Option V)} {W : WX} {o e : Expr} {apos pos sp_ : Pos} {fo fe : FE} {k : Nat} {m : Str} {bs : List Bool} {run : List D → CRes}
end
end Nb
namespace GQB
open PySem PySem.SeqAt
open AutoSeq1 (wpAny_loadPart')
open MeetsSeq MeetsSeq2 MeetsSeq3 SeqRoads2 GQ
section
variable {prog : Program} {w : World} {A : Around} {R : Result → Shared → Prop}
end
section
variable {prog : Program} {w : World} {A : Around} {E : Value → Shared → Prop} {s : Shared}
end
end GQB
namespace Nb
open PySem PySem.Spec PyProof.Rows L2 PySem.W
abbrev Eqb := Bool → V → V → Hp → Prop
def EqB (X : Cx) (n : Nat) (D : Eqb) : Prop :=
  ∀ (A : Around) (pins : List (Addr × Obj)) (s : Shared) (σ : L2.St) (H : Hp) (x y : V) (u v : Value) (b : Bool), Sub X n A → Inv X pins σ H s → RelV x u → RelV y v → D b x y H →
    wpAny (model X.prog X.w) A (eqBool u v) (fun r s' => r = b ∧ ∃ H', Inv X pins σ H' s' ∧ Ext H H') X.xe s
inductive PrsB (D : Eqb) (H : Hp) : Bool → List V → List V → Prop
  | nil : PrsB D H true [] []
  | nilc {y : V} {ys : List V} : PrsB D H false [] (y :: ys)
  | cnil {x : V} {xs : List V} : PrsB D H false (x :: xs) []
  | no {x y : V} {xs ys : List V} : D false x y H → PrsB D H false (x :: xs) (y :: ys)
  | yes {b : Bool} {x y : V} {xs ys : List V} : D true x y H → PrsB D H b xs ys → PrsB D H b (x :: xs) (y :: ys)
section
variable {X : Cx} {n m : Nat} {D D' : Eqb}
theorem EqB.mono (h : EqB X n D) (hn : n ≤ m) : EqB X m D := fun A pins s σ H x y u v b sb => h A pins s σ H x y u v b (sb.mono hn)
end
section
variable {X : Cx} {n m : Nat}
end
end Nb
namespace Nb
open PySem PySem.Spec PyProof.Rows L2
section
variable {g : Gh} {F H : Hp}
end
section
variable {X : Cx} {cl : Nat → Addr} {β : List (Option V)} {W : WX} {pos pos' p1 p2 : Pos} {o e b : Expr} {x : Str} {st2 : Stmt} {rest : List Stmt}
end
end Nb
namespace Nb
open PySem PySem.Spec PyProof.Rows L2 PySem.W
section
variable {P : Program} {w : World} {A : Around} {E : Value → Shared → Prop} {s : Shared}
end
section
variable {X : Cx} {cl : Nat → Addr}
variable {β : List (Option V)} {W : WX} {pos : Pos}
end
section
variable {X : Cx} {cl : Nat → Addr}
end
end Nb
namespace Nb
open PySem PySem.Spec PyProof.Rows L2 PySem.W
section
variable {X : Cx} {cl : Nat → Addr}
variable {β : List (Option V)} {W : WX} {pos : Pos} {a b : Expr} {fa : FE}
end
end Nb
namespace Nb
end Nb
namespace Nb
open PySem PySem.Spec PyProof.Rows L2
end Nb
namespace Nb
open PySem PySem.Spec PyProof.Rows L2
end Nb
namespace Nb
open PySem PySem.Spec PyProof.Rows L2
end Nb
namespace Nb
open PySem PySem.Spec PyProof.Rows L2
section
variable {X : Cx} {A : Around} {E : Value → Shared → Prop} {pins : List (Addr × Obj)} {σ : L2.St} {H : Hp} {s : Shared}
end
end Nb
namespace Nb
open PySem PySem.Spec PyProof.Rows L2
section
variable {X : Cx} {cl : Nat → Addr}
variable {β : List (Option V)} {W : WX} {pos : Pos} {a e : Expr} {es : List Expr} {fa : FE} {qs : QS} {i : Nat} {fs : FA}
end
end Nb
namespace Nb
open PySem PySem.Spec PyProof.Rows L2
section
variable {X : Cx} {cl : Nat → Addr}
end
end Nb
namespace Nb
open PySem PySem.Spec PyProof.Rows L2
section
variable {X : Cx} {cl : Nat → Addr}
variable {β : List (Option V)} {W : WX} {pos : Pos} {a e : Expr} {es : List Expr} {fa : FE} {qs : QS} {i : Nat} {fs : FA}
end
end Nb
namespace Nb
open PySem PySem.Spec PyProof.Rows L2
section
variable {X : Cx} {cl : Nat → Addr}
end
end Nb
namespace Nb
open PySem PySem.Spec PyProof.Rows L2
section
variable {X : Cx} {cl : Nat → Addr} {β : List (Option V)} {W : WX} {pos : Pos} {a : Expr} {fa : FE}
end
end Nb
namespace Nb
open PySem PySem.Spec PyProof.Rows L2
section
variable {X : Cx} {cl : Nat → Addr} {β : List (Option V)} {W : WX} {pos : Pos} {a : Expr} {fa : FE} {qa : QD}
end
end Nb
namespace Nb
open PySem PySem.Spec PyProof.Rows L2
section
variable {X : Cx} {cl : Nat → Addr} {β : List (Option V)} {W : WX} {pos : Pos} {a : Expr} {fa : FE} {qa : QD}
end
end Nb
namespace Nb
open PySem PySem.Spec PyProof.Rows L2
section
variable {X : Cx} {cl : Nat → Addr} {pins : List (Addr × Obj)} {σ : L2.St} {H : Hp} {s : Shared}
end
end Nb
namespace Nb
open PySem PySem.Spec PyProof.Rows L2
section
variable {X : Cx} {cl : Nat → Addr}
end
end Nb
namespace Nb
open PySem PySem.Spec PyProof.Rows L2 PySem.W L2.DX
section
variable {X : Cx} {cl : Nat → Addr}
variable {β : List (Option V)} {W : WX} {pos : Pos} {a e : Expr} {es : List Expr} {fa : FE} {qs : QS} {i : Nat} {fs : FA}
end
end Nb
namespace Nb
open PySem PySem.Spec PyProof.Rows L2 PySem.W
section
variable {X : Cx} {cl : Nat → Addr}
end
section
variable {X : Cx} {cl : Nat → Addr} {β : List (Option V)} {W : WX} {a b : Expr} {apos pos : Pos} {fa : FE} {q : QD}
end
end Nb
namespace Nb
open PySem PySem.Spec PyProof.Rows L2 PySem.W
section
variable {X : Cx}
end
section
variable {X : Cx}
end
def RSi (P0 : Program) (w0 : World) (Dl : Addr) (H : Hp) (acc : List Int) (R : List Addr) : Prop := R = [Dl] ∧ acc.length < 64 ∧ ∃ (f : Int → Bool) (n : Nat), H Dl = some (SetO w0 Dl f n) ∧ (∀ z, f z = decide (z ∈ acc)) ∧ n ≤ acc.length
theorem RSi.alive {P0 : Program} {w0 : World} {Dl : Addr} {H : Hp} {acc : List Int} {R : List Addr} (h : RSi P0 w0 Dl H acc R) : ∀ q ∈ R, H q ≠ none := fun q hq => by
  obtain ⟨rfl, _, f, n, e, _⟩ := h
  rw [List.mem_singleton.mp hq, e]
  exact Option.some_ne_none _
theorem RSi.move {P0 : Program} {w0 : World} {Dl : Addr} {H H' : Hp} {acc : List Int} {R : List Addr} (same : ∀ q ∈ R, H' q = H q) (h : RSi P0 w0 Dl H acc R) : RSi P0 w0 Dl H' acc R := by
  obtain ⟨rfl, l, f, n, e, m⟩ := h
  exact ⟨rfl, l, f, n, by rw [same Dl (by simp)]; exact e, m⟩
section
variable {P0 : Program} {w0 : World} {g : Gh} {β : List (Option V)} {W : WX} {σ : L2.St} {F H : Hp} {P : List Addr} {Dl : Addr} {α ν : Type} {rel' : Hp → Hp → α → ν → List Addr → Prop} {Q : ν → Hp → Prop}
end
section
variable {X : Cx} {cl : Nat → Addr} {β : List (Option V)} {W : WX} {pos : Pos}
variable {kx tg iter : Expr} {ifs : List Expr} {scope : Scope} {fi : FI} {p : FG} {tt : FT} {te : FE}
end
end Nb
namespace Nb
open PySem PySem.Spec PyProof.Rows L2
section
variable {X : Cx} {cl : Nat → Addr} {β : List (Option V)} {W : WX} {k v : Expr} {pos : Pos} {fk fv : FE}
end
end Nb
set_option maxHeartbeats 1000000
namespace Nb
open PySem PySem.Spec PyProof.Rows L2
section
variable {X : Cx} {cl : Nat → Addr} {β : List (Option V)} {W : WX} {pos : Pos} {a b : Expr} {fa fb : FE}
end
end Nb
set_option maxHeartbeats 2000000
namespace Nb
open PySem PySem.Spec PyProof.Rows L2
section
variable {X : Cx} {pins : List (Addr × Obj)} {σ : L2.St} {H : Hp} {a : Addr}
end
def fMkE (c : Nat) (f : Str) (fe : FE) : FE := fun ε => (fe ε).bind fun d ε1 => if d.fz = true then .ok (.err c [f] [d]) ε1 else .bad
def fMkE0 (c : Nat) : FE := fun ε => .ok (.err c [] []) ε
section
variable {X : Cx} {cl : Nat → Addr} {β : List (Option V)} {W : WX} {pos p2 p : Pos} {e : Expr} {fe : FE}
def fXe (cs : List Nat) (f : Str) (fe : FE) : FE := fun ε => (fe ε).bind fun d ε1 => match d with
  | .err c fs ds => if cs.contains c = true ∧ fs = [f] then (match ds with
    | [v] => if v.fz = true then .ok v ε1 else .bad
    | _ => .bad) else .bad
  | _ => .bad
end
end Nb
namespace PySem.HandSPX
open Builtin Builtin.ObjectAttr
section
variable {prog : Program} {w : World} {A : Around} {R : Result → Shared → Prop} {h : Heap} {g : Array GenState} {d : Drawn} {t : Nat} {os : OsState}
variable {nm q : Str} {C N : Addr} {bs bm bmB : List Value} {hdct : Bool} {sn : List Str} {sub : List Value} {ab : Bool} {col : Option Bool} {dd : Option Addr} {k0 k1 k2 k3 k5 : Option Value} {B newId initId : String} {kw : List (Str × Value)}
end
end PySem.HandSPX
namespace PySem.HandSPX
open Builtin Builtin.ObjectAttr
section
variable {prog : Program} {w : World} {A : Around} {R : Result → Shared → Prop} {h : Heap} {g : Array GenState} {d : Drawn} {t : Nat} {os : OsState}
variable {nm q : Str} {C N : Addr} {bs bm bmB : List Value} {hdct : Bool} {sn : List Str} {sub : List Value} {ab : Bool} {col : Option Bool} {dd : Option Addr} {k0 k1 k2 k3 k5 : Option Value} {B newId initId : String} {kw : List (Str × Value)} {fI : Addr}
end
end PySem.HandSPX
namespace Nb
open PySem PySem.Spec PyProof.Rows L2
end Nb
namespace Nb
open PySem PySem.Spec PyProof.Rows L2
section
variable {X : Cx} {cl : Nat → Addr} {β : List (Option V)} {W : WX} {p2 p kp : Pos} {e : Expr} {fe : FE}
end
end Nb
namespace Nb
open PySem PySem.Spec PyProof.Rows L2
def kIsE (ec : List Nat) (tab : IsTab) : List D → Option D
  | [.err c _ _, t] => match t.asTk with
    | some b => if ec.contains c = true then (tabGet tab (.inr c, b)).map .bl else none
    | none => none
  | _ => none
section
variable {X : Cx} {cl : Nat → Addr}
end
end Nb
namespace Nb
open PySem PySem.Spec PyProof.Rows L2
section
variable {X : Cx} {pins : List (Addr × Obj)} {σ : L2.St} {H : Hp} {s : Shared}
end
end Nb
namespace Nb
open PySem PySem.Spec PyProof.Rows L2
section
variable {X : Cx} {x n : Str} {c : Value} {i : Nat} {body suite : List Stmt} {b₀ : Stmt} {np pos pos' : Pos} {tb : WX → TS} {ts : TS}
end
end Nb
namespace Nb
open PySem PySem.Spec PyProof.Rows L2
def fTryN (cs : List Nat) (i : Nat) (fb fh : FS) : FS := fun ε => match fb ε with
  | .exc c fs ds ε1 => if cs.contains c = true ∧ i < ε1.length then (match fh (ε1.set i (.val (.err c fs ds))) with
    | .nx ε2 => if i < ε2.length then .nx (ε2.set i .no) else .bad
    | _ => .bad) else .bad
  | r => r
section
variable {X : Cx} {cl : Nat → Addr} {β : List (Option V)} {W : WX} {pos pos' np : Pos}
end
end Nb
namespace Nb
open PySem PySem.Spec PyProof.Rows L2
def FnW (P : Program) (w : World) (K : PySem.W.Frag) (mg : Str → Option Value) (base : Heap) (k : Nat) (f : Addr) (sp : Sp) : Prop :=
  ∀ (A : Around) (outer : List Env) (s : Shared) (H : Hp) (us : List Value) (vs : List V) (Q : VK) (E : XK), L2H.RoomH k A → Env0 P w K mg base A outer s H → Vals vs us → sp vs H Q E →
    codeAny (model P w) A (.call (.ref f) ⟨us, []⟩) (CR (CX P w) outer P w H s Q E) s
section
variable {P : Program} {w : World} {K : PySem.W.Frag} {mg : Str → Option Value} {base : Heap} {cl : Nat → Addr} {x qual : Str} {params : Arguments} {body : List Stmt} {scope : Scope} {dvs : List V} {kws : List (Str × V)} {f : Addr} {fd : FuncData} {N ps : List Str} {k : Nat} {bs : List Bool} {fb : FS}
end
section
variable {X : Cx} {cl : Nat → Addr} {β : List (Option V)} {W : WX} {pos : Pos} {k : Nat} {bs : List Bool} {run : List D → CRes} {x : Str} {p : Pos} {e : Expr} {es : List Expr} {fs : FA}
end
end Nb
namespace Nb
open PySem PySem.Spec PyProof.Rows L2
structure ExB (K : PySem.W.Frag) (C : Addr) : Prop where
  q : PySem.W.excIn K C [.type "Exception", .type "BaseException", .type "object"] "Exception.__new__" = true
  k : PySem.W.keepIn K (.ref C) = true
  s : PySem.W.subIn K (.ref C) (.type "BaseException") = some true
  t : PySem.W.typeIn K (.ref C) = some (.type "type")
def fMkB (c : Nat) (fs : FA) : FE := fun ε => (fs ε).bind fun as ε1 => if as.length ≤ mx then .ok (.err c [] []) ε1 else .bad
section
variable {X : Cx} {cl : Nat → Addr} {β : List (Option V)} {W : WX} {pos p : Pos} {x : Str} {c : Nat} {e : Expr} {es : List Expr} {fs : FA}
end
def fExB (x : Str) : PySem.W.Frag → Bool := fun K =>
  let C := He.ga K x
  PySem.W.excIn K C [.type "Exception", .type "BaseException", .type "object"] "Exception.__new__" && (PySem.W.keepIn K (.ref C) && (decide (PySem.W.subIn K (.ref C) (.type "BaseException") = some true) && decide (PySem.W.typeIn K (.ref C) = some (.type "type"))))
end Nb
namespace Nb
open PySem PySem.Spec PyProof.Rows L2
end Nb
namespace Nb
open PySem PySem.W PySem.Calls PyProof.Rows PyProof.V PySem.Spec
structure EnG (items : Array Value) (lo : Addr) (h : Heap) (as : List Addr) : Prop where
  rise : as.Pairwise (· < ·)
  above : ∀ a ∈ as, lo ≤ a
  pairs : ∀ (j : Nat) (a : Addr), as[j]? = some a → ∃ (t : Tok) (x : Value), items[j]? = some x ∧ h.get? a = some { cls := .type "tuple", data := .seq #[.int (j : Nat) t, x] }
def EnSt (h : Heap) (e it : Addr) (i : Nat) : Prop := (i = 0 ∧ IsEnum h e it 0 .none) ∨ ∃ (T : Addr) (old : Value) (f : Bool) (oT : Obj), IsEnumHeld h e it (i : Nat) old T f ∧ h.get? T = some oT ∧ T ≠ e ∧ T ≠ it
theorem EnSt.keep {h h' : Heap} {e it S : Addr} {i : Nat} (x : EnSt h e it i) (hk : ∀ b o, b ≠ S → h.get? b = some o → h'.get? b = some o) (hS : S ≠ e) (hST : ∀ o, h.get? S = some o → ∃ o', h'.get? S = some o') : EnSt h' e it i := by
  rcases x with ⟨rfl, x⟩ | ⟨T, old, f, oT, x, hT, n1, n2⟩
  · exact .inl ⟨rfl, hk e _ (Ne.symm hS) x⟩
  · by_cases hb : T = S
    · subst hb
      obtain ⟨o', z⟩ := hST _ hT
      exact .inr ⟨T, old, f, o', hk e _ (Ne.symm hS) x, z, n1, n2⟩
    · exact .inr ⟨T, old, f, oT, hk e _ (Ne.symm hS) x, hk T _ hb hT, n1, n2⟩
section
variable {prog : Program} {w : World} {A : Around} {E : Value → Shared → Prop} {s : Shared} {items : Array Value} {R : Result → Shared → Prop}
end
end Nb
namespace Nb
open PySem PySem.W PySem.Calls PyProof.Rows PyProof.V PySem.Spec
section
variable {prog : Program} {w : World} {A : Around} {E : Value → Shared → Prop} {s : Shared} {items : Array Value} {R : Result → Shared → Prop}
end
end Nb
namespace Nb
open PySem PySem.Spec PyProof.Rows L2 PySem.W L2.DX
def enumD : Nat → List D → List D
  | _, [] => []
  | i, d :: ds => .tup [.int (i : Nat), d] :: enumD (i + 1) ds
def fListEnm (fe : FE) : FE := fun ε => (fe ε).bind fun d ε1 => match d with
  | .lst _ ds => if fzs ds = true ∧ ds.length < 64 then .ok (.lst true (enumD 0 ds)) ε1 else .bad
  | _ => .bad
section
variable {X : Cx} {cl : Nat → Addr} {β : List (Option V)} {W : WX} {p p2 p3 p4 : Pos} {e : Expr} {fe : FE}
end
end Nb
set_option maxHeartbeats 0
namespace K01
open PySem PySem.Spec PyProof.Rows L2 Nb
def top (i : Nat) : Stmt := PySem.Challenge.pw_namesabove_k01_errors_of_any_value.main.body.getD i (.Pass ⟨0, 0, 0, 0⟩)
def sub (i j : Nat) : Stmt := match top i with
  | .ClassDef _ _ _ b _ _ _ _ _ _ _ => b.getD j (.Pass ⟨0, 0, 0, 0⟩)
  | _ => .Pass ⟨0, 0, 0, 0⟩
def names : List Str := ["BadDocument", "BadRows", "BadGrammar", "BadJudge", "NoPlace", "BadText", "NoRing", "Refused", "NothingToUndo", "InvalidCommand", "NoGrammar", "NoReader", "NamesError"]
def NC : List Nat := []
def TAB : IsTab := [((.inr 0, .inr 0), true), ((.inr 0, .inr 1), false), ((.inr 0, .inr 2), false), ((.inr 0, .inr 3), false), ((.inr 0, .inr 4), false), ((.inr 0, .inr 5), false), ((.inr 0, .inr 6), false), ((.inr 0, .inr 7), false), ((.inr 0, .inr 8), false), ((.inr 0, .inr 9), false), ((.inr 0, .inr 10), false), ((.inr 0, .inr 11), false), ((.inr 1, .inr 0), false), ((.inr 1, .inr 1), true), ((.inr 1, .inr 2), false), ((.inr 1, .inr 3), false), ((.inr 1, .inr 4), false), ((.inr 1, .inr 5), false), ((.inr 1, .inr 6), false), ((.inr 1, .inr 7), false), ((.inr 1, .inr 8), false), ((.inr 1, .inr 9), false), ((.inr 1, .inr 10), false), ((.inr 1, .inr 11), false), ((.inr 2, .inr 0), false), ((.inr 2, .inr 1), false), ((.inr 2, .inr 2), true), ((.inr 2, .inr 3), false), ((.inr 2, .inr 4), false), ((.inr 2, .inr 5), false), ((.inr 2, .inr 6), false), ((.inr 2, .inr 7), false), ((.inr 2, .inr 8), false), ((.inr 2, .inr 9), false), ((.inr 2, .inr 10), false), ((.inr 2, .inr 11), false), ((.inr 3, .inr 0), false), ((.inr 3, .inr 1), false), ((.inr 3, .inr 2), false), ((.inr 3, .inr 3), true), ((.inr 3, .inr 4), false), ((.inr 3, .inr 5), false), ((.inr 3, .inr 6), false), ((.inr 3, .inr 7), false), ((.inr 3, .inr 8), false), ((.inr 3, .inr 9), false), ((.inr 3, .inr 10), false), ((.inr 3, .inr 11), false), ((.inr 4, .inr 0), false), ((.inr 4, .inr 1), false), ((.inr 4, .inr 2), false), ((.inr 4, .inr 3), false), ((.inr 4, .inr 4), true), ((.inr 4, .inr 5), false), ((.inr 4, .inr 6), false), ((.inr 4, .inr 7), false), ((.inr 4, .inr 8), false), ((.inr 4, .inr 9), false), ((.inr 4, .inr 10), false), ((.inr 4, .inr 11), false), ((.inr 5, .inr 0), false), ((.inr 5, .inr 1), false), ((.inr 5, .inr 2), false), ((.inr 5, .inr 3), false), ((.inr 5, .inr 4), false), ((.inr 5, .inr 5), true), ((.inr 5, .inr 6), false), ((.inr 5, .inr 7), false), ((.inr 5, .inr 8), false), ((.inr 5, .inr 9), false), ((.inr 5, .inr 10), false), ((.inr 5, .inr 11), false), ((.inr 6, .inr 0), false), ((.inr 6, .inr 1), false), ((.inr 6, .inr 2), false), ((.inr 6, .inr 3), false), ((.inr 6, .inr 4), false), ((.inr 6, .inr 5), false), ((.inr 6, .inr 6), true), ((.inr 6, .inr 7), false), ((.inr 6, .inr 8), false), ((.inr 6, .inr 9), false), ((.inr 6, .inr 10), false), ((.inr 6, .inr 11), false), ((.inr 7, .inr 0), false), ((.inr 7, .inr 1), false), ((.inr 7, .inr 2), false), ((.inr 7, .inr 3), false), ((.inr 7, .inr 4), false), ((.inr 7, .inr 5), false), ((.inr 7, .inr 6), false), ((.inr 7, .inr 7), true), ((.inr 7, .inr 8), false), ((.inr 7, .inr 9), false), ((.inr 7, .inr 10), false), ((.inr 7, .inr 11), false), ((.inr 8, .inr 0), false), ((.inr 8, .inr 1), false), ((.inr 8, .inr 2), false), ((.inr 8, .inr 3), false), ((.inr 8, .inr 4), false), ((.inr 8, .inr 5), false), ((.inr 8, .inr 6), false), ((.inr 8, .inr 7), false), ((.inr 8, .inr 8), true), ((.inr 8, .inr 9), false), ((.inr 8, .inr 10), false), ((.inr 8, .inr 11), false), ((.inr 9, .inr 0), false), ((.inr 9, .inr 1), false), ((.inr 9, .inr 2), false), ((.inr 9, .inr 3), false), ((.inr 9, .inr 4), false), ((.inr 9, .inr 5), false), ((.inr 9, .inr 6), false), ((.inr 9, .inr 7), false), ((.inr 9, .inr 8), false), ((.inr 9, .inr 9), true), ((.inr 9, .inr 10), false), ((.inr 9, .inr 11), false), ((.inr 10, .inr 0), false), ((.inr 10, .inr 1), false), ((.inr 10, .inr 2), false), ((.inr 10, .inr 3), false), ((.inr 10, .inr 4), false), ((.inr 10, .inr 5), false), ((.inr 10, .inr 6), false), ((.inr 10, .inr 7), false), ((.inr 10, .inr 8), false), ((.inr 10, .inr 9), false), ((.inr 10, .inr 10), true), ((.inr 10, .inr 11), false), ((.inr 11, .inr 0), false), ((.inr 11, .inr 1), false), ((.inr 11, .inr 2), false), ((.inr 11, .inr 3), false), ((.inr 11, .inr 4), false), ((.inr 11, .inr 5), false), ((.inr 11, .inr 6), false), ((.inr 11, .inr 7), false), ((.inr 11, .inr 8), false), ((.inr 11, .inr 9), false), ((.inr 11, .inr 10), false), ((.inr 11, .inr 11), true), ((.inr 0, .inr 12), true), ((.inr 1, .inr 12), true), ((.inr 2, .inr 12), true), ((.inr 3, .inr 12), true), ((.inr 4, .inr 12), true), ((.inr 5, .inr 12), true), ((.inr 6, .inr 12), true), ((.inr 7, .inr 12), true), ((.inr 8, .inr 12), true), ((.inr 9, .inr 12), true), ((.inr 10, .inr 12), true), ((.inr 11, .inr 12), true), ((.inr 0, .inl "Exception"), true), ((.inr 0, .inl "ValueError"), false), ((.inr 0, .inl "TypeError"), false), ((.inr 0, .inl "LookupError"), false), ((.inr 0, .inl "ArithmeticError"), false), ((.inr 0, .inl "RuntimeError"), false), ((.inr 1, .inl "Exception"), true), ((.inr 1, .inl "ValueError"), false), ((.inr 1, .inl "TypeError"), false), ((.inr 1, .inl "LookupError"), false), ((.inr 1, .inl "ArithmeticError"), false), ((.inr 1, .inl "RuntimeError"), false), ((.inr 2, .inl "Exception"), true), ((.inr 2, .inl "ValueError"), false), ((.inr 2, .inl "TypeError"), false), ((.inr 2, .inl "LookupError"), false), ((.inr 2, .inl "ArithmeticError"), false), ((.inr 2, .inl "RuntimeError"), false), ((.inr 3, .inl "Exception"), true), ((.inr 3, .inl "ValueError"), false), ((.inr 3, .inl "TypeError"), false), ((.inr 3, .inl "LookupError"), false), ((.inr 3, .inl "ArithmeticError"), false), ((.inr 3, .inl "RuntimeError"), false), ((.inr 4, .inl "Exception"), true), ((.inr 4, .inl "ValueError"), false), ((.inr 4, .inl "TypeError"), false), ((.inr 4, .inl "LookupError"), false), ((.inr 4, .inl "ArithmeticError"), false), ((.inr 4, .inl "RuntimeError"), false), ((.inr 5, .inl "Exception"), true), ((.inr 5, .inl "ValueError"), false), ((.inr 5, .inl "TypeError"), false), ((.inr 5, .inl "LookupError"), false), ((.inr 5, .inl "ArithmeticError"), false), ((.inr 5, .inl "RuntimeError"), false), ((.inr 6, .inl "Exception"), true), ((.inr 6, .inl "ValueError"), false), ((.inr 6, .inl "TypeError"), false), ((.inr 6, .inl "LookupError"), false), ((.inr 6, .inl "ArithmeticError"), false), ((.inr 6, .inl "RuntimeError"), false), ((.inr 7, .inl "Exception"), true), ((.inr 7, .inl "ValueError"), false), ((.inr 7, .inl "TypeError"), false), ((.inr 7, .inl "LookupError"), false), ((.inr 7, .inl "ArithmeticError"), false), ((.inr 7, .inl "RuntimeError"), false), ((.inr 8, .inl "Exception"), true), ((.inr 8, .inl "ValueError"), false), ((.inr 8, .inl "TypeError"), false), ((.inr 8, .inl "LookupError"), false), ((.inr 8, .inl "ArithmeticError"), false), ((.inr 8, .inl "RuntimeError"), false), ((.inr 9, .inl "Exception"), true), ((.inr 9, .inl "ValueError"), false), ((.inr 9, .inl "TypeError"), false), ((.inr 9, .inl "LookupError"), false), ((.inr 9, .inl "ArithmeticError"), false), ((.inr 9, .inl "RuntimeError"), false), ((.inr 10, .inl "Exception"), true), ((.inr 10, .inl "ValueError"), false), ((.inr 10, .inl "TypeError"), false), ((.inr 10, .inl "LookupError"), false), ((.inr 10, .inl "ArithmeticError"), false), ((.inr 10, .inl "RuntimeError"), false), ((.inr 11, .inl "Exception"), true), ((.inr 11, .inl "ValueError"), false), ((.inr 11, .inl "TypeError"), false), ((.inr 11, .inl "LookupError"), false), ((.inr 11, .inl "ArithmeticError"), false), ((.inr 11, .inl "RuntimeError"), false), ((.inr 12, .inl "Exception"), true), ((.inr 12, .inr 0), false)]
abbrev clK (K : PySem.W.Frag) : Nat → Addr := clN names K
abbrev st_law_deck : Stmt := top 15
abbrev st_law_draw : Stmt := top 16
abbrev st_law_pick : Stmt := top 17
abbrev st_law_value : Stmt := top 18
abbrev st_law_by_name : Stmt := top 19
abbrev st_law_made : Stmt := top 20
abbrev st_law_kept : Stmt := top 21
abbrev st_law_classes : Stmt := top 22
abbrev st_law_classes_due : Stmt := top 23
abbrev st_law_thrown : Stmt := top 24
abbrev st_law_right : Stmt := top 25
abbrev st_law_base_right : Stmt := top 26
abbrev st_law : Stmt := top 27
def d_law_deck : DefX := ⟨fun K => He.ga K "_law_deck", "_law_deck", "_law_deck", defArgs st_law_deck, defBody st_law_deck, defScope st_law_deck⟩
def d_law_draw : DefX := ⟨fun K => He.ga K "_law_draw", "_law_draw", "_law_draw", defArgs st_law_draw, defBody st_law_draw, defScope st_law_draw⟩
def d_law_pick : DefX := ⟨fun K => He.ga K "_law_pick", "_law_pick", "_law_pick", defArgs st_law_pick, defBody st_law_pick, defScope st_law_pick⟩
def d_law_value : DefX := ⟨fun K => He.ga K "_law_value", "_law_value", "_law_value", defArgs st_law_value, defBody st_law_value, defScope st_law_value⟩
def d_law_by_name : DefX := ⟨fun K => He.ga K "_law_by_name", "_law_by_name", "_law_by_name", defArgs st_law_by_name, defBody st_law_by_name, defScope st_law_by_name⟩
def d_law_made : DefX := ⟨fun K => He.ga K "_law_made", "_law_made", "_law_made", defArgs st_law_made, defBody st_law_made, defScope st_law_made⟩
def d_law_kept : DefX := ⟨fun K => He.ga K "_law_kept", "_law_kept", "_law_kept", defArgs st_law_kept, defBody st_law_kept, defScope st_law_kept⟩
def d_law_classes : DefX := ⟨fun K => He.ga K "_law_classes", "_law_classes", "_law_classes", defArgs st_law_classes, defBody st_law_classes, defScope st_law_classes⟩
def d_law_classes_due : DefX := ⟨fun K => He.ga K "_law_classes_due", "_law_classes_due", "_law_classes_due", defArgs st_law_classes_due, defBody st_law_classes_due, defScope st_law_classes_due⟩
def d_law_thrown : DefX := ⟨fun K => He.ga K "_law_thrown", "_law_thrown", "_law_thrown", defArgs st_law_thrown, defBody st_law_thrown, defScope st_law_thrown⟩
def d_law_right : DefX := ⟨fun K => He.ga K "_law_right", "_law_right", "_law_right", defArgs st_law_right, defBody st_law_right, defScope st_law_right⟩
def d_law_base_right : DefX := ⟨fun K => He.ga K "_law_base_right", "_law_base_right", "_law_base_right", defArgs st_law_base_right, defBody st_law_base_right, defScope st_law_base_right⟩
def d_law : DefX := ⟨fun K => He.ga K "law", "law", "law", defArgs st_law, defBody st_law, defScope st_law⟩
abbrev fn : List DefX := [d_law_deck, d_law_draw, d_law_pick, d_law_value, d_law_by_name, d_law_made, d_law_kept, d_law_classes, d_law_classes_due, d_law_thrown, d_law_right, d_law_base_right, d_law]
abbrev fx : List (PySem.W.Frag → Bool) := [fF (.free "ArithmeticError"), fF (.free "Exception"), fF (.free "LookupError"), fF (.free "RuntimeError"), fF (.free "TypeError"), fF (.free "ValueError"), fF (.free "dict"), fF (.free "enumerate"), fF (.free "int"), fF (.free "isinstance"), fF (.free "len"), fF (.free "list"), fF (.free "range"), fF (.free "repr"), fF (.free "tuple"), fF (.glo "BadDocument"), fF (.glo "BadGrammar"), fF (.glo "BadJudge"), fF (.glo "BadRows"), fF (.glo "BadText"), fF (.glo "InvalidCommand"), fF (.glo "NamesError"), fF (.glo "NoGrammar"), fF (.glo "NoPlace"), fF (.glo "NoReader"), fF (.glo "NoRing"), fF (.glo "NothingToUndo"), fF (.glo "Refused"), fTab names TAB, fCa "BadDocument" "part", fCa "BadGrammar" "part", fCa "BadJudge" "part", fCa "BadRows" "part", fCa "BadText" "place", fCa "InvalidCommand" "nofield", fCa "NamesError" "nofield", fCa "NoGrammar" "nofield", fCa "NoPlace" "place", fCa "NoReader" "nofield", fCa "NoRing" "guard", fCa "NothingToUndo" "nofield", fCa "Refused" "sign", fEx0 "InvalidCommand", fEx0 "NoGrammar", fEx0 "NoReader", fEx0 "NothingToUndo", fEx "BadDocument" "part", fEx "BadGrammar" "part", fEx "BadJudge" "part", fEx "BadRows" "part", fEx "BadText" "place", fEx "NoPlace" "place", fEx "NoRing" "guard", fEx "Refused" "sign", fExB "NamesError", fSys, fXm "BadDocument" "NamesError" true, fXm "BadGrammar" "NamesError" true, fXm "BadJudge" "NamesError" true, fXm "BadRows" "NamesError" true, fXm "BadText" "NamesError" true, fXm "InvalidCommand" "NamesError" true, fXm "NoGrammar" "NamesError" true, fXm "NoPlace" "NamesError" true, fXm "NoReader" "NamesError" true, fXm "NoRing" "NamesError" true, fXm "NothingToUndo" "NamesError" true, fXm "Refused" "NamesError" true, fF (.glo "_law_deck"), fF (.glo "_law_draw"), fF (.glo "_law_pick"), fF (.glo "_law_value"), fF (.glo "_law_by_name"), fF (.glo "_law_made"), fF (.glo "_law_kept"), fF (.glo "_law_classes"), fF (.glo "_law_classes_due"), fF (.glo "_law_thrown"), fF (.glo "_law_right"), fF (.glo "_law_base_right"), fF (.glo "law")]
def en_BadDocument : DefE := ⟨"BadDocument", "BadDocument.__init__", defArgs (sub 2 0), defBody (sub 2 0), defScope (sub 2 0)⟩
def en_BadGrammar : DefE := ⟨"BadGrammar", "BadGrammar.__init__", defArgs (sub 6 0), defBody (sub 6 0), defScope (sub 6 0)⟩
def en_BadJudge : DefE := ⟨"BadJudge", "BadJudge.__init__", defArgs (sub 7 0), defBody (sub 7 0), defScope (sub 7 0)⟩
def en_BadRows : DefE := ⟨"BadRows", "BadRows.__init__", defArgs (sub 5 0), defBody (sub 5 0), defScope (sub 5 0)⟩
def en_BadText : DefE := ⟨"BadText", "BadText.__init__", defArgs (sub 4 0), defBody (sub 4 0), defScope (sub 4 0)⟩
def en_InvalidCommand : DefE := ⟨"InvalidCommand", "InvalidCommand.__init__", defArgs (sub 11 0), defBody (sub 11 0), defScope (sub 11 0)⟩
def en_NoGrammar : DefE := ⟨"NoGrammar", "NoGrammar.__init__", defArgs (sub 12 0), defBody (sub 12 0), defScope (sub 12 0)⟩
def en_NoPlace : DefE := ⟨"NoPlace", "NoPlace.__init__", defArgs (sub 3 0), defBody (sub 3 0), defScope (sub 3 0)⟩
def en_NoReader : DefE := ⟨"NoReader", "NoReader.__init__", defArgs (sub 13 0), defBody (sub 13 0), defScope (sub 13 0)⟩
def en_NoRing : DefE := ⟨"NoRing", "NoRing.__init__", defArgs (sub 8 0), defBody (sub 8 0), defScope (sub 8 0)⟩
def en_NothingToUndo : DefE := ⟨"NothingToUndo", "NothingToUndo.__init__", defArgs (sub 10 0), defBody (sub 10 0), defScope (sub 10 0)⟩
def en_Refused : DefE := ⟨"Refused", "Refused.__init__", defArgs (sub 9 0), defBody (sub 9 0), defScope (sub 9 0)⟩
abbrev en : List DefE := [en_BadDocument, en_BadGrammar, en_BadJudge, en_BadRows, en_BadText, en_InvalidCommand, en_NoGrammar, en_NoPlace, en_NoReader, en_NoRing, en_NothingToUndo, en_Refused]
abbrev R : PySem.W.OpenRow := PySem.W.OpenLaw.row PySem.Challenge.rw_namesabove_k01_errors_of_any_value
def gn : List Str := "_law_deck" :: "_law_draw" :: "_law_pick" :: "_law_value" :: "_law_by_name" :: "_law_made" :: "_law_kept" :: "_law_classes" :: "_law_classes_due" :: "_law_thrown" :: "_law_right" :: "_law_base_right" :: "law" :: "BadDocument" :: "BadRows" :: "BadGrammar" :: "BadJudge" :: "NoPlace" :: "BadText" :: "NoRing" :: "Refused" :: "NothingToUndo" :: "InvalidCommand" :: "NoGrammar" :: "NoReader" :: "NamesError" :: []
def gc : List Str := "BadDocument" :: "BadRows" :: "BadGrammar" :: "BadJudge" :: "NoPlace" :: "BadText" :: "NoRing" :: "Refused" :: "NothingToUndo" :: "InvalidCommand" :: "NoGrammar" :: "NoReader" :: "NamesError" :: []
abbrev hk : PySem.W.Hook := hookM 1 4 gn gc fx fn PySem.Challenge.pw_namesabove_k01_errors_of_any_value.main.file en
def ob (s : PySem.W.SharedT) : AlY := obsMG 1 4 gn gc fx fn PySem.Challenge.pw_namesabove_k01_errors_of_any_value.main.file en (HandSHeadRun.getT s)
theorem ob_eq (s : PySem.W.SharedT) : ob s = hk.obs s.abs := obsMG_eq (HandSHeadRun.getT_eq s)
def loose : List PySem.Str := "NamesError" :: "BadDocument" :: "NoPlace" :: "BadText" :: "BadRows" :: "BadGrammar" :: "BadJudge" :: "NoRing" :: "Refused" :: "NothingToUndo" :: "InvalidCommand" :: "NoGrammar" :: "NoReader" :: "_law_deck" :: "_law_draw" :: "_law_pick" :: "_law_value" :: "_law_by_name" :: "_law_made" :: "_law_kept" :: "_law_classes" :: "_law_classes_due" :: "_law_thrown" :: "_law_right" :: "_law_base_right" :: []
abbrev qv := PySem.W.view R.prog [27]
noncomputable abbrev E1 (w : World) (os : OsState) := HandSHeadRun.endF (HandSHeadRun.stepQ (HandSHeadRun.denQ HandSHeadRun.tabQ) R.prog w) 14000 R.prog w os
theorem runAB (w : World) (os : OsState) : (E1 w os).map (fun s => (HandSHeadRun.looksF R.prog (PySem.W.boot_heap w.params) s.abs, HandSHeadRun.seenQ qv loose (PySem.importedModules R.prog.main.body) (fun s => PySem.W.xlAt qv [] s && PySem.W.recOk R.toRowW.records s) s.abs)) = some (true, PySem.W.openGood qv loose) := by
  kernel_rfl
theorem runC (w : World) (os : OsState) : (E1 w os).map ob = some (hk.val w) := by
  kernel_rfl
theorem run (w : World) : HandSHeadRun.RunEq R (PySem.W.view R.prog [27]) hk ob 14000 loose w := fun os => part3 (runAB w os) (runC w os)
end K01
namespace K01
open PySem PySem.W PySem.Calls PyProof.Rows
theorem holds_of (F : ∀ (w : World) (mg : PySem.Str → Option Value) (fa : Addr) (h : Heap) (K : PySem.W.Frag), K.In h → h.Ns mainGlobals mg → Nb.SaysY fx fn PySem.Challenge.pw_namesabove_k01_errors_of_any_value.main.file en K → mg ("law" : PySem.Str) = some (.ref fa) →
    ∃ sp : L2.Sp, (∀ (H : L2.Hp) (a : Addr) (ns : List Int), ns.length ≤ 63 → L2.SqL K H a (ns.map L2.V.int) → sp [.ref a] H (fun v _ => v = .bl true) fun _ _ _ => False) ∧
      ∀ base : Heap, K.In base → base.Ns mainGlobals mg → Nb.FnG true PySem.Challenge.rw_namesabove_k01_errors_of_any_value.prog w K mg base (3 * 9 + 2) fa sp) : PySem.Challenge.rw_namesabove_k01_errors_of_any_value.Holds := by
  w_on; o_law
  refine HandSHeadRun.head_any (r := OpenLaw.row PySem.Challenge.rw_namesabove_k01_errors_of_any_value) (q := view (OpenLaw.row PySem.Challenge.rw_namesabove_k01_errors_of_any_value).prog [27]) (H := K01.hk) (ob := K01.ob) (M := 14000) (loose := K01.loose) (d := HandSHeadRun.topDef (OpenLaw.row PySem.Challenge.rw_namesabove_k01_errors_of_any_value).prog 27) (kwd := []) K01.ob_eq
    (by kernel_rfl) (fun s => by kernel_rfl) K01.run (by kernel_rfl) (by kernel_rfl) (by kernel_rfl) (by rfl) (by first | assumption | decide +kernel) (by decide +kernel) ⟨rfl, rfl, rfl, rfl, rfl, by decide +kernel⟩ ?hw ?hc
  case hw => w_witness2
  case hc =>
    refine Nb.walk_ofG (l := PySem.Challenge.rw_namesabove_k01_errors_of_any_value) (n := 63) (k := 3 * 9 + 2) rfl (by decide) (by kernel_rfl) ⟨rfl, by decide, by decide⟩ ?F
    intro w mg fa h Y G hmg0
    obtain ⟨K, KX, c⟩ := Y
    have hmg : mg ("law" : PySem.Str) = some (.ref fa) := by
      have e : (HandSHeadRun.topDef (OpenLaw.row PySem.Challenge.rw_namesabove_k01_errors_of_any_value).prog 27).name = ("law" : PySem.Str) := by kernel_rfl
      rw [← e]
      exact hmg0
    obtain ⟨sp, h1, h2⟩ := F w mg fa h K KX G c hmg
    exact ⟨K, sp, KX, h1, h2⟩
end K01
namespace Nb
open PySem PySem.Spec PyProof.Rows L2
section
variable {g : Gh} {F H F' H' : Hp}
mutual
/-- frozen data own nothing -/
theorem Rep.cold : ∀ (d : D) (v : V) (P : List Addr), d.fz = true → Rep g F H d v P → P = []
  | .non, _, _, _, h => h.2
  | .bl _, _, _, _, h => h.2
  | .int _, _, _, _, h => h.2
  | .str _, _, _, _, h => h.2
  | .ty _, _, _, _, h => h.2
  | .cls _, _, _, _, h => h.2
  | .tup ds, v, P, z, ⟨p, vs, h1, h2, h3⟩ => Reps.cold ds vs P (by simpa [D.fz] using z) h3
  | .tuk ds, v, P, z, ⟨p, vs, h1, h2, h3⟩ => Reps.cold ds vs P (by simpa [D.fz] using z) h3
  | .lst true ds, v, P, z, _ => by simp [D.fz] at z
  | .lst false ds, v, P, z, ⟨p, vs, h1, h2, h3, h4⟩ => h3
  | .scr ds, v, P, z, ⟨p, vs, h1, h2, h3, h4⟩ => h3
  | .dic true ks ds, v, P, z, _ => by simp [D.fz] at z
  | .dic false ks ds, v, P, z, ⟨p, vs, h1, h2, hl, h3, h4⟩ => h3
  | .dcn true ks ds, v, P, z, _ => by simp [D.fz] at z
  | .dcn false ks ds, v, P, z, ⟨p, nk, as, vs, h1, h2, hk, hr, h3, h4⟩ => h3
  | .dil ks ds, v, P, z, ⟨p, vs, o, h1, h2, hl, h3, h4⟩ => h3
  | .dcb true bs ns, v, P, z, _ => by simp [D.fz] at z
  | .dcb false bs ns, v, P, z, ⟨p, h1, h2, h3⟩ => h3
  | .err c fs ds, v, P, z, ⟨p, d, vs, h1, h2, h3, hl, h4, h5⟩ => h4
  | .ins true c fs ds, v, P, z, _ => by simp [D.fz] at z
  | .ins false c fs ds, v, P, z, ⟨p, dx, vs, h1, h2, hl, h3, h4⟩ => h3
theorem Reps.cold : ∀ (ds : List D) (vs : List V) (P : List Addr), fzs ds = true → Reps g F H ds vs P → P = []
  | [], _, _, _, h => h.2
  | d :: ds, vs, P, z, ⟨v, vr, P1, P2, h1, h2, h3, h4⟩ => by
    have z' : d.fz = true ∧ fzs ds = true := by simpa [fzs] using z
    rw [h2, Rep.cold d v P1 z'.1 h3, Reps.cold ds vr P2 z'.2 h4]
    rfl
end
end
theorem fzH_in {F H : Hp} {P : List Addr} {b : Addr} (h : b ∈ P) : fzH F H P b = H b := if_pos h
section
variable {g : Gh} {F H F' : Hp}
mutual
/-- what is owned may be frozen, once the frozen part holds it -/
theorem Rep.freeze (e : Exh F F') : ∀ (d : D) (v : V) (P : List Addr), (∀ p ∈ P, F' p = H p) → Rep g F H d v P → Rep g F' H d.frz v []
  | .non, _, _, _, h => by unfold D.frz; exact ⟨h.1, rfl⟩
  | .bl _, _, _, _, h => by unfold D.frz; exact ⟨h.1, rfl⟩
  | .int _, _, _, _, h => by unfold D.frz; exact ⟨h.1, rfl⟩
  | .str _, _, _, _, h => by unfold D.frz; exact ⟨h.1, rfl⟩
  | .ty _, _, _, _, h => by unfold D.frz; exact ⟨h.1, rfl⟩
  | .cls _, _, _, _, h => by unfold D.frz; exact ⟨h.1, rfl⟩
  | .tuk ds, v, P, k, ⟨p, vs, h1, h2, h3⟩ => by
    unfold D.frz
    exact ⟨p, vs, h1, exh_k e h2, Reps.freeze e ds vs P k h3⟩
  | .tup ds, v, P, k, ⟨p, vs, h1, h2, h3⟩ => by
    unfold D.frz
    exact ⟨p, vs, h1, exh_t e h2, Reps.freeze e ds vs P k h3⟩
  | .lst true ds, v, P, k, ⟨p, vs, P2, h1, h2, h3, h4⟩ => by
    unfold D.frz
    exact ⟨p, vs, h1, by rw [k p (by rw [h3]; exact List.mem_cons_self)]; exact h2, rfl, Reps.freeze e ds vs P2 (fun q hq => k q (by rw [h3]; exact List.mem_cons_of_mem _ hq)) h4⟩
  | .lst false ds, v, P, k, ⟨p, vs, h1, h2, h3, h4⟩ => by
    unfold D.frz
    exact ⟨p, vs, h1, e _ _ h2, rfl, Reps.freeze e ds vs [] (fun _ h => nomatch h) h4⟩
  | .scr ds, v, P, k, ⟨p, vs, h1, h2, h3, h4⟩ => by
    unfold D.frz
    exact ⟨p, vs, h1, exh_l e h2, rfl, Reps.freeze e ds vs [] (fun _ h => nomatch h) h4⟩
  | .dic true ks ds, v, P, k, ⟨p, vs, P2, h1, h2, hl, h3, h4⟩ => by
    unfold D.frz
    exact ⟨p, vs, h1, by rw [k p (by rw [h3]; exact List.mem_cons_self)]; exact h2, hl, rfl, Reps.freeze e ds vs P2 (fun q hq => k q (by rw [h3]; exact List.mem_cons_of_mem _ hq)) h4⟩
  | .dic false ks ds, v, P, k, ⟨p, vs, h1, h2, hl, h3, h4⟩ => by
    unfold D.frz
    exact ⟨p, vs, h1, e _ _ h2, hl, rfl, Reps.freeze e ds vs [] (fun _ h => nomatch h) h4⟩
  | .dcn true ks ds, v, P, k, ⟨p, nk, as, vs, P2, h1, h2, hk, hr, h3, h4⟩ => by
    unfold D.frz
    exact ⟨p, nk, as, vs, h1, by rw [k p (by rw [h3]; exact List.mem_cons_self)]; exact h2, hk, Reps.move e ks _ [] (fun _ h => nomatch h) hr, rfl, Reps.freeze e ds vs P2 (fun q hq => k q (by rw [h3]; exact List.mem_cons_of_mem _ hq)) h4⟩
  | .dcn false ks ds, v, P, k, ⟨p, nk, as, vs, h1, h2, hk, hr, h3, h4⟩ => by
    unfold D.frz
    exact ⟨p, nk, as, vs, h1, e _ _ h2, hk, Reps.move e ks _ [] (fun _ h => nomatch h) hr, rfl, Reps.freeze e ds vs [] (fun _ h => nomatch h) h4⟩
  | .dcb true bs ns, v, P, k, ⟨p, h1, h2, h3⟩ => by
    unfold D.frz
    exact ⟨p, h1, by rw [k p (by rw [h3]; exact List.mem_cons_self)]; exact h2, rfl⟩
  | .dcb false bs ns, v, P, k, ⟨p, h1, h2, h3⟩ => by
    unfold D.frz
    exact ⟨p, h1, e _ _ h2, rfl⟩
  | .err c fs ds, v, P, k, ⟨p, d, vs, h1, h2, h3, hl, h4, h5⟩ => by
    unfold D.frz
    exact ⟨p, d, vs, h1, err_mono e h2, xd_mono e h3, hl, rfl, Reps.freeze e ds vs [] (fun _ h => nomatch h) h5⟩
  | .dil ks ds, v, P, k, ⟨p, vs, o, h1, h2, hl, h3, h4⟩ => by
    unfold D.frz
    exact ⟨p, vs, o, h1, e _ _ h2, hl, rfl, Reps.freeze e ds vs [] (fun _ h => nomatch h) h4⟩
  | .ins true c fs ds, v, P, k, ⟨p, dx, vs, P2, h1, h2, hl, h3, h4⟩ => by
    unfold D.frz
    exact ⟨p, dx, vs, h1, by rw [k p (by rw [h3]; exact List.mem_cons_self)]; exact h2, hl, rfl, Reps.freeze e ds vs P2 (fun q hq => k q (by rw [h3]; exact List.mem_cons_of_mem _ hq)) h4⟩
  | .ins false c fs ds, v, P, k, ⟨p, dx, vs, h1, h2, hl, h3, h4⟩ => by
    unfold D.frz
    exact ⟨p, dx, vs, h1, e _ _ h2, hl, rfl, Reps.freeze e ds vs [] (fun _ h => nomatch h) h4⟩
theorem Reps.freeze (e : Exh F F') : ∀ (ds : List D) (vs : List V) (P : List Addr), (∀ p ∈ P, F' p = H p) → Reps g F H ds vs P → Reps g F' H (frzs ds) vs []
  | [], _, _, _, h => by unfold frzs; exact ⟨h.1, rfl⟩
  | d :: ds, vs, P, k, ⟨v, vr, P1, P2, h1, h2, h3, h4⟩ => by
    unfold frzs
    exact ⟨v, vr, [], [], h1, rfl, Rep.freeze e d v P1 (fun q hq => k q (by rw [h2]; exact List.mem_append_left _ hq)) h3, Reps.freeze e ds vr P2 (fun q hq => k q (by rw [h2]; exact List.mem_append_right _ hq)) h4⟩
end
end
end Nb
namespace Nb
open PySem PySem.Spec PyProof.Rows L2
theorem Stp.perm {F H F1 H1 : Hp} {P P1 P2 : List Addr} (a : Stp F H P F1 H1 P1) (e : P1.Perm P2) : Stp F H P F1 H1 P2 :=
  ⟨a.sub, a.top, a.keep, fun b hb => a.own b (e.mem_iff.mpr hb), a.fre, e.nodup_iff.mp a.nd, fun b hb => a.off b (e.mem_iff.mpr hb)⟩
theorem Stp.mid {F H F1 H1 F2 H2 : Hp} {P A X B Y : List Addr} (a : Stp F H P F1 H1 (A ++ X ++ B)) (al : ∀ p ∈ A ++ B, H1 p ≠ none) (b : Stp F1 H1 X F2 H2 Y) :
    Stp F H P F2 H2 (A ++ Y ++ B) ∧ ∀ p ∈ A ++ B, H2 p = H1 p := by
  have p1 : (A ++ X ++ B).Perm ((A ++ B) ++ X) := by
    rw [List.append_assoc, List.append_assoc]
    exact List.Perm.append_left A List.perm_append_comm
  have p2 : ((A ++ B) ++ Y).Perm (A ++ Y ++ B) := by
    rw [List.append_assoc, List.append_assoc]
    exact List.Perm.append_left A List.perm_append_comm
  obtain ⟨c, d⟩ := (a.perm p1).carry al b
  exact ⟨c.perm p2, d⟩
section
variable {g : Gh} {F H F' H' : Hp}
end
theorem set_same {α : Type} {l : List α} {i : Nat} {x : α} (h : l[i]? = some x) : l.set i x = l := by
  obtain ⟨h1, h2⟩ := List.getElem?_eq_some_iff.mp h
  rw [← h2]
  exact List.set_getElem_self h1
section
variable {g : Gh} {β : List (Option V)} {W : WX} {σ : L2.St}
end
def relB : Hp → Hp → Bool → Bool → List Addr → Prop := fun _ _ b c R => b = c ∧ R = []
abbrev rdT (X : Cx) (cl : Nat → Addr) (β : List (Option V)) (W : WX) (f : FT) : TT := rdR (gx X cl) β W relB f
abbrev SE (X : Cx) (cl : Nat → Addr) (β : List (Option V)) (W : WX) (e : Expr) (f : FE) : Prop := PE X e (rdE X cl β W f)
abbrev ST (X : Cx) (cl : Nat → Addr) (β : List (Option V)) (W : WX) (e : Expr) (f : FT) : Prop := PT X e (rdT X cl β W f)
section
variable {X : Cx} {cl : Nat → Addr} {β : List (Option V)} {W : WX} {pos : Pos}
theorem rd_var {i : Nat} {σ : L2.St} {H : Hp} {Q : VK} (h : rdE X cl β W (fVar i) σ H Q) : tVar i σ H Q := by
  obtain ⟨F, ε, P, en, st, po⟩ := h
  unfold fVar at po
  split at po
  · rename_i d hd
    obtain ⟨x, b, A, P1, B, h1, h2, h3, h4, h5⟩ := en.at _ _ _ _ _ _ hd
    obtain ⟨v, hv, hr⟩ := h4
    subst hv
    refine ⟨v, h1, ?_⟩
    rw [h3] at st
    have off : ∀ p ∈ P1, F p = none := fun p hp => st.off p (List.mem_append_left _ (List.mem_append_right _ hp))
    have rp := Rep.freeze (fzH_ext off) d v P1 (fun p hp => fzH_in hp) hr
    have en' := h5 (fzH F H P1) H (.val d.frz) (some v) [] (fzH_ext off) (fun _ _ => rfl) ⟨v, rfl, rp⟩
    rw [set_same h1] at en'
    have st' := st.fz
    rw [← h3] at st'
    refine po v H (fzH F H P1) [] (A ++ [] ++ B) rp en' ?_
    simpa using st'
  · rename_i d hd
    obtain ⟨x, b, A, P1, B, h1, h2, h3, h4, h5⟩ := en.at _ _ _ _ _ _ hd
    obtain ⟨v, hv, hb, hr⟩ := h4
    subst hv
    split at po
    · rename_i hz
      have c := Rep.cold d v P1 hz hr
      subst c
      exact ⟨v, h1, po v H F [] P hr en st⟩
    · exact po.elim
  · exact po.elim
theorem rd_mov {i : Nat} {σ : L2.St} {H : Hp} {Q : VK} (h : rdE X cl β W (fMov i) σ H Q) : tVar i σ H Q := by
  obtain ⟨F, ε, P, en, st, po⟩ := h
  unfold fMov at po
  split at po
  · rename_i d hd
    obtain ⟨x, b, A, P1, B, h1, h2, h3, h4, h5⟩ := en.at _ _ _ _ _ _ hd
    obtain ⟨v, hv, hr⟩ := h4
    subst hv
    refine ⟨v, h1, ?_⟩
    have en' := h5 F H .no (some v) [] (fun _ _ z => z) (fun _ _ => rfl) rfl
    rw [set_same h1] at en'
    refine po v H F P1 (A ++ [] ++ B) hr en' ?_
    refine st.perm ?_
    rw [h3, List.append_nil, List.append_assoc, ← List.append_assoc P1]
    rw [← List.append_assoc A]
    exact List.Perm.append_right B List.perm_append_comm
  · exact po.elim
theorem rd_c {v : V} {d : D} {σ : L2.St} {H : Hp} {Q : VK} (hd : ∀ F H, Rep (gx X cl) F H d v []) (h : rdE X cl β W (fC d) σ H Q) : tC v σ H Q := by
  obtain ⟨F, ε, P, en, st, po⟩ := h
  exact po v H F [] P (hd F H) en st
theorem se_var (i : Nat) {x : Str} (hN : X.N[i]? = some x := by rfl) (hv : Vis X.env.scope x := by first | exact Or.inl rfl | exact Or.inr (Or.inl rfl) | exact Or.inr (Or.inr rfl)) (hd : (x == ("__debug__" : Str)) = false := by decide)
    (hcd : (x == ("__classdict__" : Str)) = false := by decide) : SE X cl β W (.Name x pos) (fVar i) := (pv i hN hv hd hcd).mono fun _ _ _ h => rd_var h
theorem se_mov (i : Nat) {x : Str} (hN : X.N[i]? = some x := by rfl) (hv : Vis X.env.scope x := by first | exact Or.inl rfl | exact Or.inr (Or.inl rfl) | exact Or.inr (Or.inr rfl)) (hd : (x == ("__debug__" : Str)) = false := by decide)
    (hcd : (x == ("__classdict__" : Str)) = false := by decide) : SE X cl β W (.Name x pos) (fMov i) := (pv i hN hv hd hcd).mono fun _ _ _ h => rd_mov h
theorem se_int {i : Int} {j : Nat} : SE X cl β W (.Constant (.int i) j pos) (fC (.int i)) := pe_int.mono fun _ _ _ h => rd_c (d := .int i) (fun _ _ => ⟨rfl, rfl⟩) h
theorem se_bl {b : Bool} {j : Nat} : SE X cl β W (.Constant (.bool b) j pos) (fC (.bl b)) := pe_bl.mono fun _ _ _ h => rd_c (d := .bl b) (fun _ _ => ⟨rfl, rfl⟩) h
theorem se_non {j : Nat} : SE X cl β W (.Constant .none j pos) (fC .non) := pe_non.mono fun _ _ _ h => rd_c (d := .non) (fun _ _ => ⟨rfl, rfl⟩) h
theorem se_str {x : Str} {j : Nat} : SE X cl β W (.Constant (.str x) j pos) (fC (.str x)) := pe_str.mono fun _ _ _ h => rd_c (d := .str x) (fun _ _ => ⟨rfl, rfl⟩) h
theorem se_gcls {x : Str} {c : Nat} (hg : Gl X x) (hm : X.mg x = some (.ref (cl c))) (hd : (x == ("__debug__" : Str)) = false := by decide) : SE X cl β W (.Name x pos) (fC (.cls c)) :=
  (pe_glob (v := .ref (cl c)) hg hm rfl hd).mono fun _ _ _ h => rd_c (d := .cls c) (fun _ _ => ⟨rfl, rfl⟩) h
def Op2 (g : Gh) (r : R2) (k : D → D → Option D) : Prop := ∀ (F H : Hp) (d1 d2 d : D) (x y : V) (R1 R2 : List Addr) (Q : VK), Rep g F H d1 x R1 → Rep g F H d2 y R2 → k d1 d2 = some d → Exh F H →
  (∀ w H' F' R, Rep g F' H' d w R → Stp F H [] F' H' R → Q w H') → r x y H Q
theorem rd_bin {r : R2} {k : D → D → Option D} {fa fb : FE} (ho : Op2 (gx X cl) r k) {σ : L2.St} {H : Hp} {Q : VK} (h : rdE X cl β W (fBin k fa fb) σ H Q) : tOp r (rdE X cl β W fa) (rdE X cl β W fb) σ H Q := by
  refine rdR.bind (rel := Rep (gx X cl)) h fun F P d1 ε1 x H1 F1 R1 P1 r1 en1 st1 po1 => ?_
  have al1 := Rep.alive _ _ _ r1
  refine ⟨F1, ε1, P1, en1, (st1.drop (List.sublist_append_right R1 P1)).base, PostR.next (A := R1) po1 st1 al1 fun d2 ε2 _ y H2 F2 R2 P2 r2 en2 st2 same ex po2 => ?_⟩
  have r1' := Rep.move ex _ _ _ same r1
  cases hd : k d1 d2 with
  | none =>
    rw [hd] at po2
    exact po2.elim
  | some d =>
    rw [hd] at po2
    refine ho F2 H2 d1 d2 d x y R1 R2 Q r1' r2 hd st2.top fun w H' F' R rr s3 => ?_
    have s2 : Stp F H P F2 H2 ([] ++ [] ++ P2) := st2.drop (by
      show P2.Sublist (R1 ++ (R2 ++ P2))
      exact (List.sublist_append_right R2 P2).trans (List.sublist_append_right R1 _))
    obtain ⟨c, dd⟩ := s2.mid (A := []) (X := []) (B := P2) (fun p hp => EnvR.alive _ _ _ _ en2 p (by simpa using hp)) s3
    refine po2 w H' F' R P2 rr (EnvR.move s3.sub _ _ _ _ (fun p hp => dd p (by simpa using hp)) en2) (by simpa using c)
theorem se_bin {op : Operator} {r : R2} {k : D → D → Option D} {a b : Expr} {fa fb : FE} (hp : OpR X (binaryOp op) r) (ho : Op2 (gx X cl) r k) (ha : SE X cl β W a fa) (hb : SE X cl β W b fb) : SE X cl β W (.BinOp a op b pos) (fBin k fa fb) :=
  (pe_op hp ha hb).mono fun _ _ _ h => rd_bin ho h
theorem se_cmp {op : CmpOp} {r : R2} {k : D → D → Option D} {a b : Expr} {fa fb : FE} (hp : OpR X (compareOp op) r) (ho : Op2 (gx X cl) r k) (ha : SE X cl β W a fa) (hb : SE X cl β W b fb) (hm : behindInMarks op b = false) : SE X cl β W (.Compare a [op] [b] pos) (fBin k fa fb) :=
  (pe_cmpR hp ha hb hm).mono fun _ _ _ h => rd_bin ho h
end
end Nb
namespace Nb
open PySem PySem.Spec PyProof.Rows L2
theorem Stp.newF {F H : Hp} {p : Addr} {o : HO} (t : Exh F H) (h : H p = none) : Stp F H [] (upd F p o) (upd H p o) [] where
  sub := exh_upd (none_of_exh t h)
  top := fun a u e => by
    by_cases q : a = p
    · subst q
      rw [upd_same] at e ⊢
      exact e
    · rw [upd_ne q] at e ⊢
      exact t a u e
  keep := fun b u e _ => exh_upd h b u e
  own := fun b hb => nomatch hb
  fre := fun b u e => by
    by_cases q : b = p
    · exact .inr (.inr (by rw [q]; exact h))
    · rw [upd_ne q] at e
      exact .inl e
  nd := List.nodup_nil
  off := fun b hb => nomatch hb
section
variable {g : Gh} {F H : Hp}
theorem fzs_get {xs : List D} {i : Nat} {d : D} (h : fzs xs = true) (e : xs[i]? = some d) : d.fz = true := by
  induction xs generalizing i with
  | nil => simp at e
  | cons d0 xs ih =>
    have h' : d0.fz = true ∧ fzs xs = true := Bool.and_eq_true_iff.mp h
    cases i with
    | zero =>
      have e' : d0 = d := by simpa using e
      rw [← e']
      exact h'.1
    | succ i => exact ih h'.2 (by simpa using e)
end
theorem mx_line {n : Nat} (h : n ≤ mx) : n ≤ sizeLine := Nat.le_trans h (by rw [sizeLine_eq]; decide)
theorem mx_lt {n : Nat} (h : n < mx) : n < sizeLine := Nat.lt_of_lt_of_le h (mx_line (Nat.le_refl _))
section
variable {X : Cx} {cl : Nat → Addr}
theorem OpR.imp {f : Value → Value → Sem Value} {r r' : R2} (h : OpR X f r) (k : ∀ x y H Q, r' x y H Q → r x y H Q) : OpR X f r' := fun pins s σ H x y v u Q I rx ry q => h pins s σ H x y v u Q I rx ry (k x y H Q q)
def rAddX (K : PySem.W.Frag) : R2 := fun x y H Q => (rI0 (fun i j => .int (i + j)) x y H Q ∨ ∃ i j, x = V.str i ∧ y = V.str j ∧ i.length + j.length ≤ sizeLine ∧ Q (.str (i ++ j)) H) ∨ rCat x y H Q ∨ rCatA K x y H Q
theorem op_addX : OpR X (binaryOp .Add) (rAddX X.K) := (op_add.or op_add_str).or (op_cat.or op_catA)
theorem Rep.lstAt {g : Gh} {F H : Hp} {o : Bool} {ds : List D} {v : V} {P : List Addr} (t : Exh F H) (h : Rep g F H (.lst o ds) v P) : ∃ p vs P2, v = .ref p ∧ H p = some (.lst vs) ∧ Reps g F H ds vs P2 := by
  cases o with
  | true =>
    obtain ⟨p, vs, P2, h1, h2, h3, h4⟩ := h
    exact ⟨p, vs, P2, h1, h2, h4⟩
  | false =>
    obtain ⟨p, vs, h1, h2, h3, h4⟩ := h
    exact ⟨p, vs, [], h1, t _ _ h2, h4⟩
theorem o2_add : Op2 (gx X cl) (rAddX X.K) kAdd := by
  intro F H d1 d2 d x y R1 R2 Q h1 h2 hk t hQ
  unfold kAdd at hk
  split at hk
  · rename_i i j
    cases hk
    exact .inl (.inl ⟨i, j, h1.1, h2.1, hQ _ H F [] ⟨rfl, rfl⟩ (Stp.nil t)⟩)
  · rename_i a b
    split at hk
    · rename_i hz
      cases hk
      exact .inl (.inr ⟨a, b, h1.1, h2.1, mx_line hz, hQ _ H F [] ⟨rfl, rfl⟩ (Stp.nil t)⟩)
    · cases hk
  · rename_i o1 xs o2 ys
    split at hk
    · rename_i hz
      cases hk
      obtain ⟨p, vs, P2, rfl, hp, rp⟩ := Rep.lstAt t h1
      obtain ⟨q, ws, Q2, rfl, hq, rq⟩ := Rep.lstAt t h2
      have c1 := Reps.cold _ _ _ hz.1 rp
      have c2 := Reps.cold _ _ _ hz.2.1 rq
      subst c1 c2
      refine .inr (.inl ⟨p, q, vs, ws, rfl, rfl, hp, hq, ?_, fun a ha => ?_⟩)
      · rw [← Reps.length _ _ _ rp, ← Reps.length _ _ _ rq]
        exact mx_line hz.2.2
      · refine hQ _ _ F [a] ⟨a, vs ++ ws, [], rfl, upd_same, rfl, ?_⟩ (Stp.new t ha)
        exact Reps.move (fun _ _ e => e) _ _ _ (fun _ z => nomatch z) (Reps.append _ _ _ _ _ _ rp rq)
    · cases hk
  · rename_i xs ys
    split at hk
    · rename_i hz
      cases hk
      obtain ⟨p, vs, rfl, hp, rp⟩ := h1
      obtain ⟨q, ws, rfl, hq, rq⟩ := h2
      have c1 := Reps.cold _ _ _ hz.1 rp
      have c2 := Reps.cold _ _ _ hz.2.1 rq
      subst c1 c2
      have l1 := Reps.length _ _ _ rp
      have l2 := Reps.length _ _ _ rq
      refine .inr (.inr ⟨p, q, vs, ws, rfl, rfl, exh_t t hp, exh_t t hq, ?_, fun e => ?_, fun _ e => ?_, fun _ _ a ha => ?_⟩)
      · rw [← l1, ← l2]
        exact mx_line hz.2.2
      · subst e
        have e2 : xs = [] := List.length_eq_zero_iff.mp l1
        subst e2
        exact hQ _ H F [] ⟨q, ws, rfl, hq, rq⟩ (Stp.nil t)
      · subst e
        have e2 : ys = [] := List.length_eq_zero_iff.mp l2
        subst e2
        refine hQ _ H F [] ⟨p, vs, rfl, hp, ?_⟩ (Stp.nil t)
        rw [List.append_nil]
        exact rp
      · refine hQ _ _ (upd F a (.tup (vs ++ ws))) [] ⟨a, vs ++ ws, rfl, SqT.of upd_same, ?_⟩ (Stp.newF t ha)
        exact Reps.move (exh_upd (none_of_exh t ha)) _ _ _ (fun _ z => nomatch z) (Reps.append _ _ _ _ _ _ rp rq)
    · cases hk
  · cases hk
theorem o2_sub : Op2 (gx X cl) (rI0 fun i j => .int (i - j)) kSub := by
  intro F H d1 d2 d x y R1 R2 Q h1 h2 hk t hQ
  unfold kSub at hk
  split at hk
  · rename_i i j
    cases hk
    exact ⟨i, j, h1.1, h2.1, hQ _ H F [] ⟨rfl, rfl⟩ (Stp.nil t)⟩
  · cases hk
theorem o2_mod : Op2 (gx X cl) (rI (fun _ j => 0 < j) fun i j => .int (i % j)) kMod := by
  intro F H d1 d2 d x y R1 R2 Q h1 h2 hk t hQ
  unfold kMod at hk
  split at hk
  · rename_i i j
    split at hk
    · rename_i hz
      cases hk
      exact ⟨i, j, h1.1, h2.1, hz, hQ _ H F [] ⟨rfl, rfl⟩ (Stp.nil t)⟩
    · cases hk
  · cases hk
theorem o2_div : Op2 (gx X cl) (rI CDiv fun i j => .int (i / j)) kDiv := by
  intro F H d1 d2 d x y R1 R2 Q h1 h2 hk t hQ
  unfold kDiv at hk
  split at hk
  · rename_i i j
    split at hk
    · rename_i hz
      cases hk
      exact ⟨i, j, h1.1, h2.1, hz, hQ _ H F [] ⟨rfl, rfl⟩ (Stp.nil t)⟩
    · cases hk
  · cases hk
theorem o2_pow : Op2 (gx X cl) (rI CPow fun i j => .int (i ^ j.toNat)) kPow := by
  intro F H d1 d2 d x y R1 R2 Q h1 h2 hk t hQ
  unfold kPow at hk
  split at hk
  · rename_i i j
    split at hk
    · rename_i hz
      cases hk
      exact ⟨i, j, h1.1, h2.1, hz, hQ _ H F [] ⟨rfl, rfl⟩ (Stp.nil t)⟩
    · cases hk
  · cases hk
def rMulX (K : PySem.W.Frag) : R2 := fun x y H Q => (rI CMul fun i j => .int (i * j)) x y H Q ∨ rRep x y H Q ∨ rRepT K x y H Q
theorem op_mulX : OpR X (binaryOp .Mult) (rMulX X.K) := op_mul.or (op_rep.or op_repT)
theorem reps_rep {g : Gh} {F H : Hp} {ds : List D} {vs : List V} (h : Reps g F H ds vs []) : ∀ k : Nat, Reps g F H (List.replicate k ds).flatten (List.replicate k vs).flatten []
  | 0 => ⟨rfl, rfl⟩
  | k + 1 => by
    rw [List.replicate_succ, List.replicate_succ, List.flatten_cons, List.flatten_cons]
    exact Reps.append _ _ _ _ _ _ h (reps_rep h k)
theorem o2_mul : Op2 (gx X cl) (rMulX X.K) kMul := by
  intro F H d1 d2 d x y R1 R2 Q h1 h2 hk t hQ
  unfold kMul at hk
  split at hk
  · rename_i i j
    split at hk
    · rename_i hz
      cases hk
      exact .inl ⟨i, j, h1.1, h2.1, hz, hQ _ H F [] ⟨rfl, rfl⟩ (Stp.nil t)⟩
    · cases hk
  · rename_i o xs k
    split at hk
    · rename_i hz
      cases hk
      obtain ⟨p, vs, P2, rfl, hp, rp⟩ := Rep.lstAt t h1
      have c1 := Reps.cold _ _ _ hz.1 rp
      subst c1
      refine .inr (.inl ⟨p, k, vs, rfl, h2.1, hp, by omega, by omega, ?_, fun a ha => ?_⟩)
      · rw [← Reps.length _ _ _ rp]
        refine mx_line (Nat.le_trans (Nat.mul_le_mul hz.2.2.2 (show k.toNat ≤ 1000 by omega)) (by decide))
      · refine hQ _ _ F [a] ⟨a, _, [], rfl, upd_same, rfl, ?_⟩ (Stp.new t ha)
        exact Reps.move (fun _ _ e => e) _ _ _ (fun _ z => nomatch z) (reps_rep rp _)
    · cases hk
  · rename_i xs k
    split at hk
    · rename_i hz
      cases hk
      obtain ⟨p, vs, rfl, hp, rp⟩ := h1
      have c1 := Reps.cold _ _ _ hz.1 rp
      subst c1
      have l1 := Reps.length _ _ _ rp
      refine .inr (.inr ⟨p, k, vs, rfl, h2.1, exh_t t hp, fun e => hz.2.2.2.2 ?_, hz.2.1, hz.2.2.1, by omega, fun a ha => ?_⟩)
      · rw [e] at l1
        exact List.length_eq_zero_iff.mp l1
      · refine hQ _ _ (upd F a _) [] ⟨a, _, rfl, SqT.of upd_same, ?_⟩ (Stp.newF t ha)
        exact Reps.move (exh_upd (none_of_exh t ha)) _ _ _ (fun _ z => nomatch z) (reps_rep rp _)
    · cases hk
  · cases hk
mutual
theorem Rep.dp {g : Gh} {F H : Hp} (t : Exh F H) : ∀ (d : D) (v : V) (P : List Addr) (p : PyData), Rep g F H d v P → d.data = some p → Dp g.K H v p
  | .non, _, _, _, h, e => by
    simp only [D.data, Option.some.injEq] at e
    rw [h.1, ← e]; exact .non
  | .bl b, _, _, _, h, e => by
    simp only [D.data, Option.some.injEq] at e
    rw [h.1, ← e]; exact .bl b
  | .int i, _, _, _, h, e => by
    simp only [D.data, Option.some.injEq] at e
    rw [h.1, ← e]; exact .int i
  | .str s, _, _, _, h, e => by
    simp only [D.data, Option.some.injEq] at e
    rw [h.1, ← e]; exact .str s
  | .ty n, _, _, _, _, e => by simp [D.data] at e
  | .cls c, _, _, _, _, e => by simp [D.data] at e
  | .dic o ks ds, _, _, _, _, e => by simp [D.data] at e
  | .dcn o ks ds, _, _, _, _, e => by simp [D.data] at e
  | .dcb o ks ds, _, _, _, _, e => by simp [D.data] at e
  | .err o ks ds, _, _, _, _, e => by simp [D.data] at e
  | .dil ks ds, _, _, _, _, e => by simp [D.data] at e
  | .ins o c fs ds, _, _, _, _, e => by simp [D.data] at e
  | .tuk ds, _, P, _, ⟨p, vs, h1, h2, h3⟩, e => by
    simp only [D.data, Option.map_eq_some_iff] at e
    obtain ⟨xs, e1, e2⟩ := e
    rw [h1, ← e2]
    exact .tup (exh_t t (knt_sq h2)) (Reps.dp t ds vs P xs h3 e1)
  | .tup ds, _, P, _, ⟨p, vs, h1, h2, h3⟩, e => by
    simp only [D.data, Option.map_eq_some_iff] at e
    obtain ⟨xs, e1, e2⟩ := e
    rw [h1, ← e2]
    exact .tup (exh_t t h2) (Reps.dp t ds vs P xs h3 e1)
  | .lst true ds, _, P, _, ⟨p, vs, P2, h1, h2, h3, h4⟩, e => by
    simp only [D.data, Option.map_eq_some_iff] at e
    obtain ⟨xs, e1, e2⟩ := e
    rw [h1, ← e2]
    exact .lst (SqL.of h2) (Reps.dp t ds vs P2 xs h4 e1)
  | .lst false ds, _, P, _, ⟨p, vs, h1, h2, h3, h4⟩, e => by
    simp only [D.data, Option.map_eq_some_iff] at e
    obtain ⟨xs, e1, e2⟩ := e
    rw [h1, ← e2]
    exact .lst (SqL.of (t _ _ h2)) (Reps.dp t ds vs [] xs h4 e1)
  | .scr ds, _, P, _, ⟨p, vs, h1, h2, h3, h4⟩, e => by
    simp only [D.data, Option.map_eq_some_iff] at e
    obtain ⟨xs, e1, e2⟩ := e
    rw [h1, ← e2]
    exact .lst (exh_l t h2) (Reps.dp t ds vs [] xs h4 e1)
theorem Reps.dp {g : Gh} {F H : Hp} (t : Exh F H) : ∀ (ds : List D) (vs : List V) (P : List Addr) (ps : List PyData), Reps g F H ds vs P → datas ds = some ps → DpAll g.K H vs ps
  | [], _, _, _, h, e => by
    simp only [datas, Option.some.injEq] at e
    rw [h.1, ← e]; exact .nil
  | d :: ds, _, _, _, ⟨v, vr, P1, P2, h1, h2, h3, h4⟩, e => by
    unfold datas at e
    split at e
    · rename_i x xs e1 e2
      have e3 := (Option.some.inj e).symm
      rw [h1, e3]
      exact .cons (Rep.dp t d v P1 x h3 e1) (Reps.dp t ds vr P2 xs h4 e2)
    · cases e
end
def rEqP (K : PySem.W.Frag) : R2 := fun x y H Q => ∃ d e, Dp K H x d ∧ Dp K H y e ∧ d.plain = true ∧ e.plain = true ∧ min d.depth e.depth ≤ 64 ∧ Q (.bl (PyData.eqv d e)) H
def rNeP (K : PySem.W.Frag) : R2 := fun x y H Q => ∃ d e, Dp K H x d ∧ Dp K H y e ∧ d.plain = true ∧ e.plain = true ∧ min d.depth e.depth ≤ 64 ∧ Q (.bl (!PyData.eqv d e)) H
theorem op_eqP {X : Cx} (hu : X.A.units + 64 < cLine) : OpR X (compareOp .Eq) (rEqP X.K) := by
  intro pins s σ H x y v u Q I rx ry h
  obtain ⟨d, e, hd, he, sd, se, hm, q⟩ := h
  obtain ⟨as, r1⟩ := Dp.reads I d x v hd rx
  obtain ⟨bs, r2⟩ := Dp.reads I e y u he ry
  exact SeqAt.eq_plain r1 r2 sd se (by omega) ⟨.bl _, H, I, rfl, q⟩
theorem op_neP {X : Cx} (hu : X.A.units + 64 < cLine) : OpR X (compareOp .NotEq) (rNeP X.K) := by
  intro pins s σ H x y v u Q I rx ry h
  obtain ⟨d, e, hd, he, sd, se, hm, q⟩ := h
  obtain ⟨as, r1⟩ := Dp.reads I d x v hd rx
  obtain ⟨bs, r2⟩ := Dp.reads I e y u he ry
  exact SeqAt.ne_plain r1 r2 sd se (by omega) ⟨.bl _, H, I, rfl, q⟩
mutual
theorem D.data_plain : ∀ (d : D) (x : PyData), d.data = some x → x.plain = true
  | .non, x, h => by simp only [D.data, Option.some.injEq] at h; subst h; simp [PyData.plain]
  | .bl _, x, h => by simp only [D.data, Option.some.injEq] at h; subst h; simp [PyData.plain]
  | .int _, x, h => by simp only [D.data, Option.some.injEq] at h; subst h; simp [PyData.plain]
  | .str _, x, h => by simp only [D.data, Option.some.injEq] at h; subst h; simp [PyData.plain]
  | .tuk ds, x, h => by
    simp only [D.data] at h
    obtain ⟨xs, h1, rfl⟩ := Option.map_eq_some_iff.mp h
    simp only [PyData.plain]
    exact datas_plain ds xs h1
  | .tup ds, x, h => by
    simp only [D.data] at h
    obtain ⟨xs, h1, rfl⟩ := Option.map_eq_some_iff.mp h
    simp only [PyData.plain]
    exact datas_plain ds xs h1
  | .lst _ ds, x, h => by
    simp only [D.data] at h
    obtain ⟨xs, h1, rfl⟩ := Option.map_eq_some_iff.mp h
    simp only [PyData.plain]
    exact datas_plain ds xs h1
  | .scr ds, x, h => by
    simp only [D.data] at h
    obtain ⟨xs, h1, rfl⟩ := Option.map_eq_some_iff.mp h
    simp only [PyData.plain]
    exact datas_plain ds xs h1
  | .ty _, x, h => by simp [D.data] at h
  | .cls _, x, h => by simp [D.data] at h
  | .dic _ _ _, x, h => by simp [D.data] at h
  | .dcn _ _ _, x, h => by simp [D.data] at h
  | .dcb _ _ _, x, h => by simp [D.data] at h
  | .err _ _ _, x, h => by simp [D.data] at h
  | .dil _ _, x, h => by simp [D.data] at h
  | .ins _ _ _ _, x, h => by simp [D.data] at h
theorem datas_plain : ∀ (ds : List D) (xs : List PyData), datas ds = some xs → PyData.plainAll xs = true
  | [], xs, h => by simp only [datas, Option.some.injEq] at h; subst h; simp [PyData.plainAll]
  | d :: ds, xs, h => by
    unfold datas at h
    split at h
    · rename_i y ys h1 h2
      cases h
      simp [PyData.plainAll, D.data_plain d y h1, datas_plain ds ys h2]
    · cases h
end
theorem o2_eq : Op2 (gx X cl) (rEqP X.K) (kEq false) := by
  intro F H d1 d2 d x y R1 R2 Q h1 h2 hk t hQ
  unfold kEq at hk
  split at hk
  · rename_i a b e1 e2
    split at hk
    · rename_i hz
      cases hk
      refine ⟨a, b, Rep.dp t _ _ _ _ h1 e1, Rep.dp t _ _ _ _ h2 e2, D.data_plain _ _ e1, D.data_plain _ _ e2, hz, hQ _ H F [] ⟨?_, rfl⟩ (Stp.nil t)⟩
      simp
    · cases hk
  · cases hk
theorem o2_ne : Op2 (gx X cl) (rNeP X.K) (kEq true) := by
  intro F H d1 d2 d x y R1 R2 Q h1 h2 hk t hQ
  unfold kEq at hk
  split at hk
  · rename_i a b e1 e2
    split at hk
    · rename_i hz
      cases hk
      refine ⟨a, b, Rep.dp t _ _ _ _ h1 e1, Rep.dp t _ _ _ _ h2 e2, D.data_plain _ _ e1, D.data_plain _ _ e2, hz, hQ _ H F [] ⟨?_, rfl⟩ (Stp.nil t)⟩
      simp
    · cases hk
  · cases hk
def rOrd (f : Int → Int → Bool) (h : List Nat → List Nat → Bool) : R2 := fun x y H Q => rI0 (fun i j => .bl (f i j)) x y H Q ∨ ∃ i j, x = V.str i ∧ y = V.str j ∧ Q (.bl (h i.cps.toList j.cps.toList)) H
theorem o2_ord {f : Int → Int → Bool} {h : List Nat → List Nat → Bool} : Op2 (gx X cl) (rOrd f h) (kOrd f h) := by
  intro F H d1 d2 d x y R1 R2 Q h1 h2 hk t hQ
  unfold kOrd at hk
  split at hk
  · rename_i i j
    cases hk
    exact .inl ⟨i, j, h1.1, h2.1, hQ _ H F [] ⟨rfl, rfl⟩ (Stp.nil t)⟩
  · rename_i a b
    cases hk
    exact .inr ⟨a, b, h1.1, h2.1, hQ _ H F [] ⟨rfl, rfl⟩ (Stp.nil t)⟩
  · cases hk
abbrev kLe : D → D → Option D := kOrd (fun i j => decide (i ≤ j)) fun a b => !decide (b < a)
theorem op_ltX : OpR X (compareOp .Lt) (rOrd (fun i j => decide (i < j)) fun a b => decide (a < b)) := op_lt.or op_lt_str
theorem op_gtX : OpR X (compareOp .Gt) (rOrd (fun i j => decide (j < i)) fun a b => decide (b < a)) := op_gt.or op_gt_str
theorem op_geX : OpR X (compareOp .GtE) (rOrd (fun i j => decide (j ≤ i)) fun a b => !decide (a < b)) := op_ge.or op_ge_str
def kIs (n : Bool) : D → D → Option D
  | .non, .non => some (.bl (!n))
  | _, .non => some (.bl n)
  | _, _ => none
end
end Nb
namespace Nb
open PySem PySem.Spec PyProof.Rows L2
section
variable {X : Cx} {cl : Nat → Addr} {β : List (Option V)} {W : WX} {pos : Pos} {a b c : Expr} {fa fb fc : FE}
theorem rd_asB {f : FE} {σ : L2.St} {H : Hp} {Q : Bool → Hp → Prop} (h : rdT X cl β W (asB f) σ H Q) : rdE X cl β W f σ H fun x H' => ∃ k, x = .bl k ∧ Q k H' := by
  refine rdR.bind (rel := Rep (gx X cl)) h fun F P d ε2 v H2 F2 R2 P2 rl en st po => ?_
  cases d with
  | bl k =>
    refine ⟨k, rl.1, po k H2 F2 R2 P2 ⟨rfl, rl.2⟩ en st⟩
  | _ => exact po.elim
theorem st_cmp {op : CmpOp} {r : R2} {k : D → D → Option D} (hp : OpR X (compareOp op) r) (ho : Op2 (gx X cl) r k) (ha : SE X cl β W a fa) (hb : SE X cl β W b fb) (hm : behindInMarks op b = false) : ST X cl β W (.Compare a [op] [b] pos) (asB (fBin k fa fb)) :=
  (pt_cmpR hp ha hb hm).mono fun _ _ _ h => rd_bin ho (rd_asB h)
theorem isEmpty_len {α β' : Type} {xs : List α} {ys : List β'} (h : xs.length = ys.length) : xs.isEmpty = ys.isEmpty := by
  cases xs <;> cases ys <;> first | rfl | (simp at h)
theorem rep_tru {g : Gh} {F H : Hp} (t : Exh F H) : ∀ {d : D} {v : V} {P : List Addr} {k : Bool}, Rep g F H d v P → d.tru = some k → TruV g.K v H k
  | .non, _, _, _, h, e => by rw [h.1]; cases e; rfl
  | .bl b, _, _, _, h, e => by rw [h.1]; cases e; rfl
  | .int i, _, _, _, h, e => by rw [h.1]; cases e; rfl
  | .str s, _, _, _, h, e => by
    rw [h.1]
    simp only [D.tru] at e
    split at e
    · rename_i hz
      cases e
      exact ⟨mx_line hz, rfl⟩
    · cases e
  | .tuk ds, _, _, _, ⟨p, vs, h1, h2, h3⟩, e => by
    rw [h1]; cases e
    exact .inr (.inl ⟨vs, exh_t t (knt_sq h2), by rw [isEmpty_len (Reps.length _ _ _ h3)]⟩)
  | .tup ds, _, _, _, ⟨p, vs, h1, h2, h3⟩, e => by
    rw [h1]; cases e
    exact .inr (.inl ⟨vs, exh_t t h2, by rw [isEmpty_len (Reps.length _ _ _ h3)]⟩)
  | .scr ds, _, _, _, ⟨p, vs, h1, h2, h3, h4⟩, e => by
    rw [h1]; cases e
    exact .inl ⟨vs, exh_l t h2, by rw [isEmpty_len (Reps.length _ _ _ h4)]⟩
  | .lst o ds, _, _, _, h, e => by
    obtain ⟨p, vs, P2, h1, h2, h3⟩ := Rep.lstAt t h
    rw [h1]; cases e
    exact .inl ⟨vs, SqL.of h2, by rw [isEmpty_len (Reps.length _ _ _ h3)]⟩
  | .dic true ks ds, _, _, _, ⟨p, vs, P2, h1, h2, hl, h3, h4⟩, e => by
    rw [h1]; cases e
    refine .inr (.inr ⟨_, h2, ?_⟩)
    rw [isEmpty_len (xs := ks) (ys := ks.zip vs) (by rw [List.length_zip]; omega)]
  | .dic false ks ds, _, _, _, ⟨p, vs, h1, h2, hl, h3, h4⟩, e => by
    rw [h1]; cases e
    refine .inr (.inr ⟨_, t _ _ h2, ?_⟩)
    rw [isEmpty_len (xs := ks) (ys := ks.zip vs) (by rw [List.length_zip]; omega)]
  | .ty _, _, _, _, _, e => by cases e
  | .cls _, _, _, _, _, e => by cases e
  | .ins _ _ _ _, _, _, _, _, e => by cases e
  | .dcn _ _ _, _, _, _, _, e => by cases e
  | .dcb _ _ _, _, _, _, _, e => by cases e
  | .err _ _ _, _, _, _, _, e => by cases e
  | .dil _ _, _, _, _, _, e => by cases e
theorem rd_tru {f : FE} {σ : L2.St} {H : Hp} {Q : Bool → Hp → Prop} (h : rdT X cl β W (fTru f) σ H Q) : rdE X cl β W f σ H fun x H' => ∃ k, TruV X.K x H' k ∧ Q k H' := by
  refine rdR.bind (rel := Rep (gx X cl)) h fun F P d ε2 v H2 F2 R2 P2 rl en st po => ?_
  cases e : d.tru with
  | none =>
    rw [e] at po
    exact po.elim
  | some k =>
    rw [e] at po
    exact ⟨k, rep_tru st.top rl e, po k H2 F2 [] P2 ⟨rfl, rfl⟩ en (st.drop (List.sublist_append_right R2 P2))⟩
theorem st_tru (ha : SE X cl β W a fa) (he : ∀ whole, isTrue a X.env whole = (do let v ← whole; standAt a.pos; holding [v] (truthy v)) := by intro _; rfl) : ST X cl β W a (fTru fa) :=
  (pt_truth ha he).mono fun _ _ _ h => rd_tru h
theorem st_not {f : FT} (ha : ST X cl β W a f) : ST X cl β W (.UnaryOp .Not a pos) (fNotT f) :=
  (pt_not ha).mono fun _ _ _ h => rdR.bind (rel := relB) h fun F P b ε2 v H2 F2 R2 P2 rl en st po => by
    obtain ⟨e1, e2⟩ := rl
    subst e1
    exact po _ H2 F2 R2 P2 ⟨rfl, e2⟩ en st
theorem rd_here {α ν : Type} {g : Gh} {rel : Hp → Hp → α → ν → List Addr → Prop} {σ : L2.St} {F H F1 H1 : Hp} {P P1 : List Addr} {ε1 : Ev} {f : Ev → Res α} {Q : ν → Hp → Prop} (en : EnvR g F1 H1 ε1 σ β P1) (st : Stp F H P F1 H1 P1) (po : PostR g β W σ rel F H P (f ε1) Q) : rdR g β W rel f σ H1 Q := by
  refine ⟨F1, ε1, P1, en, st.base, ?_⟩
  cases e : f ε1 with
  | ok a ε2 =>
    rw [e] at po
    exact fun v H2 F2 R2 P2 rl en2 st2 => po v H2 F2 R2 P2 rl en2 (st.tr st2)
  | exc c fs ds ε2 =>
    rw [e] at po
    exact fun dx vs H2 F2 P2 h1 h2 h3 en2 st2 => po dx vs H2 F2 P2 h1 h2 h3 en2 (st.tr st2)
  | bad =>
    rw [e] at po
    exact po.elim
abbrev SW (X : Cx) (cl : Nat → Addr) (β : List (Option V)) (W : WX) (e : Expr) (f : FT) : Prop := PW X e (rdT X cl β W f)
theorem PWm {e : Expr} {t t' : TT} (h : PW X e t) (m : ∀ σ H Q, t' σ H Q → t σ H Q) : PW X e t' := ⟨fun wh pins s σ H Q I q => h.run wh pins s σ H Q I (m σ H Q q)⟩
theorem sw_and1 {f : FT} (ha : ST X cl β W a f) : SW X cl β W (.BoolOp .And [a] pos) f := pw_and1 ha
theorem sw_or1 {f : FT} (ha : ST X cl β W a f) : SW X cl β W (.BoolOp .Or [a] pos) f := pw_or1 ha
theorem sw_and {f g : FT} {rest : List Expr} (ha : ST X cl β W a f) (hb : SW X cl β W (.BoolOp .And (b :: rest) pos) g) : SW X cl β W (.BoolOp .And (a :: b :: rest) pos) (fAndT f g) :=
  PWm (pw_and ha hb) fun _ _ _ h => rdR.bind (rel := relB) h fun F P k ε2 v H2 F2 R2 P2 rl en st po => by
    obtain ⟨e1, e2⟩ := rl
    subst e1 e2
    cases k with
    | true => exact rd_here en st po
    | false => exact po _ H2 F2 [] P2 ⟨rfl, rfl⟩ en st
theorem sw_or {f g : FT} {rest : List Expr} (ha : ST X cl β W a f) (hb : SW X cl β W (.BoolOp .Or (b :: rest) pos) g) : SW X cl β W (.BoolOp .Or (a :: b :: rest) pos) (fOrT f g) :=
  PWm (pw_or ha hb) fun _ _ _ h => rdR.bind (rel := relB) h fun F P k ε2 v H2 F2 R2 P2 rl en st po => by
    obtain ⟨e1, e2⟩ := rl
    subst e1 e2
    cases k with
    | false => exact rd_here en st po
    | true => exact po _ H2 F2 [] P2 ⟨rfl, rfl⟩ en st
theorem st_bool {f : FT} {e : Expr} (h : SW X cl β W e f) : ST X cl β W e f := h.pt
theorem se_if {t : FT} (hc : ST X cl β W c t) (ha : SE X cl β W a fa) (hb : SE X cl β W b fb) : SE X cl β W (.IfExp c a b pos) (fIf t fa fb) :=
  (pe_ifExp hc ha hb).mono fun _ _ _ h => rdR.bind (rel := relB) h fun F P k ε2 v H2 F2 R2 P2 rl en st po => by
    obtain ⟨e1, e2⟩ := rl
    subst e1 e2
    cases k with
    | true => exact rd_here en st po
    | false => exact rd_here en st po
def fAndV (f g : FE) : FE := fun ε => (f ε).bind fun d ε1 => match d.tru with
  | some true => g ε1
  | some false => .ok d ε1
  | none => .bad
def fOrV (f g : FE) : FE := fun ε => (f ε).bind fun d ε1 => match d.tru with
  | some true => .ok d ε1
  | some false => g ε1
  | none => .bad
def fNotV (f : FE) : FE := fun ε => (f ε).bind fun d ε1 => match d.tru with
  | some b => .ok (.bl (!b)) ε1
  | none => .bad
theorem se_neg (ha : SE X cl β W a fa) : SE X cl β W (.UnaryOp .USub a pos) (fNeg fa) :=
  (pe_un un_neg ha).mono fun _ _ _ h => rdR.bind (rel := Rep (gx X cl)) h fun F P d ε2 v H2 F2 R2 P2 rl en st po => by
    cases d with
    | int i => exact ⟨i, rl.1, po _ H2 F2 [] P2 ⟨rfl, rfl⟩ en (st.drop (List.sublist_append_right R2 P2))⟩
    | _ => exact po.elim
def fChain (k k' : D → D → Option D) (fa fb fc : FE) : FE := fun ε => (fa ε).bind fun d1 ε1 => (fb ε1).bind fun d2 ε2 =>
  if d1.fz = true ∧ d2.fz = true then (match k d1 d2 with
  | some (.bl true) => (fc ε2).bind fun d3 ε3 => .of (k' d2 d3) ε3
  | some (.bl false) => .ok (.bl false) ε2
  | _ => .bad) else .bad
abbrev rdA (X : Cx) (cl : Nat → Addr) (β : List (Option V)) (W : WX) (f : FA) : TA := fun σ H Q => rdR (gx X cl) β W (relA (gx X cl) σ) f σ H Q
abbrev SA (X : Cx) (cl : Nat → Addr) (β : List (Option V)) (W : WX) (es : List Expr) (f : FA) : Prop := PA X es (rdA X cl β W f)
theorem PAm {es : List Expr} {t t' : TA} (h : PA X es t) (m : ∀ σ H Q, t' σ H Q → t σ H Q) : PA X es t' := ⟨fun pos pins s σ H Q I q => h.run pos pins s σ H Q I (m σ H Q q)⟩
def aStar (f : FE) (fs : FA) : FA := fun ε => (f ε).bind fun d ε1 => match d.items with
  | some ds => if fzs ds = true then (fs ε1).bind fun as ε2 => .ok (ds.map .v ++ as) ε2 else .bad
  | none => .bad
theorem sa_nil : SA X cl β W [] aNil := PAm pa_nil fun σ H Q h => by
  obtain ⟨F, ε, P, en, st, po⟩ := h
  exact po [] H F [] P ⟨rfl, rfl⟩ en st
theorem sa_cons {e : Expr} {es : List Expr} {f : FE} {fs : FA} (ha : SE X cl β W e f) (hr : SA X cl β W es fs) (hs : starEach (e :: es) X.env = (false, eval e X.env) :: starEach es X.env := by rfl) : SA X cl β W (e :: es) (aCons f fs) :=
  PAm (pa_cons ha hr hs) fun σ H Q h => rdR.bind (rel := Rep (gx X cl)) h fun F P d ε1 v H1 F1 R1 P1 r1 en1 st1 po1 =>
    ⟨F1, ε1, P1, en1, (st1.drop (List.sublist_append_right R1 P1)).base, PostR.next (A := R1) po1 st1 (Rep.alive _ _ _ r1) fun as ε2 _ vs H2 F2 R2 P2 r2 en2 st2 same ex po2 =>
      po2 (v :: vs) H2 F2 (R1 ++ R2) P2 ⟨v, vs, R1, R2, rfl, rfl, Rep.move ex _ _ _ same r1, r2⟩ en2 (by rw [List.append_assoc]; exact st2)⟩
theorem sa_bor (i : Nat) {x : Str} {p : Pos} {es : List Expr} {fs : FA} (hr : SA X cl β W es fs) (hN : X.N[i]? = some x := by rfl) (hv : Vis X.env.scope x := by first | exact Or.inl rfl | exact Or.inr (Or.inl rfl) | exact Or.inr (Or.inr rfl)) (hd : (x == ("__debug__" : Str)) = false := by decide)
    (hcd : (x == ("__classdict__" : Str)) = false := by decide) : SA X cl β W (.Name x p :: es) (aBor i fs) :=
  PAm (pa_cons (pv i hN hv hd hcd) hr rfl) fun σ H Q h => by
    obtain ⟨F, ε, P, en, st, po⟩ := h
    have go : ∀ v, σ[i]? = some (some v) → PostR (gx X cl) β W σ (relA (gx X cl) σ) F H P ((fs ε).bind fun as ε2 => .ok (.b i :: as) ε2) Q → tCons (tVar i) (rdA X cl β W fs) σ H Q := fun v hv po => by
      refine ⟨v, hv, F, ε, P, en, st, PostR.next (A := []) po st (fun _ z => nomatch z) fun as ε2 _ vs H2 F2 R2 P2 r2 en2 st2 _ ex po2 => ?_⟩
      exact po2 (v :: vs) H2 F2 R2 P2 ⟨v, vs, rfl, hv, r2⟩ en2 st2
    unfold aBor at po
    split at po
    · rename_i d hd
      obtain ⟨x, b, A, P1, B, h1, h2, h3, ⟨v, hv, _⟩, h5⟩ := en.at _ _ _ _ _ _ hd
      subst hv
      exact go v h1 po
    · rename_i d hd
      obtain ⟨x, b, A, P1, B, h1, h2, h3, ⟨v, hv, _⟩, h5⟩ := en.at _ _ _ _ _ _ hd
      subst hv
      exact go v h1 po
    · exact po.elim
theorem rep_items {g : Gh} {F H : Hp} (t : Exh F H) : ∀ {d : D} {v : V} {P : List Addr} {ds : List D}, Rep g F H d v P → d.items = some ds → fzs ds = true → ∃ p vs, v = .ref p ∧ (SqT g.K H p vs ∨ SqL g.K H p vs) ∧ Reps g F H ds vs []
  | .tuk ds, _, P, _, ⟨p, vs, h1, h2, h3⟩, e, z => by
    cases e
    rw [Reps.cold _ _ _ z h3] at h3
    exact ⟨p, vs, h1, .inl (exh_t t (knt_sq h2)), h3⟩
  | .tup ds, _, P, _, ⟨p, vs, h1, h2, h3⟩, e, z => by
    cases e
    rw [Reps.cold _ _ _ z h3] at h3
    exact ⟨p, vs, h1, .inl (exh_t t h2), h3⟩
  | .scr ds, _, _, _, ⟨p, vs, h1, h2, h3, h4⟩, e, z => by
    cases e
    exact ⟨p, vs, h1, .inr (exh_l t h2), h4⟩
  | .lst o ds, _, _, _, h, e, z => by
    cases e
    obtain ⟨p, vs, P2, h1, h2, h3⟩ := Rep.lstAt t h
    rw [Reps.cold _ _ _ z h3] at h3
    exact ⟨p, vs, h1, .inr (SqL.of h2), h3⟩
  | .non, _, _, _, _, e, _ => by cases e
  | .bl _, _, _, _, _, e, _ => by cases e
  | .int _, _, _, _, _, e, _ => by cases e
  | .str _, _, _, _, _, e, _ => by cases e
  | .ty _, _, _, _, _, e, _ => by cases e
  | .cls _, _, _, _, _, e, _ => by cases e
  | .dic _ _ _, _, _, _, _, e, _ => by cases e
  | .ins _ _ _ _, _, _, _, _, e, _ => by cases e
  | .dcn _ _ _, _, _, _, _, e, _ => by cases e
  | .dcb _ _ _, _, _, _, _, e, _ => by cases e
  | .err _ _ _, _, _, _, _, e, _ => by cases e
  | .dil _ _, _, _, _, _, e, _ => by cases e
theorem relA.reps {g : Gh} {σ : L2.St} {F H : Hp} : ∀ {as : List AD} {ds : List D} {vs : List V} {R : List Addr}, relA g σ F H as vs R → allV as = some ds → Reps g F H ds vs R
  | [], _, _, _, h, e => by cases e; exact h
  | .v d :: as, _, _, _, ⟨v, vr, R1, R2, h1, h2, h3, h4⟩, e => by
    unfold allV at e
    obtain ⟨ds, e1, e2⟩ := Option.map_eq_some_iff.mp e
    subst e2
    exact ⟨v, vr, R1, R2, h1, h2, h3, relA.reps h4 e1⟩
  | .b _ :: _, _, _, _, _, e => by cases e
theorem Stp.andNew {F H F1 H1 : Hp} {P R : List Addr} {p : Addr} {o : HO} (st : Stp F H P F1 H1 R) (al : ∀ q ∈ R, H1 q ≠ none) (hp : H1 p = none) : Stp F H P F1 (upd H1 p o) (p :: R) ∧ ∀ q ∈ R, upd H1 p o q = H1 q := by
  have c := st.mid (A := []) (X := []) (B := R) (by simpa using al) (Stp.new (o := o) st.top hp)
  exact ⟨by simpa using c.1, fun q hq => c.2 q (by simpa using hq)⟩
theorem Stp.andNewF {F H F1 H1 : Hp} {P R : List Addr} {p : Addr} {o : HO} (st : Stp F H P F1 H1 R) (al : ∀ q ∈ R, H1 q ≠ none) (hp : H1 p = none) : Stp F H P (upd F1 p o) (upd H1 p o) R ∧ ∀ q ∈ R, upd H1 p o q = H1 q := by
  have c := st.mid (A := []) (X := []) (B := R) (by simpa using al) (Stp.newF (o := o) st.top hp)
  exact ⟨by simpa using c.1, fun q hq => c.2 q (by simpa using hq)⟩
theorem se_tup {es : List Expr} {fs : FA} {k : Nat} (ha : SA X cl β W es fs) : SE X cl β W (.Tuple es k pos) (fTup fs) :=
  (pe_tup ha).mono fun σ H Q h => rdR.bind (rel := relA (gx X cl) σ) h fun F P as ε1 vs H1 F1 R1 P1 r1 en1 st1 po1 => by
    cases e1 : allV as with
    | none =>
      rw [e1] at po1
      exact po1.elim
    | some ds =>
      rw [e1] at po1
      by_cases hz : ds.length ≤ mx
      · simp only [hz, if_true] at po1
        have rp := relA.reps r1 e1
        have al : ∀ q ∈ R1 ++ P1, H1 q ≠ none := fun q hq => (List.mem_append.mp hq).elim (relA.alive _ _ _ r1 q) (EnvR.alive _ _ _ _ en1 q)
        refine ⟨by rw [← Reps.length _ _ _ rp]; exact mx_line hz, fun p hp => ?_⟩
        obtain ⟨s2, same⟩ := st1.andNewF (o := .tup vs) al hp
        refine po1 _ _ _ R1 P1 ⟨p, vs, rfl, SqT.of upd_same, ?_⟩ (EnvR.move (exh_upd (none_of_exh st1.top hp)) _ _ _ _ (fun q hq => same q (List.mem_append_right _ hq)) en1) s2
        exact Reps.move (exh_upd (none_of_exh st1.top hp)) _ _ _ (fun q hq => same q (List.mem_append_left _ hq)) rp
      · simp only [hz] at po1
        exact po1.elim
theorem se_lst {es : List Expr} {fs : FA} (ha : SA X cl β W es fs) : SE X cl β W (.List es pos) (fLst fs) :=
  (pe_lst ha).mono fun σ H Q h => rdR.bind (rel := relA (gx X cl) σ) h fun F P as ε1 vs H1 F1 R1 P1 r1 en1 st1 po1 => by
    cases e1 : allV as with
    | none =>
      rw [e1] at po1
      exact po1.elim
    | some ds =>
      rw [e1] at po1
      by_cases hz : ds.length ≤ mx
      · simp only [hz, if_true] at po1
        have rp := relA.reps r1 e1
        have al : ∀ q ∈ R1 ++ P1, H1 q ≠ none := fun q hq => (List.mem_append.mp hq).elim (relA.alive _ _ _ r1 q) (EnvR.alive _ _ _ _ en1 q)
        refine ⟨by rw [← Reps.length _ _ _ rp]; exact mx_line hz, fun p hp => ?_⟩
        obtain ⟨s2, same⟩ := st1.andNew (o := .lst vs) al hp
        refine po1 _ _ _ (p :: R1) P1 ⟨p, vs, R1, rfl, upd_same, rfl, ?_⟩ (EnvR.move (fun _ _ e => e) _ _ _ _ (fun q hq => same q (List.mem_append_right _ hq)) en1) s2
        exact Reps.move (fun _ _ e => e) _ _ _ (fun q hq => same q (List.mem_append_left _ hq)) rp
      · simp only [hz] at po1
        exact po1.elim
end
end Nb
namespace Nb
open PySem PySem.Spec PyProof.Rows L2
section
variable {X : Cx} {cl : Nat → Addr} {β : List (Option V)} {W : WX} {pos : Pos} {a b c : Expr} {fa fb fc : FE}
theorem atI_of {α β' : Type} {xs : List α} {ys : List β'} {i : Int} {e : α} (hl : xs.length = ys.length) (h : atI xs i = some e) : ∃ (j : Nat) (y : β'), xs[j]? = some e ∧ ys[j]? = some y ∧ atI ys i = some y := by
  unfold atI at h ⊢
  rw [hl] at h
  cases q : ixN ys.length i with
  | none => rw [q] at h; cases h
  | some j =>
    rw [q] at h
    have h' : xs[j]? = some e := h
    have hj := (List.getElem?_eq_some_iff.mp h').1
    exact ⟨j, ys[j]'(by omega), h', List.getElem?_eq_getElem (by omega), by show ys[j]? = _; exact List.getElem?_eq_getElem (by omega)⟩
theorem rep_itemsP {g : Gh} {F H : Hp} (t : Exh F H) : ∀ {d : D} {v : V} {P : List Addr} {ds : List D}, Rep g F H d v P → d.items = some ds → ∃ p vs P2, v = .ref p ∧ (SqT g.K H p vs ∨ SqL g.K H p vs) ∧ Reps g F H ds vs P2
  | .tuk ds, _, P, _, ⟨p, vs, h1, h2, h3⟩, e => by
    cases e
    exact ⟨p, vs, P, h1, .inl (exh_t t (knt_sq h2)), h3⟩
  | .tup ds, _, P, _, ⟨p, vs, h1, h2, h3⟩, e => by
    cases e
    exact ⟨p, vs, P, h1, .inl (exh_t t h2), h3⟩
  | .scr ds, _, _, _, ⟨p, vs, h1, h2, h3, h4⟩, e => by
    cases e
    exact ⟨p, vs, [], h1, .inr (exh_l t h2), h4⟩
  | .lst o ds, _, _, _, h, e => by
    cases e
    obtain ⟨p, vs, P2, h1, h2, h3⟩ := Rep.lstAt t h
    exact ⟨p, vs, P2, h1, .inr (SqL.of h2), h3⟩
  | .non, _, _, _, _, e => by cases e
  | .bl _, _, _, _, _, e => by cases e
  | .int _, _, _, _, _, e => by cases e
  | .str _, _, _, _, _, e => by cases e
  | .ty _, _, _, _, _, e => by cases e
  | .cls _, _, _, _, _, e => by cases e
  | .dic _ _ _, _, _, _, _, e => by cases e
  | .ins _ _ _ _, _, _, _, _, e => by cases e
  | .dcn _ _ _, _, _, _, _, e => by cases e
  | .dcb _ _ _, _, _, _, _, e => by cases e
  | .err _ _ _, _, _, _, _, e => by cases e
  | .dil _ _, _, _, _, _, e => by cases e
theorem o2_ix : Op2 (gx X cl) (rIx X.K) kIx := by
  intro F H d1 d2 d x y R1 R2 Q h1 h2 hk t hQ
  unfold kIx at hk
  split at hk
  · rename_i s i
    split at hk
    · rename_i hz
      obtain ⟨c, e1, e2⟩ := Option.map_eq_some_iff.mp hk
      subst e2
      exact .inr (.inr ⟨s, i, c, h1.1, h2.1, mx_line hz, e1, hQ _ H F [] ⟨rfl, rfl⟩ (Stp.nil t)⟩)
    · cases hk
  · rename_i i hno
    split at hk
    · rename_i ds e1
      split at hk
      · rename_i e e2
        split at hk
        · rename_i hz
          cases hk
          obtain ⟨p, vs, P2, hx, hs, rp⟩ := rep_itemsP t h1 e1
          obtain ⟨j, v, g1, g2, g3⟩ := atI_of (Reps.length _ _ _ rp) e2
          obtain ⟨v', A, R, B, k1, k2, k3⟩ := Reps.get _ _ _ j _ rp g1
          rw [g2] at k1
          cases k1
          have c := Rep.cold _ _ _ hz k3
          subst c
          have q := hQ v H F [] k3 (Stp.nil t)
          rcases hs with hs | hs
          · exact .inr (.inl ⟨p, vs, i, v, hx, h2.1, hs, g3, q⟩)
          · exact .inl ⟨p, vs, i, v, hx, h2.1, hs, g3, q⟩
        · cases hk
      · cases hk
    · cases hk
  · cases hk
theorem se_ix (ha : SE X cl β W a fa) (hb : SE X cl β W b fb) (hs : PlainIx b := by exact fun _ _ => rfl) : SE X cl β W (.Subscript a b pos) (fBin kIx fa fb) := (pe_ix ix_seq ha hb hs).mono fun _ _ _ h => rd_bin o2_ix h
def rSlX (K : PySem.W.Frag) : V → Option Int → Option Int → Hp → VK → Prop := fun x lo hi H Q => rSlS x lo hi H Q ∨ rSlL K x lo hi H Q ∨ rSlA K x lo hi H Q
theorem sl_X : SlR X (rSlX X.K) := SlR.or sl_str (SlR.or sl_list sl_tupA)
theorem reps_cut {g : Gh} {F H : Hp} {ds : List D} {vs : List V} (z : fzs ds = true) (h : Reps g F H ds vs []) (lo hi : Option Int) : Reps g F H (cutD ds lo hi) (cutV vs lo hi) [] := by
  unfold cutD cutV
  rw [Reps.length _ _ _ h]
  exact Reps.take (fzs_drop _ z) (Reps.drop z h _) _
theorem sl_ok {F H : Hp} {d d' : D} {x : V} {R : List Addr} {lo hi : Option Int} {Q : VK} (h1 : Rep (gx X cl) F H d x R) (hk : kSl lo hi d = some d') (t : Exh F H)
    (hQ : ∀ w H' F' R', Rep (gx X cl) F' H' d' w R' → Stp F H [] F' H' R' → Q w H') : rSlX X.K x lo hi H Q := by
  unfold kSl at hk
  split at hk
  · rename_i s
    split at hk
    · rename_i hz
      cases hk
      exact .inl ⟨s, h1.1, mx_line hz, hQ _ H F [] ⟨rfl, rfl⟩ (Stp.nil t)⟩
    · cases hk
  · rename_i ds
    split at hk
    · rename_i hz
      cases hk
      obtain ⟨p, vs, rfl, hp, rp⟩ := h1
      have c := Reps.cold _ _ _ hz rp
      subst c
      have rc := reps_cut hz rp lo hi
      have hl := Reps.length _ _ _ rp
      refine .inr (.inr ⟨p, vs, rfl, exh_t t hp, fun ⟨e1, e2⟩ => ?_, fun _ a ha => ?_⟩)
      · refine hQ _ H F [] ⟨p, vs, rfl, hp, ?_⟩ (Stp.nil t)
        have e : cutD ds lo hi = ds := by
          unfold cutD
          rw [hl, e1, e2, List.drop_zero, Nat.sub_zero]
          exact List.take_of_length_le (by omega)
        rw [e]
        exact rp
      · refine hQ _ _ (upd F a (.tup (cutV vs lo hi))) [] ⟨a, _, rfl, SqT.of upd_same, ?_⟩ (Stp.newF t ha)
        exact Reps.move (exh_upd (none_of_exh t ha)) _ _ _ (fun _ z => nomatch z) rc
    · cases hk
  · rename_i o ds
    split at hk
    · rename_i hz
      cases hk
      obtain ⟨p, vs, P2, rfl, hp, rp⟩ := Rep.lstAt t h1
      have c := Reps.cold _ _ _ hz rp
      subst c
      refine .inr (.inl ⟨p, vs, rfl, SqL.of hp, fun a ha => ?_⟩)
      refine hQ _ _ F [a] ⟨a, _, [], rfl, upd_same, rfl, ?_⟩ (Stp.new t ha)
      exact Reps.move (fun _ _ e => e) _ _ _ (fun _ z => nomatch z) (reps_cut hz rp lo hi)
    · cases hk
  · rename_i ds
    split at hk
    · rename_i hz
      cases hk
      obtain ⟨p, vs, rfl, hp, _, rp⟩ := h1
      refine .inr (.inl ⟨p, vs, rfl, exh_l t hp, fun a ha => ?_⟩)
      refine hQ _ _ F [a] ⟨a, _, [], rfl, upd_same, rfl, ?_⟩ (Stp.new t ha)
      exact Reps.move (fun _ _ e => e) _ _ _ (fun _ z => nomatch z) (reps_cut hz rp lo hi)
    · cases hk
  · cases hk
def relO : Hp → Hp → Option Int → Option Int → List Addr → Prop := fun _ _ a b R => a = b ∧ R = []
abbrev SO (X : Cx) (cl : Nat → Addr) (β : List (Option V)) (W : WX) (e : Option Expr) (f : FO) : Prop := PO X e (rdR (gx X cl) β W relO f)
theorem POm {e : Option Expr} {t t' : TO} (h : PO X e t) (m : ∀ σ H Q, t' σ H Q → t σ H Q) : PO X e t' := ⟨fun pins s σ H Q I q => h.run pins s σ H Q I (m σ H Q q)⟩
theorem so_none : SO X cl β W none oNone := POm po_none fun σ H Q h => by
  obtain ⟨F, ε, P, en, st, po⟩ := h
  exact po none H F [] P ⟨rfl, rfl⟩ en st
theorem so_some (ha : SE X cl β W a fa) : SO X cl β W (some a) (oSome fa) := POm (po_some ha) fun σ H Q h => rdR.bind (rel := Rep (gx X cl)) h fun F P d ε2 v H2 F2 R2 P2 rl en st po => by
  cases d with
  | int i => exact ⟨i, rl.1, po (some i) H2 F2 [] P2 ⟨rfl, rfl⟩ en (st.drop (List.sublist_append_right R2 P2))⟩
  | _ => exact po.elim
theorem se_sl {lo hi : Option Expr} {fl fh : FO} {p2 : Pos} (ha : SE X cl β W a fa) (hl : SO X cl β W lo fl) (hh : SO X cl β W hi fh) : SE X cl β W (.Subscript a (.Slice lo hi none p2) pos) (fSl fa fl fh) :=
  (pe_slice sl_X ha hl hh).mono fun σ H Q h => rdR.bind (rel := Rep (gx X cl)) h fun F P d ε1 x H1 F1 R1 P1 r1 en1 st1 po1 =>
    ⟨F1, ε1, P1, en1, (st1.drop (List.sublist_append_right R1 P1)).base, PostR.next (A := R1) po1 st1 (Rep.alive _ _ _ r1) fun l ε2 _ l' H2 F2 R2 P2 r2 en2 st2 same2 ex2 po2 => by
      obtain ⟨e1, e2⟩ := r2
      subst e1 e2
      have r1' := Rep.move ex2 _ _ _ same2 r1
      refine ⟨F2, ε2, P2, en2, (st2.drop (by simpa using List.sublist_append_right R1 P2)).base, PostR.next (A := R1) po2 (by simpa using st2) (Rep.alive _ _ _ r1') fun u ε3 _ u' H3 F3 R3 P3 r3 en3 st3 same3 ex3 po3 => ?_⟩
      obtain ⟨e1, e2⟩ := r3
      subst e1 e2
      have r1'' := Rep.move ex3 _ _ _ same3 r1'
      split at po3
      · rename_i hz
        have c := Rep.cold _ _ _ hz r1''
        subst c
        cases hk : kSl l u d with
        | none =>
          rw [hk] at po3
          exact po3.elim
        | some d' =>
          rw [hk] at po3
          refine sl_ok r1'' hk st3.top fun w H' F' R' rr s3 => ?_
          have s2 : Stp F H P F3 H3 ([] ++ [] ++ P3) := by simpa using st3
          obtain ⟨c, dd⟩ := s2.mid (A := []) (X := []) (B := P3) (fun p hp => EnvR.alive _ _ _ _ en3 p (by simpa using hp)) s3
          exact po3 w H' F' R' P3 rr (EnvR.move s3.sub _ _ _ _ (fun p hp => dd p (by simpa using hp)) en3) (by simpa using c)
      · exact po3.elim⟩
def FnK (g : Gh) (r : List V → Hp → VK → Prop) (k : List D → Option D) : Prop := ∀ (F H : Hp) (ds : List D) (d : D) (vs : List V) (R : List Addr) (Q : VK), Reps g F H ds vs R → k ds = some d → Exh F H →
  (∀ w H' F' R', Rep g F' H' d w R' → Stp F H [] F' H' R' → Q w H') → r vs H Q
theorem rd_fn {r : List V → Hp → VK → Prop} {k : List D → Option D} {fs : FA} (ho : FnK (gx X cl) r k) {σ : L2.St} {H : Hp} {Q : VK} (h : rdE X cl β W (fFn k fs) σ H Q) : tCB r (rdA X cl β W fs) σ H Q :=
  rdR.bind (rel := relA (gx X cl) σ) h fun F P as ε1 vs H1 F1 R1 P1 r1 en1 st1 po1 => by
    cases e1 : allV as with
    | none =>
      rw [e1] at po1
      exact po1.elim
    | some ds =>
      rw [e1] at po1
      simp only at po1
      cases hk : k ds with
      | none =>
        rw [hk] at po1
        exact po1.elim
      | some d =>
        rw [hk] at po1
        refine ho F1 H1 ds d vs R1 Q (relA.reps r1 e1) hk st1.top fun w H' F' R' rr s3 => ?_
        have s2 : Stp F H P F1 H1 ([] ++ [] ++ P1) := by simpa using st1.drop (List.sublist_append_right R1 P1)
        obtain ⟨c, dd⟩ := s2.mid (A := []) (X := []) (B := P1) (fun p hp => EnvR.alive _ _ _ _ en1 p (by simpa using hp)) s3
        exact po1 w H' F' R' P1 rr (EnvR.move s3.sub _ _ _ _ (fun p hp => dd p (by simpa using hp)) en1) (by simpa using c)
theorem se_fnB {id : String} {r : List V → Hp → VK → Prop} {k : List D → Option D} {x : Str} {p : Pos} {e : Expr} {es : List Expr} {fs : FA} (hc : CallR X (.builtin id) r) (ho : FnK (gx X cl) r k) (hg : Gl X x) (hm : X.mg x = none) (hv : bootBuiltins x = some (.builtin id)) (ha : SA X cl β W (e :: es) fs)
    (hn : x ≠ "__name__" := by decide) (hdb : (x == ("__debug__" : Str)) = false := by decide) (he : starEach (e :: es) X.env = (false, eval e X.env) :: starEach es X.env := by rfl) (hpl : (backTo pos (starEach es X.env)).any (·.1) = false := by rfl) :
    SE X cl β W (.Call (.Name x p) (e :: es) [] pos) (fFn k fs) := (pe_callB hc hg hm hv ha hn hdb he hpl).mono fun _ _ _ h => rd_fn ho h
theorem se_fnT {T : String} {r : List V → Hp → VK → Prop} {k : List D → Option D} {x : Str} {p : Pos} {e : Expr} {es : List Expr} {fs : FA} (hc : CallR X (.type T) r) (ho : FnK (gx X cl) r k) (hg : Gl X x) (hm : X.mg x = none) (hv : bootBuiltins x = some (.type T)) (ha : SA X cl β W (e :: es) fs)
    (hn : x ≠ "__name__" := by decide) (hdb : (x == ("__debug__" : Str)) = false := by decide) (he : starEach (e :: es) X.env = (false, eval e X.env) :: starEach es X.env := by rfl) (hpl : (backTo pos (starEach es X.env)).any (·.1) = false := by rfl) :
    SE X cl β W (.Call (.Name x p) (e :: es) [] pos) (fFn k fs) := (pe_callTy hc hg hm hv ha hn hdb he hpl).mono fun _ _ _ h => rd_fn ho h
theorem reps1 {g : Gh} {F H : Hp} {d : D} {vs : List V} {R : List Addr} (h : Reps g F H [d] vs R) : ∃ v, vs = [v] ∧ Rep g F H d v R := by
  obtain ⟨v, vr, P1, P2, h1, h2, h3, h4⟩ := h
  obtain ⟨e1, e2⟩ := h4
  subst e1 e2
  rw [List.append_nil] at h2
  subst h2
  exact ⟨v, h1, h3⟩
theorem reps2 {g : Gh} {F H : Hp} {d e : D} {vs : List V} {R : List Addr} (h : Reps g F H [d, e] vs R) : ∃ v w R1 R2, vs = [v, w] ∧ Rep g F H d v R1 ∧ Rep g F H e w R2 := by
  obtain ⟨v, vr, P1, P2, h1, h2, h3, h4⟩ := h
  obtain ⟨w, h5, h6⟩ := reps1 h4
  subst h5
  exact ⟨v, w, P1, P2, h1, h3, h6⟩
def kLen : List D → Option D
  | [.str s] => if s.length ≤ mx then some (.int s.length) else none
  | [d] => d.items.map fun ds => .int ds.length
  | _ => none
theorem fk_list : FnK (gx X cl) (fun xs H Q => ∃ p ys, xs = [.ref p] ∧ (SqL X.K H p ys ∨ SqT X.K H p ys) ∧ ∀ l, H l = none → Q (.ref l) (upd H l (.lst ys))) kList := by
  intro F H ds d vs R Q hr hk t hQ
  unfold kList at hk
  split at hk
  · split at hk
    · rename_i xs e1
      split at hk
      · rename_i hz
        cases hk
        obtain ⟨v, rfl, h⟩ := reps1 hr
        obtain ⟨p, ws, rfl, hs, rp⟩ := rep_items t h e1 hz
        refine ⟨p, ws, rfl, hs.symm, fun l hl => ?_⟩
        refine hQ _ _ F [l] ⟨l, ws, [], rfl, upd_same, rfl, ?_⟩ (Stp.new t hl)
        exact Reps.move (fun _ _ e => e) _ _ _ (fun _ z => nomatch z) rp
      · cases hk
    · cases hk
  · cases hk
theorem fk_tuple : FnK (gx X cl) (fun xs H Q => ∃ p ys, xs = [.ref p] ∧ ((SqL X.K H p ys ∧ ∀ l, H l = none → Q (.ref l) (upd H l (.tup ys))) ∨ (SqT X.K H p ys ∧ Q (.ref p) H))) kTuple := by
  intro F H ds d vs R Q hr hk t hQ
  unfold kTuple at hk
  split at hk
  · rename_i d0
    split at hk
    · rename_i xs e1
      split at hk
      · rename_i hz
        cases hk
        obtain ⟨v, rfl, h⟩ := reps1 hr
        have newT : ∀ p ws, SqL X.K H p ws → Reps (gx X cl) F H xs ws [] → v = .ref p → ∃ p ys, [v] = [V.ref p] ∧ ((SqL X.K H p ys ∧ ∀ l, H l = none → Q (.ref l) (upd H l (.tup ys))) ∨ (SqT X.K H p ys ∧ Q (.ref p) H)) := fun p ws hs rp e => by
          refine ⟨p, ws, by rw [e], .inl ⟨hs, fun l hl => ?_⟩⟩
          refine hQ _ _ (upd F l (.tup ws)) [] ⟨l, ws, rfl, SqT.of upd_same, ?_⟩ (Stp.newF t hl)
          exact Reps.move (exh_upd (none_of_exh t hl)) _ _ _ (fun _ z => nomatch z) rp
        cases d0 with
        | tup ys =>
          cases e1
          obtain ⟨p, ws, rfl, h2, rp⟩ := h
          have c := Reps.cold _ _ _ hz rp
          subst c
          exact ⟨p, ws, rfl, .inr ⟨exh_t t h2, hQ _ H F [] ⟨p, ws, rfl, h2, rp⟩ (Stp.nil t)⟩⟩
        | tuk ys =>
          cases e1
          obtain ⟨p, ws, rfl, h2, rp⟩ := h
          have c := Reps.cold _ _ _ hz rp
          subst c
          exact ⟨p, ws, rfl, .inr ⟨exh_t t (knt_sq h2), hQ _ H F [] ⟨p, ws, rfl, knt_sq h2, rp⟩ (Stp.nil t)⟩⟩
        | scr ys =>
          cases e1
          obtain ⟨p, ws, h1, h2, h3, rp⟩ := h
          exact newT p ws (exh_l t h2) rp h1
        | lst o ys =>
          cases e1
          obtain ⟨p, ws, P2, h1, h2, rp⟩ := Rep.lstAt t h
          have c := Reps.cold _ _ _ hz rp
          subst c
          exact newT p ws (SqL.of h2) rp h1
        | _ => cases e1
      · cases hk
    · cases hk
  · cases hk
theorem fk_int : FnK (gx X cl) (fun xs H Q => (∃ i, xs = [.int i] ∧ Q (.int i) H) ∨ ∃ k, xs = [.bl k] ∧ Q (.int (if k then 1 else 0)) H) kInt := by
  intro F H ds d vs R Q hr hk t hQ
  unfold kInt at hk
  split at hk
  · rename_i i
    cases hk
    obtain ⟨v, rfl, h⟩ := reps1 hr
    exact .inl ⟨i, by rw [h.1], hQ _ H F [] ⟨rfl, rfl⟩ (Stp.nil t)⟩
  · rename_i b
    cases hk
    obtain ⟨v, rfl, h⟩ := reps1 hr
    exact .inr ⟨b, by rw [h.1], hQ _ H F [] ⟨rfl, rfl⟩ (Stp.nil t)⟩
  · cases hk
theorem rep_cls {F H : Hp} : ∀ {d : D} {v : V} {P : List Addr} {k : Tk}, Rep (gx X cl) F H d v P → d.asTk = some k → ClsV v (tkV cl k)
  | .ty n, _, _, _, h, e => by rw [h.1]; cases e; exact .ty n
  | .cls c, _, _, _, h, e => by rw [h.1]; cases e; exact .own _
  | .non, _, _, _, _, e => by cases e
  | .bl _, _, _, _, _, e => by cases e
  | .int _, _, _, _, _, e => by cases e
  | .str _, _, _, _, _, e => by cases e
  | .tup _, _, _, _, _, e => by cases e
  | .tuk _, _, _, _, _, e => by cases e
  | .scr _, _, _, _, _, e => by cases e
  | .lst _ _, _, _, _, _, e => by cases e
  | .dic _ _ _, _, _, _, _, e => by cases e
  | .ins _ _ _ _, _, _, _, _, e => by cases e
  | .dcn _ _ _, _, _, _, _, e => by cases e
  | .dcb _ _ _, _, _, _, _, e => by cases e
  | .err _ _ _, _, _, _, _, e => by cases e
  | .dil _ _, _, _, _, _, e => by cases e
theorem se_bty {x : Str} {n : String} {p : Pos} (hg : Gl X x) (hm : X.mg x = none) (hv : bootBuiltins x = some (.type n)) (hn : x ≠ "__name__" := by decide) (hd : (x == ("__debug__" : Str)) = false := by decide) : SE X cl β W (.Name x p) (fC (.ty n)) :=
  (pe_bltn (v := .ty n) hg hm hv rfl hn hd).mono fun _ _ _ h => rd_c (d := .ty n) (fun _ _ => ⟨rfl, rfl⟩) h
def fMt (k : D → List D → Option D) (f : FE) (fs : FA) : FE := fun ε => (f ε).bind fun d ε1 => match d with
  | .str s => (fs ε1).bind fun as ε2 => match allV as with
    | some ds => .of (k (.str s) ds) ε2
    | none => .bad
  | _ => .bad
end
end Nb
namespace Nb
open PySem PySem.Spec PyProof.Rows L2
section
variable {g : Gh} {β : List (Option V)} {W : WX} {σ : L2.St}
theorem rdS_here {F H F1 H1 : Hp} {P P1 : List Addr} {ε1 : Ev} {f : FS} {D : Ends} (en : EnvR g F1 H1 ε1 σ β P1) (st : Stp F H P F1 H1 P1) (po : PostS g β W F H P (f ε1) D) : rdS g β W f D σ H1 :=
  ⟨F1, ε1, P1, en, st.base, po.base st⟩
end
abbrev SS (X : Cx) (cl : Nat → Addr) (β : List (Option V)) (W : WX) (e : Stmt) (f : FS) : Prop := PS X e (rdS (gx X cl) β W f)
abbrev SSs (X : Cx) (cl : Nat → Addr) (β : List (Option V)) (W : WX) (e : List Stmt) (f : FS) : Prop := PSs X e (rdS (gx X cl) β W f)
theorem PSm {X : Cx} {e : Stmt} {t t' : TS} (h : PS X e t) (m : ∀ D σ H, t' D σ H → t D σ H) : PS X e t' := ⟨fun pins s σ H D I q => h.run pins s σ H D I (m D σ H q)⟩
theorem PSsm {X : Cx} {e : List Stmt} {t t' : TS} (h : PSs X e t) (m : ∀ D σ H, t' D σ H → t D σ H) : PSs X e t' := ⟨fun pins s σ H D I q => h.run pins s σ H D I (m D σ H q)⟩
theorem PGm {X : Cx} {e : Expr} {t t' : TG} (h : PG X e t) (m : ∀ v σ H Q, t' v σ H Q → t v σ H Q) : PG X e t' := ⟨fun pins s σ H v u Q I r q => h.run pins s σ H v u Q I r (m v σ H Q q)⟩
theorem PIm {X : Cx} {tg e : Expr} {t t' : TI} (h : PI X tg e t) (m : ∀ σ H R, t' σ H R → t σ H R) : PI X tg e t' := ⟨fun pins s σ H R I q => h.run pins s σ H R I (m σ H R q)⟩
theorem PI.or {X : Cx} {tg e : Expr} {t t' : TI} (h : PI X tg e t) (h' : PI X tg e t') : PI X tg e (fun σ H R => t σ H R ∨ t' σ H R) := ⟨fun pins s σ H R I q => q.elim (h.run pins s σ H R I) (h'.run pins s σ H R I)⟩
section
variable {X : Cx} {cl : Nat → Addr} {β : List (Option V)} {W : WX} {pos : Pos} {a b c : Expr} {fa fb fc : FE} {st : Stmt} {rest sa sb : List Stmt} {f f' h h' : FS}
theorem ss_nil : SSs X cl β W [] fNx := PSsm pss_nil fun D σ H ⟨F, ε, P, en, st, po⟩ => po σ H F P en st
theorem ss_cons (h1 : SS X cl β W st f) (h2 : SSs X cl β W rest h) : SSs X cl β W (st :: rest) (fSeq f h) :=
  PSsm (pss_cons h1 h2) fun D σ H ⟨F, ε, P, en, st, po⟩ => by
    refine ⟨F, ε, P, en, st, ?_⟩
    unfold fSeq at po
    cases e : f ε with
    | nx ε1 =>
      rw [e] at po
      exact fun σ' H' F' P' en' st' => rdS_here en' st' po
    | bk ε1 => rw [e] at po; exact po
    | ct ε1 => rw [e] at po; exact po
    | rt d ε1 => rw [e] at po; exact po
    | exc c fs ds ε1 => rw [e] at po; exact po
    | bad => rw [e] at po; exact po
theorem ss_one (h1 : SS X cl β W st f) : SSs X cl β W [st] f := pss_one h1
def fBk : FS := fun ε => .bk ε
def fCt : FS := fun ε => .ct ε
theorem s_expr (he : SE X cl β W a fa) (hs : swapsWith a none pos.line X.env = pure false := by rfl) : SS X cl β W (.Expr a pos) (fDo fa) :=
  PSm (ps_expr he hs) fun D σ H h => rdS.bind (rel := Rep (gx X cl)) h fun F P d ε2 v H2 F2 R2 P2 rl en st po => po σ H2 F2 P2 en (st.drop (List.sublist_append_right R2 P2))
theorem s_ret (he : SE X cl β W a fa) : SS X cl β W (.Return (some a) pos) (fRt fa) :=
  PSm (ps_ret he) fun D σ H h => rdS.bind (rel := Rep (gx X cl)) h fun F P d ε2 v H2 F2 R2 P2 rl en st po => po v σ H2 F2 R2 P2 rl en st
def fRtN : FS := fun ε => .rt .non ε
theorem s_if {t : FT} (hc : ST X cl β W c t) (ha : SSs X cl β W sa f) (hb : SSs X cl β W sb h) : SS X cl β W (.If c sa sb pos) (fIfS t f h) :=
  PSm (ps_if hc ha hb) fun D σ H h => rdS.bind (rel := relB) h fun F P k ε2 v H2 F2 R2 P2 rl en st po => by
    obtain ⟨e1, e2⟩ := rl
    subst e1 e2
    cases k with
    | true => exact rdS_here en st po
    | false => exact rdS_here en st po
def rdG (g : Gh) (β : List (Option V)) (is : List Nat) (p : FG) : TG := fun v σ H Q => ∃ F ε P d R ε', EnvR g F H ε σ β P ∧ Rep g F H d v R ∧ Stp F H (R ++ P) F H (R ++ P) ∧ p d ε = some ε' ∧
  ∀ σ' H' F' P', EnvR g F' H' ε' σ' β P' → Stp F H (R ++ P) F' H' P' → wipe σ' is = wipe σ is → Q σ' H'
abbrev SG (X : Cx) (cl : Nat → Addr) (β : List (Option V)) (is : List Nat) (e : Expr) (p : FG) : Prop := PG X e (rdG (gx X cl) β is p)
theorem wipe_set (σ : L2.St) (i : Nat) (x : Option V) : ∀ is : List Nat, i ∈ is → wipe (σ.set i x) is = wipe σ is
  | [], h => by cases h
  | j :: is, h => by
    unfold wipe
    by_cases hj : i ∈ is
    · rw [wipe_set σ i x is hj]
    · have e : i = j := by
        rcases List.mem_cons.mp h with e | e
        · exact e
        · exact absurd e hj
      subst e
      have sw : ∀ (is : List Nat), i ∉ is → wipe (σ.set i x) is = (wipe σ is).set i x := by
        intro is
        induction is with
        | nil => intro _; rfl
        | cons k ks ih =>
          intro hk
          have hk' : i ≠ k ∧ i ∉ ks := by simpa using hk
          unfold wipe
          rw [ih hk'.2, List.set_comm _ _ hk'.1]
      rw [sw is hj, List.set_set]
theorem EnvR.setAt {g : Gh} {F H : Hp} {ε : Ev} {σ : L2.St} {β : List (Option V)} {P : List Addr} {i : Nat} {d : D} {v : V} {R : List Addr} (en : EnvR g F H ε σ β P) (hi : i < ε.length) (hr : Rep g F H d v R) :
    ∃ A P1 B, P = A ++ P1 ++ B ∧ EnvR g F H (ε.set i (.val d)) (σ.set i (some v)) β (A ++ R ++ B) := by
  obtain ⟨x, b, A, P1, B, h1, h2, h3, h4, h5⟩ := en.at _ _ _ _ i _ (List.getElem?_eq_getElem hi)
  exact ⟨A, P1, B, h3, h5 F H (.val d) (some v) R (fun _ _ z => z) (fun _ _ => rfl) ⟨v, rfl, hr⟩⟩
theorem perm_mid (R A B : List Addr) : (R ++ (A ++ B)).Perm (A ++ R ++ B) := by
  rw [← List.append_assoc]
  exact List.Perm.append_right B List.perm_append_comm
theorem sub_mid (R A P1 B : List Addr) : (R ++ (A ++ B)).Sublist (R ++ (A ++ P1 ++ B)) :=
  List.Sublist.append (List.Sublist.refl R) (List.Sublist.append (List.sublist_append_left A P1) (List.Sublist.refl B))
theorem sg_name (i : Nat) {is : List Nat} {x : Str} {p : Pos} (hm : i ∈ is := by decide) (hN : X.N.Nodup) (hi : X.N[i]? = some x := by rfl) (hx : Loc X.env.scope x := by first | exact Or.inl rfl | exact Or.inr rfl) (hf : X.fn x = true ∨ X.env.scope.names.lookup x = some .local := by first | exact .inl rfl | exact .inr rfl) : SG X cl β is (.Name x p) (gNm i) :=
  PGm (pg_name hN hi hx hf) fun v σ H Q ⟨F, ε, P, d, R, ε', en, rl, st, e, q⟩ => by
    unfold gNm at e
    split at e
    · rename_i hlt
      cases e
      obtain ⟨A, P1, B, h3, en'⟩ := en.setAt hlt rl
      refine q _ H F _ en' ?_ (wipe_set _ _ _ _ hm)
      have s2 := st.drop (P2 := R ++ (A ++ B)) (by rw [h3]; exact sub_mid R A P1 B)
      exact s2.perm (perm_mid R A B)
    · cases e
def gsNil : List D → Ev → Option Ev := fun ds ε => match ds with
  | [] => some ε
  | _ => none
def gsCons (p : FG) (ps : List D → Ev → Option Ev) : List D → Ev → Option Ev := fun ds ε => match ds with
  | d :: r => (p d ε).bind fun ε1 => ps r ε1
  | [] => none
def gTp (ps : List D → Ev → Option Ev) : FG := fun d ε => match d with
  | .tup ds => ps ds ε
  | _ => none
theorem s_set (i : Nat) {x : Str} {pos' : Pos} (hN : X.N.Nodup) (he : SE X cl β W a fa) (hi : X.N[i]? = some x := by rfl) (hx : Loc X.env.scope x := by first | exact Or.inl rfl | exact Or.inr rfl) (hs : swapsWith a (some (.Name x pos')) pos.line X.env = pure false := by rfl) (hf : X.fn x = true ∨ X.env.scope.names.lookup x = some .local := by first | exact .inl rfl | exact .inr rfl) :
    SS X cl β W (.Assign [.Name x pos'] a pos) (fAsg fa (gNm i)) := PSm (ps_set hN hi hx he hs hf) fun D σ H h => by
  refine rdS.bind (rel := Rep (gx X cl)) h fun F P d ε2 v H2 F2 R2 P2 rl en st po => ?_
  unfold gNm at po
  by_cases hlt : i < ε2.length
  · simp only [hlt, if_true] at po
    obtain ⟨A, P1, B, h3, en'⟩ := en.setAt hlt rl
    refine po _ H2 F2 _ en' ?_
    have s2 := st.drop (P2 := R2 ++ (A ++ B)) (by rw [h3]; exact sub_mid R2 A P1 B)
    exact s2.perm (perm_mid R2 A B)
  · simp only [hlt] at po
    exact po.elim
theorem s_par (i j : Nat) {x y : Str} {fs : FA} {px py pt : Pos} {kt k2 : Nat} {pt2 : Pos} (hc : X.calm = true) (hN : X.N.Nodup) (ha : SA X cl β W [a, b] fs) (hi : X.N[i]? = some x := by rfl) (hj : X.N[j]? = some y := by rfl) (hij : i ≠ j := by decide)
    (hx : X.env.scope.names.lookup x = some .local := by rfl) (hy : X.env.scope.names.lookup y = some .local := by rfl)
    (hw : swappedStores [.Tuple [.Name x px, .Name y py] kt pt] (.Tuple [a, b] k2 pt2) X.env = pure (some [x, y]) := by rfl)
    (hs : swapsWithSole [.Tuple [.Name x px, .Name y py] kt pt] (.Tuple [a, b] k2 pt2) pos.line X.env = pure false := by rfl) :
    SS X cl β W (.Assign [.Tuple [.Name x px, .Name y py] kt pt] (.Tuple [a, b] k2 pt2) pos) (fPar i j fs) :=
  PSm (ps_par hc hN hi hj hij hx hy ha hw hs) fun D σ H h => rdS.bind (rel := relA (gx X cl) σ) h fun F P as ε2 vs H2 F2 R2 P2 rl en st po => by
    split at po
    · rename_i d e
      split at po
      · rename_i hlt
        obtain ⟨v, vr, R1, R3, e1, e2, r1, ⟨w, wr, R4, R5, e3, e4, r2, e5, e6⟩⟩ := rl
        subst e5 e6
        rw [List.append_nil] at e4
        subst e4 e3 e2 e1
        refine ⟨v, w, rfl, ?_⟩
        obtain ⟨A, P1, B, h3, en'⟩ := en.setAt hlt.1 r1
        obtain ⟨A', P1', B', h3', en''⟩ := en'.setAt (i := j) (by rw [List.length_set]; exact hlt.2) r2
        refine po _ H2 F2 _ en'' ?_
        have s1 := st.drop (P2 := R1 ++ R3 ++ (A ++ B)) (by rw [h3]; exact sub_mid _ A P1 B)
        have s2 : Stp F H P F2 H2 (R3 ++ (A' ++ P1' ++ B')) := s1.perm (by
          rw [← h3']
          have z : (R1 ++ R3 ++ (A ++ B)).Perm (R3 ++ (R1 ++ (A ++ B))) := by
            rw [← List.append_assoc R3]
            exact List.Perm.append_right _ List.perm_append_comm
          exact z.trans (List.Perm.append_left R3 (perm_mid R1 A B)))
        exact (s2.drop (sub_mid R3 A' P1' B')).perm (perm_mid R3 A' B')
      · exact po.elim
    · exact po.elim
end
end Nb
namespace Nb
open PySem PySem.Spec PyProof.Rows L2
def relI (g : Gh) : Hp → Hp → List D → It → List Addr → Prop := fun F _ ds J R => WalkD g J F ds ∧ R = []
abbrev SI (X : Cx) (cl : Nat → Addr) (β : List (Option V)) (W : WX) (tg e : Expr) (f : FI) : Prop := PI X tg e (rdR (gx X cl) β W (relI (gx X cl)) f)
theorem frzR {g : Gh} {F H F1 H1 : Hp} {P R P1 : List Addr} {ε : Ev} {σ : L2.St} {β : List (Option V)} {d : D} {v : V} (rl : Rep g F1 H1 d v R) (en : EnvR g F1 H1 ε σ β P1) (st : Stp F H P F1 H1 (R ++ P1)) :
    Rep g (fzH F1 H1 R) H1 d.frz v [] ∧ EnvR g (fzH F1 H1 R) H1 ε σ β P1 ∧ Stp F H P (fzH F1 H1 R) H1 P1 ∧ Exh F1 (fzH F1 H1 R) := by
  have off : ∀ p ∈ R, F1 p = none := fun p hp => st.off p (List.mem_append_left _ hp)
  have ex := fzH_ext (H := H1) off
  refine ⟨Rep.freeze ex d v R (fun p hp => fzH_in hp) rl, EnvR.move ex _ _ _ _ (fun _ _ => rfl) en, ?_, ex⟩
  exact Stp.fz (A := []) (R := R) (B := P1) st
mutual
theorem D.frz_fz : ∀ d : D, d.frz.fz = true
  | .non => rfl
  | .bl _ => rfl
  | .int _ => rfl
  | .str _ => rfl
  | .ty _ => rfl
  | .cls _ => rfl
  | .tup ds => by unfold D.frz D.fz; exact frzs_fzs ds
  | .tuk ds => by unfold D.frz D.fz; exact frzs_fzs ds
  | .scr ds => by unfold D.frz D.fz; exact frzs_fzs ds
  | .lst o ds => by unfold D.frz D.fz; rw [frzs_fzs ds]; rfl
  | .dic o ks ds => by unfold D.frz D.fz; rw [frzs_fzs ds]; rfl
  | .ins o c fs ds => by unfold D.frz D.fz; rw [frzs_fzs ds]; rfl
  | .dcn o ks ds => by unfold D.frz D.fz; rw [frzs_fzs ds]; rfl
  | .dil ks ds => by unfold D.frz D.fz; exact frzs_fzs ds
  | .dcb o bs ns => by unfold D.frz D.fz; rfl
  | .err c fs ds => by unfold D.frz D.fz; exact frzs_fzs ds
theorem frzs_fzs : ∀ ds : List D, fzs (frzs ds) = true
  | [] => rfl
  | d :: ds => by unfold frzs fzs; rw [D.frz_fz d, frzs_fzs ds]; rfl
end
section
variable {X : Cx} {cl : Nat → Addr} {β : List (Option V)} {W : WX} {pos : Pos} {a b c tg : Expr} {fa fb fc : FE}
theorem se_fz (ha : SE X cl β W a fa) : SE X cl β W a (fFz fa) := ha.mono fun σ H Q h => rdR.bind (rel := Rep (gx X cl)) h fun F P d ε2 v H2 F2 R2 P2 rl en st po => by
  obtain ⟨r1, en1, st1, _⟩ := frzR rl en st
  exact po v H2 _ [] P2 r1 en1 st1
theorem items_fz {d : D} {ds : List D} (z : d.fz = true) (e : d.items = some ds) : fzs ds = true := by
  cases d with
  | tup xs => cases e; exact z
  | tuk xs => cases e; exact z
  | scr xs => cases e; exact z
  | lst o xs => cases e; exact (Bool.and_eq_true_iff.mp z).2
  | _ => cases e
theorem walk_list {p : Addr} {vs : List V} {F H : Hp} {ds : List D} (h : SqL X.K F p vs) (r : Reps (gx X cl) F H ds vs []) (z : fzs ds = true) (F0 : Hp) (e0 : Exh F F0) : WalkD (gx X cl) (Itl X.K p) F0 ds := by
  have hl := Reps.length _ _ _ r
  refine ⟨fun i d F1 H1 hd e1 t => ?_, fun F1 H1 e1 t => ⟨vs, exh_l t (exh_l (e0.tr e1) h), by rw [hl]; exact Nat.le_refl _⟩⟩
  obtain ⟨v, A, R, B, g1, g2, g3⟩ := Reps.get _ _ _ i d r hd
  have c := Rep.cold _ _ _ (fzs_get z hd) g3
  subst c
  refine ⟨⟨vs, v, exh_l t (exh_l (e0.tr e1) h), g1⟩, fun x H' y => ?_⟩
  obtain ⟨rfl, y⟩ := y
  have e := y vs (exh_l t (exh_l (e0.tr e1) h))
  rw [g1] at e
  cases e
  exact ⟨F1, Rep.move (e0.tr e1) _ _ _ (fun _ z => nomatch z) g3, Stp.nil t⟩
theorem walk_tup {p : Addr} {vs : List V} {F H : Hp} {ds : List D} (h : SqT X.K F p vs) (r : Reps (gx X cl) F H ds vs []) (z : fzs ds = true) (F0 : Hp) (e0 : Exh F F0) : WalkD (gx X cl) (Itt X.K p) F0 ds := by
  have hl := Reps.length _ _ _ r
  refine ⟨fun i d F1 H1 hd e1 t => ?_, fun F1 H1 e1 t => ⟨vs, exh_t t (exh_t (e0.tr e1) h), by rw [hl]; exact Nat.le_refl _⟩⟩
  obtain ⟨v, A, R, B, g1, g2, g3⟩ := Reps.get _ _ _ i d r hd
  have c := Rep.cold _ _ _ (fzs_get z hd) g3
  subst c
  refine ⟨⟨vs, v, exh_t t (exh_t (e0.tr e1) h), g1⟩, fun x H' y => ?_⟩
  obtain ⟨rfl, y⟩ := y
  have e := y vs (exh_t t (exh_t (e0.tr e1) h))
  rw [g1] at e
  cases e
  exact ⟨F1, Rep.move (e0.tr e1) _ _ _ (fun _ z => nomatch z) g3, Stp.nil t⟩
theorem rep_kind {g : Gh} {F H : Hp} {d : D} {v : V} {ds : List D} (z : d.fz = true) (r : Rep g F H d v []) (e : d.items = some ds) : ∃ p vs, v = .ref p ∧ Reps g F H ds vs [] ∧ fzs ds = true ∧ ((∃ xs, d = .tup xs ∨ d = .tuk xs) ∧ SqT g.K F p vs ∨ (∀ xs, ¬(d = .tup xs ∨ d = .tuk xs)) ∧ SqL g.K F p vs) := by
  have zz := items_fz z e
  cases d with
  | tup xs =>
    cases e
    obtain ⟨p, vs, h1, h2, h3⟩ := r
    exact ⟨p, vs, h1, h3, zz, .inl ⟨⟨_, .inl rfl⟩, h2⟩⟩
  | tuk xs =>
    cases e
    obtain ⟨p, vs, h1, h2, h3⟩ := r
    exact ⟨p, vs, h1, h3, zz, .inl ⟨⟨_, .inr rfl⟩, knt_sq h2⟩⟩
  | scr xs =>
    cases e
    obtain ⟨p, vs, h1, h2, _, h3⟩ := r
    exact ⟨p, vs, h1, h3, zz, .inr ⟨fun _ q => (by rcases q with q | q <;> cases q), h2⟩⟩
  | lst o xs =>
    cases o with
    | true => simp [D.fz] at z
    | false =>
      cases e
      obtain ⟨p, vs, h1, h2, _, h3⟩ := r
      exact ⟨p, vs, h1, h3, zz, .inr ⟨fun _ q => (by rcases q with q | q <;> cases q), SqL.of h2⟩⟩
  | _ => cases e
theorem si_its (ha : SE X cl β W a fa) : SI X cl β W tg a (fIts fa) := by
  refine PIm (PI.or (pi_list ha) (pi_tup ha)) fun σ H R h => ?_
  obtain ⟨F, ε, P, en, st, po⟩ := h
  unfold fIts at po
  -- which kind it is
  cases e : fa ε with
  | bad => rw [e] at po; exact po.elim
  | exc c fs ds ε2 =>
    rw [e] at po
    refine .inl ⟨F, ε, P, en, st, ?_⟩
    rw [e]
    exact po
  | ok d ε1 =>
    rw [e] at po
    have po : PostR (gx X cl) β W σ (relI (gx X cl)) F H P (match d.frz.items with | some ds => .ok ds ε1 | none => .bad) R := po
    cases e1 : d.frz.items with
    | none => rw [e1] at po; exact po.elim
    | some ds =>
      rw [e1] at po
      by_cases k : ∃ xs, d.frz = .tup xs ∨ d.frz = .tuk xs
      · refine .inr ⟨F, ε, P, en, st, ?_⟩
        rw [e]
        intro v H2 F2 R2 P2 rl en2 st2
        obtain ⟨r1, en3, st3, ex⟩ := frzR rl en2 st2
        obtain ⟨p, vs, hv, rs, z, q⟩ := rep_kind (D.frz_fz d) r1 e1
        rcases q with ⟨_, q⟩ | ⟨q, _⟩
        · exact ⟨p, hv, ⟨vs, exh_t st3.top q⟩, po _ _ _ [] P2 ⟨walk_tup q rs z _ (Exh.rfl' _), rfl⟩ en3 st3⟩
        · obtain ⟨xs, k⟩ := k
          exact absurd k (q xs)
      · refine .inl ⟨F, ε, P, en, st, ?_⟩
        rw [e]
        intro v H2 F2 R2 P2 rl en2 st2
        obtain ⟨r1, en3, st3, ex⟩ := frzR rl en2 st2
        obtain ⟨p, vs, hv, rs, z, q⟩ := rep_kind (D.frz_fz d) r1 e1
        rcases q with ⟨q, _⟩ | ⟨_, q⟩
        · exact absurd q k
        · exact ⟨p, hv, ⟨vs, exh_l st3.top q⟩, po _ _ _ [] P2 ⟨walk_list q rs z _ (Exh.rfl' _), rfl⟩ en3 st3⟩
theorem walk_rng {lo : Int} {n : Nat} {F0 : Hp} {g : Gh} : WalkD g (Itr lo n) F0 (rngD lo 1 n) := by
  refine ⟨fun i d F H h1 h2 h3 => ?_, fun F H h1 h2 => ?_⟩
  · obtain ⟨k1, k2⟩ := rng_get h1
    refine ⟨k1, fun x H' ⟨y1, y2⟩ => ?_⟩
    subst y1 k2
    refine ⟨F, ⟨?_, rfl⟩, Stp.nil h3⟩
    rw [y2, Int.mul_one]
  · show n ≤ _
    rw [rng_len]
    exact Nat.le_refl _
theorem inR_of {i : Int} (h : inR i = true) : -(2 ^ 62) ≤ i ∧ i < 2 ^ 62 := by
  have := Bool.and_eq_true_iff.mp h
  exact ⟨of_decide_eq_true this.1, of_decide_eq_true this.2⟩
def fRng2 (fs : FA) : FI := fun ε => (fs ε).bind fun as ε1 => match as with
  | [.v (.int i), .v (.int j)] => if inR i = true ∧ inR j = true then .ok (rngD i 1 (j - i).toNat) ε1 else .bad
  | _ => .bad
def fRngD (fs : FA) : FI := fun ε => (fs ε).bind fun as ε1 => match as with
  | [.v (.int i), .v (.int j), .v (.int (-1))] => if inR i = true ∧ inR j = true then .ok (rngD i (-1) (i - j).toNat) ε1 else .bad
  | _ => .bad
theorem si_rng1 {fs : FA} {p : Pos} (hg : Gl X "range") (hm : X.mg "range" = none) (ha : SA X cl β W [a] fs) (hs : starEach [a] X.env = [(false, eval a X.env)] := by rfl) : SI X cl β W tg (.Call (.Name "range" p) [a] [] pos) (fRng1 fs) :=
  PIm (pi_range1 hg hm ha hs) fun σ H R h => rdR.bind (rel := relA (gx X cl) σ) h fun F P as ε2 vs H2 F2 R2 P2 rl en st po => by
    split at po
    · rename_i j
      split at po
      · rename_i hj
        obtain ⟨v, vr, R1, R3, e1, e2, r1, e3, e4⟩ := rl
        have z1 := r1.1
        have z2 := r1.2
        subst e3 e4 z2 z1
        obtain ⟨k1, k2⟩ := inR_of hj
        exact ⟨j, e1, k1, k2, po _ _ _ [] P2 ⟨walk_rng, rfl⟩ en (st.drop (List.sublist_append_right R2 P2))⟩
      · exact po.elim
    · exact po.elim
end
end Nb
namespace Nb
open PySem PySem.Spec PyProof.Rows L2
section
variable {X : Cx} {cl : Nat → Addr} {β : List (Option V)} {W : WX} {pos : Pos} {a b c tg : Expr} {fa fb fc : FE}
def fChs (f : FE) : FI := fun ε => (f ε).bind fun d ε1 => match d with
  | .str s => .ok (s.cps.toList.map fun c => .str ⟨#[c]⟩) ε1
  | _ => .bad
def enD (n : Nat) : List D → List D
  | [] => []
  | d :: ds => .tup [.int (n : Nat), d] :: enD (n + 1) ds
set_option maxHeartbeats 1000000 in
def fEnm (fs : FA) : FI := fun ε => (fs ε).bind fun as ε1 => match as with
  | [.v d] => match d.frz.items with
    | some ds => .ok (enD 0 ds) ε1
    | none => .bad
  | _ => .bad
end
end Nb
namespace Nb
open PySem PySem.Spec PyProof.Rows L2
section
variable {X : Cx} {cl : Nat → Addr} {β : List (Option V)} {W : WX} {pos : Pos} {a b c tg : Expr} {fa fb fc : FE}
theorem s_for {is : List Nat} {fi : FI} {p : FG} {body : List Stmt} {fb : FS} (hp : PassesOwn (model X.prog X.w) X.A X.env X.xe) (hc : X.calm = true) (hi : SI X cl β W tg a fi) (hg : SG X cl β is tg p) (hb : SSs X cl β W body fb)
    (hs : ∀ x, foldedSetIterable a X.env x = pure x := by intro _; rfl) : SS X cl β W (.For tg a body [] pos) (fFor fi p fb) :=
  PSm (ps_for hp hc hi hg hb hs) fun D σ H h => rdS.bind (rel := relI (gx X cl)) h fun F P ds ε2 J H2 F2 R2 P2 rl en st po => by
    obtain ⟨wk, eR⟩ := rl
    subst eR
    refine ⟨fun i m σ' H' => m + i = ds.length ∧ ∃ F' ε' P', Exh F2 F' ∧ EnvR (gx X cl) F' H' ε' σ' β P' ∧ Stp F H P F' H' P' ∧ PostS (gx X cl) β W F H P (forGo p fb (ds.drop i) ε') D,
      ⟨ds.length, rfl, F2, ε2, P2, Exh.rfl' _, en, st, by rw [List.drop_zero]; exact po⟩, ?_⟩
    rintro i m σ' H' ⟨hm, F', ε', P', ex, en', st', po'⟩
    by_cases hlt : i < ds.length
    · refine .inr ?_
      have hd := List.getElem?_eq_getElem hlt
      obtain ⟨k1, k2⟩ := wk.item i _ F' H' hd ex st'.top
      rw [List.drop_eq_getElem_cons hlt] at po'
      refine ⟨k1, fun σ4 H4 => ∃ F4 ε4 P4, Exh F2 F4 ∧ EnvR (gx X cl) F4 H4 ε4 σ4 β P4 ∧ Stp F H P F4 H4 P4 ∧ PostS (gx X cl) β W F H P (forGo p fb (ds.drop (i + 1)) ε4) D, fun σ4 H4 q => ⟨m - 1, by omega, by omega, q⟩, fun x H3 hy => ?_⟩
      obtain ⟨F3, r3, s3⟩ := k2 x H3 hy
      obtain ⟨c3, same⟩ := (show Stp F H P F' H' (P' ++ []) by rw [List.append_nil]; exact st').carry (EnvR.alive _ _ _ _ en') s3
      rw [List.append_nil] at c3
      have en3 := EnvR.move s3.sub _ _ _ _ same en'
      cases e : p ds[i] ε' with
      | none =>
        unfold forGo at po'
        rw [e] at po'
        exact po'.elim
      | some ε4 =>
        refine ⟨F3, ε', P', ds[i], [], ε4, en3, r3, c3.base, e, fun σ5 H5 F5 P5 en5 s5 _ => ?_⟩
        have s5' := c3.tr s5
        refine ⟨F5, ε4, P5, en5, s5'.base, ?_⟩
        unfold forGo at po'
        rw [e] at po'
        have ex5 : Exh F2 F5 := ex.tr (s3.sub.tr s5.sub)
        exact PostS.lp (g := gx X cl) (r := fb ε4) po' s5' fun ε6 σ7 H7 F7 P7 en7 s7 e7 po7 => ⟨F7, ε6, P7, ex5.tr e7, en7, s7, po7⟩
    · have hi' : i = ds.length := by omega
      subst hi'
      refine .inl ⟨wk.stop F' H' ex st'.top, ?_⟩
      rw [List.drop_length] at po'
      exact po' σ' H' F' P' en' st'
def fuel : Nat := 1000000
def whGo (c : FT) (body : FS) : Nat → FS
  | 0, _ => .bad
  | n + 1, ε => (c ε).out fun b ε1 => if b = true then (body ε1).lp (whGo c body n) else .nx ε1
def fWh (c : FT) (body : FS) : FS := whGo c body fuel
end
end Nb
namespace Nb
open PySem PySem.Spec PyProof.Rows L2
theorem Res.bind_assoc {α β' γ : Type} (r : Res α) (f : α → Ev → Res β') (h : β' → Ev → Res γ) : (r.bind f).bind h = r.bind fun a ε => (f a ε).bind h := by
  cases r <;> rfl
theorem clr_len (ε : Ev) : ∀ is : List Nat, (clr is ε).length = ε.length
  | [] => rfl
  | i :: is => by unfold clr; rw [List.length_set, clr_len ε is]
theorem clr_get (ε : Ev) : ∀ is : List Nat, ∀ i ∈ is, (clr is ε)[i]? = some .no ∨ ε.length ≤ i
  | [], i, h => by cases h
  | j :: is, i, h => by
    unfold clr
    by_cases hl : ε.length ≤ i
    · exact .inr hl
    · refine .inl ?_
      by_cases e : i = j
      · subst e
        rw [List.getElem?_set_self (by rw [clr_len]; omega)]
      · rw [List.getElem?_set_ne (fun q => e q.symm)]
        rcases List.mem_cons.mp h with q | q
        · exact absurd q e
        · rcases clr_get ε is i q with z | z
          · exact z
          · exact absurd z hl
section
variable {g : Gh} {F H : Hp} {β : List (Option V)}
theorem EnvR.sw : ∀ (ε : Ev) (σ σ' : L2.St) (β : List (Option V)) (P : List Addr), EnvR g F H ε σ β P → σ'.length = σ.length → (∀ i : Nat, ε[i]? = some SV.no ∨ σ'[i]? = σ[i]?) → EnvR g F H ε σ' β P
  | [], σ, σ', β, P, h, hl, _ => by
    obtain ⟨h1, h2, h3⟩ := h
    subst h1
    exact ⟨List.length_eq_zero_iff.mp hl, h2, h3⟩
  | s :: ε, σ, σ', β, P, ⟨x, σr, b, βr, P1, P2, h1, h2, h3, h4, h5⟩, hl, k => by
    subst h1
    cases σ' with
    | nil => simp at hl
    | cons x' σr' =>
      have tl := EnvR.sw ε σr σr' βr P2 h5 (by simpa using hl) fun i => by simpa using k (i + 1)
      refine ⟨x', σr', b, βr, P1, P2, rfl, h2, h3, ?_, tl⟩
      rcases k 0 with q | q
      · have e : s = .no := by simpa using q
        subst e
        exact h4
      · have e : x' = x := by simpa using q
        rw [e]
        exact h4
theorem wipe_wipe (σ : L2.St) : ∀ is : List Nat, wipe (wipe σ is) is = wipe σ is
  | [] => rfl
  | i :: is => by
    have h := wipe_set (wipe σ is) i none (i :: is) List.mem_cons_self
    show wipe ((wipe σ is).set i none) (i :: is) = _
    rw [h]
    show (wipe (wipe σ is) is).set i none = (wipe σ is).set i none
    rw [wipe_wipe σ is]
theorem EnvR.unclr {is : List Nat} {ε : Ev} {σ : L2.St} {P : List Addr} (en : EnvR g F H ε (wipe σ is) β P) (hc : ∀ i ∈ is, ε[i]? = some .no ∨ ε.length ≤ i) : EnvR g F H ε σ β P := by
  refine EnvR.sw _ _ _ _ _ en (wipe_length σ is).symm fun i => ?_
  by_cases hi : i ∈ is
  · rcases hc i hi with z | z
    · exact .inl z
    · have hl := EnvR.length _ _ _ _ en
      rw [wipe_length] at hl
      refine .inr ?_
      rw [List.getElem?_eq_none (by omega), List.getElem?_eq_none (by rw [wipe_length]; omega)]
  · exact .inr (wipe_out hi).symm
end
abbrev WF : WX := fun _ _ _ _ => False
theorem PostR.nextX {g : Gh} {β : List (Option V)} {W : WX} {σ σ5 : L2.St} {α α' ν ν' : Type} {rel : Hp → Hp → α → ν → List Addr → Prop} {rel' : Hp → Hp → α' → ν' → List Addr → Prop} {F H F1 H1 : Hp} {P P1 A : List Addr} {r : Res α} {k : α → Ev → Res α'} {Q : ν' → Hp → Prop} {Q2 : ν → Hp → Prop}
    (h : PostR g β W σ rel' F H P (r.nox.bind k) Q) (s1 : Stp F H P F1 H1 (A ++ P1)) (al : ∀ p ∈ A, H1 p ≠ none)
    (hk : ∀ a ε2 v H2 F2 R2 P2, rel F2 H2 a v R2 → EnvR g F2 H2 ε2 σ5 β P2 → Stp F H P F2 H2 (A ++ (R2 ++ P2)) → (∀ p ∈ A, H2 p = H1 p) → Exh F1 F2 → PostR g β W σ rel' F H P (k a ε2) Q → Q2 v H2) :
    PostR g β WF σ5 rel F1 H1 P1 r Q2 := by
  cases r with
  | ok a ε2 =>
    intro v H2 F2 R2 P2 rl en st
    obtain ⟨c, d⟩ := s1.carry al st
    exact hk a ε2 v H2 F2 R2 P2 rl en c d st.sub h
  | exc c fs ds ε2 => exact h.elim
  | bad => exact h.elim
section
variable {g : Gh} {β : List (Option V)} {W : WX} {σ : L2.St} {F H : Hp} {P : List Addr} {Dl : Addr} {α ν : Type} {rel' : Hp → Hp → α → ν → List Addr → Prop} {Q : ν → Hp → Prop}
theorem lc_loop {k : List D → Ev → Res α} {vs : List Nat} {p : FG} {step : Ev → List D → Res (List D)} {body : L2.St → Hp → (Hp → Prop) → Prop} {J : It} {ds : List D} {F0 : Hp} {σ1 : L2.St}
    (hb : ∀ (kk : List D → Ev → Res α) (σ2 : L2.St) (acc : List D) (ε : Ev) (H' : Hp) (Nx : Hp → Prop), MS g β F H P Dl F0 σ2 acc ε H' → PostR g β W σ rel' F H P ((step ε acc).bind kk) Q →
      (∀ acc' ε' H'', MS g β F H P Dl F0 σ2 acc' ε' H'' → PostR g β W σ rel' F H P (kk acc' ε') Q → Nx H'') → body σ2 H' Nx)
    (wk : WalkD g J F0 ds) {ε : Ev} {acc : List D} {H1 : Hp} (m0 : MS g β F H P Dl F0 (wipe σ1 vs) acc ε H1) (hc0 : ∀ i ∈ vs, ε[i]? = some .no ∨ ε.length ≤ i)
    (po : PostR g β W σ rel' F H P ((lpGo vs p step ds ε acc).bind k) Q) {Fin : Hp → Prop}
    (hfin : ∀ acc' ε' H'', MS g β F H P Dl F0 (wipe σ1 vs) acc' ε' H'' → (∀ i ∈ vs, ε'[i]? = some .no ∨ ε'.length ≤ i) → PostR g β W σ rel' F H P (k acc' ε') Q → Fin H'') :
    ∃ Wt : Nat → Nat → Hp → Prop, (∃ m, Wt 0 m H1) ∧ ∀ i m H', Wt i m H' → (J.stop i H' ∧ Fin H') ∨ (J.go i H' ∧ ∃ Nx : Hp → Prop, (∀ H', Nx H' → ∃ m', m' < m ∧ Wt (i + 1) m' H') ∧
      ∀ x H'', J.yld i H' x H'' → rdG g β vs p x (wipe σ1 vs) H'' fun σ2 H2 => wipe σ2 vs = wipe σ1 vs ∧ body σ2 H2 Nx) := by
  refine ⟨fun i m H' => m + i = ds.length ∧ ∃ acc ε, MS g β F H P Dl F0 (wipe σ1 vs) acc ε H' ∧ (∀ i ∈ vs, ε[i]? = some .no ∨ ε.length ≤ i) ∧ PostR g β W σ rel' F H P ((lpGo vs p step (ds.drop i) ε acc).bind k) Q,
    ⟨ds.length, rfl, acc, ε, m0, hc0, by rw [List.drop_zero]; exact po⟩, ?_⟩
  rintro i m H' ⟨hm, acc, ε, ms, hcl, po⟩
  by_cases hlt : i < ds.length
  · refine .inr ?_
    obtain ⟨F', P', ws, Pa, hD, ra, en, st, ex⟩ := ms
    have hd := List.getElem?_eq_getElem hlt
    obtain ⟨k1, k2⟩ := wk.item i _ F' H' hd ex st.top
    rw [List.drop_eq_getElem_cons hlt] at po
    refine ⟨k1, fun H4 => ∃ acc ε, MS g β F H P Dl F0 (wipe σ1 vs) acc ε H4 ∧ (∀ i ∈ vs, ε[i]? = some .no ∨ ε.length ≤ i) ∧ PostR g β W σ rel' F H P ((lpGo vs p step (ds.drop (i + 1)) ε acc).bind k) Q, fun H4 q => ⟨m - 1, by omega, by omega, q⟩, fun x H3 hy => ?_⟩
    obtain ⟨F3, r3, s3⟩ := k2 x H3 hy
    have al : ∀ q ∈ Dl :: Pa, H' q ≠ none := fun q hq => by
      rcases List.mem_cons.mp hq with e | hq
      · rw [e, hD]; exact fun z => nomatch z
      · exact Reps.alive _ _ _ ra q hq
    have alP := EnvR.alive _ _ _ _ en
    obtain ⟨c3, same⟩ := (show Stp F H P F' H' ((Dl :: Pa ++ P') ++ []) by rw [List.append_nil]; exact st).carry (fun q hq => (List.mem_append.mp hq).elim (al q) (alP q)) s3
    rw [List.append_nil] at c3
    have en3 := EnvR.move s3.sub _ _ _ _ (fun q hq => same q (List.mem_append_right _ hq)) en
    have ra3 := Reps.move s3.sub _ _ _ (fun q hq => same q (List.mem_append_left _ (List.mem_cons_of_mem _ hq))) ra
    have hD3 : H3 Dl = some (.lst ws) := by rw [same Dl (List.mem_append_left _ List.mem_cons_self)]; exact hD
    unfold lpGo at po
    cases e : p ds[i] ε with
    | none =>
      rw [e] at po
      exact po.elim
    | some ε1 =>
      rw [e] at po
      simp only [Res.bind_assoc] at po
      have b3 := (c3.drop (List.sublist_append_right (Dl :: Pa) P')).base
      refine ⟨F3, ε, P', ds[i], [], ε1, en3, r3, b3, e, fun σ5 H5 F5 P5 en5 s5 w5 => ?_⟩
      have w6 : wipe σ5 vs = wipe σ1 vs := w5.trans (wipe_wipe σ1 vs)
      have al3 : ∀ q ∈ Dl :: Pa, H3 q ≠ none := fun q hq => by rw [same q (List.mem_append_left _ hq)]; exact al q hq
      have s5 : Stp F3 H3 P' F5 H5 P5 := s5
      obtain ⟨c5, same5⟩ := c3.carry al3 s5
      refine ⟨w6, hb _ σ5 acc ε1 H5 _ ⟨F5, P5, ws, Pa, ?_, ?_, en5, c5, ex.tr (s3.sub.tr s5.sub)⟩ po fun acc' ε' H'' ms' po' => ?_⟩
      · rw [same5 Dl List.mem_cons_self]; exact hD3
      · exact Reps.move s5.sub _ _ _ (fun q hq => same5 q (List.mem_cons_of_mem _ hq)) ra3
      · obtain ⟨F7, P7, ws7, Pa7, h1, h2, h3, h4, h5⟩ := ms'
        obtain ⟨P8, sb, en8⟩ := EnvR.clr vs h3
        rw [w6] at en8
        refine ⟨acc', clr vs ε', ⟨F7, P8, ws7, Pa7, h1, h2, en8, h4.drop (List.Sublist.append (List.Sublist.refl _) sb), h5⟩, fun i hi => ?_, po'⟩
        rw [clr_len]
        exact clr_get ε' vs i hi
  · have hi' : i = ds.length := by omega
    subst hi'
    obtain ⟨F', P', ws, Pa, hD, ra, en, st, ex⟩ := id ms
    refine .inl ⟨wk.stop F' H' ex st.top, hfin acc ε H' ms hcl ?_⟩
    rw [List.drop_length] at po
    exact po
def bod1 (g : Gh) (β : List (Option V)) (Dl : Addr) (tt : FT) (te : FE) : L2.St → Hp → (Hp → Prop) → Prop := fun σ2 H2 Nx => rdR g β WF relB tt σ2 H2 fun b H3 =>
  if b = true then rdR g β WF (Rep g) te σ2 H3 fun y H4 => ∃ acc, H4 Dl = some (.lst acc) ∧ acc.length < sizeLine ∧ Nx (upd H4 Dl (.lst (acc ++ [y]))) else Nx H3
theorem perm_app {Dl : Addr} {A B C : List Addr} : (Dl :: A ++ (B ++ C)).Perm (Dl :: (A ++ B) ++ C) := by
  rw [List.cons_append, List.cons_append, List.append_assoc]
theorem bod1_ok {F0 : Hp} {tt : FT} {te : FE} (kk : List D → Ev → Res α) (σ2 : L2.St) (acc : List D) (ε : Ev) (H' : Hp) (Nx : Hp → Prop) (ms : MS g β F H P Dl F0 σ2 acc ε H') (po : PostR g β W σ rel' F H P ((stp1 tt te ε acc).bind kk) Q)
    (hN : ∀ acc' ε' H'', MS g β F H P Dl F0 σ2 acc' ε' H'' → PostR g β W σ rel' F H P (kk acc' ε') Q → Nx H'') : bod1 g β Dl tt te σ2 H' Nx := by
  obtain ⟨F', P', ws, Pa, hD, ra, en, st, ex⟩ := ms
  have al : ∀ q ∈ Dl :: Pa, H' q ≠ none := fun q hq => by
    rcases List.mem_cons.mp hq with e | hq
    · rw [e, hD]; exact fun z => nomatch z
    · exact Reps.alive _ _ _ ra q hq
  unfold stp1 at po
  rw [Res.bind_assoc] at po
  refine ⟨F', ε, P', en, (st.drop (List.sublist_append_right (Dl :: Pa) P')).base, PostR.nextX (A := Dl :: Pa) po st al fun b ε2 b' H2 F2 R2 P2 rl en2 st2 same ex2 po2 => ?_⟩
  obtain ⟨e1, e2⟩ := rl
  subst e1 e2
  have st2 : Stp F H P F2 H2 (Dl :: Pa ++ P2) := st2
  have hD2 : H2 Dl = some (.lst ws) := by rw [same Dl List.mem_cons_self]; exact hD
  have ra2 := Reps.move ex2 _ _ _ (fun q hq => same q (List.mem_cons_of_mem _ hq)) ra
  cases b with
  | false => exact hN acc ε2 H2 ⟨F2, P2, ws, Pa, hD2, ra2, en2, st2, ex.tr ex2⟩ po2
  | true =>
    have po2 : PostR g β W σ rel' F H P (((te ε2).nox.bind fun y ε3 => if acc.length < mx then .ok (acc ++ [y]) ε3 else .bad).bind kk) Q := po2
    rw [Res.bind_assoc] at po2
    have al2 : ∀ q ∈ Dl :: Pa, H2 q ≠ none := fun q hq => by rw [same q hq]; exact al q hq
    refine ⟨F2, ε2, P2, en2, (st2.drop (List.sublist_append_right (Dl :: Pa) P2)).base, PostR.nextX (A := Dl :: Pa) po2 st2 al2 fun y ε3 v H3 F3 R3 P3 rl en3 st3 same3 ex3 po3 => ?_⟩
    have hD3 : H3 Dl = some (.lst ws) := by rw [same3 Dl List.mem_cons_self]; exact hD2
    have ra3 := Reps.move ex3 _ _ _ (fun q hq => same3 q (List.mem_cons_of_mem _ hq)) ra2
    have hl := Reps.length _ _ _ ra3
    by_cases hz : acc.length < mx
    · have po3 : PostR g β W σ rel' F H P (kk (acc ++ [y]) ε3) Q := by simpa only [hz, if_true, Res.bind] using po3
      refine ⟨ws, hD3, by rw [← hl]; exact mx_lt hz, hN (acc ++ [y]) ε3 _ ?_ po3⟩
      -- the new item stands in the list
      have nd := st3.nd
      have ne : ∀ q, q ∈ Pa ++ (R3 ++ P3) → q ≠ Dl := fun q hq e => by
        subst e
        exact (List.nodup_cons.mp (show (q :: (Pa ++ (R3 ++ P3))).Nodup from nd)).1 hq
      have mv : ∀ q, q ∈ Pa ++ (R3 ++ P3) → upd H3 Dl (.lst (ws ++ [v])) q = H3 q := fun q hq => upd_ne (ne q hq)
      have offD : F3 Dl = none := st3.off Dl (List.mem_append_left _ List.mem_cons_self)
      refine ⟨F3, P3, ws ++ [v], Pa ++ R3, upd_same, ?_, ?_, ?_, ex.tr (ex2.tr ex3)⟩
      · have r4 := Reps.append _ _ _ _ _ _ ra3 (show Reps g F3 H3 [y] [v] R3 from ⟨v, [], R3, [], rfl, (List.append_nil R3).symm, rl, rfl, rfl⟩)
        refine Reps.move (Exh.rfl' _) _ _ _ (fun q hq => mv q ?_) r4
        rw [← List.append_assoc]
        exact List.mem_append_left _ hq
      · exact EnvR.move (Exh.rfl' _) _ _ _ _ (fun q hq => mv q (List.mem_append_right _ (List.mem_append_right _ hq))) en3
      · have s4 : Stp F H P F3 H3 (Dl :: (Pa ++ R3) ++ P3) := st3.perm perm_app
        refine ⟨s4.sub, fun a o e => ?_, fun b o e n => ?_, s4.own, s4.fre, s4.nd, s4.off⟩
        · rw [upd_ne (fun q => by rw [q, offD] at e; cases e)]
          exact s4.top a o e
        · by_cases q : b = Dl
          · subst q
            rcases s4.own b (List.mem_append_left _ List.mem_cons_self) with z | z
            · exact absurd z n
            · rw [e] at z; cases z
          · rw [upd_ne q]
            exact s4.keep b o e n
    · have : PostR g β W σ rel' F H P Res.bad Q := by simpa only [hz, if_false, Res.bind] using po3
      exact this.elim
end
end Nb
namespace Nb
open PySem PySem.Spec PyProof.Rows L2
section
variable {g : Gh} {β : List (Option V)} {W : WX} {σ : L2.St} {F H : Hp} {P : List Addr} {Dl : Addr} {α ν : Type} {rel' : Hp → Hp → α → ν → List Addr → Prop} {Q : ν → Hp → Prop}
def stp2 (tt : FT) (vs1 : List Nat) (fi1 : FI) (p1 : FG) (tt1 : FT) (te : FE) : Ev → List D → Res (List D) := fun ε acc => (tt ε).nox.bind fun b ε2 => if b = true then ((fi1 ε2).nox.bind fun ds ε3 => lpGo vs1 p1 (stp1 tt1 te) ds (clr vs1 ε3) acc) else .ok acc ε2
theorem rd_lc {vs : List Nat} {fi : FI} {p : FG} {step : Ev → List D → Res (List D)} {body : Addr → L2.St → Hp → (Hp → Prop) → Prop} {Q : VK}
    (hb : ∀ (F H : Hp) (P : List Addr) (Dl : Addr) (F0 : Hp) (kk : List D → Ev → Res D) (σ2 : L2.St) (acc : List D) (ε : Ev) (H' : Hp) (Nx : Hp → Prop), MS g β F H P Dl F0 σ2 acc ε H' → PostR g β W σ (Rep g) F H P ((step ε acc).bind kk) Q →
      (∀ acc' ε' H'', MS g β F H P Dl F0 σ2 acc' ε' H'' → PostR g β W σ (Rep g) F H P (kk acc' ε') Q → Nx H'') → body Dl σ2 H' Nx)
    {H : Hp} (h : rdR g β W (Rep g) (fLc vs fi p step) σ H Q) : rdR g β W (relI g) fi σ H fun J H1 => ∀ D, H1 D = none → ∃ Wt : Nat → Nat → Hp → Prop, (∃ m, Wt 0 m (upd H1 D (.lst []))) ∧ ∀ i m H, Wt i m H →
      (J.stop i H ∧ Q (.ref D) H) ∨ (J.go i H ∧ ∃ Nx : Hp → Prop, (∀ H', Nx H' → ∃ m', m' < m ∧ Wt (i + 1) m' H') ∧ ∀ x H', J.yld i H x H' → rdG g β vs p x (wipe σ vs) H' fun σ2 H2 => wipe σ2 vs = wipe σ vs ∧ body D σ2 H2 Nx) := by
  refine rdR.bind (rel := relI g) h fun F P ds ε2 J H2 F2 R2 P2 rl en st po => ?_
  obtain ⟨wk, eR⟩ := rl
  subst eR
  have st : Stp F H P F2 H2 P2 := st
  intro Dl hD
  obtain ⟨P4, sb, en4⟩ := EnvR.clr vs en
  have st4 := st.drop sb
  obtain ⟨s5, same⟩ := st4.andNew (o := .lst []) (EnvR.alive _ _ _ _ en4) hD
  refine lc_loop (F := F) (H := H) (P := P) (Dl := Dl) (σ := σ) (W := W) (rel' := Rep g) (Q := Q) (k := fun acc ε2 => .ok (.lst true acc) ε2) (step := step) (body := body Dl) (F0 := F2) (σ1 := σ) (fun kk σ3 acc ε H' Nx ms po hN => hb F H P Dl F2 kk σ3 acc ε H' Nx ms po hN) wk
    (ε := clr vs ε2) (acc := []) ⟨F2, P4, [], [], upd_same, ⟨rfl, rfl⟩, EnvR.move (Exh.rfl' _) _ _ _ _ same en4, s5, Exh.rfl' _⟩ (fun i hi => by rw [clr_len]; exact clr_get ε2 vs i hi) po fun acc' ε' H'' ms' hc' po' => ?_
  obtain ⟨F7, P7, ws7, Pa7, h1, h2, h3, h4, h5⟩ := ms'
  exact po' (.ref Dl) H'' F7 (Dl :: Pa7) P7 ⟨Dl, ws7, Pa7, rfl, h1, rfl, h2⟩ (EnvR.unclr h3 hc') h4
end
section
variable {X : Cx} {cl : Nat → Addr} {β : List (Option V)} {W : WX} {pos : Pos} {a b c tg : Expr} {fa fb fc : FE}
abbrev STs (X : Cx) (cl : Nat → Addr) (β : List (Option V)) (W : WX) (es : List Expr) (f : FT) : Prop := PTs X es (rdT X cl β W f)
theorem PTsm {es : List Expr} {t t' : TT} (h : PTs X es t) (m : ∀ σ H Q, t' σ H Q → t σ H Q) : PTs X es t' := ⟨fun pins s σ H Q I q => h.run pins s σ H Q I (m σ H Q q)⟩
theorem sts_nil : STs X cl β W [] fYes := PTsm pts_nil fun σ H Q ⟨F, ε, P, en, st, po⟩ => po true H F [] P ⟨rfl, rfl⟩ en st
theorem sts_one {f : FT} (h : ST X cl β W c f) : STs X cl β W [c] f := pts_one h
theorem rd_lc1 {vs : List Nat} {fi : FI} {p : FG} {tt : FT} {te : FE} {σ : L2.St} {H : Hp} {Q : VK} (h : rdE X cl β W (fLc vs fi p (stp1 tt te)) σ H Q) :
    tLc (rdR (gx X cl) β W (relI (gx X cl)) fi) (rdG (gx X cl) β vs p) (rdT X cl β WF tt) (rdE X cl β WF te) vs σ H Q :=
  rd_lc (body := fun Dl => bod1 (gx X cl) β Dl tt te) (fun F H P Dl F0 kk σ2 acc ε H' Nx ms po hN => bod1_ok kk σ2 acc ε H' Nx ms po hN) h
variable {elt iter tg1 iter1 : Expr} {ifs ifs1 : List Expr} {scope : Scope} {own : List (Str × Nat)} {vs1 : List Nat} {fi fi1 : FI} {p p1 : FG} {tt tt1 : FT} {te : FE}
theorem se_lc (own : List (Str × Nat)) (hc : X.calm = true) (hN : X.N.Nodup) (ok : BlkOk X.N X.env.scope scope own) (hi : SI X cl β W tg iter fi)
    (hg : ∀ (s : Shared) (H : Hp) (C : Addr) (cll : List (Str × Addr)) (fp : List Addr), SG (X.blk s H scope (compEnvC scope cll C X.env) fp) cl β (own.map (·.2)) tg p)
    (ht : ∀ (s : Shared) (H : Hp) (C : Addr) (cll : List (Str × Addr)) (fp : List Addr), STs (X.blk s H scope (compEnvC scope cll C X.env) fp) cl β WF ifs tt)
    (he : ∀ (s : Shared) (H : Hp) (C : Addr) (cll : List (Str × Addr)) (fp : List Addr), SE (X.blk s H scope (compEnvC scope cll C X.env) fp) cl β WF elt te) (hs : ∀ x, foldedSetIterable iter X.env x = pure x := by intro _; rfl) :
    SE X cl β W (.ListComp elt [⟨tg, iter, ifs, 0⟩] scope pos) (fLc (own.map (·.2)) fi p (stp1 tt te)) := (pe_lc hc hN hi ok hg ht he hs).mono fun _ _ _ h => rd_lc1 h
theorem rd_set {i : Nat} {f : FE} {t : TE} {D : Ends} {σ : L2.St} {H : Hp} (m : ∀ Q, rdE X cl β W f σ H Q → t σ H Q) (h : rdS (gx X cl) β W (fAsg f (gNm i)) D σ H) : tAsg t (gName i) D σ H := m _ (by
  refine rdS.bind (rel := Rep (gx X cl)) h fun F P d ε2 v H2 F2 R2 P2 rl en st po => ?_
  unfold gNm at po
  by_cases hlt : i < ε2.length
  · simp only [hlt, if_true] at po
    obtain ⟨A, P1, B, h3, en'⟩ := en.setAt hlt rl
    refine po _ H2 F2 _ en' ?_
    have s2 := st.drop (P2 := R2 ++ (A ++ B)) (by rw [h3]; exact sub_mid R2 A P1 B)
    exact s2.perm (perm_mid R2 A B)
  · simp only [hlt] at po
    exact po.elim)
theorem s_setLc (i : Nat) {y : Str} {py spos : Pos} (own : List (Str × Nat)) (hc : X.calm = true) (hN : X.N.Nodup) (ok : BlkOk X.N X.env.scope scope own) (hi : SI X cl β W tg iter fi)
    (hg : ∀ (s : Shared) (H : Hp) (C : Addr) (cll : List (Str × Addr)) (fp : List Addr), SG (X.blk s H scope (compEnvC scope cll C X.env) fp) cl β (own.map (·.2)) tg p)
    (ht : ∀ (s : Shared) (H : Hp) (C : Addr) (cll : List (Str × Addr)) (fp : List Addr), STs (X.blk s H scope (compEnvC scope cll C X.env) fp) cl β WF ifs tt)
    (he : ∀ (s : Shared) (H : Hp) (C : Addr) (cll : List (Str × Addr)) (fp : List Addr), SE (X.blk s H scope (compEnvC scope cll C X.env) fp) cl β WF elt te)
    (hy : X.N[i]? = some y := by rfl) (hyl : X.env.scope.names.lookup y = some .local := by rfl)
    (hsw : swapsWith (.ListComp elt [⟨tg, iter, ifs, 0⟩] scope pos) (some (.Name y py)) spos.line X.env = pure true := by rfl) (hs : ∀ x, foldedSetIterable iter X.env x = pure x := by intro _; rfl) :
    SS X cl β W (.Assign [.Name y py] (.ListComp elt [⟨tg, iter, ifs, 0⟩] scope pos) spos) (fAsg (fLc (own.map (·.2)) fi p (stp1 tt te)) (gNm i)) :=
  PSm (ps_setLc hc hN hy hyl hsw hi ok hg ht he hs) fun D σ H h => rd_set (fun Q h => rd_lc1 h) h
end
end Nb
namespace Nb
open PySem PySem.Spec PyProof.Rows L2
theorem fd_okQ {gd : Bool} {P : Program} {w : World} {K : PySem.W.Frag} {mg : Str → Option Value} {base : Heap} {x qual : Str} {params : Arguments} {body : List Stmt} {scope : Scope} {dvs : List V} {kws : List (Str × V)} {f : Addr} {fd : FuncData} {N ps : List Str} {k : Nat} {sp : Sp}
    (Fd : FunD K x qual params body scope dvs kws f fd) (S : FnScope N ps scope) (len : ∀ vs H Q E, sp vs H Q E → vs.length = ps.length)
    (hbody : ∀ (cdv : Value) (A : Around) (outer : List Env) (s : Shared) (H : Hp) (vs : List V) (Q : VK) (E : XK), Room k (A.deeper (envOfC qual scope s.heap.objs.size f cdv)) → (gd = true → (A.deeper (envOfC qual scope s.heap.objs.size f cdv)).guards = some []) → sp vs H Q E →
      ∃ t, PSs (cxOf (CX P w) P w K mg base N qual scope f cdv A outer s H E) body t ∧ t { nx := fun _ H' => Q .non H', rt := Q } (start N vs) H) : FnQ gd P w K mg base (k + 1) f fd ps sp := by
  obtain ⟨oc, od, dV, kV, doc, pm, an, cdv, ct, osl, rfl, lk, hcd, _, _⟩ := Fd.ex
  refine ⟨len, fun A outer s H args us vs Q E hr hgd e0 hbt r hsp => ?_⟩
  have hl := len _ _ _ _ hsp
  have kp : ∀ b o, base.get? b = some o → s.heap.get? b = some o := fun b o e => (e0.bs b o e).1
  refine codeAny_call_function hr.depth (e0.mod.kin.keeps kp _ _ lk) rfl S.co S.gen rfl (PySem.W.codeRec_of (e0.mod.kin.keeps kp) hcd) (hbt _ _ _ _ ?_)
  refine wpAny_newFunctionEnv_cells S.kind (fun ⟨n, v⟩ hy => (S.par n (List.of_mem_zip hy).1).imp id fun q => ⟨q, PySem.W.cellsFrom_some _ _ _ (.inl q)⟩) fun env he s1 x => ?_
  subst he
  refine ⟨(e0.mod.nolimit.keeps kp).keeps x.toInCall.keep, codeAny_func ?_⟩
  obtain ⟨t, ht, hq⟩ := hbody cdv A outer s H vs Q E (hr.deeper _) hgd hsp
  have I := inv_start (CX := CX P w) (E := E) S hr.hd e0 hl r x
  refine wpAny_mono (ht.run [] s1 (start N vs) H _ I hq) (fun fl s' hs => ?_) fun e s' hs => hs
  cases fl with
  | ret u =>
    obtain ⟨v, σ', H', J, rv, q⟩ := hs
    exact ⟨v, H', J.os, J.bare, J.base, J.hok, rv, q⟩
  | next =>
    obtain ⟨σ', H', J, q⟩ := hs
    exact ⟨V.non, H', J.os, J.bare, J.base, J.hok, rfl, q⟩
  | brk => exact let ⟨_, _, _, q⟩ := hs; False.elim q
  | cont => exact let ⟨_, _, _, q⟩ := hs; False.elim q
def bet0 : List Bool → List V → Nat → List (Option V)
  | [], _, n => List.replicate n none
  | b :: bs, v :: vs, n + 1 => (if b then some v else none) :: bet0 bs vs n
  | _, _, n => List.replicate n none
theorem envR_nos {g : Gh} {F H : Hp} : ∀ n : Nat, EnvR g F H (List.replicate n .no) (List.replicate n none) (List.replicate n none) []
  | 0 => ⟨rfl, rfl, rfl⟩
  | n + 1 => ⟨none, List.replicate n none, none, List.replicate n none, [], [], rfl, rfl, rfl, rfl, envR_nos n⟩
theorem envR_start {g : Gh} {F H : Hp} : ∀ (bs : List Bool) (ds : List D) (vs : List V) (P : List Addr) (n : Nat), Reps g F H ds vs P → bs.length ≤ vs.length → vs.length ≤ n → EnvR g F H (env0 bs ds n) (vs.map some ++ List.replicate (n - vs.length) none) (bet0 bs vs n) P
  | bs, [], vs, P, n, r, hl, hn => by
    obtain ⟨e1, e2⟩ := r
    subst e1 e2
    cases bs with
    | nil => simpa [env0, bet0] using envR_nos (g := g) (F := F) (H := H) n
    | cons b bs => cases hl
  | bs, d :: ds, vs, P, 0, r, hl, hn => by
    obtain ⟨v, vr, P1, P2, h1, h2, h3, h4⟩ := r
    subst h1
    simp at hn
  | [], d :: ds, vs, P, n + 1, r, hl, hn => by
    obtain ⟨v, vr, P1, P2, h1, h2, h3, h4⟩ := r
    subst h1
    have ih := envR_start [] ds vr P2 n h4 (Nat.zero_le _) (by simpa using hn)
    have eb : bet0 [] vr n = List.replicate n none := by cases n <;> rfl
    rw [eb] at ih
    exact ⟨some v, vr.map some ++ List.replicate (n - vr.length) none, none, List.replicate n none, P1, P2, by simp, rfl, h2, ⟨v, rfl, h3⟩, ih⟩
  | b :: bs, d :: ds, vs, P, n + 1, r, hl, hn => by
    obtain ⟨v, vr, P1, P2, h1, h2, h3, h4⟩ := r
    subst h1
    have ih := envR_start bs ds vr P2 n h4 (by simpa using hl) (by simpa using hn)
    refine ⟨some v, vr.map some ++ List.replicate (n - vr.length) none, if b then some v else none, bet0 bs vr n, P1, P2, by simp, rfl, h2, ?_, ih⟩
    cases b with
    | true => exact ⟨v, rfl, rfl, h3⟩
    | false => exact ⟨v, rfl, h3⟩
theorem envR_outs {g : Gh} {F H : Hp} : ∀ (bs : List Bool) (ε : Ev) (σ : L2.St) (vs : List V) (P : List Addr) (n : Nat) (os : List D), EnvR g F H ε σ (bet0 bs vs n) P → bs.length ≤ vs.length → vs.length ≤ n → outs bs ε = some os → ∃ Ro, Ro.Sublist P ∧ Reps g F H os (pick bs vs) Ro
  | [], ε, σ, vs, P, n, os, en, hl, hn, e => by
    cases e
    exact ⟨[], List.nil_sublist P, by cases vs <;> rfl, rfl⟩
  | b :: bs, ε, σ, [], P, n, os, en, hl, hn, e => by cases hl
  | b :: bs, ε, σ, v :: vs, P, 0, os, en, hl, hn, e => by simp at hn
  | b :: bs, [], σ, v :: vs, P, n + 1, os, en, hl, hn, e => by cases b <;> cases e
  | true :: bs, .bor d :: ε, σ, v :: vs, P, n + 1, os, ⟨x, σr, b, βr, P1, P2, h1, h2, h3, ⟨v', hx, hb, hr⟩, h5⟩, hl, hn, e => by
    have e' : (outs bs ε).map (d :: ·) = some os := e
    obtain ⟨os', e1, e2⟩ := Option.map_eq_some_iff.mp e'
    subst e2
    have h2' : some v :: bet0 bs vs n = b :: βr := h2
    obtain ⟨eb, eβ⟩ := List.cons.inj h2'
    subst eβ
    rw [← eb] at hb
    cases hb
    obtain ⟨Ro, sb, rr⟩ := envR_outs bs ε σr vs P2 n os' h5 (by simpa using hl) (by simpa using hn) e1
    exact ⟨P1 ++ Ro, by rw [h3]; exact List.Sublist.append (List.Sublist.refl P1) sb, v, pick bs vs, P1, Ro, rfl, rfl, hr, rr⟩
  | true :: bs, .no :: ε, σ, v :: vs, P, n + 1, os, en, hl, hn, e => by cases e
  | true :: bs, .val _ :: ε, σ, v :: vs, P, n + 1, os, en, hl, hn, e => by cases e
  | false :: bs, s :: ε, σ, v :: vs, P, n + 1, os, ⟨x, σr, b, βr, P1, P2, h1, h2, h3, h4, h5⟩, hl, hn, e => by
    have h2' : none :: bet0 bs vs n = b :: βr := h2
    obtain ⟨eb, eβ⟩ := List.cons.inj h2'
    subst eβ
    obtain ⟨Ro, sb, rr⟩ := envR_outs bs ε σr vs P2 n os h5 (by simpa using hl) (by simpa using hn) (by simpa [outs] using e)
    exact ⟨Ro, by rw [h3]; exact sb.trans (List.sublist_append_right P1 P2), rr⟩
theorem cres_ok {g : Gh} {bs : List Bool} {fb : FS} {N : List Str} {vs : List V} {F H : Hp} {ds : List D} {P : List Addr} {Q : VK} {E : XK} (hn : vs.length ≤ N.length) (hl : bs.length ≤ vs.length) (rr : Reps g F H ds vs P) (st : Stp F H P F H P)
    (po : PostC g bs vs F H P ((fb (env0 bs ds N.length)).cres bs) Q E) : rdS g (bet0 bs vs N.length) (fun c d _ H' => E c d H') fb { nx := fun _ H' => Q .non H', rt := Q } (start N vs) H := by
  refine ⟨F, env0 bs ds N.length, P, envR_start bs ds vs P N.length rr hl hn, st, ?_⟩
  unfold Out.cres at po
  cases e : fb (env0 bs ds N.length) with
  | nx ε =>
    rw [e] at po
    intro σ' H' F' P' en' st'
    simp only at po
    cases e1 : outs bs ε with
    | none => rw [e1] at po; exact po.elim
    | some os =>
      rw [e1] at po
      obtain ⟨Ro, sb, ro⟩ := envR_outs bs ε σ' vs P' N.length os en' hl hn e1
      exact po .non H' F' [] Ro ⟨rfl, rfl⟩ ro (st'.drop sb)
  | rt d ε =>
    rw [e] at po
    intro v σ' H' F' R P' rl en' st'
    simp only at po
    cases e1 : outs bs ε with
    | none => rw [e1] at po; exact po.elim
    | some os =>
      rw [e1] at po
      obtain ⟨Ro, sb, ro⟩ := envR_outs bs ε σ' vs P' N.length os en' hl hn e1
      exact po v H' F' R Ro rl ro (st'.drop (List.Sublist.append (List.Sublist.refl R) sb))
  | exc c fs xs ε =>
    rw [e] at po
    intro σ' dx ws H' F' P' h1 h2 h3 en' st'
    simp only at po
    cases e1 : outs bs ε with
    | none => rw [e1] at po; exact po.elim
    | some os =>
      rw [e1] at po
      obtain ⟨Ro, sb, ro⟩ := envR_outs bs ε σ' vs P' N.length os en' hl hn e1
      exact po dx ws H' F' Ro h1 h2 h3 ro (st'.drop sb)
  | bk ε => rw [e] at po; exact po.elim
  | ct ε => rw [e] at po; exact po.elim
  | bad => rw [e] at po; exact po.elim
section
variable {gd : Bool} {P : Program} {w : World} {K : PySem.W.Frag} {mg : Str → Option Value} {base : Heap} {cl : Nat → Addr} {x qual : Str} {params : Arguments} {body : List Stmt} {scope : Scope} {dvs : List V} {kws : List (Str × V)} {f : Addr} {fd : FuncData} {N ps : List Str} {k : Nat} {bs : List Bool} {fb : FS}
theorem fd_ok (Fd : FunD K x qual params body scope dvs kws f fd) (S : FnScope N ps scope) (hn : ps.length ≤ N.length)
    (hbody : ∀ (cdv : Value) (A : Around) (outer : List Env) (s : Shared) (H : Hp) (β : List (Option V)) (E : XK), Room k (A.deeper (envOfC qual scope s.heap.objs.size f cdv)) → (gd = true → (A.deeper (envOfC qual scope s.heap.objs.size f cdv)).guards = some []) →
      SSs (cxOf (CX P w) P w K mg base N qual scope f cdv A outer s H E) cl β (fun c d _ H' => E c d H') body fb) : FnQ gd P w K mg base (k + 1) f fd ps (spD ⟨K, cl, w⟩ bs (runB ps.length N.length bs fb)) := by
  have key : ∀ vs H Q E, spD ⟨K, cl, w⟩ bs (runB ps.length N.length bs fb) vs H Q E → vs.length = ps.length ∧ bs.length ≤ vs.length ∧ ∃ F ds P, Reps ⟨K, cl, w⟩ F H ds vs P ∧ Stp F H P F H P ∧ PostC ⟨K, cl, w⟩ bs vs F H P ((fb (env0 bs ds N.length)).cres bs) Q E := by
    rintro vs H Q E ⟨h1, F, ds, P, rr, st, po⟩
    unfold runB at po
    split at po
    · rename_i hl
      exact ⟨(Reps.length _ _ _ rr).symm.trans hl, h1, F, ds, P, rr, st, po⟩
    · exact po.elim
  refine fd_okQ Fd S (fun vs H Q E h => (key vs H Q E h).1) fun cdv A outer s H vs Q E hr hg h => ⟨_, hbody cdv A outer s H (bet0 bs vs N.length) E hr hg, ?_⟩
  obtain ⟨h1, h2, F, ds, P, rr, st, po⟩ := key vs H Q E h
  exact cres_ok (by omega) h2 rr st po
end
section
variable {g : Gh} {F H : Hp} {β : List (Option V)} {σ : L2.St}
theorem takeA_ok : ∀ (bs : List Bool) (as : List AD) (ε : Ev) (vs : List V) (R P : List Addr) (ds : List D) (ε' : Ev), relA g σ F H as vs R → EnvR g F H ε σ β P → takeA bs as ε = some (ds, ε') →
    bs.length ≤ vs.length ∧ ∃ Pd P', Reps g F H ds vs Pd ∧ EnvR g F H ε' σ β P' ∧ (R ++ P).Perm (Pd ++ P')
  | [], [], ε, vs, R, P, ds, ε', r, en, e => by
    cases e
    obtain ⟨r1, r2⟩ := r
    subst r1 r2
    exact ⟨Nat.le_refl _, [], P, ⟨rfl, rfl⟩, en, List.Perm.refl _⟩
  | [], .v d :: as, ε, vs, R, P, ds, ε', ⟨v, vr, R1, R2, h1, h2, h3, h4⟩, en, e => by
    obtain ⟨⟨ds', ε1⟩, e1, e2⟩ := Option.map_eq_some_iff.mp (show (takeA [] as ε).map (fun p => (d :: p.1, p.2)) = some (ds, ε') from e)
    cases e2
    obtain ⟨hl, Pd, P', q1, q2, q3⟩ := takeA_ok [] as ε vr R2 P ds' ε1 h4 en e1
    subst h1 h2
    exact ⟨Nat.zero_le _, R1 ++ Pd, P', ⟨v, vr, R1, Pd, rfl, rfl, h3, q1⟩, q2, by rw [List.append_assoc, List.append_assoc]; exact List.Perm.append_left R1 q3⟩
  | false :: bs, .v d :: as, ε, vs, R, P, ds, ε', ⟨v, vr, R1, R2, h1, h2, h3, h4⟩, en, e => by
    obtain ⟨⟨ds', ε1⟩, e1, e2⟩ := Option.map_eq_some_iff.mp (show (takeA bs as ε).map (fun p => (d :: p.1, p.2)) = some (ds, ε') from e)
    cases e2
    obtain ⟨hl, Pd, P', q1, q2, q3⟩ := takeA_ok bs as ε vr R2 P ds' ε1 h4 en e1
    subst h1 h2
    exact ⟨by simpa using hl, R1 ++ Pd, P', ⟨v, vr, R1, Pd, rfl, rfl, h3, q1⟩, q2, by rw [List.append_assoc, List.append_assoc]; exact List.Perm.append_left R1 q3⟩
  | true :: bs, .v d :: as, ε, vs, R, P, ds, ε', ⟨v, vr, R1, R2, h1, h2, h3, h4⟩, en, e => by
    obtain ⟨⟨ds', ε1⟩, e1, e2⟩ := Option.map_eq_some_iff.mp (show (takeA bs as ε).map (fun p => (d :: p.1, p.2)) = some (ds, ε') from e)
    cases e2
    obtain ⟨hl, Pd, P', q1, q2, q3⟩ := takeA_ok bs as ε vr R2 P ds' ε1 h4 en e1
    subst h1 h2
    exact ⟨by simpa using hl, R1 ++ Pd, P', ⟨v, vr, R1, Pd, rfl, rfl, h3, q1⟩, q2, by rw [List.append_assoc, List.append_assoc]; exact List.Perm.append_left R1 q3⟩
  | true :: bs, .b j :: as, ε, vs, R, P, ds, ε', ⟨v, vr, h1, h2, h3⟩, en, e => by
    have go : ∀ (s : SV) (d : D) (x b : Option V) (P1 A B : List Addr), ε[j]? = some s → σ[j]? = some x → P = A ++ P1 ++ B → x = some v → Rep g F H d v P1 → EnvR g F H (ε.set j .no) σ β (A ++ [] ++ B) → (takeA bs as (ε.set j .no)).map (fun p => (d :: p.1, p.2)) = some (ds, ε') →
        (true :: bs).length ≤ vs.length ∧ ∃ Pd P', Reps g F H ds vs Pd ∧ EnvR g F H ε' σ β P' ∧ (R ++ P).Perm (Pd ++ P') := fun s d x b P1 A B k1 k2 k3 k4 k5 k6 k7 => by
      obtain ⟨⟨ds', ε1⟩, e1, e2⟩ := Option.map_eq_some_iff.mp k7
      cases e2
      obtain ⟨hl, Pd, P', q1, q2, q3⟩ := takeA_ok bs as _ vr R (A ++ [] ++ B) ds' ε1 h3 k6 e1
      subst h1
      refine ⟨by simpa using hl, P1 ++ Pd, P', ⟨v, vr, P1, Pd, rfl, rfl, k5, q1⟩, q2, ?_⟩
      rw [k3, List.append_assoc P1]
      refine List.Perm.trans ?_ (List.Perm.append_left P1 q3)
      rw [List.append_nil]
      have z : (A ++ P1 ++ B).Perm (P1 ++ (A ++ B)) := (perm_mid P1 A B).symm
      refine (List.Perm.append_left R z).trans ?_
      rw [← List.append_assoc, ← List.append_assoc P1]
      exact List.Perm.append_right _ List.perm_append_comm
    unfold takeA at e
    split at e
    · rename_i d hd
      obtain ⟨x, b, A, P1, B, k1, k2, k3, ⟨v', hv, hr⟩, k5⟩ := en.at _ _ _ _ _ _ hd
      have ex : x = some v := by
        rw [k1] at h2
        cases h2
        rfl
      subst ex
      cases hv
      have en' := k5 F H .no (some v) [] (fun _ _ z => z) (fun _ _ => rfl) rfl
      rw [set_same k1] at en'
      exact go _ d _ b P1 A B hd k1 k3 rfl hr en' e
    · rename_i d hd
      obtain ⟨x, b, A, P1, B, k1, k2, k3, ⟨v', hv, hb, hr⟩, k5⟩ := en.at _ _ _ _ _ _ hd
      have ex : x = some v := by
        rw [k1] at h2
        cases h2
        rfl
      subst ex
      cases hv
      have en' := k5 F H .no (some v) [] (fun _ _ z => z) (fun _ _ => rfl) rfl
      rw [set_same k1] at en'
      exact go _ d _ b P1 A B hd k1 k3 rfl hr en' e
    · cases e
  | [], .b _ :: _, _, _, _, _, _, _, _, _, e => by simp [takeA] at e
  | false :: _, [], _, _, _, _, _, _, _, _, e => by simp [takeA] at e
  | true :: _, [], _, _, _, _, _, _, _, _, e => by simp [takeA] at e
  | false :: _, .b _ :: _, _, _, _, _, _, _, _, _, e => by simp [takeA] at e
theorem giveA_ok {ε0 : Ev} (hk : Kept σ β ε0) {F0 H0 : Hp} : ∀ (bs : List Bool) (as : List AD) (vs : List V) (R0 : List Addr) (os : List D) (ε ε' : Ev) (Ro P : List Addr), relA g σ F0 H0 as vs R0 → Reps g F H os (pick bs vs) Ro → EnvR g F H ε σ β P → giveA ε0 bs as os ε = some ε' →
    ∃ P' L : List Addr, (P' ++ L).Perm (Ro ++ P) ∧ EnvR g F H ε' σ β P'
  | [], as, vs, R0, os, ε, ε', Ro, P, r, rr, en, e => by
    cases os with
    | cons o os => simp [giveA] at e
    | nil =>
      cases e
      exact ⟨P, Ro, List.perm_append_comm, en⟩
  | false :: bs, .v d :: as, vs, R0, os, ε, ε', Ro, P, ⟨v, vr, R1, R2, h1, h2, h3, h4⟩, rr, en, e => by
    subst h1
    exact giveA_ok hk bs as vr R2 os ε ε' Ro P h4 rr en e
  | true :: bs, .v d :: as, vs, R0, os, ε, ε', Ro, P, ⟨v, vr, R1, R2, h1, h2, h3, h4⟩, rr, en, e => by
    subst h1
    cases os with
    | nil => simp [giveA] at e
    | cons o os =>
      obtain ⟨w, wr, Q1, Q2, q1, q2, q3, q4⟩ := rr
      have q1' : v :: pick bs vr = w :: wr := q1
      obtain ⟨ew, er⟩ := List.cons.inj q1'
      subst er
      obtain ⟨P', L, s2, s3⟩ := giveA_ok hk bs as vr R2 os ε ε' Q2 P h4 q4 en e
      refine ⟨P', L ++ Q1, ?_, s3⟩
      rw [q2, ← List.append_assoc, List.append_assoc Q1]
      exact List.perm_append_comm.trans (List.Perm.append_left Q1 s2)
  | true :: bs, .b j :: as, vs, R0, os, ε, ε', Ro, P, ⟨v, vr, h1, h2, h3⟩, rr, en, e => by
    subst h1
    cases os with
    | nil => simp [giveA] at e
    | cons o os =>
      obtain ⟨w, wr, Q1, Q2, q1, q2, q3, q4⟩ := rr
      have q1' : v :: pick bs vr = w :: wr := q1
      obtain ⟨ew, er⟩ := List.cons.inj q1'
      subst er ew
      have go : ∀ s' : SV, ε[j]? = some .no → (∀ (x b : Option V), σ[j]? = some x → β[j]? = some b → Slt g F H s' (some v) b Q1) → giveA ε0 bs as os (ε.set j s') = some ε' → ∃ P' L : List Addr, (P' ++ L).Perm (Ro ++ P) ∧ EnvR g F H ε' σ β P' := fun s' hn hs he => by
        obtain ⟨x, b, A, P1, B, k1, k2, k3, k4, k5⟩ := en.at _ _ _ _ _ _ hn
        have ex : x = some v := by
          rw [k1] at h2
          cases h2
          rfl
        subst ex
        have k4 : P1 = [] := k4
        subst k4
        have en' := k5 F H s' (some v) Q1 (fun _ _ z => z) (fun _ _ => rfl) (hs _ b k1 k2)
        rw [set_same k1] at en'
        obtain ⟨P', L, s2, s3⟩ := giveA_ok hk bs as vr R0 os _ ε' Q2 _ h3 q4 en' he
        -- reorder
        have pm : (Q2 ++ (A ++ Q1 ++ B)).Perm (Ro ++ P) := by
          rw [q2, k3, List.append_nil]
          refine (List.Perm.append_left Q2 (perm_mid Q1 A B).symm).trans ?_
          rw [← List.append_assoc]
          exact List.Perm.append_right _ List.perm_append_comm
        exact ⟨P', L, s2.trans pm, s3⟩
      unfold giveA at e
      split at e
      · rename_i a1 a2
        exact go (.val o) a2 (fun x b kx kb => ⟨v, rfl, q3⟩) e
      · rename_i a1 a2
        refine go (.bor o) a2 (fun x b kx kb => ⟨v, rfl, ?_, q3⟩) e
        obtain ⟨v', z1, z2⟩ := hk j _ a1
        rw [h2] at z1
        cases z1
        rw [z2] at kb
        cases kb
        rfl
      · cases e
  | false :: _, [], _, _, _, _, _, _, _, _, _, _, e => by simp [giveA] at e
  | true :: _, [], _, _, _, _, _, _, _, _, _, _, e => by simp [giveA] at e
  | false :: _, .b _ :: _, _, _, _, _, _, _, _, _, _, _, e => by simp [giveA] at e
end
end Nb
namespace Nb
open PySem PySem.Spec PyProof.Rows L2
section
variable {g : Gh} {β : List (Option V)} {W : WX} {σ : L2.St}
theorem call_sp {α ν : Type} {rel : Hp → Hp → α → ν → List Addr → Prop} {F H F1 H1 : Hp} {P P1 R1 : List Addr} {bs : List Bool} {run : List D → CRes} {as : List AD} {vs : List V} {ε1 : Ev} {k : D → Ev → Res α} {Q : ν → Hp → Prop} {Q2 : VK}
    (r1 : relA g σ F1 H1 as vs R1) (en1 : EnvR g F1 H1 ε1 σ β P1) (st1 : Stp F H P F1 H1 (R1 ++ P1)) (po : PostR g β W σ rel F H P ((callR bs run as ε1).bind k) Q)
    (hk : ∀ d ε3 v H2 F2 R2 P2, Rep g F2 H2 d v R2 → EnvR g F2 H2 ε3 σ β P2 → Stp F H P F2 H2 (R2 ++ P2) → PostR g β W σ rel F H P (k d ε3) Q → Q2 v H2) : spD g bs run vs H1 Q2 (fun c d H' => W c d σ H') := by
  unfold callR at po
  cases e1 : takeA bs as ε1 with
  | none => rw [e1] at po; exact po.elim
  | some p =>
    obtain ⟨ds, ε2⟩ := p
    rw [e1] at po
    simp only at po
    obtain ⟨hl, Pd, P', rd, en2, pm⟩ := takeA_ok bs as ε1 vs R1 P1 ds ε2 r1 en1 e1
    have st2 : Stp F H P F1 H1 (P' ++ Pd) := st1.perm (pm.trans List.perm_append_comm)
    refine ⟨hl, F1, ds, Pd, rd, (st2.drop (List.sublist_append_right P' Pd)).base, ?_⟩
    have kept := EnvR.kept en1
    have alP := EnvR.alive _ _ _ _ en2
    cases e2 : run ds with
    | bad => rw [e2] at po; exact po.elim
    | ok d os =>
      rw [e2] at po
      simp only at po
      intro v H' F' R Ro q1 q2 q3
      cases e3 : giveA ε1 bs as os ε2 with
      | none => rw [e3] at po; exact po.elim
      | some ε3 =>
        rw [e3] at po
        obtain ⟨c, same⟩ := st2.carry alP q3
        obtain ⟨P'', L, pm2, en3⟩ := giveA_ok kept bs as vs R1 os ε2 ε3 Ro P' r1 q2 (EnvR.move q3.sub _ _ _ _ same en2) e3
        have c2 : Stp F H P F' H' (R ++ (P'' ++ L)) := c.perm (by
          refine List.perm_append_comm.trans ?_
          rw [List.append_assoc]
          exact List.Perm.append_left R pm2.symm)
        exact hk d ε3 v H' F' R P'' q1 en3 (c2.drop (List.Sublist.append (List.Sublist.refl R) (List.sublist_append_left P'' L))) po
    | exc cc fs xs os =>
      rw [e2] at po
      simp only at po
      intro dx ws H' F' Ro q1 q2 q3 q4 q5
      cases e3 : giveA ε1 bs as os ε2 with
      | none => rw [e3] at po; exact po.elim
      | some ε3 =>
        rw [e3] at po
        obtain ⟨c, same⟩ := st2.carry alP q5
        obtain ⟨P'', L, pm2, en3⟩ := giveA_ok kept bs as vs R1 os ε2 ε3 Ro P' r1 q4 (EnvR.move q5.sub _ _ _ _ same en2) e3
        have c2 : Stp F H P F' H' (P'' ++ L) := c.perm (List.perm_append_comm.trans pm2.symm)
        exact po dx ws H' F' P'' q1 q2 q3 en3 (c2.drop (List.sublist_append_left P'' L))
end
def CallD (P : Program) (w : World) (K : PySem.W.Frag) (mg : Str → Option Value) (base : Heap) (cl : Nat → Addr) (gd : Bool) (k : Nat) (x : Str) (bs : List Bool) (run : List D → CRes) : Prop :=
  ∃ f, FnG gd P w K mg base k f (spD ⟨K, cl, w⟩ bs run) ∧ mg x = some (.ref f) ∧ PySem.W.keepIn K (.ref f) = true
section
variable {X : Cx} {cl : Nat → Addr} {β : List (Option V)} {W : WX} {pos : Pos} {a b c : Expr} {fa fb fc : FE}
theorem run_fnG {pins : List (Addr × Obj)} {s : Shared} {σ : L2.St} {H : Hp} {gd : Bool} {k : Nat} {f : Addr} {sp : Sp} {Q : VK} {us : List Value} {vs : List V} (G : FnG gd X.prog X.w X.K X.mg X.base k f sp) (hr : Room k X.A) (hgd : gd = true → X.A.guards = some []) (tk : Takes X W) (I : Inv X pins σ H s) (r : Vals vs us)
    (h : sp vs H Q (fun c d H' => W c d σ H')) : codeAny (model X.prog X.w) X.A (.call (.ref f) ⟨us, []⟩) (fun r s' => match r with | .ok (.ret v) => EP X pins σ Q v s' | .ok _ => False | .error e => X.xe e s') s := by
  refine codeAny_mono (G X.A X.stack s H us vs Q _ hr hgd I.env0 r h) fun r s' hq => ?_
  cases r with
  | error e => exact tk e s' (XE.of_call I (fun cls d H' h => h) hq)
  | ok fl =>
    cases fl with
    | ret u => exact I.after hq
    | next => exact False.elim hq
    | brk => exact False.elim hq
    | cont => exact False.elim hq
theorem bind_ok (r : Res D) : r.bind (fun d ε => .ok d ε) = r := by cases r <;> rfl
theorem rd_call {bs : List Bool} {run : List D → CRes} {fs : FA} {σ : L2.St} {H : Hp} {Q : VK} (h : rdE X cl β W (fCall bs run fs) σ H Q) : rdA X cl β W fs σ H fun vs H1 => spD (gx X cl) bs run vs H1 Q (fun c d H' => W c d σ H') :=
  rdR.bind (rel := relA (gx X cl) σ) h fun F P as ε1 vs H1 F1 R1 P1 r1 en1 st1 po1 => by
    rw [← bind_ok (callR bs run as ε1)] at po1
    exact call_sp r1 en1 st1 po1 fun d ε3 v H2 F2 R2 P2 q1 q2 q3 q4 => q4 v H2 F2 R2 P2 q1 q2 q3
variable {gd : Bool} {k kx : Nat} {bs : List Bool} {run : List D → CRes} {x : Str} {p : Pos} {e : Expr} {es : List Expr} {fs : FA}
theorem se_call (C : CallD X.prog X.w X.K X.mg X.base cl gd k x bs run) (hr : Room k X.A) (hgd : gd = true → X.A.guards = some []) (tk : Takes X W) (hg : Gl X x) (ha : SA X cl β W (e :: es) fs) (hdb : (x == ("__debug__" : Str)) = false := by decide)
    (he : starEach (e :: es) X.env = (false, eval e X.env) :: starEach es X.env := by rfl) (hpl : (backTo pos (starEach es X.env)).any (·.1) = false := by rfl) : SE X cl β W (.Call (.Name x p) (e :: es) [] pos) (fCall bs run fs) := by
  obtain ⟨f, G, hm, hk⟩ := C
  refine ⟨fun pins s σ H Q I h => ?_⟩
  refine wpAny_Call_Name_kw (ld_glob I hg hm ?_ hdb)
  refine PySem.W.callWith_K (h₀ := X.base) I.ok.mod.kin hk (thn (ha.run pos pins s σ H _ I (rd_call h)) fun us s1 ⟨vs, H1, I1, r, q⟩ => ⟨I1.kIn, ?_⟩) he hpl
  exact wpAny_call (run_fnG G hr hgd tk I1 r q)
theorem takes_blk {s : Shared} {H : Hp} {scope : Scope} {cenv : Env} {fp : List Addr} : Takes (X.blk s H scope cenv fp) WF := fun u s' ⟨_, _, _, _, _, _, _, _, _, _, _, _, _, _, _, _, w⟩ => w.elim
end
end Nb
namespace Nb
open PySem PySem.Spec PyProof.Rows L2
def lookD (f : Str) : List Str → List D → Option D
  | k :: fs, d :: ds => if f = k then some d else lookD f fs ds
  | _, _ => none
section
variable {g : Gh} {F H : Hp}
theorem putK_eq (k : Key) (y : V) : ∀ kvs : List (Key × V), (∀ p ∈ kvs, p.1 ≠ k) → putK kvs k y = kvs ++ [(k, y)] := fun kvs h => by
  unfold putK
  rw [if_neg]
  intro z
  obtain ⟨p, hp, e⟩ := List.any_eq_true.mp z
  exact h p hp (of_decide_eq_true e)
theorem apart_cons {k : Key} {ks : List Key} (h : apart (k :: ks) = true) : k ∉ ks ∧ apart ks = true := by
  have := Bool.and_eq_true_iff.mp h
  refine ⟨fun z => ?_, this.2⟩
  rw [List.any_eq_true.mpr ⟨k, z, decide_eq_true rfl⟩] at this
  exact absurd this.1 (by decide)
theorem Reps.putK {k : Key} {d : D} {y : V} {R : List Addr} (hd : Rep g F H d y R) : ∀ (ks : List Key) (ds : List D) (vs : List V) (P : List Addr), Reps g F H ds vs P → ks.length = vs.length → apart ks = true →
    ∃ vs' P' L, putK (ks.zip vs) k y = (putKD k d ks ds).1.zip vs' ∧ (putKD k d ks ds).1.length = vs'.length ∧ Reps g F H (putKD k d ks ds).2 vs' P' ∧ (P' ++ L).Perm (P ++ R)
  | [], ds, vs, P, r, hl, _ => by
    have e : vs = [] := List.length_eq_zero_iff.mp hl.symm
    subst e
    cases ds with
    | cons d0 ds =>
      obtain ⟨v, vr, _, _, h1, _⟩ := r
      cases h1
    | nil =>
      have e := r.2
      subst e
      exact ⟨[y], R, [], rfl, rfl, ⟨y, [], R, [], rfl, (List.append_nil R).symm, hd, rfl, rfl⟩, by simp⟩
  | j :: ks, [], vs, P, r, hl, _ => by
    have e := r.1
    subst e
    cases hl
  | j :: ks, d0 :: ds, vs, P, ⟨v, vr, P1, P2, h1, h2, h3, h4⟩, hl, ap => by
    subst h1
    obtain ⟨a1, a2⟩ := apart_cons ap
    by_cases q : j = k
    · have e1 : putKD k d (j :: ks) (d0 :: ds) = (j :: ks, d :: ds) := by unfold putKD; rw [if_pos q]
      rw [e1]
      refine ⟨y :: vr, R ++ P2, P1, ?_, by simpa using hl, ⟨y, vr, R, P2, rfl, rfl, hd, h4⟩, ?_⟩
      · show (if ((j, v) :: ks.zip vr).any (fun kv => decide (kv.1 = k)) = true then ((j, v) :: ks.zip vr).map (fun kv => if kv.1 = k then (kv.1, y) else kv) else _) = (j, y) :: ks.zip vr
        rw [if_pos (by rw [List.any_cons, decide_eq_true q]; rfl), List.map_cons, if_pos q]
        congr 1
        have : ∀ p ∈ ks.zip vr, (if p.1 = k then (p.1, y) else p) = p := fun p hp => if_neg fun z => a1 (by rw [q, ← z]; exact (List.of_mem_zip (show (p.1, p.2) ∈ ks.zip vr from hp)).1)
        rw [List.map_congr_left this, List.map_id']
      · rw [h2, List.append_assoc, List.append_assoc]
        refine (List.Perm.append_left R List.perm_append_comm).trans ?_
        rw [← List.append_assoc P1]
        exact List.perm_append_comm
    · obtain ⟨vs', P', L, g1, g2, g3, g4⟩ := Reps.putK hd ks ds vr P2 h4 (by simpa using hl) a2
      have e1 : putKD k d (j :: ks) (d0 :: ds) = (j :: (putKD k d ks ds).1, d0 :: (putKD k d ks ds).2) := by
        show (if j = k then _ else _) = _
        rw [if_neg q]
      rw [e1]
      refine ⟨v :: vs', P1 ++ P', L, ?_, by simpa using g2, ⟨v, vs', P1, P', rfl, rfl, h3, g3⟩, ?_⟩
      · have g1' : L2.putK ((j, v) :: ks.zip vr) k y = (j, v) :: L2.putK (ks.zip vr) k y := by
          unfold L2.putK
          rw [List.any_cons, decide_eq_false q, Bool.false_or, List.map_cons, if_neg q]
          by_cases z : (ks.zip vr).any (fun kv => decide (kv.1 = k)) = true
          · rw [if_pos z, if_pos z]
          · rw [if_neg z, if_neg z]
            rfl
        show L2.putK ((j, v) :: ks.zip vr) k y = _
        rw [g1', g1]
        rfl
      · rw [h2, List.append_assoc, List.append_assoc]
        exact List.Perm.append_left P1 g4
theorem Rep.dicAt {o : Bool} {ks : List Key} {ds : List D} {v : V} {P : List Addr} (t : Exh F H) (h : Rep g F H (.dic o ks ds) v P) : ∃ p vs P2, v = .ref p ∧ H p = some (.dK (ks.zip vs)) ∧ ks.length = vs.length ∧ Reps g F H ds vs P2 := by
  cases o with
  | true =>
    obtain ⟨p, vs, P2, h1, h2, hl, h3, h4⟩ := h
    exact ⟨p, vs, P2, h1, h2, hl, h4⟩
  | false =>
    obtain ⟨p, vs, h1, h2, hl, h3, h4⟩ := h
    exact ⟨p, vs, [], h1, t _ _ h2, hl, h4⟩
end
def rdK (g : Gh) (β : List (Option V)) (q : Ev → Option D) : TE := fun σ H Q => ∃ F ε P d, EnvR g F H ε σ β P ∧ Exh F H ∧ q ε = some d ∧ ∀ v P1, Rep g F H d v P1 → Q v H
abbrev SQ (X : Cx) (cl : Nat → Addr) (β : List (Option V)) (e : Expr) (q : Ev → Option D) : Prop := PE X e (rdK (gx X cl) β q)
theorem _root_.L2.PE.or {X : Cx} {e : Expr} {t t' : TE} (h : PE X e t) (h' : PE X e t') : PE X e (fun σ H Q => t σ H Q ∨ t' σ H Q) := ⟨fun pins s σ H Q I q => q.elim (h.run pins s σ H Q I) (h'.run pins s σ H Q I)⟩
section
variable {X : Cx} {cl : Nat → Addr} {β : List (Option V)} {W : WX} {pos : Pos} {a b c : Expr} {fa fb fc : FE} {qa qb : Ev → Option D}
theorem sq_var (i : Nat) {x : Str} {p : Pos} (hN : X.N[i]? = some x := by rfl) (hv : Vis X.env.scope x := by first | exact Or.inl rfl | exact Or.inr (Or.inl rfl) | exact Or.inr (Or.inr rfl)) (hd : (x == ("__debug__" : Str)) = false := by decide)
    (hcd : (x == ("__classdict__" : Str)) = false := by decide) : SQ X cl β (.Name x p) (qV i) := (pv i hN hv hd hcd).mono fun σ H Q ⟨F, ε, P, d, en, t, e, q⟩ => by
  unfold qV at e
  split at e
  · rename_i d' hd'
    cases e
    obtain ⟨x, b, A, P1, B, h1, h2, h3, ⟨v, hv, hr⟩, h5⟩ := en.at _ _ _ _ _ _ hd'
    subst hv
    exact ⟨v, h1, q v P1 hr⟩
  · rename_i d' hd'
    cases e
    obtain ⟨x, b, A, P1, B, h1, h2, h3, ⟨v, hv, hb, hr⟩, h5⟩ := en.at _ _ _ _ _ _ hd'
    subst hv
    exact ⟨v, h1, q v P1 hr⟩
  · cases e
theorem sq_str {i : Str} {j : Nat} : SQ X cl β (.Constant (.str i) j pos) (qC (.str i)) := pe_str.mono fun σ H Q ⟨F, ε, P, d, en, t, e, q⟩ => by
  cases e
  exact q (.str i) [] ⟨rfl, rfl⟩
def qNeg (qa : QD) : QD := fun ε => match qa ε with
  | some (.int i) => some (.int (-i))
  | _ => none
theorem sq_ix (hu : X.A.units + 1 < cLine) (ha : SQ X cl β a qa) (hb : SQ X cl β b qb) (hs : PlainIx b := by exact fun _ _ => rfl) (hs2 : NoSl b := by exact fun _ _ => rfl) : SQ X cl β (.Subscript a b pos) (qIx qa qb) :=
  ((pe_ix ix_seq ha hb hs).or (pe_dget hu ha hb hs2)).mono fun σ H Q ⟨F, ε, P, d, en, t, e, q⟩ => by
    unfold qIx at e
    split at e
    · rename_i d1 d2 h1 h2
      unfold kIxP at e
      split at e
      · rename_i s i
        split at e
        · rename_i hz
          obtain ⟨c, e1, e2⟩ := Option.map_eq_some_iff.mp e
          subst e2
          exact .inl ⟨F, ε, P, _, en, t, h1, fun v P1 r1 => ⟨F, ε, P, _, en, t, h2, fun w P2 r2 => .inr (.inr ⟨s, i, c, r1.1, r2.1, mx_line hz, e1, q _ [] ⟨rfl, rfl⟩⟩)⟩⟩
        · cases e
      · rename_i o ks ds s
        refine .inr ⟨F, ε, P, _, en, t, h1, fun v P1 r1 => ⟨F, ε, P, _, en, t, h2, fun w P2 r2 => ?_⟩⟩
        obtain ⟨p, vs, P3, rfl, hp, hl, rr⟩ := Rep.dicAt t r1
        obtain ⟨u, A, R, B, k1, k2, k3⟩ := Reps.lookK ks ds vs P3 d rr hl e
        refine ⟨p, u, rfl, ?_, q u R k3⟩
        rw [r2.1, ← k1]
        exact DGet.k (k := .inr s) hp
      · rename_i o ks ds i
        refine .inr ⟨F, ε, P, _, en, t, h1, fun v P1 r1 => ⟨F, ε, P, _, en, t, h2, fun w P2 r2 => ?_⟩⟩
        obtain ⟨p, vs, P3, rfl, hp, hl, rr⟩ := Rep.dicAt t r1
        obtain ⟨u, A, R, B, k1, k2, k3⟩ := Reps.lookK ks ds vs P3 d rr hl e
        refine ⟨p, u, rfl, ?_, q u R k3⟩
        rw [r2.1, ← k1]
        exact DGet.k (k := .inl i) hp
      · rename_i ks ds s
        refine .inr ⟨F, ε, P, _, en, t, h1, fun v P1 r1 => ⟨F, ε, P, _, en, t, h2, fun w P2 r2 => ?_⟩⟩
        obtain ⟨p, vs, o, rfl, hp, hl, rfl, rr⟩ := r1
        obtain ⟨u, A, R, B, k1, k2, k3⟩ := Reps.lookK ks ds vs [] d rr hl e
        refine ⟨p, u, rfl, ?_, q u R k3⟩
        rw [r2.1, ← k1]
        exact .inl ⟨_, .inr s, .inr ⟨o, t _ _ hp⟩, rfl, rfl⟩
      · rename_i ks ds i
        refine .inr ⟨F, ε, P, _, en, t, h1, fun v P1 r1 => ⟨F, ε, P, _, en, t, h2, fun w P2 r2 => ?_⟩⟩
        obtain ⟨p, vs, o, rfl, hp, hl, rfl, rr⟩ := r1
        obtain ⟨u, A, R, B, k1, k2, k3⟩ := Reps.lookK ks ds vs [] d rr hl e
        refine ⟨p, u, rfl, ?_, q u R k3⟩
        rw [r2.1, ← k1]
        exact .inl ⟨_, .inl i, .inr ⟨o, t _ _ hp⟩, rfl, rfl⟩
      · rename_i i _ _ _
        split at e
        · rename_i ds e1
          refine .inl ⟨F, ε, P, _, en, t, h1, fun v P1 r1 => ⟨F, ε, P, _, en, t, h2, fun w P2 r2 => ?_⟩⟩
          obtain ⟨p, vs, P3, hv, hs, rp⟩ := rep_itemsP t r1 e1
          obtain ⟨j, u, g1, g2, g3⟩ := atI_of (Reps.length _ _ _ rp) e
          obtain ⟨u', A, R, B, k1, k2, k3⟩ := Reps.get _ _ _ j _ rp g1
          rw [g2] at k1
          cases k1
          have qq := q u R k3
          rcases hs with hs | hs
          · exact .inr (.inl ⟨p, vs, i, u, hv, r2.1, hs, g3, qq⟩)
          · exact .inl ⟨p, vs, i, u, hv, r2.1, hs, g3, qq⟩
        · cases e
      · cases e
    · cases e
def qFld (cs : List Nat) (f : Str) (qa : QD) : QD := fun ε => match qa ε with
  | some (.ins _ c fs ds) => if cs.contains c = true then lookD f fs ds else none
  | _ => none
theorem call_lenD : CallR X (.builtin "len") (fun xs H Q => ∃ (p : Addr) (kvs : List (Key × V)), xs = [.ref p] ∧ Rd H p (.dK kvs) ∧ Q (.int kvs.length) H) := by
  intro pins s σ H xs us Q I r h
  obtain ⟨p, kvs, rfl, hp, q⟩ := h
  obtain rfl := Vals.ref1 r
  exact d_len I hp fun t s' I' => ⟨.int kvs.length, H, I', ⟨t, rfl⟩, q⟩
theorem sq_len {p : Pos} (ha : SQ X cl β a qa) (hg : Gl X "len") (hm : X.mg "len" = none) (he : starEach [a] X.env = (false, eval a X.env) :: starEach [] X.env := by rfl) : SQ X cl β (.Call (.Name "len" p) [a] [] pos) (qLen qa) :=
  ((pe_callB call_len hg hm boot_len (pa_cons ha pa_nil he) (he := he)).or (pe_callB call_lenD hg hm boot_len (pa_cons ha pa_nil he) (he := he))).mono fun σ H Q ⟨F, ε, P, d, en, t, e, q⟩ => by
    unfold qLen at e
    split at e
    · rename_i d1 h1
      unfold kLenP at e
      split at e
      · rename_i s
        refine .inl ⟨F, ε, P, _, en, t, h1, fun v P1 r1 => ?_⟩
        split at e
        · rename_i hz
          cases e
          exact ⟨_, s.length, rfl, by rw [r1.1]; exact ⟨mx_line hz, rfl⟩, q _ [] ⟨rfl, rfl⟩⟩
        · cases e
      · rename_i o ks ds
        cases e
        refine .inr ⟨F, ε, P, _, en, t, h1, fun v P1 r1 => ?_⟩
        obtain ⟨p, vs, P3, rfl, hp, hl, rr⟩ := Rep.dicAt t r1
        refine ⟨p, _, rfl, .inl hp, ?_⟩
        have : (ks.zip vs).length = ks.length := by rw [List.length_zip]; omega
        rw [this]
        exact q _ [] ⟨rfl, rfl⟩
      · rename_i ks ds
        cases e
        refine .inr ⟨F, ε, P, _, en, t, h1, fun v P1 r1 => ?_⟩
        obtain ⟨p, vs, o, rfl, hp, hl, rfl, rr⟩ := r1
        refine ⟨p, _, rfl, .inr ⟨o, t _ _ hp⟩, ?_⟩
        have : (ks.zip vs).length = ks.length := by rw [List.length_zip]; omega
        rw [this]
        exact q _ [] ⟨rfl, rfl⟩
      · obtain ⟨ds, e1, e2⟩ := Option.map_eq_some_iff.mp e
        subst e2
        refine .inl ⟨F, ε, P, _, en, t, h1, fun v P1 r1 => ?_⟩
        obtain ⟨p, vs, P3, rfl, hs, rp⟩ := rep_itemsP t r1 e1
        refine ⟨_, ds.length, rfl, ?_, q _ [] ⟨rfl, rfl⟩⟩
        rw [Reps.length _ _ _ rp]
        rcases hs with hs | hs
        · exact .inr ⟨vs, hs, rfl⟩
        · exact .inl ⟨vs, hs, rfl⟩
    · cases e
theorem se_q (ha : SQ X cl β a qa) : SE X cl β W a (fQ qa) := ha.mono fun σ H Q ⟨F, ε, P, en, st, po⟩ => by
  unfold fQ at po
  split at po
  · rename_i d h1
    split at po
    · rename_i hz
      refine ⟨F, ε, P, d, en, st.top, h1, fun v P1 r => ?_⟩
      have c := Rep.cold _ _ _ hz r
      subst c
      exact po v H F [] P r en st
    · exact po.elim
  · exact po.elim
def fTruQ (q : QD) : FT := fun ε => match q ε with
  | some d => (match d.tru with
    | some b => .ok b ε
    | none => .bad)
  | none => .bad
end
end Nb
namespace Nb
open PySem PySem.Spec PyProof.Rows L2
def Reach (g : Gh) (H : Hp) : List LS → V → V → Prop
  | [], v, w => v = w
  | x :: s, v, w => ∃ u, StepV g H v x u ∧ Reach g H s u w
theorem reach_snoc {g : Gh} {H : Hp} {x : LS} : ∀ {s : List LS} {v w : V}, Reach g H (s ++ [x]) v w → ∃ u, Reach g H s v u ∧ StepV g H u x w
  | [], v, w, ⟨u, h1, h2⟩ => ⟨v, rfl, by cases h2; exact h1⟩
  | y :: s, v, w, ⟨u, h1, h2⟩ => by
    obtain ⟨z, k1, k2⟩ := reach_snoc h2
    exact ⟨z, ⟨u, h1, k1⟩, k2⟩
section
variable {g : Gh} {F H : Hp}
theorem Rep.lens (t : Exh F H) : ∀ (s : List LS) (d e : D) (v : V) (P : List Addr), Rep g F H d v P → getL s d = some e → ∃ w A R B, Reach g H s v w ∧ P = A ++ R ++ B ∧ Rep g F H e w R ∧
    ∀ (F' H' : Hp) (e' d' : D) (R' : List Addr), Exh F F' → (∀ p ∈ A ++ B, H' p = H p) → Rep g F' H' e' w R' → setL s d e' = some d' → Rep g F' H' d' v (A ++ R' ++ B)
  | [], d, e, v, P, r, he => by
    cases he
    exact ⟨v, [], P, [], rfl, by simp, r, fun F' H' e' d' R' ex k r' hs => by cases hs; simpa using r'⟩
  | x :: s, d, e, v, P, r, he => by
    unfold getL at he
    split at he
    · rename_i j ds h1
      split at he
      · rename_i d1 h2
        obtain ⟨u, A1, R1, B1, k1, k2, k3, k4⟩ := Rep.step t r h1 h2
        obtain ⟨w, A, R, B, q1, q2, q3, q4⟩ := Rep.lens t s d1 e u R1 k3 he
        refine ⟨w, A1 ++ A, R, B ++ B1, ⟨u, k1, q1⟩, by rw [k2, q2]; simp, q3, fun F' H' e' d' R' ex k r' hs => ?_⟩
        unfold setL at hs
        rw [h1] at hs
        simp only [h2] at hs
        obtain ⟨d2, z1, z2⟩ := Option.map_eq_some_iff.mp hs
        subst z2
        have m1 : ∀ p, p ∈ A ++ B → p ∈ A1 ++ A ++ (B ++ B1) := fun p hp => by
          rcases List.mem_append.mp hp with z | z
          · simp [z]
          · simp [z]
        have m2 : ∀ p, p ∈ A1 ++ B1 → p ∈ A1 ++ A ++ (B ++ B1) := fun p hp => by
          rcases List.mem_append.mp hp with z | z
          · simp [z]
          · simp [z]
        have r2 := q4 F' H' e' d2 R' ex (fun p hp => k p (m1 p hp)) r' z1
        have r3 := k4 F' H' d2 (A ++ R' ++ B) ex (fun p hp => k p (m2 p hp)) r2
        simpa using r3
      · cases he
    · cases he
end
def tPth (g : Gh) (β : List (Option V)) (i : Nat) (q : QS) : TE := fun σ H Q => ∃ F ε P s v0 w, EnvR g F H ε σ β P ∧ Exh F H ∧ q ε = some s ∧ σ[i]? = some (some v0) ∧ Reach g H s v0 w ∧ Q w H
abbrev SPt (X : Cx) (cl : Nat → Addr) (β : List (Option V)) (e : Expr) (i : Nat) (q : QS) : Prop := PE X e (tPth (gx X cl) β i q)
section
variable {X : Cx} {cl : Nat → Addr} {β : List (Option V)} {W : WX} {pos : Pos} {a b c : Expr} {fa fb fc : FE} {qa qb : QD} {qs : QS} {i : Nat}
def sFld' (qs : QS) (c : Nat) (f : Str) : QS := fun ε => (qs ε).map fun s => s ++ [.fld c f]
theorem sp_var (i : Nat) {x : Str} {p : Pos} (hN : X.N[i]? = some x := by rfl) (hv : Vis X.env.scope x := by first | exact Or.inl rfl | exact Or.inr (Or.inl rfl) | exact Or.inr (Or.inr rfl)) (hd : (x == ("__debug__" : Str)) = false := by decide)
    (hcd : (x == ("__classdict__" : Str)) = false := by decide) : SPt X cl β (.Name x p) i sNil := (pv i hN hv hd hcd).mono fun σ H Q ⟨F, ε, P, s, v0, w, en, t, e, hi, rc, q⟩ => by
  cases e
  have rc : v0 = w := rc
  subst rc
  exact ⟨v0, hi, q⟩
theorem sp_key (hu : X.A.units + 1 < cLine) (ha : SPt X cl β a i qs) (hb : SQ X cl β b qb) (hs : NoSl b := by exact fun _ _ => rfl) : SPt X cl β (.Subscript a b pos) i (sKey qs qb) :=
  (pe_dget hu ha hb hs).mono fun σ H Q ⟨F, ε, P, s, v0, w, en, t, e, hi, rc, q⟩ => by
    unfold sKey at e
    split at e
    · rename_i s' n h1 h2
      cases e
      obtain ⟨u, r1, p, kvs, rfl, hv, ha⟩ := reach_snoc rc
      refine ⟨F, ε, P, s', v0, .ref p, en, t, h1, hi, r1, F, ε, P, _, en, t, h2, fun y P1 ry => ⟨p, w, rfl, ?_, q⟩⟩
      rw [ry.1, ← ha]
      exact DGet.k (k := .inl n) hv
    · rename_i s' n h1 h2
      cases e
      obtain ⟨u, r1, p, kvs, rfl, hv, ha⟩ := reach_snoc rc
      refine ⟨F, ε, P, s', v0, .ref p, en, t, h1, hi, r1, F, ε, P, _, en, t, h2, fun y P1 ry => ⟨p, w, rfl, ?_, q⟩⟩
      rw [ry.1, ← ha]
      exact DGet.k (k := .inr n) hv
    · cases e
theorem rep_tyV {F H : Hp} {T : String} {d : D} {v : V} {P : List Addr} (t : Exh F H) (r : Rep (gx X cl) F H d v P) (h : tyD T d = true) : tyV X.K T v H := by
  cases d with
  | lst o ds =>
    obtain ⟨p, vs, P2, rfl, h2, _⟩ := Rep.lstAt t r
    exact .inl ⟨beq_iff_eq.mp h, vs, SqL.of h2⟩
  | dic o ks ds =>
    obtain ⟨p, vs, P2, rfl, h2, _⟩ := Rep.dicAt t r
    exact .inr (.inr (.inl ⟨beq_iff_eq.mp h, .inl ⟨_, h2⟩⟩))
  | _ => cases h
def OpM (g : Gh) (r : V → List V → Hp → VK → Prop) (k : D → List D → Option (D × D)) : Prop :=
  ∀ (F H : Hp) (d : D) (ds : List D) (d' res : D) (v : V) (vs : List V) (R0 R : List Addr) (Q : VK), Rep g F H d v R0 → Reps g F H ds vs R → k d ds = some (d', res) → Stp F H (R0 ++ R) F H (R0 ++ R) →
    (∀ w H' F' R0' Rr, Rep g F' H' d' v R0' → Rep g F' H' res w Rr → Stp F H (R0 ++ R) F' H' (R0' ++ Rr) → Q w H') → r v vs H Q
theorem Stp.wr {F H : Hp} {P : List Addr} {p : Addr} {o : HO} (st : Stp F H P F H P) (hp : p ∈ P) : Stp F H P F (upd H p o) P :=
  ⟨st.sub, fun a u e => by rw [upd_ne (fun q => by rw [q, st.off p hp] at e; cases e)]; exact st.top a u e, fun b u e n => by rw [upd_ne (fun q => n (by rw [q]; exact hp))]; exact e, fun b hb => .inl hb, fun b u e => .inl e, st.nd, st.off⟩
theorem om_app : OpM (gx X cl) rAppend kApp := by
  intro F H d ds d' res v vs R0 R Q r0 rr hk st hQ
  unfold kApp at hk
  split at hk
  · rename_i xs y
    split at hk
    · rename_i hz
      cases hk
      obtain ⟨p, ws, P2, rfl, hp, rfl, r2⟩ := r0
      obtain ⟨w, rfl, ry⟩ := reps1 rr
      have hl := Reps.length _ _ _ r2
      refine ⟨p, ws, w, rfl, rfl, hp, by rw [← hl]; exact mx_lt hz, ?_⟩
      have nd := st.nd
      have ne : ∀ q, q ∈ P2 ++ R → q ≠ p := fun q hq e => by
        subst e
        exact (List.nodup_cons.mp (show (q :: (P2 ++ R)).Nodup from nd)).1 hq
      have mv : ∀ q, q ∈ P2 ++ R → upd H p (.lst (ws ++ [w])) q = H q := fun q hq => upd_ne (ne q hq)
      refine hQ .non _ F (p :: (P2 ++ R)) [] ⟨p, ws ++ [w], P2 ++ R, rfl, upd_same, rfl, ?_⟩ ⟨rfl, rfl⟩ ?_
      · have r4 := Reps.append _ _ _ _ _ _ r2 (show Reps (gx X cl) F H [y] [w] R from ⟨w, [], R, [], rfl, (List.append_nil R).symm, ry, rfl, rfl⟩)
        exact Reps.move (Exh.rfl' _) _ _ _ mv r4
      · rw [List.append_nil]
        exact Stp.wr st (by simp)
    · cases hk
  · cases hk
theorem Reps.last {g : Gh} {F H : Hp} : ∀ (ds : List D) (vs : List V) (P : List Addr) (y : D), Reps g F H ds vs P → ds[ds.length - 1]? = some y → ∃ w P1 R, vs[vs.length - 1]? = some w ∧ P = P1 ++ R ∧ Reps g F H ds.dropLast vs.dropLast P1 ∧ Rep g F H y w R
  | [], vs, P, y, r, e => by simp at e
  | [d], vs, P, y, ⟨v, vr, P1, P2, h1, h2, h3, h4⟩, e => by
    obtain ⟨e1, e2⟩ := h4
    subst e1 e2 h1
    have e' : d = y := by simpa using e
    subst e'
    exact ⟨v, [], P1, rfl, by simpa using h2, ⟨rfl, rfl⟩, h3⟩
  | d :: d2 :: ds, vs, P, y, ⟨v, vr, P1, P2, h1, h2, h3, h4⟩, e => by
    obtain ⟨w, Q1, R, g1, g2, g3, g4⟩ := Reps.last (d2 :: ds) vr P2 y h4 (by simpa using e)
    have hl := Reps.length _ _ _ h4
    cases vr with
    | nil => cases hl
    | cons v2 vr =>
      subst h1
      exact ⟨w, P1 ++ Q1, R, by simpa using g1, by rw [h2, g2]; simp, ⟨v, (v2 :: vr).dropLast, P1, Q1, rfl, rfl, h3, g3⟩, g4⟩
theorem om_pop : OpM (gx X cl) rPop kPop := by
  intro F H d ds d' res v vs R0 R Q r0 rr hk st hQ
  unfold kPop at hk
  split at hk
  · rename_i xs
    split at hk
    · rename_i y hy
      cases hk
      obtain ⟨p, ws, P2, rfl, hp, rfl, r2⟩ := r0
      obtain ⟨e1, e2⟩ := rr
      subst e1 e2
      obtain ⟨w, P1, Rl, k1, k2, k3, k4⟩ := Reps.last xs ws P2 res r2 hy
      refine ⟨p, ws, w, rfl, rfl, hp, k1, ?_⟩
      subst k2
      have nd := st.nd
      have ne : ∀ q, q ∈ P1 ++ Rl → q ≠ p := fun q hq e => by
        subst e
        exact (List.nodup_cons.mp (show (q :: (P1 ++ Rl)).Nodup by simpa using nd)).1 hq
      have mv : ∀ q, q ∈ P1 ++ Rl → upd H p (.lst ws.dropLast) q = H q := fun q hq => upd_ne (ne q hq)
      refine hQ w _ F (p :: P1) Rl ⟨p, ws.dropLast, P1, rfl, upd_same, rfl, Reps.move (Exh.rfl' _) _ _ _ (fun q hq => mv q (List.mem_append_left _ hq)) k3⟩ (Rep.move (Exh.rfl' _) _ _ _ (fun q hq => mv q (List.mem_append_right _ hq)) k4) ?_
      have s2 := Stp.wr (o := .lst ws.dropLast) st (p := p) (by simp)
      simpa using s2
    · cases hk
  · cases hk
theorem EnvR.dat {g : Gh} {F H : Hp} {ε : Ev} {σ : L2.St} {β : List (Option V)} {P : List Addr} {i : Nat} {d : D} (en : EnvR g F H ε σ β P) (h : qV i ε = some d) : ∃ v A P1 B, σ[i]? = some (some v) ∧ P = A ++ P1 ++ B ∧ Rep g F H d v P1 ∧
    ∀ (F' H' : Hp) (d' : D) (P1' : List Addr), Exh F F' → (∀ p ∈ A ++ B, H' p = H p) → Rep g F' H' d' v P1' → EnvR g F' H' (setS i d' ε) σ β (A ++ P1' ++ B) := by
  unfold qV at h
  unfold setS
  split at h
  · rename_i d' hd'
    cases h
    obtain ⟨x, b, A, P1, B, h1, h2, h3, ⟨v, hv, hr⟩, h5⟩ := en.at _ _ _ _ _ _ hd'
    subst hv
    refine ⟨v, A, P1, B, h1, h3, hr, fun F' H' d' P1' ex k r => ?_⟩
    try rw [hd']
    have z := h5 F' H' (.val d') (some v) P1' ex k ⟨v, rfl, r⟩
    rwa [set_same h1] at z
  · rename_i d' hd'
    cases h
    obtain ⟨x, b, A, P1, B, h1, h2, h3, ⟨v, hv, hb, hr⟩, h5⟩ := en.at _ _ _ _ _ _ hd'
    subst hv
    refine ⟨v, A, P1, B, h1, h3, hr, fun F' H' d' P1' ex k r => ?_⟩
    try rw [hd']
    have z := h5 F' H' (.bor d') (some v) P1' ex k ⟨v, rfl, hb, r⟩
    rwa [set_same h1] at z
  · cases h
def fMutV (T : String) (k : D → List D → Option (D × D)) (i : Nat) (fs : FA) : FE := fun ε => match qV i ε with
  | some d0 => if tyD T d0 = true then ((fs ε).bind fun as ε2 => match allV as, qV i ε2 with
    | some ds, some d => (match k d ds with
      | some p => .ok p.2 (setS i p.1 ε2)
      | none => .bad)
    | _, _ => .bad) else .bad
  | none => .bad
end
end Nb
namespace Nb
open PySem PySem.Spec PyProof.Rows L2
section
variable {X : Cx} {cl : Nat → Addr} {β : List (Option V)} {W : WX} {pos : Pos} {a b c e : Expr} {es : List Expr} {fa fb fc : FE} {qa qb : QD} {qs : QS} {i : Nat} {fs : FA}
theorem rd_mutP {T : String} {r : V → List V → Hp → VK → Prop} {k : D → List D → Option (D × D)} (ho : OpM (gx X cl) r k) {σ : L2.St} {H : Hp} {Q : VK} (h : rdE X cl β W (fMutP T k i qs fs) σ H Q) : tBM X.K T r (tPth (gx X cl) β i qs) (rdA X cl β W fs) σ H Q := by
  obtain ⟨F, ε, P, en, st, po⟩ := h
  unfold fMutP at po
  split at po
  · rename_i s d0 hs h0
    split at po
    · rename_i d hg
      split at po
      · rename_i hty
        -- the slot: taken out, put back
        have slot : ∃ v0 sv, (sv = SV.val d0 ∨ sv = SV.bor d0) ∧ ε[i]? = some sv ∧ σ[i]? = some (some v0) ∧ ∃ A Pi B, P = A ++ Pi ++ B ∧ Rep (gx X cl) F H d0 v0 Pi ∧ EnvR (gx X cl) F H (ε.set i .no) σ β (A ++ [] ++ B) ∧
            ∀ (F' H' : Hp) (ε' : Ev) (P' : List Addr) (d' : D) (R : List Addr), EnvR (gx X cl) F' H' ε' σ β P' → ε'[i]? = some .no → Rep (gx X cl) F' H' d' v0 R → ∃ A2 B2, P' = A2 ++ B2 ∧ EnvR (gx X cl) F' H' (setS i d' (ε'.set i sv)) σ β (A2 ++ R ++ B2) := by
          have kept := EnvR.kept en
          unfold qV at h0
          split at h0
          · rename_i d' hd'
            cases h0
            obtain ⟨x, b, A, P1, B, h1, h2, h3, ⟨v, hv, hr⟩, h5⟩ := en.at _ _ _ _ _ _ hd'
            subst hv
            have z := h5 F H .no (some v) [] (fun _ _ z => z) (fun _ _ => rfl) rfl
            rw [set_same h1] at z
            refine ⟨v, _, .inl rfl, hd', h1, A, P1, B, h3, hr, z, fun F' H' ε' P' d' R en' hn r' => ?_⟩
            obtain ⟨x', b', A2, P2, B2, k1, k2, k3, k4, k5⟩ := en'.at _ _ _ _ _ _ hn
            have k4 : P2 = [] := k4
            subst k4
            have ex : x' = some v := by
              rw [h1] at k1
              exact (Option.some.inj k1).symm
            subst ex
            refine ⟨A2, B2, by simpa using k3, ?_⟩
            have hlt := (List.getElem?_eq_some_iff.mp hn).1
            unfold setS
            rw [List.getElem?_set_self hlt]
            simp only [List.set_set]
            have z := k5 F' H' (.val d') (some v) R (fun _ _ z => z) (fun _ _ => rfl) ⟨v, rfl, r'⟩
            rwa [set_same k1] at z
          · rename_i d' hd'
            cases h0
            obtain ⟨x, b, A, P1, B, h1, h2, h3, ⟨v, hv, hb, hr⟩, h5⟩ := en.at _ _ _ _ _ _ hd'
            subst hv
            have z := h5 F H .no (some v) [] (fun _ _ z => z) (fun _ _ => rfl) rfl
            rw [set_same h1] at z
            refine ⟨v, _, .inr rfl, hd', h1, A, P1, B, h3, hr, z, fun F' H' ε' P' d' R en' hn r' => ?_⟩
            obtain ⟨x', b', A2, P2, B2, k1, k2, k3, k4, k5⟩ := en'.at _ _ _ _ _ _ hn
            have k4 : P2 = [] := k4
            subst k4
            have ex : x' = some v := by
              rw [h1] at k1
              exact (Option.some.inj k1).symm
            subst ex
            have eb : b' = some v := by
              rw [h2, hb] at k2
              exact (Option.some.inj k2).symm
            refine ⟨A2, B2, by simpa using k3, ?_⟩
            have hlt := (List.getElem?_eq_some_iff.mp hn).1
            unfold setS
            rw [List.getElem?_set_self hlt]
            simp only [List.set_set]
            have z := k5 F' H' (.bor d') (some v) R (fun _ _ z => z) (fun _ _ => rfl) ⟨v, rfl, eb, r'⟩
            rwa [set_same k1] at z
          · cases h0
        obtain ⟨v0, sv, hsv, hε, hσ, A, Pi, B, hP, hr, en0, back⟩ := slot
        subst hP
        obtain ⟨w, A1, R1, B1, rc, hPi, hd, up⟩ := Rep.lens st.top s d0 d v0 Pi hr hg
        refine ⟨F, ε, _, s, v0, w, en, st.top, hs, hσ, rc, rep_tyV st.top hd hty, ?_⟩
        have st0 : Stp F H (A ++ Pi ++ B) F H (Pi ++ (A ++ [] ++ B)) := st.perm (List.perm_iff_count.mpr fun a => by simp only [List.count_append, List.count_nil]; omega)
        refine ⟨F, ε.set i .no, A ++ [] ++ B, en0, (st0.drop (List.sublist_append_right Pi _)).base, PostR.next (A := Pi) po st0 (Rep.alive _ _ _ hr) fun as ε2 _ vs H2 F2 R2 P2 r2 en2 st2 same ex po2 => ?_⟩
        split at po2
        · rename_i ds e1
          have rd := relA.reps r2 e1
          split at po2
          · rename_i p hk hn
            obtain ⟨d', res⟩ := p
            split at po2
            · rename_i d0' hset
              subst hPi
              have hd2 := Rep.move ex d w R1 (fun q hq => same q (by simp [hq])) hd
              have s3 : Stp F H (A ++ (A1 ++ R1 ++ B1) ++ B) F2 H2 ((A1 ++ B1 ++ P2) ++ (R1 ++ R2)) := st2.perm (List.perm_iff_count.mpr fun a => by simp only [List.count_append]; omega)
              have al : ∀ q ∈ A1 ++ B1 ++ P2, H2 q ≠ none := fun q hq => by
                rcases List.mem_append.mp hq with z | z
                · have hm : q ∈ A1 ++ R1 ++ B1 := by
                    rcases List.mem_append.mp z with y | y
                    · simp [y]
                    · simp [y]
                  rw [same q hm]
                  exact Rep.alive _ _ _ hr q hm
                · exact EnvR.alive _ _ _ _ en2 q z
              have b3 := (s3.drop (List.sublist_append_right (A1 ++ B1 ++ P2) (R1 ++ R2))).base
              refine ho F2 H2 d ds d' res w vs R1 R2 Q hd2 rd hk b3 fun u H' F' R0' Rr q1 q2 q3 => ?_
              obtain ⟨c, same'⟩ := s3.carry al q3
              have r0 := up F' H' d' d0' R0' (ex.tr q3.sub) (fun q hq => by
                rw [same' q (List.mem_append_left _ hq)]
                refine same q ?_
                rcases List.mem_append.mp hq with y | y
                · simp [y]
                · simp [y]) q1 hset
              obtain ⟨A2, B2, hP2, en'⟩ := back F' H' ε2 P2 d0' _ (EnvR.move q3.sub _ _ _ _ (fun q hq => same' q (List.mem_append_right _ hq)) en2) hn r0
              subst hP2
              have eg : ε.getD i .no = sv := by
                rw [List.getD_eq_getElem?_getD, hε]
                rfl
              rw [eg] at po2
              exact po2 u H' F' Rr _ q2 en' (c.perm (List.perm_iff_count.mpr fun a => by simp only [List.count_append]; omega))
            · exact po2.elim
          · exact po2.elim
        · exact po2.elim
      · exact po.elim
    · exact po.elim
  · exact po.elim
theorem se_appP {apos : Pos} (ha : SPt X cl β a i qs) (he : SA X cl β W (e :: es) fs) (hbase : attributeBase a "append" X.env (eval a X.env) = eval a X.env := by rfl)
    (hfew : ((backTo pos (starEach (e :: es) X.env)).all (fun x => !x.1) && (backToKw pos (keywordEach [] X.env)).all (fun x => x.1.isSome)
      && decide ((e :: es).length + ([] : List Keyword).length + (if ([] : List Keyword).isEmpty then 0 else 1) < 30)) = true := by rfl)
    (hline : (apos.endLine == pos.line) = true := by rfl) (hs : starEach (e :: es) X.env = (false, eval e X.env) :: starEach es X.env := by rfl) (hplain : (backTo pos (starEach es X.env)).any (·.1) = false := by rfl) :
    SE X cl β W (.Call (.Attribute a "append" apos) (e :: es) [] pos) (fMutP "list" kApp i qs fs) :=
  (pe_bm F.plainAttrs_list F.slot_list_append F.type_list_append mt_append ha he hbase hfew hline hs hplain).mono fun _ _ _ h => rd_mutP om_app h
theorem se_popP {apos : Pos} (ha : SPt X cl β a i qs) (hbase : attributeBase a "pop" X.env (eval a X.env) = eval a X.env := by rfl) (hline : (apos.endLine == pos.line) = true := by rfl) :
    SE X cl β W (.Call (.Attribute a "pop" apos) [] [] pos) (fMutP "list" kPop i qs aNil) :=
  (pe_bm0 F.plainAttrs_list F.slot_list_pop F.type_list_pop mt_pop ha hbase hline).mono fun σ H Q h => by
    have z := rd_mutP om_pop h
    obtain ⟨F, ε, P, s, v0, w, en, t, e, hi, rc, ty, F', ε', P', en', st', po⟩ := z
    exact ⟨F, ε, P, s, v0, w, en, t, e, hi, rc, ty, po [] H F' [] P' ⟨rfl, rfl⟩ en' st'⟩
def OpS (g : Gh) (t : TSet) (k : D → D → D → Option D) : Prop :=
  ∀ (F H : Hp) (c di d c' : D) (o x v : V) (R0 R Ri : List Addr) (Q : Hp → Prop), Rep g F H c o R0 → Rep g F H di x Ri → Rep g F H d v R → k c di d = some c' → Stp F H (R0 ++ R) F H (R0 ++ R) →
    (∀ H' F' R0', Rep g F' H' c' o R0' → Stp F H (R0 ++ R) F' H' R0' → Q H') → t o x v H Q
def rSetX : TSet := fun o i v H Q => rSetL o i v H Q ∨ rSetD o i v H Q
theorem set_X (hu : X.A.units + 1 < cLine) : PSet X rSetX := fun pins s σ H o i v ov iv u Q I ro ri rv h => h.elim (set_list pins s σ H o i v ov iv u Q I ro ri rv) (set_dict hu pins s σ H o i v ov iv u Q I ro ri rv)
theorem ixN_lt {n : Nat} {i : Int} {j : Nat} (h : ixN n i = some j) : j < n := by
  unfold ixN at h
  split at h
  · split at h
    · cases h; omega
    · cases h
  · split at h
    · cases h; omega
    · cases h
theorem put_len {g : Gh} {F H F' : Hp} {c' : D} {o : V} {p : Addr} {P2 R P' L : List Addr} {u : HO} (st : Stp F H (p :: P2 ++ R) F H (p :: P2 ++ R)) (pm : (P' ++ L).Perm (P2 ++ R)) : (∀ q ∈ P', upd H p u q = H q) ∧ Stp F H (p :: P2 ++ R) F (upd H p u) (p :: P') := by
  have nd : (p :: (P2 ++ R)).Nodup := st.nd
  have hp := (List.nodup_cons.mp nd).1
  refine ⟨fun q hq => upd_ne fun e => hp (by rw [← e]; exact pm.mem_iff.mp (List.mem_append_left _ hq)), ?_⟩
  have s2 := Stp.wr (o := u) st (p := p) (by simp)
  have s3 : Stp F H (p :: P2 ++ R) F (upd H p u) (p :: (P' ++ L)) := s2.perm ((show (p :: P2 ++ R) = p :: (P2 ++ R) from rfl) ▸ List.Perm.cons p pm.symm)
  exact s3.drop ((List.sublist_append_left P' L).cons₂ p)
theorem os_set : OpS (gx X cl) rSetX kSet := by
  intro F H c di d c' o x v R0 R Ri Q r0 ri rd hk st hQ
  unfold kSet at hk
  have dict : ∀ (k : Key) (ks : List Key) (ds : List D), Rep (gx X cl) F H (.dic true ks ds) o R0 → x = kV k → apart ks = true ∧ ks.length < mx → c' = .dic true (putKD k d ks ds).1 (putKD k d ks ds).2 → rSetX o x v H Q := fun k ks ds r0 hx hz hc => by
    obtain ⟨p, vs, P2, rfl, hp, hl, rfl, r2⟩ := r0
    obtain ⟨vs', P', L, k1, k2, k3, k4⟩ := Reps.putK (k := k) rd ks ds vs P2 r2 hl hz.1
    have hlen : (ks.zip vs).length < sizeLine := by
      rw [List.length_zip, ← hl, Nat.min_self]
      exact mx_lt hz.2
    refine .inr ⟨p, upd H p (.dK (L2.putK (ks.zip vs) k v)), rfl, ?_, ?_⟩
    · rw [hx]; exact DPut.k hp hlen
    · obtain ⟨mv, s3⟩ := put_len (g := gx X cl) (F' := F) (c' := c') (o := .ref p) (u := .dK (L2.putK (ks.zip vs) k v)) st k4
      refine hQ _ F (p :: P') ?_ s3
      rw [hc]
      refine ⟨p, vs', P', rfl, ?_, k2, rfl, Reps.move (Exh.rfl' _) _ _ _ mv k3⟩
      rw [upd_same, k1]
  split at hk
  · rename_i xs n
    obtain ⟨j, e1, e2⟩ := Option.map_eq_some_iff.mp hk
    subst e2
    obtain ⟨p, vs, P2, rfl, hp, rfl, r2⟩ := r0
    have hl := Reps.length _ _ _ r2
    obtain ⟨P', L, k3, k4⟩ := Reps.set rd xs vs P2 j r2 (ixN_lt e1)
    refine .inl ⟨p, vs, n, j, rfl, ri.1, hp, by rw [← hl]; exact e1, ?_⟩
    obtain ⟨mv, s3⟩ := put_len (g := gx X cl) (F' := F) (c' := D.non) (o := .ref p) (u := .lst (vs.set j v)) st k4
    exact hQ _ F (p :: P') ⟨p, _, P', rfl, upd_same, rfl, Reps.move (Exh.rfl' _) _ _ _ mv k3⟩ s3
  · rename_i ks ds n
    split at hk
    · rename_i hz
      cases hk
      exact dict (.inl n) ks ds r0 ri.1 hz rfl
    · cases hk
  · rename_i ks ds n
    split at hk
    · rename_i hz
      cases hk
      exact dict (.inr n) ks ds r0 ri.1 hz rfl
    · cases hk
  · cases hk
theorem s_setI {tpos : Pos} (hu : X.A.units + 1 < cLine) (hp : SPt X cl β b i qs) (hq : SQ X cl β c qa) (he : SE X cl β W a fa)
    (ha : ∀ v, assign (.Subscript b c tpos) X.env v = (do
      let ov ← holding [v] (eval b X.env)
      let iv ← holding [v, ov] (eval c X.env)
      standAt tpos
      holding [v, ov, iv] (setItem ov iv v)
      release [v, ov, iv] []) := by intro _; rfl) (hs : swapsWithSole [.Subscript b c tpos] a pos.line X.env = pure false := by rfl) (hw : swappedStores [.Subscript b c tpos] a X.env = pure none := by rfl)
    (h1 : (assignEach [.Subscript b c tpos] X.env).map (·.2) = [assign (.Subscript b c tpos) X.env] := by rfl) : SS X cl β W (.Assign [.Subscript b c tpos] a pos) (fSetI i qs qa fa) :=
  PSm (ps_asg he (pg_sub hp hq (set_X hu) ha) hs hw h1) fun D σ H h => rdS.bind (rel := Rep (gx X cl)) h fun F P d ε1 v H1 F1 R1 P1 rl en st po => by
    split at po
    · rename_i s di d0 e1 e2 e3
      split at po
      · rename_i cc e4
        split at po
        · rename_i c' e5
          split at po
          · rename_i d0' e6
            obtain ⟨v0, A, Pi, B, hσ, hP, hr, back⟩ := en.dat e3
            subst hP
            obtain ⟨w, A1, R0, B1, rc, hPi, hd, up⟩ := Rep.lens st.top s d0 cc v0 Pi hr e4
            subst hPi
            refine ⟨F1, ε1, _, s, v0, w, en, st.top, e1, hσ, rc, F1, ε1, _, di, en, st.top, e2, fun y Ry ry => ?_⟩
            have s3 : Stp F H P F1 H1 ((A1 ++ B1 ++ (A ++ B)) ++ (R0 ++ R1)) := st.perm (List.perm_iff_count.mpr fun a => by simp only [List.count_append]; omega)
            have al : ∀ q ∈ A1 ++ B1 ++ (A ++ B), H1 q ≠ none := fun q hq => EnvR.alive _ _ _ _ en q (by
              rcases List.mem_append.mp hq with z | z
              · rcases List.mem_append.mp z with y | y
                · simp [y]
                · simp [y]
              · rcases List.mem_append.mp z with y | y
                · simp [y]
                · simp [y])
            refine os_set F1 H1 cc di d c' w y v R0 R1 Ry _ hd ry rl e5 (s3.drop (List.sublist_append_right _ _)).base fun H' F' R0' q1 q2 => ?_
            obtain ⟨cc', same⟩ := s3.carry al q2
            have r0 := up F' H' c' d0' R0' q2.sub (fun q hq => same q (List.mem_append_left _ hq)) q1 e6
            exact po σ H' F' _ (back F' H' d0' _ q2.sub (fun q hq => same q (List.mem_append_right _ hq)) r0) (cc'.perm (List.perm_iff_count.mpr fun a => by simp only [List.count_append]; omega))
          · exact po.elim
        · exact po.elim
      · exact po.elim
    · exact po.elim
def fSetF (i : Nat) (qs : QS) (c : Nat) (f : Str) (fe : FE) : FS := fun ε => (fe ε).out fun d ε1 => match qs ε1, qV i ε1 with
  | some s, some d0 => (match getL s d0 with
    | some (.ins true c' fs ds) => if c' = c ∧ fs.length < 100 then (match setL s d0 (.ins true c (putD f d fs ds).1 (putD f d fs ds).2) with
      | some d0' => .nx (setS i d0' ε1)
      | none => .bad) else .bad
    | _ => .bad)
  | _, _ => .bad
end
end Nb
namespace Nb
open PySem PySem.Spec PyProof.Rows L2
section
variable {M : Model} {prog : Program} {w : World} {A : Around} {E : Value → Shared → Prop} {s : Shared} {K : PySem.W.Frag} {x C f : Addr} {ox : Obj} {od : Option Obj} {b tb : Value}
end
section
variable {X : Cx} {cl : Nat → Addr} {β : List (Option V)} {W : WX} {pos : Pos} {a b c : Expr} {fa fb fc : FE}
end
end Nb
namespace Nb
open PySem PySem.Spec PyProof.Rows L2
section
variable {X : Cx} {cl : Nat → Addr} {β : List (Option V)} {W : WX} {pos : Pos} {a b c e o : Expr} {es : List Expr} {fa fb fc fo : FE} {fs fk : FA} {gd : Bool} {k : Nat} {bs : List Bool} {run : List D → CRes} {x m : Str} {p apos : Pos} {kws : List Keyword} {ks : List Str}
theorem rd_cons {f : FE} {σ : L2.St} {H : Hp} {Q : List V → Hp → Prop} (h : rdA X cl β W (aCons f fs) σ H Q) : tCons (rdE X cl β W f) (rdA X cl β W fs) σ H Q :=
  rdR.bind (rel := Rep (gx X cl)) h fun F P d ε1 v H1 F1 R1 P1 r1 en1 st1 po1 =>
    ⟨F1, ε1, P1, en1, (st1.drop (List.sublist_append_right R1 P1)).base, PostR.next (A := R1) po1 st1 (Rep.alive _ _ _ r1) fun as ε2 _ vs H2 F2 R2 P2 r2 en2 st2 same ex po2 =>
      po2 (v :: vs) H2 F2 (R1 ++ R2) P2 ⟨v, vs, R1, R2, rfl, rfl, Rep.move ex _ _ _ same r1, r2⟩ en2 (by rw [List.append_assoc]; exact st2)⟩
def aKw (fs fk : FA) : FA := fun ε => (fs ε).bind fun as ε1 => (fk ε1).bind fun zs ε2 => .ok (as ++ zs) ε2
def makeR (c : Nat) (bs : List Bool) (run : List D → CRes) (as : List AD) (ε1 : Ev) : Res D := match takeA bs as ε1 with
  | none => .bad
  | some p => match run (.ins true c [] [] :: p.1) with
    | .ok .non (o :: os) => (match giveA ε1 bs as os p.2 with
      | some ε3 => .ok o ε3
      | none => .bad)
    | .exc c fs xs (_ :: os) => (match giveA ε1 bs as os p.2 with
      | some ε3 => .exc c fs xs ε3
      | none => .bad)
    | _ => .bad
theorem Stp.junk {F H F1 H1 : Hp} {P R : List Addr} {p : Addr} {o : HO} (st : Stp F H P F1 H1 R) (al : ∀ q ∈ R, H1 q ≠ none) (hp : H1 p = none) : Stp F H P F1 (upd H1 p o) R ∧ ∀ q ∈ R, upd H1 p o q = H1 q := by
  obtain ⟨s, e⟩ := st.andNew (o := o) al hp
  exact ⟨s.drop (List.sublist_cons_self p R), e⟩
def fMake (c : Nat) (bs : List Bool) (run : List D → CRes) (fs : FA) : FE := fun ε => (fs ε).bind fun as ε1 => makeR c bs run as ε1
def fMakeL (i : Nat) (c : Nat) (bs : List Bool) (run : List D → CRes) (fs : FA) : FE := fun ε => match ε[i]? with
  | some (.val (.cls c')) => if c' = c then fMake c bs run fs ε else .bad
  | _ => .bad
def fMeth (c : Nat) (m : Str) (bs : List Bool) (run : List D → CRes) (fo : FE) (fs : FA) : FE := fun ε => (fo ε).bind fun d ε1 => match d with
  | .ins o c' fs' ds => if c' = c ∧ D.fz (.ins o c' fs' ds) = true ∧ posD m fs' = none then (fs ε1).bind fun as ε2 => callR bs run (.v (.ins o c' fs' ds) :: as) ε2 else .bad
  | _ => .bad
def fCMeth (c : Nat) (bs : List Bool) (run : List D → CRes) (fo : FE) (fs : FA) : FE := fun ε => (fo ε).bind fun d ε1 => match d with
  | .cls c' => if c' = c then (fs ε1).bind fun as ε2 => callR bs run (.v (.cls c) :: as) ε2 else .bad
  | _ => .bad
def fProp (c : Nat) (run : List D → CRes) (fo : FE) : FE := fun ε => (fo ε).bind fun d ε1 => match d with
  | .ins o c' fs' ds => if c' = c ∧ D.fz (.ins o c' fs' ds) = true then (match run [.ins o c' fs' ds] with
    | .ok d' [] => .ok d' ε1
    | _ => .bad) else .bad
  | _ => .bad
end
end Nb
namespace Nb
open PySem PySem.Spec PyProof.Rows L2
section
variable {X : Cx} {cl : Nat → Addr} {β : List (Option V)} {W : WX} {pos : Pos} {a b c e o : Expr} {es : List Expr} {fa fb fc fo : FE} {fs : FA} {qa : QD} {i : Nat}
theorem eqv_nil (xs : List PyData) : PyData.eqv (.list xs) (.list []) = xs.isEmpty := by
  cases xs with
  | nil => simp [PyData.eqv, PyData.eqvAll]
  | cons x xs => simp [PyData.eqv, PyData.eqvAll]
theorem datas_len : ∀ {ds : List D} {xs : List PyData}, datas ds = some xs → ds.isEmpty = xs.isEmpty
  | [], xs, e => by
    simp only [datas, Option.some.injEq] at e
    rw [← e]
    rfl
  | d :: ds, xs, e => by
    unfold datas at e
    split at e
    · cases e; rfl
    · cases e
theorem rd_nilQ {n : Bool} {q : QD} {r : R2} (hr : ∀ x y H Q, (∃ d e, Dp X.K H x d ∧ Dp X.K H y e ∧ d.plain = true ∧ e.plain = true ∧ min d.depth e.depth ≤ 64 ∧ Q (.bl (n != PyData.eqv d e)) H) → r x y H Q) {σ : L2.St} {H : Hp} {Q : VK} (h : rdE X cl β W (fNil n q) σ H Q) : tOp r (rdK (gx X cl) β q) (tLst tNil) σ H Q := by
  obtain ⟨F, ε, P, en, st, po⟩ := h
  unfold fNil at po
  split at po
  · rename_i o ds h1
    split at po
    · rename_i xs h2
      refine ⟨F, ε, P, _, en, st.top, h1, fun v P1 r1 => ⟨Nat.zero_le _, fun p hp => hr _ _ _ _ ⟨.list xs, .list [], ?_, .lst (SqL.of upd_same) .nil, by simpa [PyData.plain] using datas_plain _ _ h2, by simp [PyData.plain, PyData.plainAll], by simp [PyData.depth, PyData.depthAll] <;> omega, ?_⟩⟩⟩
      · have mv : ∀ q ∈ P1, upd H p (.lst []) q = H q := fun q hq => upd_ne (fun e => Rep.alive _ _ _ r1 q hq (by rw [e]; exact hp))
        have r2 := Rep.move (Exh.rfl' F) _ _ _ mv r1
        refine Rep.dp (F := F) (fun a o e => exh_upd hp a o (st.top a o e)) _ _ _ _ r2 ?_
        show (datas ds).map PyData.list = _
        rw [h2]
        rfl
      · rw [eqv_nil, ← datas_len h2]
        obtain ⟨s2, same⟩ := st.junk (o := .lst []) (EnvR.alive _ _ _ _ en) hp
        exact po _ _ F [] P ⟨rfl, rfl⟩ (EnvR.move (Exh.rfl' F) _ _ _ _ same en) s2
    · exact po.elim
  · exact po.elim
theorem st_neNil (hu : X.A.units + 64 < cLine) {p2 : Pos} (ha : SQ X cl β a qa) (hm : behindInMarks .NotEq (.List [] p2) = false := by rfl) : ST X cl β W (.Compare a [.NotEq] [.List [] p2] pos) (asB (fNil true qa)) :=
  (pt_cmpR (op_neP hu) ha (pe_lst pa_nil) hm).mono fun _ _ _ h => rd_nilQ (fun x y H Q ⟨d, e, h1, h2, h3, h4, h6, h5⟩ => ⟨d, e, h1, h2, h3, h4, h6, by simpa using h5⟩) (rd_asB h)
theorem se_rev {k : Nat} {p1 p2 p3 : Pos} (ha : SE X cl β W a fa) : SE X cl β W (.Subscript a (.Slice none none (some (.UnaryOp .USub (.Constant (.int 1) k p1) p2)) p3) pos) (fRev fa) :=
  (pe_revL ha).mono fun σ H Q h => rdR.bind (rel := Rep (gx X cl)) h fun F P d ε1 v H1 F1 R1 P1 r1 en1 st1 po1 => by
    obtain ⟨r2, en2, st2, ex⟩ := frzR r1 en1 st1
    have z := D.frz_fz d
    have go : ∀ ds p vs, fzs ds = true → v = .ref p → SqL X.K (fzH F1 H1 R1) p vs → Reps (gx X cl) (fzH F1 H1 R1) H1 ds vs [] → PostR (gx X cl) β W σ (Rep (gx X cl)) F H P (.ok (.lst true ds.reverse) ε1) Q → ∃ a xs, v = .ref a ∧ SqL X.K H1 a xs ∧ ∀ p, H1 p = none → Q (.ref p) (upd H1 p (.lst xs.reverse)) := by
      intro ds p vs hz hv hs rr po
      refine ⟨p, vs, hv, exh_l st2.top hs, fun q hq => ?_⟩
      obtain ⟨s3, same⟩ := st2.andNew (o := .lst vs.reverse) (EnvR.alive _ _ _ _ en2) hq
      exact po _ _ _ [q] P1 ⟨q, _, [], rfl, upd_same, rfl, Reps.move (Exh.rfl' _) _ _ _ (fun _ z => nomatch z) (Reps.reverse hz rr)⟩ (EnvR.move (Exh.rfl' _) _ _ _ _ same en2) s3
    split at po1
    · rename_i o ds e
      rw [e] at r2 z
      cases o with
      | true => simp [D.fz] at z
      | false =>
        obtain ⟨p, vs, hv, hp, _, rr⟩ := r2
        exact go ds p vs (items_fz z rfl) hv (SqL.of hp) rr po1
    · rename_i ds e
      rw [e] at r2 z
      obtain ⟨p, vs, hv, hp, _, rr⟩ := r2
      exact go ds p vs z hv hp rr po1
    · exact po1.elim
theorem se_dicN : SE X cl β W (.Dict [] [] pos) fDicN := pe_dnewK.mono fun σ H Q ⟨F, ε, P, en, st, po⟩ => by
  intro p hp
  obtain ⟨s2, same⟩ := st.andNew (o := .dK []) (EnvR.alive _ _ _ _ en) hp
  exact po _ _ F [p] P ⟨p, [], [], rfl, upd_same, rfl, rfl, rfl, rfl⟩ (EnvR.move (Exh.rfl' F) _ _ _ _ same en) s2
theorem sps_nil : SPs X cl β W pos [] [] [] [] := ⟨rfl, pps_nil⟩
theorem sps_str {s : Str} {j : Nat} {p : Pos} {ks : List Key} {fl : List FE} {keys : List (Option Expr)} {values : List Expr} (ha : SE X cl β W a fa) (hr : SPs X cl β W pos keys values ks fl) : SPs X cl β W pos (some (.Constant (.str s) j p) :: keys) (a :: values) (.inr s :: ks) (fa :: fl) :=
  ⟨by simp [hr.len], pps_cons pe_str ha hr.pps⟩
theorem rd_pairs {σ : L2.St} : ∀ (ks : List Key) (fl : List FE) (H : Hp) (Q : List (V × V) → Hp → Prop), ks.length = fl.length → rdA X cl β W (evl fl) σ H (fun vs H' => vs.length = ks.length → Q ((ks.zip vs).map fun p => (kV p.1, p.2)) H') → tPairs ((ks.zip fl).map fun p => (tC (kV p.1), rdE X cl β W p.2)) σ H Q
  | [], [], H, Q, hl, h => by
    obtain ⟨F, ε, P, en, st, po⟩ := h
    exact po [] H F [] P ⟨rfl, rfl⟩ en st rfl
  | k :: ks, f :: fl, H, Q, hl, h => by
    have h2 := rd_cons h
    show tC (kV k) σ H fun x H1 => rdE X cl β W f σ H1 fun y H2 => tPairs ((ks.zip fl).map fun p => (tC (kV p.1), rdE X cl β W p.2)) σ H2 fun ps H3 => Q ((x, y) :: ps) H3
    refine rdR.mono h2 fun y H2 h3 => ?_
    refine rd_pairs ks fl H2 _ (by simpa using hl) ?_
    refine rdR.mono h3 fun vs H3 h4 hl2 => ?_
    exact h4 (by simp [hl2])
  | [], _ :: _, H, Q, hl, h => by cases hl
  | _ :: _, [], H, Q, hl, h => by cases hl
theorem mergeK_snoc : ∀ (more kvs : List (Key × V)), (∀ p ∈ kvs, ∀ q ∈ more, p.1 ≠ q.1) → apart (more.map (·.1)) = true → mergeK kvs more = kvs ++ more
  | [], kvs, _, _ => (List.append_nil kvs).symm
  | q :: more, kvs, h, ap => by
    obtain ⟨a1, a2⟩ := apart_cons ap
    show mergeK (L2.putK kvs q.1 q.2) more = _
    rw [putK_eq q.1 q.2 kvs (fun p hp => h p hp q List.mem_cons_self), mergeK_snoc more _ (fun p hp r hr => ?_) a2, List.append_assoc]
    · rfl
    · rcases List.mem_append.mp hp with hp | hp
      · exact h p hp r (List.mem_cons_of_mem _ hr)
      · rw [List.mem_singleton.mp hp]
        exact fun e => a1 (by
          show q.1 ∈ more.map (·.1)
          rw [show q.1 = r.1 from e]
          exact List.mem_map_of_mem hr)
theorem se_dic {keys : List (Option Expr)} {values : List Expr} {ks : List Key} {fl : List FE} (h : SPs X cl β W pos keys values ks fl) (hall : keys.all (·.isSome) = true := by rfl) (hl : keys.length = values.length := by rfl) (h0 : keys ≠ [] := by exact fun z => nomatch z) (h15 : keys.length ≤ 15 := by decide) (h16 : ks.length ≤ 15 := by decide) :
    SE X cl β W (.Dict keys values pos) (fDic ks fl) := (pe_disp h.pps hall hl h0 h15).mono fun σ H Q ⟨F, ε, P, en, st, po⟩ => by
  intro p hp
  obtain ⟨s1, same⟩ := st.andNew (o := .dK []) (EnvR.alive _ _ _ _ en) hp
  have en1 := EnvR.move (Exh.rfl' F) _ _ _ _ same en
  have s1' : Stp F H P F (upd H p (.dK [])) ([p] ++ P) := s1
  have al : ∀ q ∈ [p], upd H p (.dK []) q ≠ none := fun q hq => by rw [List.mem_singleton.mp hq, upd_same]; exact fun z => nomatch z
  refine rd_pairs ks fl _ _ h.len ⟨F, ε, P, en1, (s1'.drop (List.sublist_append_right [p] P)).base, PostR.next (A := [p]) po s1' al fun as ε2 _ vs H2 F2 R2 P2 r2 en2 st2 same2 ex po2 => ?_⟩
  intro hlen
  have hp2 : H2 p = some (.dK []) := by rw [same2 p List.mem_cons_self, upd_same]
  split at po2
  · rename_i ds e1
    have rd := relA.reps r2 e1
    split at po2
    · rename_i hz
      have hm : mergeK [] (ks.zip vs) = ks.zip vs := by
        refine mergeK_snoc _ [] (fun _ z => nomatch z) ?_
        have : (ks.zip vs).map (·.1) = ks := List.map_fst_zip (by omega)
        rw [this]
        exact hz.2
      refine ⟨hp2, ks.zip vs, rfl, by rw [List.length_zip]; omega, ?_⟩
      rw [hm]
      have s3 := Stp.wr (o := .dK (ks.zip vs)) st2.base (p := p) (by simp)
      have nd := st2.nd
      have ne : ∀ q, q ∈ R2 ++ P2 → q ≠ p := fun q hq e => by
        subst e
        exact (List.nodup_cons.mp (show (q :: (R2 ++ P2)).Nodup from nd)).1 hq
      have mv : ∀ q, q ∈ R2 ++ P2 → upd H2 p (.dK (ks.zip vs)) q = H2 q := fun q hq => upd_ne (ne q hq)
      exact po2 _ _ F2 (p :: R2) P2 ⟨p, vs, R2, rfl, upd_same, hlen.symm, rfl, Reps.move (Exh.rfl' _) _ _ _ (fun q hq => mv q (List.mem_append_left _ hq)) rd⟩ (EnvR.move (Exh.rfl' _) _ _ _ _ (fun q hq => mv q (List.mem_append_right _ hq)) en2) (st2.tr s3)
    · exact po2.elim
  · exact po2.elim
theorem foldl_size (a : Array Nat) : ∀ (n : Nat) (acc : Array Nat), ((List.replicate n a).foldl (· ++ ·) acc).size = acc.size + n * a.size
  | 0, acc => by simp
  | n + 1, acc => by
    rw [List.replicate_succ, List.foldl_cons, foldl_size a n (acc ++ a), Array.size_append, Nat.succ_mul]
    omega
theorem strRep_len (s : Str) (n : Nat) : (strRep s n).length = n * s.length := by
  show ((List.replicate n s.cps).foldl (· ++ ·) #[]).size = _
  rw [foldl_size]
  simp [Str.length]
def rMulS : R2 := fun x y H Q => ∃ (s : Str) (n : Int), x = .str s ∧ y = .int n ∧ 2 ≤ n ∧ n ≤ 1000 ∧ 1 ≤ s.length ∧ s.length ≤ 1000 ∧ Q (.str (strRep s n.toNat)) H
theorem op_mulS : OpR X (binaryOp .Mult) rMulS := by
  intro pins s σ H x y v u Q I rx ry h
  obtain ⟨z, n, rfl, rfl, h1, h2, h3, h4, q⟩ := h
  obtain ⟨t, rfl⟩ := rx
  obtain ⟨t', rfl⟩ := ry
  have hz : ¬ n < 1 := by omega
  have hl : PySem.Builtin.Str.tooLong (z.length * n.toNat) = false := by
    unfold PySem.Builtin.Str.tooLong
    exact decide_eq_false (by
      have a1 : z.length * n.toNat ≤ 1000 * 1000 := Nat.mul_le_mul h4 (by omega)
      have a2 : (1000 * 1000 : Nat) ≤ sizeLine := by rw [sizeLine_eq]; decide
      omega)
  refine P.mul_str ?_ (fun _ _ => ?_) (fun _ _ => hl) ?_
  · rw [decide_eq_false (by omega), decide_eq_false (by omega)]; rfl
  · have a1 : (9000000000000000 : Int) ≤ (2 ^ 63 - 1) / n := by
      refine (Int.le_ediv_iff_mul_le (by omega)).mpr ?_
      have : (9000000000000000 : Int) * n ≤ 9000000000000000 * 1000 := Int.mul_le_mul_of_nonneg_left h2 (by decide)
      omega
    omega
  · rw [if_neg hz, if_neg (by simp; omega)]
    refine ⟨?_, .str (strRep z n.toNat), H, I.tok _, ⟨_, rfl⟩, q⟩
    show (strRep z n.toNat).length ≤ sizeLine
    rw [strRep_len]
    have a1 : n.toNat * z.length ≤ 1000 * 1000 := Nat.mul_le_mul (by omega) h4
    have a2 : (1000 * 1000 : Nat) ≤ sizeLine := by rw [sizeLine_eq]; decide
    omega
def rMulY (K : PySem.W.Frag) : R2 := fun x y H Q => rMulS x y H Q ∨ rMulX K x y H Q
theorem op_mulY : OpR X (binaryOp .Mult) (rMulY X.K) := op_mulS.or op_mulX
theorem o2_mulY : Op2 (gx X cl) (rMulY X.K) kMulS := by
  intro F H d1 d2 d x y R1 R2 Q h1 h2 hk t hQ
  unfold kMulS at hk
  split at hk
  · rename_i s n
    split at hk
    · rename_i hz
      cases hk
      exact .inl ⟨s, n, h1.1, h2.1, hz.1, hz.2.1, hz.2.2.1, hz.2.2.2, hQ _ H F [] ⟨rfl, rfl⟩ (Stp.nil t)⟩
    · cases hk
  · exact .inr (o2_mul F H d1 d2 d x y R1 R2 Q h1 h2 hk t hQ)
def fAug (f : Int → Int → Int) (i : Nat) (fe : FE) : FS := fun ε => match qV i ε with
  | some (.int m) => (fe ε).out fun d ε1 => match d with
    | .int n => if i < ε1.length then .nx (ε1.set i (.val (.int (f m n)))) else .bad
    | _ => .bad
  | _ => .bad
end
end Nb
namespace Nb
open PySem PySem.Spec PyProof.Rows L2
theorem DefX.funD {K : PySem.W.Frag} {d : DefX} (e : fnX K (d.adr K) = d.val) (c : d.ok K = true) : ∃ fd, FunD K d.name d.qual d.params d.body d.scope [] [] (d.adr K) fd := by
  obtain ⟨kp, c2⟩ := He.ba c
  unfold fnX at e
  cases q : K.lookup (d.adr K) with
  | none => rw [q] at c2; cases c2
  | some o =>
    obtain ⟨oc, od, dt, osl⟩ := o
    rw [q] at c2 e
    cases dt with
    | func fd =>
      obtain ⟨n1, n2, n3, n4, n5, n6, n7, n8, n9, n10, n11, n12, n13, n14, n15⟩ := fd
      have e2 : (some (n1, n2, n3, n4, n5, n6, n7, n15) : He.FnW) = some (d.name, d.qual, d.params, .stmts d.body, d.scope, mainGlobals, [], builtinsNs) := e
      simp only [Option.some.injEq, Prod.mk.injEq] at e2
      obtain ⟨h1, h2, h3, h4, h5, h6, h7, h8⟩ := e2
      subst h1 h2 h3 h4 h5 h6 h7 h8
      obtain ⟨k1, k2⟩ := He.ba (show (PySem.W.codeIn K n13 d.qual && He.dflB K n8 []) = true from c2)
      exact ⟨_, ⟨oc, od, n8, n9, n10, n11, n12, n13, n14, osl, rfl, q, k1, He.dflB_ok k2, .inl rfl⟩, kp⟩
    | _ => cases c2
section
variable {fx : List (PySem.W.Frag → Bool)} {fn : List DefX} {K : PySem.W.Frag}
theorem SaysX.fact (c : SaysX fx fn K) (i : Nat) {f : PySem.W.Frag → Bool} (h : fx[i]? = some f := by rfl) : f K = true := by
  have c1 := (He.ba (show ((fx.all fun f => f K) && fn.all fun d => d.ok K) = true from congrArg (fun z : AlX => z.1) c)).1
  exact List.all_eq_true.mp c1 f (List.mem_of_getElem? h)
theorem SaysX.def_ (c : SaysX fx fn K) (i : Nat) {d : DefX} (h : fn[i]? = some d := by rfl) : ∃ fd, FunD K d.name d.qual d.params d.body d.scope [] [] (d.adr K) fd := by
  have c2 := (He.ba (show ((fx.all fun f => f K) && fn.all fun d => d.ok K) = true from congrArg (fun z : AlX => z.1) c)).2
  have e : fn.map (fun d => fnX K (d.adr K)) = fn.map DefX.val := congrArg (fun z : AlX => z.2) c
  have e2 : (fn.map fun d => fnX K (d.adr K))[i]? = (fn.map DefX.val)[i]? := by rw [e]
  rw [List.getElem?_map, List.getElem?_map, h] at e2
  exact DefX.funD (Option.some.inj e2) (List.all_eq_true.mp c2 d (List.mem_of_getElem? h))
end
section
variable {K : PySem.W.Frag}
theorem fTab_ok {names : List Str} {tab : IsTab} {nc : List Nat} (h : fTab names tab K = true) (hc : ∀ c ∈ nc, ClsI K (clN names K c)) : IsOk K (clN names K) nc tab := by
  refine ⟨fun p b e => ?_, hc⟩
  have mem : ∀ {t : IsTab}, tabGet t p = some b → ∃ r ∈ t, r.1 = p ∧ r.2 = b := by
    intro t
    induction t with
    | nil => intro h; cases h
    | cons r t ih =>
      intro h
      unfold tabGet at h
      by_cases hq : p = r.1
      · rw [if_pos hq] at h
        cases h
        exact ⟨r, List.mem_cons_self, hq.symm, rfl⟩
      · rw [if_neg hq] at h
        obtain ⟨r, m, e⟩ := ih h
        exact ⟨r, List.mem_cons_of_mem _ m, e⟩
  obtain ⟨r, hm, e1, e2⟩ := mem e
  have z := of_decide_eq_true (List.all_eq_true.mp h r hm)
  rw [← e1, ← e2]
  have f : ∀ t : Tk, tkV (clN names K) t = tkN names K t := fun t => by cases t <;> rfl
  rw [f, f]
  exact z
end
end Nb
set_option maxHeartbeats 2000000
namespace Nb
open PySem PySem.Spec PyProof.Rows L2
theorem exR_split : ∀ l : List Value, exR l = true → ∃ cs : List Addr, l = cs.map Value.ref ++ ESX.exTail
  | [], e => ⟨[], beq_iff_eq.mp e⟩
  | v :: r, e => by
    cases v with
    | ref c =>
      obtain ⟨cs, h⟩ := exR_split r e
      exact ⟨c :: cs, by rw [h]; rfl⟩
    | _ => exact ⟨[], beq_iff_eq.mp e⟩
theorem exR_pass (me : Value) {l : List Value} (e : exR l = true) : refuseLoop me "__setattr__" l = pure () := by
  obtain ⟨cs, rfl⟩ := exR_split l e
  clear e
  induction cs with
  | nil => exact F.store_Exception.passes me
  | cons c cs ih => rw [List.map_cons, List.cons_append, refuseLoop_ref, ih]
theorem exR_has (y : String) {l : List Value} (e : exR l = true) : l.contains (.type y) = ESX.exTail.contains (.type y) := by
  obtain ⟨cs, rfl⟩ := exR_split l e
  clear e
  induction cs with
  | nil => rfl
  | cons c cs ih => rw [List.map_cons, List.cons_append, List.contains_cons, ih]; rfl
section
open Builtin Builtin.ObjectAttr
variable {prog : Program} {w : World} {A : Around} {R : Result → Shared → Prop} {hp : Heap} {g : Array GenState} {d : Drawn} {t : Nat} {os : OsState}
theorem ex_sto {K : PySem.W.Frag} {nm : Str} {tk : Tok} {v : Value} {x C : Addr} {fv : Array Value} {cd : ClassData}
    (X : K.In hp) (hx : hp.get? x = some { cls := .ref C, data := .fields fv }) (hcd : PySem.W.clsIn K C = some cd) (hm : exR cd.mro = true) (hh : cd.hasDict = true) (ha : PySem.W.findIn K (.ref C) nm = some none)
    (hq : ∀ h' tk' dx, (∀ b o, b ≠ x → hp.get? b = some o → h'.get? b = some o) → hp.objs.size ≤ dx → dx ≠ x → h'.get? x = some { cls := .ref C, dict := some dx, data := .fields fv } →
      h'.Ns1 dx (fun y => if y = nm then some v else none) → R (.ok (.ret .none)) ⟨h', g, d, tk', os⟩) :
    codeAny (model prog w) A (.call (.builtin "object.__setattr__") ⟨[.ref x, .str nm tk, v], []⟩) R ⟨hp, g, d, t, os⟩ := by
  have st := F.store_object
  have at_ : PySem.W.InstAt hp x { cls := .ref C, data := .fields fv } C none := ⟨hx, rfl, rfl, trivial⟩
  have obj : cd.mro.contains (.type "object") = true := by rw [exR_has "object" hm]; decide +kernel
  have full : cd.mro.isEmpty = false := by
    cases q : cd.mro with
    | nil => rw [q] at hm; exact absurd hm (by decide)
    | cons _ _ => rfl
  have apart_ : x ≠ hp.objs.size := Nat.ne_of_lt (Heap.lt_size hx)
  have isO : PySem.W.Looks (model prog w) hp (isInstance (.ref x) (.type "object")) true := at_.type.andThen (PySem.W.looks_mroIn X (by
    unfold PySem.W.mroIn
    rw [hcd, Option.bind_some, full, obj]
    rfl))
  have mros : PySem.W.Looks (model prog w) hp (mroOf (.ref C)) cd.mro := (PySem.W.looks_clsIn X hcd).andThen .now
  have nobody : PySem.W.Looks (model prog w) hp (storeTaker? none) none := .now
  have clsL : PySem.W.Looks (model prog w) hp (classData C) cd := PySem.W.looks_clsIn X hcd
  refine codeAny_call_builtin st.slot.plain st.entry (@PySem.W.check_slot (model prog w) _ _ ⟨hp, g, d, t, os⟩ "object.__setattr__" "object" "__setattr__" (.ref x) [.str nm tk, v] [] _ st.kind st.split isO
    (st.args (.ref x) (.str nm tk) v) ?_)
  rw [PySem.W.osa_eq, refuse_eq]
  refine wpAny_bind (wpAny_bind (at_.type.at (wpAny_bind (mros.at ?_))))
  rw [exR_pass _ hm]
  refine wpAny_pure (wpAny_bind (at_.type.at (wpAny_bind ((PySem.W.looks_findIn X ha).at (wpAny_bind (nobody.at ?_))))))
  show wpAny _ _ (storeInOwnDict (.ref x) (.ref C) (.str nm tk) nm v false) _ _ _
  obtain ⟨cnm, cbs, cmro, cns, cqn, chd, csn, csb, cab, ccol, cdel⟩ := cd
  dsimp only at hh
  subst hh
  unfold storeInOwnDict ownDictForStores
  repeat (first
    | with_reducible refine PySem.HandSPX.store_in_new ?_ ?_
    | with_reducible refine wpAny_loadPart_at hx ?_
    | with_reducible refine clsL.at ?_
    | wp_step)
  · refine ⟨_, #[], _, (Heap.get?_update_ne _ _ _ _ apart_.symm).trans (Heap.get?_push_at rfl rfl), rfl, ?_, fun _ => rfl⟩
    intro e he
    exact absurd he (by simp)
  · intro h' tk' ns1 same
    have old : (hp.push { cls := .type "dict", data := .dict #[] }).get? x = some { cls := .ref C, data := .fields fv } := Heap.get?_push_of_some _ hx
    refine hq h' tk' hp.objs.size (fun b o hb ho => ?_) (Nat.le_refl _) apart_.symm ?_ ns1
    · rw [same.2 b (Nat.ne_of_lt (Heap.lt_size ho)), Heap.get?_update_ne _ _ _ _ hb]
      exact Heap.get?_push_of_some _ ho
    · rw [same.2 x apart_]
      exact Heap.get?_update_self _ old rfl
end
end Nb
namespace Nb
open PySem PySem.Spec PyProof.Rows L2
open PySem.W PySem.Calls in
theorem ex_run {prog : Program} {w : World} {A : Around} {R : Result → Shared → Prop} {h : Heap} {g : Array GenState} {d : Drawn} {t : Nat} {os : OsState} {K : PySem.W.Frag} {mg mb : Str → Option Value} {C f e t0 : Addr} {v : Value} {me par fld : Str}
    (T : ExI prog K C me par fld) (X : K.In h) (G : h.Ns mainGlobals mg) (B : h.Ns builtinsNs mb) (hb : mb "super" = some (.type "super")) (nl : h.NoLimit) (room : A.depth < recursionLimit)
    (hf : PySem.W.findIn K (.ref C) "__init__" = some (some (.ref f))) (he : h.get? e = some (PySem.HandSPX.excO C t0)) (ke : K.lookup e = none)
    (hq : ∀ h' dx t1 tk, (∀ b o, b ≠ e → h.get? b = some o → h'.get? b = some o) → h'.get? e = some { cls := .ref C, dict := some dx, data := .fields #[.ref t1, .none, .none, .none, .bool false, .none] } → h.objs.size ≤ dx → dx ≠ e →
      h'.Ns1 dx (fun y => if y = fld then some v else none) → R (.ok (.ret .none)) ⟨h', g, d, tk, os⟩) :
    codeAny (model prog w) A (.call (.ref f) ⟨[.ref e, v], []⟩) R ⟨h, g, d, t, os⟩ := by
  obtain ⟨f', hf', tyF, q, txt, j, p, oc, od, scope, params, dV, kV, doc, pm, an, cda, cc, ct, osl, ccl, ccx, cdd, cld, vs, ccs, csl, file, tf, lk, cd, lkc, hvs, hfile, lcc, ⟨a1, ha1, hpo, hpa⟩, hep, hbind, s1, s2, s3, s4, sk, sc, sco, sge, hne, hd1, hd2⟩ := T.ini
  have : f' = f := by rw [hf] at hf'; cases hf'; rfl
  subst this
  subst ha1
  have mgs : mg "super" = none := mg_none_of X G T.su
  refine ks_codeAny_call_defAt (fd := ksFn "__init__" q params (exBody txt a1.arg par fld j p) scope dV kV doc pm an (.ref cda) ct cc) (body := exBody txt a1.arg par fld j p) room (X _ _ lk) rfl nl (codeRec_of X cd) rfl (BindsTo.of_eq (hbind _ _)) ?_ ?_ ?_ sco sge sk
  · intro x hx
    have := List.all_eq_true.mp sc x hx
    simpa using this
  · intro x hx
    simp only [List.mem_cons, List.not_mem_nil, or_false] at hx
    rcases hx with rfl | rfl
    · exact s1
    · exact s2
  intro h0 ns0 k0
  obtain ⟨L, hL⟩ : ∃ L, L = h.objs.size := ⟨_, rfl⟩
  have eL : e ≠ L := by rw [hL]; exact Nat.ne_of_lt (Heap.lt_size he)
  -- the lookups of the two names
  have vme : ∀ {h1 : Heap}, h1.Ns L (fun x => ([(a1.arg, Value.ref e), (par, v)] : List (Str × Value)).reverse.lookup x) → h1.Ns L (fun x => ([(a1.arg, Value.ref e), (par, v)] : List (Str × Value)).reverse.lookup x) := fun z => z
  have lme : ([(a1.arg, Value.ref e), (par, v)] : List (Str × Value)).reverse.lookup a1.arg = some (.ref e) := by
    have : (a1.arg == par) = false := by
      rw [beq_eq_false_iff_ne] at hne ⊢
      exact fun z => hne z.symm
    simp [List.lookup, this]
  have lpar : ([(a1.arg, Value.ref e), (par, v)] : List (Str × Value)).reverse.lookup par = some v := by simp [List.lookup]
  have X0 : K.In h0 := X.keeps k0
  have e0 := k0 _ _ he
  have sz0 : L < h0.objs.size := by
    obtain ⟨o, _, _, e1, _⟩ := ns0
    rw [hL]
    exact Heap.lt_size e1
  rw [← hL] at ns0 ⊢
  have hcl : clsIn K C ≠ none := by
    intro z
    have := T.up
    unfold ks_superIn at this
    rw [z] at this
    cases this
  obtain ⟨cdat, hcd⟩ := Option.ne_none_iff_exists'.mp hcl
  obtain ⟨nm, qn, N, bs, bm, sn, sub, ab, col, dd, k0', k1', k2', k3', k5', hC, hbm⟩ := T.cls
  obtain ⟨oC, hoC1, hoC2⟩ : ∃ oC, h0.get? C = some oC ∧ oC.data = .cls cdat := by
    unfold clsIn at hcd
    split at hcd
    · rename_i lo
      cases hcd
      exact ⟨_, X0 _ _ lo, rfl⟩
    · cases hcd
  have ep := hep L f'
  obtain ⟨pl, ecall⟩ := ep.call
  refine ks_wpAt_execs_cons (ks_wpAt_Expr_any (ks_wpAt_MethodCall (ks_wpAt_super_base (ar := a1) s3 s4 (by decide) rfl (X0 _ _ lk) rfl (by rw [show (ksFn "__init__" q params (exBody txt a1.arg par fld j p) scope dV kV doc pm an (.ref cda) ct cc).params = params from rfl, hpo, List.nil_append, hpa]) rfl (X0 _ _ lkc) rfl hvs hfile T.top ?_) ecall) ep.ia ep.s1)
  refine ks_loadName_global sk s3 (loadGlobal_builtin (G.keeps k0) mgs (B.keeps k0) hb ⟨rfl, ?_⟩)
  refine wpAny_loadName_free sk s4 rfl ⟨_, X0 _ _ lcc, rfl⟩ ?_
  refine wpAny_loadName_local sk s1 ns0 lme ?_
  refine ks_wpAny_isType_cls hoC1 hoC2 ⟨rfl, ?_⟩
  refine ks_wpAny_call_super hoC1 hoC2 e0 rfl (fun c z => by cases z) (looks_mroIn X0 T.me_) (fun h1 so1 k1 => ?_)
  have X1 := X0.keeps k1
  have e1 := k1 _ _ e0
  have at1 : InstAt h1 e (PySem.HandSPX.excO C t0) C none := ⟨e1, rfl, rfl, trivial⟩
  have up := T.up
  unfold ks_superIn at up
  rw [hcd, Option.bind_some] at up
  refine ESX.getMethod_super so1 (looks_opaque X1 T.st) (l₀ := cdat.mro) (fun A Q E s k q => wpAny_bind ((looks_clsIn X1 hcd) A _ E s k (wpAny_pure q))) rfl X1 up ?_ (by decide) (at1.type.andThen (looks_subIn X1 T.exE)) ?_
  · exact ks_ne X1 at1 hcd
  have so2 : (h1.push (ESX.bw e)).get? h1.objs.size = some (ESX.bw e) := Heap.get?_push_at rfl rfl
  have e2 : (h1.push (ESX.bw e)).get? e = some (PySem.HandSPX.excO C t0) := Heap.get?_push_of_some _ e1
  have X2 : K.In (h1.push (ESX.bw e)) := X1.keeps fun b o z => Heap.get?_push_of_some _ z
  have k2 : ∀ b o, h0.get? b = some o → (h1.push (ESX.bw e)).get? b = some o := fun b o z => Heap.get?_push_of_some _ (k1 b o z)
  refine ESX.callWith_bound (x := e) (spliced_more (Calls.Constant_str (spliced_none ⟨so2, ?_⟩))) rfl rfl
  refine ESX.call_bw (X2 _ _ hC) e2 so2 (by simp [sizeLine_eq]) (fun h3 t1 k3 e3 => ?_)
  have LC : L ≠ e := Ne.symm eL
  have X3 : K.In h3 := by
    intro b o z
    refine k3 b o (fun q => ?_) (X2 b o z)
    rw [q, ke] at z
    cases z
  have ns3 : h3.Ns L _ := ns0.at fun o z => k3 L o LC (k2 L o z)
  refine ks_wpAt_execs_cons (wpAt_of_wpAny (plainObj_wpAny_Assign_Attribute ?_ ep.s2))
  refine ESX.ldL ns3 lpar ?_ sk s2 hd2
  refine ESX.ldL ns3 lme ?_ sk s1 hd1
  refine set_plain X3 (ox := { cls := .ref C, data := .fields #[.ref t1, .none, .none, .none, .bool false, .none] }) (od := none) ⟨e3, rfl, rfl, trivial⟩ T.sa ?_
  have hm : cdat.mro = .ref C :: bm ∧ cdat.hasDict = true := by
    have z := hcd
    unfold clsIn at z
    rw [hC] at z
    cases z
    exact ⟨rfl, rfl⟩
  refine ex_sto X3 e3 hcd (by rw [hm.1]; exact hbm) hm.2 T.no (fun h4 tk dx k4 l4 n4 e4 ns4 => ?_)
  have sz3 : h.objs.size < h3.objs.size := by
    obtain ⟨o, _, _, z, _⟩ := ns3
    rw [← hL]
    exact Heap.lt_size z
  have l5 : h3.objs.size ≤ dx := l4
  refine wpAt_of_wpAny (wpAny_pure ?_)
  exact hq h4 dx t1 _ (fun b o hb z => k4 b o hb (k3 b o hb (k2 b o (k0 b o z)))) e4 (by omega) n4 ns4
end Nb
namespace Nb
open PySem PySem.Spec PyProof.Rows L2
def tEx (C : Addr) (fld : Str) (te : TE) : L2.St → Hp → XK → Prop := fun σ H Q => te σ H fun v H1 => ∀ dx, H1 dx = none → Q (.ref C) (some dx) (upd H1 dx (.xd [(fld, v)]))
theorem pmk_ex {X : Cx} {x me par fld : Str} {C : Addr} {e : Expr} {te : TE} {p pos : Pos} {k : Nat} (T : ExI X.prog X.K C me par fld) (hr : Room (k + 1) X.A) (hg : Gl X x) (hm : X.mg x = some (.ref C)) (ha : PE X e te)
    (hdb : (x == ("__debug__" : Str)) = false := by decide) (he : starEach [e] X.env = (false, eval e X.env) :: starEach [] X.env := by rfl) (hpl : (backTo pos (starEach [] X.env)).any (·.1) = false := by rfl) :
    PMk X (.Call (.Name x p) [e] [] pos) (tEx C fld te) := by
  intro pins s σ H Q I h
  obtain ⟨nm, q, N, bs, bm, sn, sub, ab, col, dd, k0, k1, k2, k3, k5, hC, hbm⟩ := T.cls
  obtain ⟨fI, iC, tI, _⟩ := T.ini
  refine wpAny_Call_Name_kw (ld_glob I hg hm ?_ hdb)
  refine PySem.W.callWith_K (h₀ := X.base) I.ok.mod.kin T.kC (spliced_more (thn (ha.run pins s σ H _ I h) fun u s1 ⟨v, H1, I1, r1, q1⟩ => spliced_none ⟨I1.kIn, ?_⟩) he) he hpl
  show wpAny _ _ (call (.ref C) [u]) _ _ _
  obtain ⟨hp, g, dr, tk, os⟩ := s1
  have bsz : X.base.objs.size ≤ hp.objs.size := I1.env0.bsz
  have kk : ∀ b o, hp.get? b = some o → ((hp.push (PySem.W.kdv_tup [u])).push (PySem.HandSPX.excO C hp.objs.size)).get? b = some o := fun b o z => Heap.get?_push_of_some _ (Heap.get?_push_of_some _ z)
  have hget : ((hp.push (PySem.W.kdv_tup [u])).push (PySem.HandSPX.excO C hp.objs.size)).get? (hp.objs.size + 1) = some (PySem.HandSPX.excO C hp.objs.size) := by heap_get
  have ke : X.K.lookup (hp.objs.size + 1) = none := by
    cases z : X.K.lookup (hp.objs.size + 1) with
    | none => rfl
    | some o =>
      have := Heap.lt_size (I1.ok.mod.kin _ _ z)
      have : hp.objs.size + 1 < X.base.objs.size := this
      have : X.base.objs.size ≤ hp.objs.size := bsz
      omega
  obtain ⟨mb, hb1, hb2⟩ := I1.mod.blt
  have bk := I1.bk
  refine wpAny_call (PySem.HandSPX.call_own F.excBase_Exception (fun Y => exR_has Y hbm) (I1.kIn _ _ hC) (PySem.W.looks_findIn I1.kIn iC) (fun self => PySem.W.bind_fn I1.kIn self tI) (by simp [sizeLine_eq]) ?_)
  refine ex_run (mg := X.mg) (mb := mb) T (I1.kIn.keeps kk) ((I1.mod.glob.keeps bk).keeps kk) ((hb1.keeps bk).keeps kk) ((hb2 "super" (by decide)).trans (by decide +kernel)) ((I1.mod.nolimit.keeps bk).keeps kk) (hr.make C [u] []).depth iC hget ke ?_
  intro h' dx t1 tk' kp he' hdx hne hns
  have a1 : H1 (hp.objs.size + 1) = none := I1.hok.fresh (Nat.le_succ _)
  have szd : hp.objs.size ≤ dx := by
    have z1 : (hp.objs.size + 1 : Nat) < ((hp.push (PySem.W.kdv_tup [u])).push (PySem.HandSPX.excO C hp.objs.size)).objs.size := Heap.lt_size hget
    have z2 : ((hp.push (PySem.W.kdv_tup [u])).push (PySem.HandSPX.excO C hp.objs.size)).objs.size ≤ dx := hdx
    omega
  have hd1 : H1 dx = none := I1.hok.fresh szd
  obtain ⟨G, g1, g2⟩ := restrict h' fun b => decide (b ≠ hp.objs.size + 1)
  have gk : ∀ b, b ≠ hp.objs.size + 1 → G.get? b = h'.get? b := fun b z => g1 b (decide_eq_true z)
  have ge : G.get? (hp.objs.size + 1) = none := g2 _ (by simp)
  have kG : ∀ b o, hp.get? b = some o → G.get? b = some o := fun b o z => by
    have nb : b ≠ hp.objs.size + 1 := Nat.ne_of_lt (Nat.lt_succ_of_lt (Heap.lt_size z))
    rw [gk b nb]
    exact kp b o nb (kk b o z)
  have nsG : G.Ns1 dx (fun y => if y = fld then some u else none) := hns.at fun o z => by rw [gk dx hne]; exact z
  have ok : ObjOk X.prog X.w (upd H1 dx (.xd [(fld, v)])) G dx (.xd [(fld, v)]) := by
    refine ⟨_, nsG, fun y => ?_⟩
    by_cases hy : y = fld
    · subst hy
      simp [List.lookup]
      exact r1
    · have hy' : (y == fld) = false := by simpa using hy
      simp only [List.lookup, hy', hy, if_false]
      trivial
  have J := I1.laid (t' := tk') (h' := G) kG szd ok
  refine ⟨rfl, hp.objs.size + 1, _, _, ⟨G, g, dr, tk', os⟩, _, .ref C, some dx, rfl, J, fun b o z => ?_, ge, he', ⟨rfl, rfl⟩, rfl, rfl, ?_, rfl, J.bare, raises_own T.exC T.tyC, q1 dx hd1⟩
  · by_cases hb : b = hp.objs.size + 1
    · rw [hb, ge] at z
      cases z
    · rw [← gk b hb]
      exact z
  · rw [upd_ne hne.symm]
    exact a1
end Nb
namespace Nb
open PySem PySem.Spec PyProof.Rows L2
theorem reps_ints {g : Gh} {F H : Hp} : ∀ ns : List Int, Reps g F H (ns.map D.int) (ns.map V.int) []
  | [] => ⟨rfl, rfl⟩
  | n :: ns => ⟨.int n, ns.map V.int, [], [], rfl, rfl, ⟨rfl, rfl⟩, reps_ints ns⟩
theorem spD_law {g : Gh} {run : List D → CRes} {ns : List Int} {H : Hp} {a : Addr} (h : run (scrD ns) = .ok (.bl true) []) (hS : SqL g.K H a (ns.map V.int)) : spD g [] run [.ref a] H (fun v _ => v = .bl true) fun _ _ _ => False := by
  refine ⟨Nat.zero_le _, H, scrD ns, [], ⟨.ref a, [], [], [], rfl, rfl, ⟨a, _, rfl, hS, rfl, reps_ints ns⟩, rfl, rfl⟩, Stp.nil (Exh.rfl' H), ?_⟩
  rw [h]
  exact fun v H' F' R Ro q1 _ _ => q1.1
theorem spD_bad {g : Gh} {bs : List Bool} {vs : List V} {H : Hp} {Q : VK} {E : XK} : ¬ spD g bs (fun _ => .bad) vs H Q E := fun ⟨_, _, _, _, _, _, z⟩ => z
section
variable {gd : Bool} {P : Program} {w : World} {K : PySem.W.Frag} {mg : Str → Option Value} {base : Heap} {k n : Nat} {f : Addr} {bs : List Bool} {g : Gh} {ks ps : List Str} {gV : List V → List V → List V} {fd : FuncData}
theorem fng_bad : FnG gd P w K mg base k f (spD g bs (fun _ => .bad)) := fun A outer s H us vs Q E hr hg e hv hs => (spD_bad hs).elim
end
end Nb
namespace Nb
open PySem PySem.Spec PyProof.Rows L2
section
variable {X : Cx} {cl : Nat → Addr} {β : List (Option V)} {W : WX} {pos p2 p : Pos} {e : Expr} {fe : FE}
theorem rd_raise {c : Nat} {fld : Str} {D : Ends} {σ : L2.St} {H : Hp} (h : rdS (gx X cl) β W (fRaise c fld fe) D σ H) : tEx (cl c) fld (rdE X cl β W fe) σ H fun k d H' => W k d σ H' := by
  obtain ⟨F, ε, P, en, st, po⟩ := h
  refine ⟨F, ε, P, en, st, ?_⟩
  unfold fRaise at po
  cases q : fe ε with
  | ok d ε1 =>
    rw [q] at po
    simp only [Res.out] at po
    split at po
    · rename_i hz
      intro v H1 F1 R P1 rl en1 st1 dx hdx
      have c := Rep.cold d v R hz rl
      subst c
      obtain ⟨s2, same⟩ := st1.andNewF (o := .xd [(fld, v)]) (by simpa using EnvR.alive _ _ _ _ en1) hdx
      have e2 : Exh F1 (upd F1 dx (.xd [(fld, v)])) := exh_upd (none_of_exh st1.top hdx)
      refine po σ (some dx) [v] _ (upd F1 dx (.xd [(fld, v)])) P1 ⟨dx, rfl, by rw [upd_same]; rfl⟩ rfl ⟨v, [], [], [], rfl, rfl, Rep.move e2 _ _ _ (fun _ z => nomatch z) rl, rfl, rfl⟩ (EnvR.move e2 _ _ _ _ (fun x hx => same x (by simpa using hx)) en1) (by simpa using s2)
    · exact po.elim
  | exc c' fs ds ε1 =>
    rw [q] at po
    exact fun dx vs H' F' P' h1 h2 h3 h4 h5 => po σ dx vs H' F' P' h1 h2 h3 h4 h5
  | bad =>
    rw [q] at po
    exact po.elim
theorem s_raise {x me par fld : Str} {c k : Nat} (T : ExI X.prog X.K (cl c) me par fld) (hr : Room (k + 1) X.A) (hc : X.calm = true) (tk : Takes X W) (hg : Gl X x) (hm : X.mg x = some (.ref (cl c))) (ha : SE X cl β W e fe)
    (hdb : (x == ("__debug__" : Str)) = false := by decide) (he : starEach [e] X.env = (false, eval e X.env) :: starEach [] X.env := by rfl) (hpl : (backTo p2 (starEach [] X.env)).any (·.1) = false := by rfl) :
    SS X cl β W (.Raise (some (.Call (.Name x p) [e] [] p2)) none pos) (fRaise c fld fe) :=
  PSm (ps_raise hc tk (pmk_ex T hr hg hm ha hdb he hpl)) fun D σ H h => rd_raise h
end
end Nb
namespace Nb
open PySem PySem.Spec PyProof.Rows L2
def fTryX (cs : List Nat) (c0 : Nat) (f : Str) (i j : Nat) (k : List D → Option D) (fb : FS) : FS := fun ε => match fb ε with
  | .exc c fs ds ε1 => if cs.contains c = true then (if c = c0 then (if fs = [f] ∧ i < ε1.length ∧ j < ε1.length then (match k ds with
    | some d' => .nx (((ε1.set i .no).set j (.val d')).set i .no)
    | none => .bad) else .bad) else .exc c fs ds ε1) else .bad
  | r => r
theorem EnvR.setNo {g : Gh} {F H : Hp} {ε : Ev} {σ : L2.St} {β : List (Option V)} {P : List Addr} (en : EnvR g F H ε σ β P) (i : Nat) (hi : i < ε.length) : ∃ P', P'.Sublist P ∧ ∀ x, EnvR g F H (ε.set i .no) (σ.set i x) β P' := by
  obtain ⟨x, b, A, P1, B, h1, h2, h3, h4, h5⟩ := EnvR.at _ _ _ _ i _ (List.getElem?_eq_getElem hi) en
  refine ⟨A ++ [] ++ B, ?_, fun y => h5 F H .no y [] (Exh.rfl' F) (fun _ _ => rfl) rfl⟩
  rw [h3, List.append_nil]
  exact List.Sublist.append_right (List.sublist_append_left A P1) B
section
variable {X : Cx} {cl : Nat → Addr} {β : List (Option V)} {W : WX} {pos pos' np yp pa : Pos}
end
end Nb
namespace Nb
open PySem PySem.Spec PyProof.Rows L2
section
variable {X : Cx} {cl : Nat → Addr}
end
section
variable {X : Cx} {cl : Nat → Addr}
end
end Nb
namespace Nb
open PySem PySem.Spec PyProof.Rows L2
theorem isNon_ok {v : Value} (h : isNon v = true) : v = .none := by cases v <;> first | rfl | cases h
theorem clsEB_ok {K : PySem.W.Frag} {C : Addr} (q : clsEB K C = true) : ∃ nm q N bs bm sn sub ab col dd k0 k1 k2 k3 k5, K.lookup C = some (excClassObj nm q C N bs bm true sn sub ab col dd k0 k1 k2 k3 k5 "Exception.__new__") ∧ exR bm = true := by
  unfold clsEB at q
  split at q
  · rename_i dd cd sl ho
    split at q
    · rename_i C' bm k0 k1 k2 k3 n k5 hm hs
      simp only [Bool.and_eq_true, beq_iff_eq, Bool.not_eq_true'] at q
      obtain ⟨⟨⟨⟨rfl, rfl⟩, hdel⟩, hdict⟩, ht⟩ := q
      obtain ⟨nm, bs, mro, ns, qn, hd, sn, sub, ab, col, del⟩ := cd
      dsimp only at hm hdel hdict
      subst hm hdel hdict
      obtain ⟨l⟩ := sl
      simp only at hs
      subst hs
      exact ⟨nm, qn, ns, bs, bm, sn, sub, ab, col, dd, k0, k1, k2, k3, k5, ho, ht⟩
    · cases q
  · cases q
theorem fCa_ok {K : PySem.W.Frag} {x fld : Str} (h : fCa x fld K = true) : CaU K (He.ga K x) fld := by
  obtain ⟨h1, h⟩ := He.ba h
  obtain ⟨h2, h⟩ := He.ba h
  obtain ⟨h3, h⟩ := He.ba h
  obtain ⟨h4, h⟩ := He.ba h
  obtain ⟨h5, h6⟩ := He.ba h
  have z := xfB_ok h1
  exact ⟨z, He.eqO_ok h2, z.ga, z.gg, z.exC, z.hdC, He.eqO_ok h3, He.eqO_ok h4, of_decide_eq_true h5, of_decide_eq_true h6⟩
theorem exI_of {P : Program} {K : PySem.W.Frag} {me par fld : Str} {d : DefE} (e : fnE K (d.adr K) = d.val) (c : d.ok K P.main.file = true) (h : fEx d.cls fld K = true) (t : ExTx me par fld d)
    (top : (P.main.scope.names.lookup ("super" : Str)).isSome = false) : ExI P K (He.ga K d.cls) me par fld := by
  obtain ⟨h1, h⟩ := He.ba h
  obtain ⟨h2, h⟩ := He.ba h
  obtain ⟨h3, h⟩ := He.ba h
  obtain ⟨h4, h⟩ := He.ba h
  obtain ⟨h5, h⟩ := He.ba h
  obtain ⟨h6, h⟩ := He.ba h
  obtain ⟨h7, h⟩ := He.ba h
  obtain ⟨h8, h⟩ := He.ba h
  obtain ⟨h9, h⟩ := He.ba h
  obtain ⟨h10, h⟩ := He.ba h
  obtain ⟨h11, h⟩ := He.ba h
  obtain ⟨h12, h13⟩ := He.ba h
  refine ⟨clsEB_ok h1, He.eqO_ok h2, of_decide_eq_true h3, of_decide_eq_true h4, of_decide_eq_true h5, h6, of_decide_eq_true h7, He.eqO_ok h8, He.eqO_ok h9, He.eqO_ok h10, He.eqO_ok h11, top, d.adr K, He.eqO_ok h12, of_decide_eq_true h13, ?_⟩
  obtain ⟨txt, j, p, hb, hp⟩ := t.tx
  obtain ⟨s1, s2, s3, s4, s5, s6, s7, s8, s9, s10, s11⟩ := t.sc
  unfold DefE.ok at c
  unfold fnE at e
  cases q : K.lookup (d.adr K) with
  | none => rw [q] at c; cases c
  | some o =>
    obtain ⟨oc, od, dt, osl⟩ := o
    rw [q] at c e
    cases dt with
    | func fd =>
      obtain ⟨n1, n2, n3, n4, n5, n6, n7, n8, n9, n10, n11, n12, n13, n14, n15⟩ := fd
      have e2 : (some (n1, n2, n3, n4, n5, n6, ([] : List (Str × Addr)), n15) : He.FnW) = d.val := e
      unfold DefE.val at e2
      simp only [Option.some.injEq, Prod.mk.injEq] at e2
      obtain ⟨g1, g2, g3, g4, g5, g6, _, g8⟩ := e2
      subst g1 g2 g3 g4 g5 g6 g8
      obtain ⟨k1, k2⟩ := He.ba (show (PySem.W.codeIn K n13 d.qual && (cellOk K (He.ga K d.cls) n7 && (fileOk K P.main.file n13 && isNon n8))) = true from c)
      obtain ⟨k2a, k3a⟩ := He.ba k2
      obtain ⟨k3b, k4⟩ := He.ba k3a
      have hnon := isNon_ok k4
      clear k2 k3a k4
      subst hnon
      have k2 := k2a
      have k3 := k3b
      obtain ⟨cc, hcl, ccx, cld, csl, hcc⟩ : ∃ cc : Addr, n7 = ([(Str.ofString "__class__", cc)] : List (Str × Addr)) ∧ ∃ ccx cld csl, K.lookup cc = some ⟨ccx, cld, .cell (some (.ref (He.ga K d.cls))), csl⟩ := by
        cases n7 with
        | nil => cases k2
        | cons pr r =>
          cases r with
          | cons _ _ => cases k2
          | nil =>
            obtain ⟨x, cc⟩ := pr
            obtain ⟨z1, z2⟩ := He.ba (show (decide (x = Str.ofString "__class__") && (match K.lookup cc with
              | some ⟨_, _, .cell (some (.ref D)), _⟩ => decide (D = He.ga K d.cls)
              | _ => false)) = true from k2)
            have z1 := of_decide_eq_true z1
            subst z1
            split at z2
            · rename_i a1 a2 D a4 ho
              have := of_decide_eq_true z2
              subst this
              exact ⟨cc, rfl, a1, a2, a4, ho⟩
            · cases z2
      obtain ⟨cda, hcda, ccl, cdd, vs, ccs, file, tf, hlk, hvs, hfile⟩ : ∃ cda, n13 = .ref cda ∧ ∃ ccl cdd vs ccs file tf, K.lookup cda = some ⟨ccl, cdd, .fields vs, ccs⟩ ∧ vs[2]? = some (.str file tf) ∧ ((P.main.file : Str) == file) = true := by
        unfold fileOk at k3
        split at k3
        · rename_i cda
          split at k3
          · rename_i a1 a2 vs a4 ho
            split at k3
            · rename_i f tf hv
              exact ⟨cda, rfl, a1, a2, vs, a4, f, tf, ho, hv, k3⟩
            · cases k3
          · cases k3
        · cases k3
      subst hcl hcda
      have bi := t.bi n9 n10 n11 (.ref cda) n14 n12 cc
      have pp := fun L f' => hp .none n9 n10 n11 (.ref cda) n14 n12 cc L f'
      rw [hb] at bi pp
      exact ⟨d.qual, txt, j, p, oc, od, d.scope, d.params, .none, n9, n10, n11, n12, cda, cc, n14, osl, ccl, ccx, cdd, cld, vs, ccs, csl, file, tf, (by rw [hb]), k1, hlk, hvs, hfile, hcc, t.pa, pp, bi, s1, s2, s3, s4, s5, s6, s7, s8, s9, s10, s11⟩
    | _ => cases c
end Nb
namespace Nb
open PySem PySem.Spec PyProof.Rows L2
section
variable {X : Cx} {cl : Nat → Addr} {β : List (Option V)} {W : WX} {pos : Pos} {o i : Expr} {fo fi : FE} {run : List D → CRes} {c k : Nat}
end
end Nb
namespace Nb
open PySem PySem.Spec PyProof.Rows L2
section
variable {X : Cx} {cl : Nat → Addr} {β : List (Option V)} {W : WX} {pos : Pos} {o e : Expr} {es : List Expr} {fo : FE} {fs fk : FA} {gd : Bool} {k : Nat} {bs : List Bool} {run : List D → CRes} {x m : Str} {p apos : Pos} {kws : List Keyword} {ks : List Str}
end
end Nb
namespace Nb
open PySem PySem.Spec PyProof.Rows L2
section
variable {X : Cx} {pins : List (Addr × Obj)} {σ : L2.St} {H : Hp} {s : Shared}
end
def SysOk (K : PySem.W.Frag) : Prop := ∃ o, K.lookup sysModules = some o ∧ o.cls = .type "dict"
theorem fSys_ok {K : PySem.W.Frag} (h : fSys K = true) : SysOk K := by
  unfold fSys at h
  split at h
  · rename_i o e
    exact ⟨o, e, beq_iff_eq.mp h⟩
  · cases h
mutual
theorem Rep.dpx {g : Gh} {F H : Hp} (t : Exh F H) : ∀ (d : D) (v : V) (P : List Addr) (p : PyData), Rep g F H d v P → d.dataX = some p → DpX g.K H v p
  | .non, _, _, _, h, e => by
    simp only [D.dataX, Option.some.injEq] at e
    rw [h.1, ← e]; exact .non
  | .bl b, _, _, _, h, e => by
    simp only [D.dataX, Option.some.injEq] at e
    rw [h.1, ← e]; exact .bl b
  | .int i, _, _, _, h, e => by
    simp only [D.dataX, Option.some.injEq] at e
    rw [h.1, ← e]; exact .int i
  | .str s, _, _, _, h, e => by
    simp only [D.dataX, Option.some.injEq] at e
    rw [h.1, ← e]; exact .str s
  | .ty n, _, _, _, _, e => by simp [D.dataX] at e
  | .cls c, _, _, _, _, e => by simp [D.dataX] at e
  | .ins o c fs ds, _, _, _, _, e => by simp [D.dataX] at e
  | .dcn o ks ds, _, _, _, _, e => by simp [D.dataX] at e
  | .dcb o ks ds, _, _, _, _, e => by simp [D.dataX] at e
  | .err o ks ds, _, _, _, _, e => by simp [D.dataX] at e
  | .dil ks ds, _, _, _, _, e => by simp [D.dataX] at e
  | .dic true ks ds, _, P, _, ⟨p, vs, P2, h1, h2, h3, h4, h5⟩, e => by
    simp only [D.dataX, Option.map_eq_some_iff] at e
    obtain ⟨xs, e1, e2⟩ := e
    rw [h1, ← e2]
    exact .dic h2 h3 (Reps.dpx t ds vs P2 xs h5 e1)
  | .dic false ks ds, _, P, _, ⟨p, vs, h1, h2, h3, h4, h5⟩, e => by
    simp only [D.dataX, Option.map_eq_some_iff] at e
    obtain ⟨xs, e1, e2⟩ := e
    rw [h1, ← e2]
    exact .dic (t _ _ h2) h3 (Reps.dpx t ds vs [] xs h5 e1)
  | .tuk ds, _, P, _, ⟨p, vs, h1, h2, h3⟩, e => by
    simp only [D.dataX, Option.map_eq_some_iff] at e
    obtain ⟨xs, e1, e2⟩ := e
    rw [h1, ← e2]
    exact .tup (exh_t t (knt_sq h2)) (Reps.dpx t ds vs P xs h3 e1)
  | .tup ds, _, P, _, ⟨p, vs, h1, h2, h3⟩, e => by
    simp only [D.dataX, Option.map_eq_some_iff] at e
    obtain ⟨xs, e1, e2⟩ := e
    rw [h1, ← e2]
    exact .tup (exh_t t h2) (Reps.dpx t ds vs P xs h3 e1)
  | .lst true ds, _, P, _, ⟨p, vs, P2, h1, h2, h3, h4⟩, e => by
    simp only [D.dataX, Option.map_eq_some_iff] at e
    obtain ⟨xs, e1, e2⟩ := e
    rw [h1, ← e2]
    exact .lst (SqL.of h2) (Reps.dpx t ds vs P2 xs h4 e1)
  | .lst false ds, _, P, _, ⟨p, vs, h1, h2, h3, h4⟩, e => by
    simp only [D.dataX, Option.map_eq_some_iff] at e
    obtain ⟨xs, e1, e2⟩ := e
    rw [h1, ← e2]
    exact .lst (SqL.of (t _ _ h2)) (Reps.dpx t ds vs [] xs h4 e1)
  | .scr ds, _, P, _, ⟨p, vs, h1, h2, h3, h4⟩, e => by
    simp only [D.dataX, Option.map_eq_some_iff] at e
    obtain ⟨xs, e1, e2⟩ := e
    rw [h1, ← e2]
    exact .lst (exh_l t h2) (Reps.dpx t ds vs [] xs h4 e1)
theorem Reps.dpx {g : Gh} {F H : Hp} (t : Exh F H) : ∀ (ds : List D) (vs : List V) (P : List Addr) (ps : List PyData), Reps g F H ds vs P → datasX ds = some ps → DpXAll g.K H vs ps
  | [], _, _, _, h, e => by
    simp only [datasX, Option.some.injEq] at e
    rw [h.1, ← e]; exact .nil
  | d :: ds, _, _, _, ⟨v, vr, P1, P2, h1, h2, h3, h4⟩, e => by
    unfold datasX at e
    split at e
    · rename_i x xs e1 e2
      have e3 := (Option.some.inj e).symm
      rw [h1, e3]
      exact .cons (Rep.dpx t d v P1 x h3 e1) (Reps.dpx t ds vr P2 xs h4 e2)
    · cases e
end
section
variable {X : Cx} {cl : Nat → Addr}
def rReprX (K : PySem.W.Frag) : List V → Hp → VK → Prop := fun xs H Q => ∃ x d, xs = [x] ∧ DpX K H x d ∧ d.showable = true ∧ d.depth ≤ 100 ∧ d.shown.length ≤ sizeLine ∧ Q (.str d.shown) H
theorem call_reprD (hS : SysOk X.K) (hG : X.A.guards = some []) (hu : X.A.units + 101 < cLine) : CallR X (.builtin "repr") (rReprX X.K) := by
  intro pins s σ H xs us Q I r h
  obtain ⟨x, d, rfl, dp, h1, h3, h4, q⟩ := h
  obtain ⟨u, rfl, rx⟩ := vals1 r
  obtain ⟨as, rd, hn⟩ := DpX.reads I (fun o ho => by
    obtain ⟨o', e1, e2⟩ := hS
    have e3 := I.kIn _ _ e1
    rw [e3] at ho
    cases ho
    exact e2) dp rx
  have q' : Q (.str d.shown) H := q
  cases rd with
  | none => exact PySem.P.repr_of_none ⟨.str _, H, I.tok _, ⟨_, rfl⟩, q⟩
  | bool b => exact PySem.P.repr_of_bool ⟨.str (if b then "True" else "False"), H, I.tok _, ⟨_, by cases b <;> rfl⟩, q⟩
  | int i t => exact PySem.P.repr_of_int (by simpa [PyData.showable] using h1) ⟨.str _, H, I.tok _, ⟨_, rfl⟩, q⟩
  | str y t => exact PySem.P.repr_of_str ⟨.str _, H, I.tok _, ⟨_, rfl⟩, q⟩ h4
  | list g1 g2 g3 g4 =>
    exact repr_of_reads' (.list g1 g2 g3 g4) h1 (fun _ => hn) hG (by omega) (fun _ _ e => e) (fun h' u tk hk => ⟨.str _, H, I.kept hk, ⟨_, rfl⟩, q'⟩) h4
  | tuple g1 g2 g3 g4 =>
    exact repr_of_reads' (.tuple g1 g2 g3 g4) h1 (fun _ => hn) hG (by omega) (fun _ _ e => e) (fun h' u tk hk => ⟨.str _, H, I.kept hk, ⟨_, rfl⟩, q'⟩) h4
  | dict g1 g2 g3 g4 g5 =>
    exact repr_of_reads' (.dict g1 g2 g3 g4 g5) h1 (fun _ => hn) hG (by omega) (fun _ _ e => e) (fun h' u tk hk => ⟨.str _, H, I.kept hk, ⟨_, rfl⟩, q'⟩) h4
theorem fk_reprX : FnK (gx X cl) (rReprX X.K) kReprX := by
  intro F H ds d vs R Q hr hk t hQ
  unfold kReprX at hk
  split at hk
  · split at hk
    · rename_i p e1
      split at hk
      · rename_i hz
        cases hk
        obtain ⟨v, rfl, h⟩ := reps1 hr
        exact ⟨v, p, rfl, Rep.dpx t _ _ _ _ h e1, hz.1, hz.2.1, hz.2.2, hQ _ H F [] ⟨rfl, rfl⟩ (Stp.nil t)⟩
      · cases hk
    · cases hk
  · cases hk
end
end Nb
namespace Nb
open PySem PySem.Spec PyProof.Rows L2
def exPos : List Stmt → Nat → Pos
  | [.Expr (.Call (.Attribute (.Call (.Name _ p0) _ _ p1) _ p2) [.Constant _ _ p3] _ p4) p5, .Assign [.Attribute (.Name _ p6) _ p7] (.Name _ p8) p9], i => [p0, p1, p2, p3, p4, p5, p6, p7, p8, p9].getD i p0
  | _, _ => ⟨0, 0, 0, 0⟩
theorem fXm_ok {K : PySem.W.Frag} {x y : Str} {b : Bool} (h : fXm x y b K = true) : PySem.W.exmOne K (.ref (He.ga K x)) (.ref (He.ga K y)) = some b := of_decide_eq_true h
end Nb
namespace Nb
open PySem PySem.Spec PyProof.Rows L2
section
variable {X : Cx} {cl : Nat → Addr} {β : List (Option V)} {W : WX} {pos : Pos} {a : Expr} {fo : FE}
end
end Nb
set_option maxHeartbeats 4000000
namespace Nb
open PySem PySem.Spec PyProof.Rows L2
end Nb
set_option maxHeartbeats 2000000
namespace Nb
open PySem PySem.Spec PyProof.Rows L2
open PySem.W PySem.Calls in
theorem ex_run0 {prog : Program} {w : World} {A : Around} {R : Result → Shared → Prop} {h : Heap} {g : Array GenState} {d : Drawn} {t : Nat} {os : OsState} {K : PySem.W.Frag} {mg mb : Str → Option Value} {C f e t0 : Addr} {me : Str}
    (T : ExI0 prog K C me) (X : K.In h) (G : h.Ns mainGlobals mg) (B : h.Ns builtinsNs mb) (hb : mb "super" = some (.type "super")) (nl : h.NoLimit) (room : A.depth < recursionLimit)
    (hf : PySem.W.findIn K (.ref C) "__init__" = some (some (.ref f))) (he : h.get? e = some (PySem.HandSPX.excO C t0)) (ke : K.lookup e = none)
    (hq : ∀ h' t1 tk, (∀ b o, b ≠ e → h.get? b = some o → h'.get? b = some o) → h'.get? e = some { cls := .ref C, data := .fields #[.ref t1, .none, .none, .none, .bool false, .none] } → R (.ok (.ret .none)) ⟨h', g, d, tk, os⟩) :
    codeAny (model prog w) A (.call (.ref f) ⟨[.ref e], []⟩) R ⟨h, g, d, t, os⟩ := by
  obtain ⟨f', hf', tyF, q, txt, j, p, oc, od, scope, params, dV, kV, doc, pm, an, cda, cc, ct, osl, ccl, ccx, cdd, cld, vs, ccs, csl, file, tf, lk, cd, lkc, hvs, hfile, lcc, ⟨a1, ha1, hpo, hpa⟩, hep, hbind, s1, s3, s4, sk, sc, sco, sge, hd1⟩ := T.ini
  have : f' = f := by rw [hf] at hf'; cases hf'; rfl
  subst this
  subst ha1
  have mgs : mg "super" = none := mg_none_of X G T.su
  refine ks_codeAny_call_defAt (fd := ksFn "__init__" q params (exBody0 txt j p) scope dV kV doc pm an (.ref cda) ct cc) (body := exBody0 txt j p) room (X _ _ lk) rfl nl (codeRec_of X cd) rfl (BindsTo.of_eq (hbind _)) ?_ ?_ ?_ sco sge sk
  · intro x hx
    have := List.all_eq_true.mp sc x hx
    simpa using this
  · intro x hx
    simp only [List.mem_cons, List.not_mem_nil, or_false] at hx
    subst hx
    exact s1
  intro h0 ns0 k0
  obtain ⟨L, hL⟩ : ∃ L, L = h.objs.size := ⟨_, rfl⟩
  have eL : e ≠ L := by rw [hL]; exact Nat.ne_of_lt (Heap.lt_size he)
  have lme : ([(a1.arg, Value.ref e)] : List (Str × Value)).reverse.lookup a1.arg = some (.ref e) := by simp [List.lookup]
  have X0 : K.In h0 := X.keeps k0
  have e0 := k0 _ _ he
  rw [← hL] at ns0 ⊢
  have hcl : clsIn K C ≠ none := by
    intro z
    have := T.up
    unfold ks_superIn at this
    rw [z] at this
    cases this
  obtain ⟨cdat, hcd⟩ := Option.ne_none_iff_exists'.mp hcl
  obtain ⟨nm, qn, N, bs, bm, sn, sub, ab, col, dd, k0', k1', k2', k3', k5', hC, hbm⟩ := T.cls
  obtain ⟨oC, hoC1, hoC2⟩ : ∃ oC, h0.get? C = some oC ∧ oC.data = .cls cdat := by
    unfold clsIn at hcd
    split at hcd
    · rename_i lo
      cases hcd
      exact ⟨_, X0 _ _ lo, rfl⟩
    · cases hcd
  have ep := hep L f'
  obtain ⟨pl, ecall⟩ := ep.call
  refine ks_wpAt_execs_cons (ks_wpAt_Expr_any (ks_wpAt_MethodCall (ks_wpAt_super_base (ar := a1) s3 s4 (by decide) rfl (X0 _ _ lk) rfl (by rw [show (ksFn "__init__" q params (exBody0 txt j p) scope dV kV doc pm an (.ref cda) ct cc).params = params from rfl, hpo, List.nil_append, hpa]) rfl (X0 _ _ lkc) rfl hvs hfile T.top ?_) ecall) ep.ia ep.s1)
  refine ks_loadName_global sk s3 (loadGlobal_builtin (G.keeps k0) mgs (B.keeps k0) hb ⟨rfl, ?_⟩)
  refine wpAny_loadName_free sk s4 rfl ⟨_, X0 _ _ lcc, rfl⟩ ?_
  refine wpAny_loadName_local sk s1 ns0 lme ?_
  refine ks_wpAny_isType_cls hoC1 hoC2 ⟨rfl, ?_⟩
  refine ks_wpAny_call_super hoC1 hoC2 e0 rfl (fun c z => by cases z) (looks_mroIn X0 T.me_) (fun h1 so1 k1 => ?_)
  have X1 := X0.keeps k1
  have e1 := k1 _ _ e0
  have at1 : InstAt h1 e (PySem.HandSPX.excO C t0) C none := ⟨e1, rfl, rfl, trivial⟩
  have up := T.up
  unfold ks_superIn at up
  rw [hcd, Option.bind_some] at up
  refine ESX.getMethod_super so1 (looks_opaque X1 T.st) (l₀ := cdat.mro) (fun A Q E s k q => wpAny_bind ((looks_clsIn X1 hcd) A _ E s k (wpAny_pure q))) rfl X1 up ?_ (by decide) (at1.type.andThen (looks_subIn X1 T.exE)) ?_
  · exact ks_ne X1 at1 hcd
  have so2 : (h1.push (ESX.bw e)).get? h1.objs.size = some (ESX.bw e) := Heap.get?_push_at rfl rfl
  have e2 : (h1.push (ESX.bw e)).get? e = some (PySem.HandSPX.excO C t0) := Heap.get?_push_of_some _ e1
  have X2 : K.In (h1.push (ESX.bw e)) := X1.keeps fun b o z => Heap.get?_push_of_some _ z
  have k2 : ∀ b o, h0.get? b = some o → (h1.push (ESX.bw e)).get? b = some o := fun b o z => Heap.get?_push_of_some _ (k1 b o z)
  refine ESX.callWith_bound (x := e) (spliced_more (Calls.Constant_str (spliced_none ⟨so2, ?_⟩))) rfl rfl
  refine ESX.call_bw (X2 _ _ hC) e2 so2 (by simp [sizeLine_eq]) (fun h3 t1 k3 e3 => ?_)
  refine wpAt_of_wpAny (wpAny_pure ?_)
  exact hq h3 t1 _ (fun b o hb z => k3 b o hb (k2 b o (k0 b o z))) e3
theorem pmk_ex0 {X : Cx} {x me : Str} {C : Addr} {p pos : Pos} {k : Nat} (T : ExI0 X.prog X.K C me) (hr : Room (k + 1) X.A) (hg : Gl X x) (hm : X.mg x = some (.ref C))
    (hdb : (x == ("__debug__" : Str)) = false := by decide) :
    PMk X (.Call (.Name x p) [] [] pos) (fun σ H Q => Q (.ref C) none H) := by
  intro pins s σ H Q I h
  obtain ⟨nm, q, N, bs, bm, sn, sub, ab, col, dd, k0, k1, k2, k3, k5, hC, hbm⟩ := T.cls
  obtain ⟨fI, iC, tI, _⟩ := T.ini
  refine wpAny_Call_Name_kw (ld_glob I hg hm ?_ hdb)
  refine PySem.W.callWith_K0 I.kIn T.kC ?_
  show wpAny _ _ (call (.ref C) []) _ _ _
  obtain ⟨hp, g, dr, tk, os⟩ := s
  have bsz : X.base.objs.size ≤ hp.objs.size := I.env0.bsz
  have kk : ∀ b o, hp.get? b = some o → ((hp.push (PySem.W.kdv_tup [])).push (PySem.HandSPX.excO C hp.objs.size)).get? b = some o := fun b o z => Heap.get?_push_of_some _ (Heap.get?_push_of_some _ z)
  have hget : ((hp.push (PySem.W.kdv_tup [])).push (PySem.HandSPX.excO C hp.objs.size)).get? (hp.objs.size + 1) = some (PySem.HandSPX.excO C hp.objs.size) := by heap_get
  have ke : X.K.lookup (hp.objs.size + 1) = none := by
    cases z : X.K.lookup (hp.objs.size + 1) with
    | none => rfl
    | some o =>
      have := Heap.lt_size (I.ok.mod.kin _ _ z)
      have : hp.objs.size + 1 < X.base.objs.size := this
      have : X.base.objs.size ≤ hp.objs.size := bsz
      omega
  obtain ⟨mb, hb1, hb2⟩ := I.mod.blt
  have bk := I.bk
  refine wpAny_call (PySem.HandSPX.call_own F.excBase_Exception (fun Y => exR_has Y hbm) (I.kIn _ _ hC) (PySem.W.looks_findIn I.kIn iC) (fun self => PySem.W.bind_fn I.kIn self tI) (by simp [sizeLine_eq]) ?_)
  refine ex_run0 (mg := X.mg) (mb := mb) T (I.kIn.keeps kk) ((I.mod.glob.keeps bk).keeps kk) ((hb1.keeps bk).keeps kk) ((hb2 "super" (by decide)).trans (by decide +kernel)) ((I.mod.nolimit.keeps bk).keeps kk) (hr.make C [] []).depth iC hget ke ?_
  intro h' t1 tk' kp he'
  have a1 : H (hp.objs.size + 1) = none := I.hok.fresh (Nat.le_succ _)
  obtain ⟨G, g1, g2⟩ := restrict h' fun b => decide (b ≠ hp.objs.size + 1)
  have gk : ∀ b, b ≠ hp.objs.size + 1 → G.get? b = h'.get? b := fun b z => g1 b (decide_eq_true z)
  have ge : G.get? (hp.objs.size + 1) = none := g2 _ (by simp)
  have kG : ∀ b o, hp.get? b = some o → G.get? b = some o := fun b o z => by
    have nb : b ≠ hp.objs.size + 1 := Nat.ne_of_lt (Nat.lt_succ_of_lt (Heap.lt_size z))
    rw [gk b nb]
    exact kp b o nb (kk b o z)
  have J := I.kept (t' := tk') (h' := G) kG
  refine ⟨rfl, hp.objs.size + 1, _, _, ⟨G, g, dr, tk', os⟩, _, .ref C, none, rfl, J, fun b o z => ?_, ge, he', ⟨rfl, rfl⟩, rfl, rfl, a1, rfl, J.bare, raises_own T.exC T.tyC, h⟩
  by_cases hb : b = hp.objs.size + 1
  · rw [hb, ge] at z
    cases z
  · rw [← gk b hb]
    exact z
section
variable {X : Cx} {cl : Nat → Addr} {β : List (Option V)} {W : WX} {pos p2 p : Pos}
theorem s_raise0 {x me : Str} {c k : Nat} (T : ExI0 X.prog X.K (cl c) me) (hr : Room (k + 1) X.A) (hc : X.calm = true) (tk : Takes X W) (hg : Gl X x) (hm : X.mg x = some (.ref (cl c)))
    (hdb : (x == ("__debug__" : Str)) = false := by decide) :
    SS X cl β W (.Raise (some (.Call (.Name x p) [] [] p2)) none pos) (fRaise0 c) :=
  PSm (ps_raise hc tk (pmk_ex0 T hr hg hm hdb)) fun D σ H h => by
    obtain ⟨F, ε, P, en, st, po⟩ := h
    exact po σ none [] H F P ⟨rfl, rfl⟩ rfl ⟨rfl, rfl⟩ en st
end
theorem exI0_of {P : Program} {K : PySem.W.Frag} {me : Str} {d : DefE} (e : fnE K (d.adr K) = d.val) (c : d.ok K P.main.file = true) (h : fEx0 d.cls K = true) (t : ExTx0 me d)
    (top : (P.main.scope.names.lookup ("super" : Str)).isSome = false) : ExI0 P K (He.ga K d.cls) me := by
  obtain ⟨h1, h⟩ := He.ba h
  obtain ⟨h3, h⟩ := He.ba h
  obtain ⟨h4, h⟩ := He.ba h
  obtain ⟨h5, h⟩ := He.ba h
  obtain ⟨h6, h⟩ := He.ba h
  obtain ⟨h7, h⟩ := He.ba h
  obtain ⟨h9, h⟩ := He.ba h
  obtain ⟨h10, h⟩ := He.ba h
  obtain ⟨h11, h⟩ := He.ba h
  obtain ⟨h12, h13⟩ := He.ba h
  refine ⟨clsEB_ok h1, of_decide_eq_true h3, of_decide_eq_true h4, of_decide_eq_true h5, h6, of_decide_eq_true h7, He.eqO_ok h9, He.eqO_ok h10, He.eqO_ok h11, top, d.adr K, He.eqO_ok h12, of_decide_eq_true h13, ?_⟩
  obtain ⟨txt, j, p, hb, hp⟩ := t.tx
  obtain ⟨s1, s3, s4, s5, s6, s7, s8, s10⟩ := t.sc
  unfold DefE.ok at c
  unfold fnE at e
  cases q : K.lookup (d.adr K) with
  | none => rw [q] at c; cases c
  | some o =>
    obtain ⟨oc, od, dt, osl⟩ := o
    rw [q] at c e
    cases dt with
    | func fd =>
      obtain ⟨n1, n2, n3, n4, n5, n6, n7, n8, n9, n10, n11, n12, n13, n14, n15⟩ := fd
      have e2 : (some (n1, n2, n3, n4, n5, n6, ([] : List (Str × Addr)), n15) : He.FnW) = d.val := e
      unfold DefE.val at e2
      simp only [Option.some.injEq, Prod.mk.injEq] at e2
      obtain ⟨g1, g2, g3, g4, g5, g6, _, g8⟩ := e2
      subst g1 g2 g3 g4 g5 g6 g8
      obtain ⟨k1, k2⟩ := He.ba (show (PySem.W.codeIn K n13 d.qual && (cellOk K (He.ga K d.cls) n7 && (fileOk K P.main.file n13 && isNon n8))) = true from c)
      obtain ⟨k2a, k3a⟩ := He.ba k2
      obtain ⟨k3b, k4⟩ := He.ba k3a
      have hnon := isNon_ok k4
      clear k2 k3a k4
      subst hnon
      have k2 := k2a
      have k3 := k3b
      obtain ⟨cc, hcl, ccx, cld, csl, hcc⟩ : ∃ cc : Addr, n7 = ([(Str.ofString "__class__", cc)] : List (Str × Addr)) ∧ ∃ ccx cld csl, K.lookup cc = some ⟨ccx, cld, .cell (some (.ref (He.ga K d.cls))), csl⟩ := by
        cases n7 with
        | nil => cases k2
        | cons pr r =>
          cases r with
          | cons _ _ => cases k2
          | nil =>
            obtain ⟨x, cc⟩ := pr
            obtain ⟨z1, z2⟩ := He.ba (show (decide (x = Str.ofString "__class__") && (match K.lookup cc with
              | some ⟨_, _, .cell (some (.ref D)), _⟩ => decide (D = He.ga K d.cls)
              | _ => false)) = true from k2)
            have z1 := of_decide_eq_true z1
            subst z1
            split at z2
            · rename_i a1 a2 D a4 ho
              have := of_decide_eq_true z2
              subst this
              exact ⟨cc, rfl, a1, a2, a4, ho⟩
            · cases z2
      obtain ⟨cda, hcda, ccl, cdd, vs, ccs, file, tf, hlk, hvs, hfile⟩ : ∃ cda, n13 = .ref cda ∧ ∃ ccl cdd vs ccs file tf, K.lookup cda = some ⟨ccl, cdd, .fields vs, ccs⟩ ∧ vs[2]? = some (.str file tf) ∧ ((P.main.file : Str) == file) = true := by
        unfold fileOk at k3
        split at k3
        · rename_i cda
          split at k3
          · rename_i a1 a2 vs a4 ho
            split at k3
            · rename_i f tf hv
              exact ⟨cda, rfl, a1, a2, vs, a4, f, tf, ho, hv, k3⟩
            · cases k3
          · cases k3
        · cases k3
      subst hcl hcda
      have bi := t.bi n9 n10 n11 (.ref cda) n14 n12 cc
      have pp := fun L f' => hp .none n9 n10 n11 (.ref cda) n14 n12 cc L f'
      rw [hb] at bi pp
      exact ⟨d.qual, txt, j, p, oc, od, d.scope, d.params, .none, n9, n10, n11, n12, cda, cc, n14, osl, ccl, ccx, cdd, cld, vs, ccs, csl, file, tf, (by rw [hb]), k1, hlk, hvs, hfile, hcc, t.pa, pp, bi, s1, s3, s4, s5, s6, s7, s8, s10⟩
    | _ => cases c
def exPos0 : List Stmt → Nat → Pos
  | [.Expr (.Call (.Attribute (.Call (.Name _ p0) _ _ p1) _ p2) [.Constant _ _ p3] _ p4) p5], i => [p0, p1, p2, p3, p4, p5].getD i p0
  | _, _ => ⟨0, 0, 0, 0⟩
end Nb
set_option maxHeartbeats 4000000
namespace Nb
open PySem PySem.Spec PyProof.Rows L2
end Nb
namespace Nb
open PySem PySem.Spec PyProof.Rows L2 PySem.W
end Nb
namespace Nb
open PySem PySem.Spec PyProof.Rows L2
end Nb
set_option maxHeartbeats 2000000
namespace Nb
open PySem PySem.Spec PyProof.Rows L2
def permL {α : Type} (σ : List Nat) (l : List α) : List α := σ.filterMap fun i => l[i]?
theorem permL_cons {α : Type} (i : Nat) (σ : List Nat) (l : List α) : permL (i :: σ) l = (match l[i]? with
  | some x => x :: permL σ l
  | none => permL σ l) := by
  unfold permL
  rw [List.filterMap_cons]
  cases l[i]? <;> rfl
theorem Reps.permL {g : Gh} {F H : Hp} {ds : List D} {vs : List V} (z : fzs ds = true) (h : Reps g F H ds vs []) : ∀ σ : List Nat, Reps g F H (Nb.permL σ ds) (Nb.permL σ vs) []
  | [] => ⟨rfl, rfl⟩
  | i :: σ => by
    rw [permL_cons, permL_cons]
    have hl := Reps.length _ _ _ h
    cases e : ds[i]? with
    | none =>
      have e2 : vs[i]? = none := by
        rw [List.getElem?_eq_none_iff] at e ⊢
        omega
      rw [e2]
      exact Reps.permL z h σ
    | some d =>
      obtain ⟨v, A, R, B, g1, g2, g3⟩ := Reps.get _ _ _ i d h e
      have c := Rep.cold _ _ _ (fzs_get z e) g3
      subst c
      rw [g1]
      exact ⟨v, _, [], [], rfl, rfl, g3, Reps.permL z h σ⟩
def permR (n : Nat) (σ : List Nat) (run : List D → CRes) : List D → CRes := fun ds => if fzs ds = true then run (ds.take n ++ permL σ (ds.drop n)) else .bad
theorem spD_perm {g : Gh} {n : Nat} {σ : List Nat} {run : List D → CRes} {vs zs : List V} {H : Hp} {Q : VK} {E : XK} (hn : vs.length = n) (h : spD g [] (permR n σ run) (vs ++ zs) H Q E) : spD g [] run (vs ++ permL σ zs) H Q E := by
  obtain ⟨hl, F, ds, P, r, st, po⟩ := h
  unfold permR at po
  split at po
  · rename_i z
    have c := Reps.cold _ _ _ z r
    subst c
    have r1 := Reps.take z r n
    have r2 := Reps.drop z r n
    have e1 : (vs ++ zs).take n = vs := by rw [← hn]; simp
    have e2 : (vs ++ zs).drop n = zs := by rw [← hn]; simp
    rw [e1] at r1
    rw [e2] at r2
    exact ⟨Nat.zero_le _, F, _, [], Reps.append _ _ _ _ _ _ r1 (Reps.permL (fzs_drop n z) r2 σ), st, po⟩
  · exact po.elim
section
variable {gd : Bool} {P : Program} {w : World} {K : PySem.W.Frag} {mg : Str → Option Value} {base : Heap} {k n : Nat} {f : Addr} {g : Gh} {ks : List Str} {gV : List V → List V → List V} {σ : List Nat} {run : List D → CRes}
theorem FnA.perm (G : FnA gd P w K mg base k f n ks (fun vs zs => vs ++ permL σ zs) (spD g [] run)) : FnA gd P w K mg base k f n ks (fun vs zs => vs ++ zs) (spD g [] (permR n σ run)) :=
  fun A outer s H us ws vs zs Q E hr hg e hv hz h1 h2 hs => G A outer s H us ws vs zs Q E hr hg e hv hz h1 h2 (spD_perm (hv.length.trans h1) hs)
end
end Nb
namespace Nb
open PySem PySem.Spec PyProof.Rows L2
section
variable {prog : Program} {w : World} {A : Around} {E : Value → Shared → Prop} {s : Shared} {z TI TO i1 i2 : Addr} {fp1 fp2 : List Addr} {n1 n2 i : Nat} {P1 P2 : Nat → Value → Prop} {St1 St2 : Nat → Heap → Prop} {a1 a2 f0 : Value} {f1 : Bool} {a : Nat}
end
end Nb
namespace Nb
open PySem PySem.Spec PyProof.Rows L2
section
variable {X : Cx} {pins : List (Addr × Obj)} {σ : L2.St} {A : Around} {R : Result → Shared → Prop} {z TI TO i1 i2 S a b : Addr} {n1 n2 : Nat} {P1 P2 : Nat → Value → Prop} {St1 St2 : Nat → Heap → Prop} {xs ys : List V} {res : Value}
end
end Nb
namespace Nb
open PySem PySem.Spec PyProof.Rows L2
section
variable {X : Cx} {pins : List (Addr × Obj)} {σ : L2.St} {Q : VK} {z TI TO i1 i2 a b : Addr} {n1 n2 : Nat} {P1 P2 : Nat → Value → Prop} {St1 St2 : Nat → Heap → Prop} {xs ys : List V} {E : Value → Shared → Prop}
end
end Nb
namespace Nb
open PySem PySem.Spec PyProof.Rows L2
section
variable {X : Cx} {pins : List (Addr × Obj)} {σ : L2.St}
end
end Nb
namespace Nb
open PySem PySem.Spec PyProof.Rows L2
def zipT (xs ys : List D) : List D := List.zipWith (fun a b => .tup [a, b]) xs ys
section
variable {X : Cx} {cl : Nat → Addr} {β : List (Option V)} {W : WX} {pos : Pos}
end
end Nb
namespace Nb
open PySem PySem.Spec PyProof.Rows L2
section
variable {prog : Program} {w : World} {A : Around} {E : Value → Shared → Prop} {s : Shared} {K : PySem.W.Frag} {x C dx : Addr} {od : Option Obj}
end
end Nb
namespace Nb
open PySem PySem.Spec PyProof.Rows L2
section
variable {prog : Program} {w : World} {A : Around} {E : Value → Shared → Prop} {s : Shared} {K : PySem.W.Frag} {x C dx f : Addr} {od : Option Obj} {ox : Obj}
end
end Nb
namespace Nb
open PySem PySem.Spec PyProof.Rows L2
section
variable {X : Cx} {pins : List (Addr × Obj)} {σ : L2.St} {H : Hp} {s : Shared}
end
section
variable {X : Cx} {cl : Nat → Addr} {β : List (Option V)} {W : WX} {pos : Pos}
end
end Nb
namespace Nb
open PySem PySem.Spec PyProof.Rows L2
section
variable {X : Cx} {cl : Nat → Addr} {β : List (Option V)} {W : WX} {pos : Pos} {pins : List (Addr × Obj)} {σ : L2.St}
end
end Nb
namespace Nb
open PySem PySem.Spec PyProof.Rows L2
section
variable {prog : Program} {w : World} {A : Around} {E : Value → Shared → Prop} {s : Shared}
end
section
variable {X : Cx} {cl : Nat → Addr} {β : List (Option V)} {W : WX} {pos : Pos} {a : Expr} {fa : FE}
end
end Nb
set_option maxHeartbeats 4000000
namespace Nb
open PySem PySem.Spec PyProof.Rows L2
section
variable {X : Cx} {cl : Nat → Addr} {pins : List (Addr × Obj)} {σ : L2.St} {s : Shared} {F H : Hp}
end
def lookN {α : Type} (k : NestedKey) : List NestedKey → List α → Option α
  | k' :: ks, v :: vs => if k' = k then some v else lookN k ks vs
  | _, _ => none
section
variable {X : Cx} {cl : Nat → Addr} {pins : List (Addr × Obj)} {σ : L2.St} {s : Shared} {F H : Hp} {A : Around} {E : Value → Shared → Prop}
end
end Nb
namespace Nb
open PySem PySem.Spec PyProof.Rows L2
section
variable {X : Cx} {cl : Nat → Addr} {β : List (Option V)} {W : WX} {pos : Pos} {e : Expr} {es : List Expr} {fs : FA}
theorem Reps.lookN {g : Gh} {F H : Hp} {k : NestedKey} : ∀ (nk : List NestedKey) (ds : List D) (vs : List V) (P : List Addr), Reps g F H ds vs P →
    (∀ d, Nb.lookN k nk ds = some d → ∃ u R, Nb.lookN k nk vs = some u ∧ Rep g F H d u R) ∧ (Nb.lookN k nk ds = none → Nb.lookN k nk vs = none)
  | [], ds, vs, P, _ => ⟨fun d e => by cases ds <;> simp [Nb.lookN] at e, fun _ => by cases vs <;> simp [Nb.lookN]⟩
  | k' :: nk, [], vs, P, h => ⟨fun d e => by simp [Nb.lookN] at e, fun _ => by rw [h.1]; simp [Nb.lookN]⟩
  | k' :: nk, d :: ds, vs, P, ⟨v, vr, P1, P2, h1, h2, h3, h4⟩ => by
    subst h1
    rw [Nb.lookN, Nb.lookN]
    by_cases e : k' = k
    · rw [if_pos e, if_pos e]
      exact ⟨fun d' z => by cases z; exact ⟨v, P1, rfl, h3⟩, fun z => by cases z⟩
    · rw [if_neg e, if_neg e]
      exact Reps.lookN nk ds vr P2 h4
end
end Nb
namespace Nb
open PySem PySem.Spec PyProof.Rows L2
section
variable {X : Cx} {pins : List (Addr × Obj)} {σ : L2.St}
end
section
variable {X : Cx} {cl : Nat → Addr} {β : List (Option V)} {W : WX} {pos : Pos}
def fZip (fs : FA) : FI := fun ε => (fs ε).bind fun as ε1 => match as with
  | [.v d, .v e] => match d.items, e.items with
    | some xs, some ys => if fzs xs = true ∧ fzs ys = true ∧ d.fz = true ∧ e.fz = true then .ok (zipT xs ys) ε1 else .bad
    | _, _ => .bad
  | _ => .bad
end
end Nb
namespace Nb
open PySem PySem.Spec PyProof.Rows L2
section
variable {X : Cx} {cl : Nat → Addr} {β : List (Option V)} {W : WX} {pos : Pos} {a b c tg : Expr} {fa fb fc : FE}
def fLk (f : FE) : FE := fun ε => (f ε).bind fun d ε1 => match d with
  | .dic true ks ds => .ok (.dil ks (frzs ds)) ε1
  | d => .ok d ε1
def fVarL (i : Nat) : FE := fun ε => match ε[i]? with
  | some (.val (.dic true ks ds)) => .ok (.dil ks (frzs ds)) (ε.set i (.val (.dil ks (frzs ds))))
  | _ => fVar i ε
def keyDD : Key → D
  | .inl i => .int i
  | .inr s => .str s
def itmD : List Key → List D → List D
  | k :: ks, d :: ds => .tup [keyDD k, d] :: itmD ks ds
  | _, _ => []
def fKeysD (f : FE) : FI := fun ε => (f ε).bind fun d ε1 => match d with
  | .dil ks _ => .ok (ks.map keyDD) ε1
  | _ => .bad
def fValsD (f : FE) : FI := fun ε => (f ε).bind fun d ε1 => match d with
  | .dil _ ds => if fzs ds = true then .ok ds ε1 else .bad
  | _ => .bad
def fItmsD (f : FE) : FI := fun ε => (f ε).bind fun d ε1 => match d with
  | .dil ks ds => if fzs ds = true then .ok (itmD ks ds) ε1 else .bad
  | _ => .bad
end
end Nb
namespace Nb
open PySem PySem.Spec PyProof.Rows L2
section
variable {X : Cx} {cl : Nat → Addr} {β : List (Option V)} {W : WX} {pos : Pos} {a b c : Expr} {fa fb fi : FE} {F H : Hp}
def putNV {α : Type} (k : NestedKey) (v : α) (nk : List NestedKey) (vs : List α) : List α := List.zipWith (fun k' u => if k' = k then v else u) nk vs
end
end Nb
namespace Nb
open PySem PySem.Spec PyProof.Rows L2
section
variable {X : Cx} {cl : Nat → Addr} {β : List (Option V)} {W : WX} {pos : Pos}
theorem prs_of {pins : List (Addr × Obj)} {σ : L2.St} {H : Hp} {s : Shared} (I : Inv X pins σ H s) : ∀ (pas : List Addr) (kvs : List (Key × V)), Paired (fun (p : Addr) (kv : Key × V) => SqT X.K H p [kV kv.1, kv.2]) pas kvs →
    ∃ (prs : List (Key × Value)) (raw : List (Value × Value)), KV (κ := Key) kvs prs ∧ raw.length = pas.length ∧ prs.length = pas.length ∧ ∀ (j : Nat) (k v : Value), raw[j]? = some (k, v) → ∃ b key, pas[j]? = some b ∧ s.heap.IsTuple b #[k, v] ∧ prs[j]? = some (key, v) ∧ (mixKind X.prog X.w).is key k = true
  | _, _, .nil => ⟨[], [], .nil, rfl, rfl, fun j k v h => by simp at h⟩
  | _, _, .cons (a := p) (b := kv) (l₁ := pas) (l₂ := kvs) h t => by
    obtain ⟨prs, raw, e1, e2, e3, e4⟩ := prs_of I _ _ t
    obtain ⟨its, rv, pl, _⟩ := I.tuple h
    cases rv with
    | cons r1 rv =>
      cases rv with
      | cons r2 rv =>
        cases rv
        rename_i ku vu
        refine ⟨(kv.1, vu) :: prs, (ku, vu) :: raw, .cons ⟨rfl, r2⟩ e1, by simp [e2], by simp [e3], fun j k v hj => ?_⟩
        cases j with
        | zero =>
          simp only [List.getElem?_cons_zero, Option.some.injEq, Prod.mk.injEq] at hj
          obtain ⟨rfl, rfl⟩ := hj
          exact ⟨p, kv.1, rfl, pl, rfl, kV_is r1⟩
        | succ j =>
          obtain ⟨b, key, g1, g2, g3, g4⟩ := e4 j k v (by simpa using hj)
          exact ⟨b, key, by simpa using g1, g2, by simpa using g3, g4⟩
def rDictPk (X : Cx) : List V → Hp → VK → Prop := fun xs H Q => ∃ (a : Addr) (ws : List V) (pas : List Addr) (kvs : List (Key × V)), xs = [.ref a] ∧ ws = pas.map V.ref ∧ (KnT X.K H a ws ∨ SqL X.K H a ws) ∧ Paired (fun (p : Addr) (kv : Key × V) => SqT X.K H p [kV kv.1, kv.2]) pas kvs ∧
  ∀ p, H p = none → Q (.ref p) (upd H p (.dK (mergeK [] kvs)))
theorem refs_vals : ∀ {pas : List Addr} {us : List Value}, Vals (pas.map V.ref) us → us = pas.map Value.ref
  | [], us, h => by cases h; rfl
  | p :: pas, us, h => by
    rw [List.map_cons] at h
    cases h with
    | cons r rr =>
      cases r
      rw [refs_vals rr, List.map_cons]
theorem call_dictPk (hcalm : X.calm = true) : CallR X (.type "dict") (rDictPk X) := by
  intro pins s σ H xs us Q I r h
  obtain ⟨a, ws, pas, kvs, rfl, rfl, hs, hp, q⟩ := h
  obtain ⟨u, rfl, rx⟩ := vals1 r
  cases rx
  obtain ⟨prs, raw, rel, l1, l2, hpr⟩ := prs_of I pas kvs hp
  have done : ∀ (T : String) (items : Array Value), items.size = pas.length → pas.length ≤ sizeLine → PairArg X.prog X.w T a (a :: (List.range raw.length).map fun j => pas.getD j 0) [] raw.length (PairRel raw) (fun h => PlainSeq T h a items ∧ PairItems h items (fun j => pas.getD j 0) raw) →
      PlainSeq T s.heap a items → PairItems s.heap items (fun j => pas.getD j 0) raw → wpAny (model X.prog X.w) X.A (call (.type "dict") [.ref a]) (EP X pins σ Q) X.xe s := fun T items hsz hz P ps pi => by
    refine call_dict_pairs (knd := mixKind X.prog X.w) (kvs := prs) P (I.ok.hd hcalm) ⟨ps, pi⟩ ⟨by omega, fun i key v e => ?_⟩ (by omega) fun h' tk hd' hk => ?_
    · obtain ⟨b, k, g1, g2, g3, g4⟩ := hpr i key v e
      exact ⟨k, g3, g4⟩
    · have hm : (s.heap.objs.size == sysModules) = false := beq_eq_false_iff_ne.mpr (Nat.ne_of_gt I.big)
      have hlen : (mergeK [] kvs).length ≤ sizeLine := by
        refine Nat.le_trans (length_mergeK kvs []) ?_
        rw [List.length_nil, Nat.zero_add, rel.length, l2]
        exact hz
      exact ⟨.ref s.heap.objs.size, upd H s.heap.objs.size (.dK (mergeK [] kvs)), I.laid (t' := tk) (fun b o e => hk b o (fun z => nomatch z) e) (Nat.le_refl _) (show ObjOk X.prog X.w _ _ _ (.dK (mergeK [] kvs)) from ⟨hlen, hm, merged [] prs, KV.merge rel .nil, hd'⟩), rfl, q _ (I.hok.fresh (Nat.le_refl _))⟩
  have items_ok : ∀ its : List Value, its = pas.map Value.ref → PairItems s.heap its.toArray (fun j => pas.getD j 0) raw := fun its e => by
    subst e
    refine ⟨by simp [l1], fun j k v hj => ?_⟩
    obtain ⟨b, key, g1, g2, g3, g4⟩ := hpr j k v hj
    have eb : pas.getD j 0 = b := by rw [List.getD_eq_getElem?_getD, g1]; rfl
    show (pas.map Value.ref).toArray[j]? = some (Value.ref (pas.getD j 0)) ∧ PairAt s.heap (pas.getD j 0) k v
    rw [eb]
    exact ⟨by simp [g1], .inl g2⟩
  rcases hs with (⟨o, ho, hd⟩ | ⟨o, its, n, h1, h2, h3, h4, h5, h6⟩) | hs
  · obtain ⟨ho1, hz, its, r', o', g1, g2, n, g3⟩ := (show ObjOk X.prog X.w H s.heap a (.frz o (.tup (pas.map V.ref))) from I.hok a _ ho)
    have ei := refs_vals r'
    rw [List.length_map] at hz
    rw [ho1] at g1
    cases g1
    exact done "tuple" its.toArray (by rw [ei]; simp) hz (PairArg.tuple _ _ _ _) ⟨o, n, ho1, g2, hd, g3⟩ (items_ok its ei)
  · have ei := refs_vals h5
    have hz : pas.length ≤ sizeLine := by
      have := congrArg List.length ei
      simp at this
      omega
    have e2 : its = (its.toList).toArray := by simp
    exact done "tuple" its (by have := congrArg List.length ei; simpa using this) hz (PairArg.tuple _ _ _ _) ⟨o, n, I.kIn a o h1, h2, h6, h3⟩ (by rw [e2]; exact items_ok _ ei)
  · obtain ⟨its, r', pl, hz⟩ := I.list hs
    have ei := refs_vals r'
    rw [List.length_map] at hz
    obtain ⟨o, n, g1, g2, g3, g4⟩ := pl
    exact done "list" its.toArray (by rw [ei]; simp) hz (PairArg.list _ _ _ _) ⟨o, n, g1, g2, g3, g4⟩ (items_ok its ei)
theorem kvD_reps {F H : Hp} (t : Exh F H) : ∀ (ds : List D) (ws : List V) (ks : List Key) (es : List D), Reps (gx X cl) F H ds ws [] → fzs ds = true → kvD ds = some (ks, es) →
    ∃ pas vs, ws = pas.map V.ref ∧ ks.length = vs.length ∧ Paired (fun (p : Addr) (kv : Key × V) => SqT X.K H p [kV kv.1, kv.2]) pas (ks.zip vs) ∧ Reps (gx X cl) F H es vs [] ∧ fzs es = true
  | [], ws, ks, es, r, z, e => by
    rw [kvD] at e; cases e
    exact ⟨[], [], r.1, rfl, .nil, ⟨rfl, rfl⟩, by rw [fzs]⟩
  | d :: ds, ws, ks, es, ⟨w, wr, P1, P2, h1, h2, h3, h4⟩, z, e => by
    have z2 : d.fz = true ∧ fzs ds = true := by rw [fzs] at z; exact Bool.and_eq_true_iff.mp z
    have e1 : P1 = [] := Rep.cold _ _ _ z2.1 h3
    have e2 : P2 = [] := Reps.cold _ _ _ z2.2 h4
    subst e1 e2 h1
    unfold kvD at e
    split at e
    · rename_i heq; cases heq
    · rename_i k v ds' heq
      cases heq
      split at e
      · rename_i key ks' vs' g1 g2
        cases e
        obtain ⟨pas, vs, q1, q2, q3, q4, q5⟩ := kvD_reps t ds wr ks' vs' h4 z2.2 g2
        obtain ⟨p, us, hp, hs, rr⟩ := h3
        obtain ⟨kv', vr, R1, R2, rfl, eR, rk, rr2⟩ := rr
        obtain ⟨y, rfl, ry⟩ := reps1 rr2
        have zz : k.fz = true ∧ v.fz = true := by
          have := z2.1
          rw [D.fz, fzs, fzs, fzs, Bool.and_true] at this
          exact Bool.and_eq_true_iff.mp this
        have c1 : R1 = [] := Rep.cold _ _ _ zz.1 rk
        subst c1
        have ekv : kv' = kV key := by
          cases k <;> simp [asKey] at g1
          · subst g1; exact rk.1
          · subst g1; exact rk.1
        subst hp ekv
        have eR2 : R2 = [] := by simpa using eR.symm
        subst eR2
        exact ⟨p :: pas, y :: vs, by rw [q1]; rfl, by simp [q2], .cons (exh_t t hs) q3, ⟨y, vs, [], [], rfl, rfl, ry, q4⟩, by rw [fzs, zz.2, q5]; rfl⟩
      · cases e
    · cases e
theorem fk_dictP : FnK (gx X cl) (rDictPk X) kDictP := by
  intro F H ds d vs R Q hr hk t hQ
  have go : ∀ (xs : List D) (v : V) (a : Addr) (ws : List V), (KnT X.K H a ws ∨ SqL X.K H a ws) → Reps (gx X cl) F H xs ws [] → v = .ref a → fzs xs = true → (match kvD xs with
    | some p => if apart p.1 = true then some (.dic true p.1 p.2) else none
    | none => none) = some d → rDictPk X [v] H Q := fun xs v a ws hs rp e hz hm => by
    split at hm
    · rename_i p hp
      split at hm
      · rename_i ha
        cases hm
        obtain ⟨ks, es⟩ := p
        obtain ⟨pas, us, q1, q2, q3, q4, q5⟩ := kvD_reps t xs ws ks es rp hz hp
        refine ⟨a, ws, pas, ks.zip us, by rw [e], q1, hs, q3, fun l hl => ?_⟩
        have em : mergeK [] (ks.zip us) = ks.zip us := by
          have mk : (ks.zip us).map (·.1) = ks := by rw [List.map_fst_zip]; omega
          have := mergeK_snoc (ks.zip us) [] (fun _ h => nomatch h) (by rw [mk]; exact ha)
          simpa using this
        rw [em]
        refine hQ _ _ F [l] ⟨l, us, [], rfl, upd_same, q2, rfl, ?_⟩ (Stp.new t hl)
        exact Reps.move (Exh.rfl' _) _ _ _ (fun _ z => nomatch z) q4
      · cases hm
    · cases hm
  unfold kDictP at hk
  split at hk
  · rename_i o xs
    split at hk
    · rename_i hz
      obtain ⟨v, rfl, h⟩ := reps1 hr
      obtain ⟨p, ws, P2, h1, h2, rp⟩ := Rep.lstAt t h
      have c := Reps.cold _ _ _ hz rp
      subst c
      exact go xs v p ws (.inr (SqL.of h2)) rp h1 hz hk
    · cases hk
  · rename_i xs
    split at hk
    · rename_i hz
      obtain ⟨v, rfl, h⟩ := reps1 hr
      obtain ⟨p, ws, h1, h2, rp⟩ := h
      have c := Reps.cold _ _ _ hz rp
      subst c
      exact go xs v p ws (.inl (exh_k t h2)) rp h1 hz hk
    · cases hk
  · cases hk
end
end Nb
namespace Nb
open PySem PySem.Spec PyProof.Rows L2
section
variable {X : Cx} {cl : Nat → Addr}
end
end Nb
namespace Nb
open PySem PySem.Spec PyProof.Rows L2
section
variable {X : Cx} {cl : Nat → Addr} {β : List (Option V)} {W : WX} {pos : Pos}
end
end Nb
namespace Nb
open PySem PySem.Spec PyProof.Rows L2
section
variable {X : Cx} {cl : Nat → Addr} {β : List (Option V)} {W : WX} {pos pos2 : Pos} {a b c : Expr} {fa : FE} {fs : FA}
end
end Nb
namespace Nb
open PySem PySem.Spec PyProof.Rows L2
section
variable {X : Cx} {cl : Nat → Addr}
end
end Nb
set_option maxHeartbeats 2000000
namespace Nb
open PySem PySem.Spec PyProof.Rows L2
section
variable {P : Program} {w : World}
variable {A : Around} {E : Value → Shared → Prop} {s : Shared}
end
end Nb
namespace Nb
open PySem PySem.Spec PyProof.Rows L2
section
variable {P : Program} {w : World} {A : Around} {E : Value → Shared → Prop} {s : Shared} {a : Addr} {L : List NRow} {es : Array (Int × Value)} {ep : Nat} {t : SetTable}
end
end Nb
set_option maxHeartbeats 3000000
namespace Nb
open PySem PySem.Spec PyProof.Rows L2
section
variable {P : Program} {w : World} {A : Around} {E : Value → Shared → Prop} {s : Shared} {a : Addr} {L : List NRow} {es : Array (Int × Value)} {ep : Nat} {t : SetTable}
end
end Nb
set_option maxHeartbeats 4000000
namespace Nb
open PySem PySem.Spec PyProof.Rows L2
section
variable {P : Program} {w : World} {A : Around} {E : Value → Shared → Prop} {s : Shared}
end
end Nb
namespace Nb
open PySem PySem.Spec PyProof.Rows L2 PySem.W
section
variable {P : Program} {w : World} {A : Around} {E : Value → Shared → Prop} {s : Shared} {a : Addr} {L : List NRow} {es : Array (Int × Value)} {ep : Nat} {t : SetTable}
end
end Nb
namespace Nb
open PySem PySem.Spec PyProof.Rows L2 PySem.W
section
variable {P : Program} {w : World} {A : Around} {E : Value → Shared → Prop} {s : Shared}
end
end Nb
namespace Nb
open PySem PySem.Spec PyProof.Rows L2 PySem.W
section
variable {X : Cx} {cl : Nat → Addr} {pins : List (Addr × Obj)} {σ : L2.St} {s : Shared} {F H : Hp}
theorem SetN0.full {w : World} {h : Heap} {a : Addr} {L : List NRow} (R : SetN0 w a L h) (hk : ∀ p ∈ L, KeyN h p.2 p.1) : ∃ es ep t, SetN w h a L es ep t :=
  let ⟨es, ep, t, h1, h2, h3, h4, h5, h6, h7⟩ := R
  ⟨es, ep, t, h1, h2, h3, h4, hk, h5, h6, h7⟩
end
end Nb
namespace Nb
open PySem PySem.Spec PyProof.Rows L2 PySem.W
section
variable {X : Cx} {cl : Nat → Addr} {β : List (Option V)} {W : WX} {pos : Pos}
end
end Nb
namespace Nb
open PySem PySem.Spec PyProof.Rows L2
section
variable {X : Cx} {cl : Nat → Addr} {β : List (Option V)} {W : WX} {pos : Pos}
def intsOf : List D → Option (List Int)
  | [] => some []
  | .int i :: ds => (intsOf ds).map (i :: ·)
  | _ :: _ => none
def fLenSet (f : FE) : FE := fun ε => (f ε).bind fun d ε1 => match d with
  | .lst _ ds => match intsOf ds with
    | some ns => if ns.length < 64 then .ok (.int (PySem.W.ossOf ns).length) ε1 else .bad
    | none => .bad
  | _ => .bad
def fListVals (f : FE) : FE := fun ε => (f ε).bind fun d ε1 => if d.fz = true then match d with
  | .dic _ _ ds => .ok (.lst true ds) ε1
  | .dil _ ds => .ok (.lst true ds) ε1
  | _ => .bad else .bad
end
end Nb
namespace Nb
open PySem PySem.Spec PyProof.Rows L2
section
variable {X : Cx}
end
end Nb
namespace Nb
open PySem PySem.Spec PyProof.Rows L2
section
variable {X : Cx}
end
section
variable {g : Gh} {β : List (Option V)} {W : WX} {σ : L2.St} {F H : Hp} {P : List Addr} {Dl : Addr} {α ν : Type} {rel' : Hp → Hp → α → ν → List Addr → Prop} {Q : ν → Hp → Prop}
end
end Nb
namespace Nb
open PySem PySem.Spec PyProof.Rows L2
section
variable {X : Cx} {cl : Nat → Addr} {β : List (Option V)} {W : WX} {pos : Pos}
variable {kx vx tg iter : Expr} {ifs : List Expr} {scope : Scope} {fi : FI} {p : FG} {tt : FT} {tk tv : FE}
end
end Nb
namespace Nb
open PySem PySem.Spec PyProof.Rows L2
section
variable {prog : Program} {w : World} {K : Type} [DecidableEq K] {knd : KeyKind prog w K} {A : Around} {E : Value → Shared → Prop} {s : Shared}
end
end Nb
namespace Nb
open PySem PySem.Spec PyProof.Rows L2
section
variable {X : Cx}
end
end Nb
namespace Nb
open PySem PySem.Spec PyProof.Rows L2
section
variable {X : Cx} {cl : Nat → Addr} {β : List (Option V)} {W : WX} {pos : Pos}
end
end Nb
namespace Nb
open PySem PySem.Spec PyProof.Rows L2
section
variable {X : Cx} {cl : Nat → Addr} {β : List (Option V)} {W : WX} {pos : Pos}
def slotD (i : Nat) (ε : Ev) : Option D := match ε[i]? with
  | some (.val d) => some d
  | some (.bor d) => some d
  | _ => none
variable {gd : Bool} {k : Nat} {bs : List Bool} {run : List D → CRes} {x m : Str} {p apos : Pos} {kws : List Keyword} {ks : List Str} {e : Expr} {es : List Expr} {fs fk : FA}
end
end Nb
namespace Nb
open PySem PySem.Spec PyProof.Rows L2
def fBinPk (k : D → D → Option D) (fa : FE) (i : Nat) : FE := fun ε => (fa ε).bind fun d1 ε1 => match slotD i ε1 with
  | some d2 => .of (k d1 d2) ε1
  | none => .bad
section
variable {X : Cx} {cl : Nat → Addr} {β : List (Option V)} {W : WX} {pos : Pos}
end
section
variable {g : Gh} {β : List (Option V)} {W : WX} {σ : L2.St}
end
section
variable {X : Cx} {cl : Nat → Addr} {β : List (Option V)} {W : WX} {pos : Pos} {k : Nat} {run : List D → CRes} {m x : Str} {p : Pos}
end
end Nb
namespace Nb
open PySem PySem.Spec PyProof.Rows L2
def fFnPk (k : List D → Option D) (i : Nat) : FE := fun ε => match slotD i ε with
  | some d => .of (k [d]) ε
  | none => .bad
def fListPk (i : Nat) : FE := fFnPk kList i
section
variable {X : Cx} {cl : Nat → Addr} {β : List (Option V)} {W : WX} {pos : Pos}
end
end Nb
namespace Nb
open PySem PySem.Spec PyProof.Rows L2
theorem put1 {g : Gh} {F0 H0 F H : Hp} {P0 : List Addr} {ε : Ev} {σ : L2.St} {β : List (Option V)} {P R Z : List Addr} {i : Nat} {d : D} {v : V} (en : EnvR g F H ε σ β P) (hi : i < ε.length) (hr : Rep g F H d v R) (st : Stp F0 H0 P0 F H (R ++ (Z ++ P))) :
    ∃ P', EnvR g F H (ε.set i (.val d)) (σ.set i (some v)) β P' ∧ Stp F0 H0 P0 F H (Z ++ P') := by
  obtain ⟨A, P1, B, h3, en'⟩ := en.setAt hi hr
  refine ⟨A ++ R ++ B, en', ?_⟩
  have s1 := st.drop (P2 := R ++ (Z ++ (A ++ B))) (by
    rw [h3]
    exact List.Sublist.append (List.Sublist.refl R) (List.Sublist.append (List.Sublist.refl Z) (List.Sublist.append (List.sublist_append_left A P1) (List.Sublist.refl B))))
  refine s1.perm ?_
  have z1 : (R ++ (Z ++ (A ++ B))).Perm (Z ++ (R ++ (A ++ B))) := by
    rw [← List.append_assoc, ← List.append_assoc Z]
    exact List.Perm.append_right _ List.perm_append_comm
  exact z1.trans (List.Perm.append_left Z (perm_mid R A B))
section
variable {X : Cx} {cl : Nat → Addr} {β : List (Option V)} {W : WX} {pos : Pos} {a b c : Expr}
theorem s_par3 (i j l : Nat) {x y z : Str} {fs : FA} {px py pz pt : Pos} {kt k2 : Nat} {pt2 : Pos} (hc : X.calm = true) (hN : X.N.Nodup) (ha : SA X cl β W [a, b, c] fs) (hi : X.N[i]? = some x := by rfl) (hj : X.N[j]? = some y := by rfl) (hl : X.N[l]? = some z := by rfl)
    (hij : i ≠ j := by decide) (hil : i ≠ l := by decide) (hjl : j ≠ l := by decide)
    (hx : X.env.scope.names.lookup x = some .local := by rfl) (hy : X.env.scope.names.lookup y = some .local := by rfl) (hz : X.env.scope.names.lookup z = some .local := by rfl)
    (hw : swappedStores [.Tuple [.Name x px, .Name y py, .Name z pz] kt pt] (.Tuple [a, b, c] k2 pt2) X.env = pure (some [x, y, z]) := by rfl)
    (hs : swapsWithSole [.Tuple [.Name x px, .Name y py, .Name z pz] kt pt] (.Tuple [a, b, c] k2 pt2) pos.line X.env = pure false := by rfl) :
    SS X cl β W (.Assign [.Tuple [.Name x px, .Name y py, .Name z pz] kt pt] (.Tuple [a, b, c] k2 pt2) pos) (fPar3 i j l fs) :=
  PSm (ps_par3 hc hN hi hj hl hij hil hjl hx hy hz ha hw hs) fun D σ H h => rdS.bind (rel := relA (gx X cl) σ) h fun F P as ε2 vs H2 F2 R2 P2 rl en st po => by
    split at po
    · rename_i d e f
      split at po
      · rename_i hlt
        obtain ⟨v, vr, R1, R3, e1, e2, r1, ⟨w, wr, R4, R5, e3, e4, r2, ⟨u, ur, R6, R7, e5, e6, r3, e7, e8⟩⟩⟩ := rl
        subst e7 e8
        rw [List.append_nil] at e6
        subst e6 e5 e4 e3 e2 e1
        refine ⟨v, w, u, rfl, ?_⟩
        obtain ⟨Q1, en1, st1⟩ := put1 (Z := R4 ++ R5) en hlt.1 r1 (by simpa using st)
        obtain ⟨Q2, en2, st2⟩ := put1 (i := j) (Z := R5) en1 (by rw [List.length_set]; exact hlt.2.1) r2 (by simpa using st1)
        obtain ⟨Q3, en3, st3⟩ := put1 (i := l) (Z := []) en2 (by rw [List.length_set, List.length_set]; exact hlt.2.2) r3 (by simpa using st2)
        exact po _ H2 F2 _ en3 (by simpa using st3)
      · exact po.elim
    · exact po.elim
end
end Nb
namespace Nb
open PySem PySem.Spec PyProof.Rows L2
section
variable {g : Gh} {β : List (Option V)} {W : WX} {σ : L2.St} {F H : Hp} {P : List Addr} {Dl : Addr} {α ν : Type} {rel' : Hp → Hp → α → ν → List Addr → Prop} {Q : ν → Hp → Prop}
end
section
variable {X : Cx} {cl : Nat → Addr} {β : List (Option V)} {W : WX} {pos : Pos} {tg : Expr}
variable {elt : Expr} {ifs : List Expr} {scope : Scope} {p : FG} {tt : FT} {te : FE} {x f : Str} {xp ap : Pos}
end
end Nb
set_option maxHeartbeats 2000000
namespace Nb
open PySem PySem.Spec PyProof.Rows L2
section
variable {X : Cx} {cl : Nat → Addr} {β : List (Option V)} {W : WX} {pos pos' np yp pa : Pos}
end
end Nb
namespace Nb
open PySem PySem.Spec PyProof.Rows L2
section
variable {X : Cx} {x1 x2 n : Str} {c1 c2 : Value} {i : Nat} {body su1 su2 : List Stmt} {f1 f2 : Stmt} {np1 np2 pos pos1 pos2 : Pos} {tb : WX → TS} {t1 t2 : Addr → Value → Option Addr → TS} {Wo : WX}
end
end Nb
namespace Nb
open PySem PySem.Spec PyProof.Rows L2
section
variable {X : Cx} {cl : Nat → Addr}
end
section
variable {X : Cx} {cl : Nat → Addr} {β : List (Option V)} {W : WX} {pos pos1 pos2 np1 np2 yp1 yp2 pa1 pa2 p0 p3 p4 p5 p6 p7 : Pos}
end
end Nb
namespace Nb
open PySem PySem.Spec PyProof.Rows L2
section
variable {X : Cx} {cl : Nat → Addr} {β : List (Option V)} {W : WX} {pos : Pos} {a : Expr} {fa : FE}
end
end Nb
namespace Nb
open PySem PySem.Spec PyProof.Rows L2
section
variable {X : Cx} {cl : Nat → Addr} {β : List (Option V)} {W : WX} {pos p : Pos} {gd : Bool} {k : Nat} {bs : List Bool} {run : List D → CRes} {x : Str}
end
section
variable {X : Cx} {cl : Nat → Addr}
end
section
variable {X : Cx} {cl : Nat → Addr}
end
end Nb
namespace Nb
open PySem PySem.Spec PyProof.Rows L2
def iv (l : List (Key × Int)) : List (Key × V) := l.map fun p => (p.1, .int p.2)
section
variable {X : Cx} {cl : Nat → Addr}
end
end Nb
namespace Nb
open PySem PySem.Spec PyProof.Rows L2
section
variable {X : Cx} {cl : Nat → Addr}
end
section
variable {X : Cx} {cl : Nat → Addr} {β : List (Option V)} {a b c : Expr} {apos pos : Pos} {qa qb qc : QD}
end
end Nb
namespace Nb
open PySem PySem.Spec PyProof.Rows L2
section
variable {X : Cx} {cl : Nat → Addr} {β : List (Option V)} {W : WX} {b c : Expr} {qs : QS} {qa : QD}
end
end Nb
set_option maxHeartbeats 4000000
namespace Nb
open PySem PySem.Spec PyProof.Rows L2
section
variable {g : Gh} {β : List (Option V)} {W : WX} {F H F' H' : Hp} {P P1 P' : List Addr} {ε' : Ev} {σ' : L2.St} {d : D} {v : V} {i : Nat} {D : Ends}
end
section
variable {X : Cx} {cl : Nat → Addr} {β : List (Option V)} {W : WX} {pos ap xp : Pos} {tg : Expr} {x f : Str}
end
section
variable {X : Cx} {cl : Nat → Addr}
end
section
variable {X : Cx} {cl : Nat → Addr} {β : List (Option V)} {W : WX} {pos apos : Pos} {o : Expr} {fo : FE} {m : Str} {run : List D → CRes} {k : Nat}
end
section
variable {X : Cx} {cl : Nat → Addr} {β : List (Option V)} {W : WX} {pos : Pos}
end
end Nb
namespace Nb
open PySem PySem.Spec PyProof.Rows L2
section
variable {X : Cx} {cl : Nat → Addr}
end
end Nb
namespace Nb
open PySem PySem.Spec PyProof.Rows L2
section
variable {X : Cx} {cl : Nat → Addr} {β : List (Option V)} {W : WX} {pos : Pos} {a b c : Expr} {fa fb fc : FE}
end
end Nb
namespace Nb
open PySem PySem.Spec PyProof.Rows L2
section
variable {X : Cx} {cl : Nat → Addr} {β : List (Option V)} {W : WX} {pos : Pos}
end
end Nb
namespace Nb
open PySem PySem.Spec PyProof.Rows L2
section
variable {X : Cx} {cl : Nat → Addr} {β : List (Option V)} {W : WX} {pos : Pos}
end
end Nb
namespace Nb
open PySem PySem.Spec PyProof.Rows L2
section
variable {X : Cx} {cl : Nat → Addr} {β : List (Option V)} {W : WX} {pos : Pos} {a b c : Expr} {fa fb fc : FE}
def fMtL (k : D → List D → Option D) (f : FE) (fs : FA) : FE := fun ε => (f ε).bind fun d ε1 => if d.fz = true ∧ tyD "list" d = true then (fs ε1).bind fun as ε2 => match allV as with
  | some ds => .of (k d ds) ε2
  | none => .bad else .bad
def kLenN : List D → Option D
  | [.dcn _ ks _] => match nks ks with
    | some nk => if ∀ k ∈ nk, k.depth ≤ 8 then some (.int ks.length) else none
    | none => none
  | _ => none
end
end Nb
namespace Nb
open PySem PySem.Spec PyProof.Rows L2
section
variable {X : Cx} {cl : Nat → Addr} {β : List (Option V)} {W : WX} {pos : Pos} {a b c tg : Expr} {fa fb fc : FE} {qa qb : QD}
def qLenN (qa : QD) : QD := fun ε => match qa ε with
  | some (.dcn o ks ds) => kLenN [.dcn o ks ds]
  | _ => none
end
end Nb
namespace Nb
open PySem PySem.Spec PyProof.Rows L2
section
variable {g : Gh} {F H : Hp}
variable {β : List (Option V)} {W : WX} {F' H' : Hp} {P P1 P' : List Addr} {ε' : Ev} {σ' : L2.St} {d : D} {v : V} {i : Nat} {D : Ends} {b0 : Option V}
end
section
variable {X : Cx} {cl : Nat → Addr} {β : List (Option V)} {W : WX} {pos xp : Pos} {tg : Expr} {x : Str}
end
end Nb
namespace Nb
open PySem PySem.Spec PyProof.Rows L2
section
variable {X : Cx} {cl : Nat → Addr} {β : List (Option V)} {W : WX} {pos : Pos} {tg : Expr}
variable {elt : Expr} {elts ifs : List Expr} {scope : Scope} {p : FG} {tt : FT} {te : FE} {x : Str} {xp ep cp tpos : Pos} {kk : Nat}
end
end Nb
namespace Nb
open PySem PySem.Spec PyProof.Rows L2
section
variable {X : Cx} {cl : Nat → Addr} {β : List (Option V)} {W : WX} {pos : Pos} {a b c : Expr} {fa fb fi : FE} {F H : Hp} {qa qb : QD} {qs : QS} {i : Nat}
def sKeyN (qs : QS) (q : QD) : QS := fun ε => match qs ε, q ε with
  | some s, some (.tup kd) => some (s ++ [.nky kd])
  | _, _ => none
def kIxNP : D → D → Option D
  | .dcn _ ks ds, .tup kd => match nks kd, nks ks with
    | some k, some nk => if (NestedKey.tup k).depth ≤ 8 ∧ (∀ k ∈ nk, k.depth ≤ 8) then lookN (.tup k) nk ds else none
    | _, _ => none
  | _, _ => none
def isDn : D → Bool
  | .dcn _ _ _ => true
  | _ => false
def qIxU (qa qb : QD) : QD := fun ε => match qa ε, qb ε with
  | some c, some k => if isDn c = true then kIxNP c k else qIx qa qb ε
  | _, _ => none
def fBinQ (k : D → D → Option D) (fa : FE) (q : QD) : FE := fun ε => (fa ε).bind fun d1 ε1 => if d1.fz = true then (match q ε1 with
  | some d2 => .of (k d1 d2) ε1
  | none => .bad) else .bad
def kSetU : D → D → D → Option D
  | .dcn true ks ds, .tup kd, d => match nks kd, nks ks with
    | some k, some nk => if (NestedKey.tup k).depth ≤ 8 ∧ (∀ k ∈ nk, k.depth ≤ 8) ∧ fzs kd = true ∧ nk.length < mx then
        (if NestedKey.tup k ∈ nk then (if d.fz = true then some (.dcn true ks (putNV (.tup k) d nk ds)) else none) else some (.dcn true (ks ++ [.tup kd]) (ds ++ [d]))) else none
    | _, _ => none
  | .dic true [] [], .tup kd, d => match nks kd with
    | some k => if (NestedKey.tup k).depth ≤ 8 ∧ fzs kd = true then some (.dcn true [.tup kd] [d]) else none
    | none => none
  | c, di, d => kSet c di d
def gSetU (i : Nat) (qs : QS) (q : QD) : FG := fun d ε => match qs ε, q ε, qV i ε with
  | some s, some di, some d0 => (match getL s d0 with
    | some c => (match kSetU c di d with
      | some c' => (match setL s d0 c' with
        | some d0' => some (setS i d0' ε)
        | none => none)
      | none => none)
    | none => none)
  | _, _, _ => none
end
end Nb
namespace Nb
open PySem PySem.Spec PyProof.Rows L2
def lockDs : List D → Option (List D)
  | [] => some []
  | .dic true ks ds :: r => if fzs ds = true then (lockDs r).map (.dil ks ds :: ·) else none
  | _ => none
section
variable {X : Cx} {cl : Nat → Addr} {β : List (Option V)} {W : WX} {pos : Pos}
def fVarLN (i : Nat) : FE := fun ε => match ε[i]? with
  | some (.val (.dcn true ks ds)) => (match lockDs ds with
    | some ds' => .ok (.dcn false ks ds') (ε.set i (.val (.dcn false ks ds')))
    | none => .bad)
  | _ => .bad
end
end Nb
namespace Nb
open PySem PySem.Spec PyProof.Rows L2
section
variable {X : Cx} {cl : Nat → Addr} {β : List (Option V)} {W : WX} {pos : Pos} {a : Expr} {qa : QD}
def fDicE (q : QD) : FE := fun ε => match q ε with
  | some (.dic _ ks _) => .ok (.bl ks.isEmpty) ε
  | _ => .bad
end
end Nb
namespace Nb
open PySem PySem.Spec PyProof.Rows L2
def qArith (f : Int → Int → Int) (qa qb : QD) : QD := fun ε => match qa ε, qb ε with
  | some (.int i), some (.int j) => some (.int (f i j))
  | _, _ => none
section
variable {X : Cx} {cl : Nat → Addr} {β : List (Option V)} {W : WX} {pos : Pos} {a b : Expr} {qa qb : QD}
end
end Nb
namespace Nb
open PySem PySem.Spec PyProof.Rows L2
section
variable {Y : Cx} {el : Expr} {gens : List Comprehension} {scope : Scope} {ps : Pos} {D : Addr} {ifs : List Expr} {elt : Expr} {tt : TT} {te : TE} {code : Code} {vd : List Nat}
end
section
variable {X : Cx}
end
end Nb
namespace Nb
open PySem PySem.Spec PyProof.Rows L2
section
variable {g : Gh} {β : List (Option V)} {W : WX} {σ : L2.St} {F H : Hp} {P : List Addr} {Dl : Addr} {α ν : Type} {rel' : Hp → Hp → α → ν → List Addr → Prop} {Q : ν → Hp → Prop}
end
section
variable {X : Cx} {cl : Nat → Addr} {β : List (Option V)} {W : WX} {pos : Pos} {elt tg iter tg1 iter1 tg2 iter2 : Expr} {ifs ifs1 ifs2 : List Expr} {scope : Scope} {fi fi1 fi2 : FI} {p p1 p2 : FG} {tt tt1 tt2 : FT} {te : FE}
end
end Nb
namespace Nb
open PySem PySem.Spec PyProof.Rows L2
section
variable {X : Cx} {cl : Nat → Addr} {β : List (Option V)} {W : WX} {pos : Pos} {a b c : Expr} {fa fb fi : FE} {F H : Hp}
end
end Nb
namespace Nb
open PySem PySem.Spec PyProof.Rows L2
section
variable {X : Cx} {cl : Nat → Addr} {β : List (Option V)} {W : WX} {pos : Pos}
end
end Nb
namespace Nb
open PySem PySem.Spec PyProof.Rows L2
section
variable {prog : Program} {w : World} {A : Around} {E : Value → Shared → Prop} {s : Shared} {z TI TO i1 i2 : Addr} {fp1 fp2 : List Addr} {n1 n2 i : Nat} {P1 P2 : Nat → Value → Prop} {St1 St2 : Nat → Heap → Prop} {a1 a2 f0 : Value} {f1 : Bool} {a : Nat}
end
section
variable {X : Cx} {cl : Nat → Addr} {β : List (Option V)} {W : WX} {pos : Pos}
end
section
variable {X : Cx} {cl : Nat → Addr} {β : List (Option V)} {W : WX} {pos : Pos}
variable {elt : Expr} {elts ifs : List Expr} {scope : Scope} {p : FG} {tt : FT} {te : FE} {x : Str} {xp ep cp tpos : Pos} {kk : Nat}
end
section
variable {X : Cx} {cl : Nat → Addr} {β : List (Option V)} {W : WX} {pos : Pos} {a b c e o : Expr} {es : List Expr} {fa fb fc fo : FE} {fs fk : FA} {gd : Bool} {k : Nat} {bs : List Bool} {run : List D → CRes} {x m : Str} {p apos : Pos}
end
end Nb
set_option maxHeartbeats 2000000
namespace Nb
open PySem PySem.Spec PyProof.Rows L2
section
variable {X : Cx} {cl : Nat → Addr}
end
end Nb
namespace Nb
open PySem PySem.Spec PyProof.Rows L2
section
variable {prog : Program} {w : World} {A : Around} {E : Value → Shared → Prop} {s : Shared} {l : Addr} {xs : Array (Int × Tok)}
end
section
variable {X : Cx} {cl : Nat → Addr}
end
end Nb
set_option maxHeartbeats 4000000
namespace Nb
open PySem PySem.Spec PyProof.Rows L2 PySem.W
section
variable {X : Cx} {cl : Nat → Addr}
end
section
variable {X : Cx} {cl : Nat → Addr} {β : List (Option V)} {W : WX} {pos : Pos} {o : Expr} {fo : FE} {m : Str} {run : List D → CRes} {k : Nat}
end
end Nb
set_option maxHeartbeats 2000000
namespace Nb
open PySem PySem.Spec PyProof.Rows L2
end Nb
set_option maxHeartbeats 4000000
namespace Nb
open PySem PySem.Spec PyProof.Rows L2 PySem.W
section
variable {X : Cx} {e : Expr} {td : TE} {apos cpos : Pos}
end
section
variable {X : Cx} {cl : Nat → Addr} {β : List (Option V)} {W : WX} {pos : Pos}
end
end Nb
namespace Nb
open PySem PySem.Spec PyProof.Rows L2 PySem.W
section
variable {X : Cx} {cl : Nat → Addr}
variable {β : List (Option V)} {W : WX} {pos : Pos} {a e : Expr} {es : List Expr} {fa : FE} {qs : QS} {i : Nat} {fs : FA}
end
end Nb
namespace Nb
open PySem PySem.Spec PyProof.Rows L2 PySem.W
section
variable {P : Program} {w : World} {A : Around} {E : Value → Shared → Prop} {s : Shared} {c : Addr} {zs : List Str}
end
end Nb
namespace Nb
open PySem PySem.Spec PyProof.Rows L2 PySem.W
section
variable {P : Program} {w : World} {A : Around} {E : Value → Shared → Prop} {s : Shared}
end
end Nb
namespace Nb
open PySem PySem.Spec PyProof.Rows L2 PySem.W
section
variable {X : Cx} {cl : Nat → Addr}
variable {β : List (Option V)} {W : WX} {pos : Pos}
end
end Nb
namespace Nb
open PySem PySem.Spec PyProof.Rows L2 PySem.W
section
variable {X : Cx} {cl : Nat → Addr}
end
end Nb
namespace Nb
open PySem PySem.Spec PyProof.Rows L2 PySem.W
section
variable {X : Cx} {cl : Nat → Addr}
end
end Nb
set_option maxHeartbeats 2000000
namespace Nb
open PySem PySem.Spec PyProof.Rows L2
section
variable {gd : Bool} {P : Program} {w : World} {K : PySem.W.Frag} {mg : Str → Option Value} {base : Heap} {k n : Nat} {f : Addr} {g : Gh} {ks : List Str} {gV : List V → List V → List V} {σ : List Nat} {run : List D → CRes} {bs : List Bool}
end
end Nb
set_option maxHeartbeats 4000000
namespace Nb
open PySem PySem.Spec PyProof.Rows L2
section
variable {X : Cx} {cl : Nat → Addr} {β : List (Option V)} {W : WX} {pos : Pos} {a b c : Expr} {fa fb : FE} {F H : Hp} {qa qb : QD} {qs : QS} {i : Nat} {pins : List (Addr × Obj)} {σ : L2.St} {s : Shared}
end
end Nb
namespace Nb
open PySem PySem.Spec PyProof.Rows L2
section
variable {X : Cx} {cl : Nat → Addr} {β : List (Option V)} {W : WX} {pos : Pos} {a : Expr} {fa : FE}
end
end Nb
namespace Nb
open PySem PySem.Spec PyProof.Rows L2
section
variable {X : Cx} {cl : Nat → Addr}
end
section
variable {X : Cx} {cl : Nat → Addr} {β : List (Option V)} {W : WX} {pos : Pos} {a k v : Expr} {fa fk fv : FE} {F H : Hp}
end
end Nb
namespace Nb
open PySem PySem.Spec PyProof.Rows L2 PySem.W L2.DX
abbrev Sit := Str × Int
section
variable {X : Cx} {cl : Nat → Addr}
def putK : Hp → List Addr → List Obj → List Sit → Hp
  | H, a :: as, o :: os, q :: qs => putK (upd H a (.frz o (.tup [.str q.1, .int q.2]))) as os qs
  | H, _, _, _ => H
variable {β : List (Option V)} {W : WX}
end
end Nb
namespace Nb
open PySem PySem.Spec PyProof.Rows L2
section
variable {prog : Program} {w : World} {A : Around} {R : Result → Shared → Prop} {s : Shared} {kx vx t0 i0 t1 i1 : Expr} {ifs0 ifs1 : List Expr} {scope : Scope} {pos : Pos} {it : Value} {D : Addr} {env : Env}
end
section
variable {X : Cx}
end
section
variable {g : Gh} {β : List (Option V)} {W : WX} {σ : L2.St} {F H : Hp} {P : List Addr} {Dl : Addr} {α ν : Type} {rel' : Hp → Hp → α → ν → List Addr → Prop} {Q : ν → Hp → Prop}
end
section
variable {X : Cx} {cl : Nat → Addr} {β : List (Option V)} {W : WX} {pos : Pos}
variable {kx vx tg iter tg1 iter1 : Expr} {ifs ifs1 : List Expr} {scope : Scope} {fi fi1 : FI} {p p1 : FG} {tt tt1 : FT} {tk tv : FE}
end
section
variable {X : Cx} {cl : Nat → Addr} {β : List (Option V)} {W : WX} {pos : Pos}
end
section
variable {X : Cx} {cl : Nat → Addr} {β : List (Option V)} {W : WX} {pos : Pos}
end
end Nb
namespace Nb
open PySem PySem.Spec PyProof.Rows L2 PySem.W
section
variable {X : Cx} {cl : Nat → Addr} {β : List (Option V)} {W : WX} {pos : Pos}
variable {kx vx tg iter : Expr} {ifs : List Expr} {scope : Scope} {fi : FI} {p : FG} {tt : FT} {tk tv : FE}
end
end Nb
namespace Nb
open PySem PySem.Spec PyProof.Rows L2 PySem.W
section
variable {prog : Program} {w : World} {A : Around} {R : Result → Shared → Prop} {s : Shared} {kx t0 i0 t1 i1 : Expr} {ifs0 ifs1 : List Expr} {scope : Scope} {pos : Pos} {it : Value} {D : Addr} {env : Env}
end
section
variable {X : Cx}
end
end Nb
namespace Nb
open PySem PySem.Spec PyProof.Rows L2 PySem.W
section
variable {P0 : Program} {w0 : World} {g : Gh} {β : List (Option V)} {W : WX} {σ : L2.St} {F H : Hp} {P : List Addr} {Dl : Addr} {α ν : Type} {rel' : Hp → Hp → α → ν → List Addr → Prop} {Q : ν → Hp → Prop}
end
section
variable {X : Cx} {cl : Nat → Addr} {β : List (Option V)} {W : WX} {pos : Pos}
variable {kx tg iter tg1 iter1 : Expr} {ifs ifs1 : List Expr} {scope : Scope} {fi fi1 : FI} {p p1 : FG} {tt tt1 : FT} {te : FE}
end
end Nb
namespace Nb
open PySem PySem.Spec PyProof.Rows L2 PySem.W
section
variable {X : Cx}
end
section
variable {X : Cx} {cl : Nat → Addr} {β : List (Option V)} {W : WX} {pos : Pos}
variable {kx tg iter : Expr} {ifs : List Expr} {scope : Scope} {fi : FI} {p : FG} {tt : FT} {te : FE}
end
end Nb
namespace Nb
open PySem PySem.Spec PyProof.Rows L2 PySem.W L2.DX
section
variable {X : Cx} {cl : Nat → Addr}
variable {β : List (Option V)} {W : WX}
end
end Nb
namespace Nb
open PySem PySem.Spec PyProof.Rows L2 PySem.W
section
variable {P : Program} {w : World} {A : Around} {E : Value → Shared → Prop} {s : Shared}
end
section
variable {X : Cx} {cl : Nat → Addr}
variable {β : List (Option V)} {W : WX} {pos : Pos}
end
end Nb
namespace Nb
open PySem PySem.Spec PyProof.Rows L2 PySem.W L2.DX
section
variable {X : Cx} {cl : Nat → Addr}
end
end Nb
namespace Nb
open PySem PySem.Spec PyProof.Rows L2 PySem.W
section
variable {X : Cx} {cl : Nat → Addr} {β : List (Option V)} {W : WX} {a b : Expr} {apos pos tp : Pos} {qa qb : QD} {j : Nat}
end
end Nb
namespace Nb
open PySem PySem.Spec PyProof.Rows L2 PySem.W
theorem rdR.junk {g : Gh} {β : List (Option V)} {W : WX} {α ν : Type} {rel : Hp → Hp → α → ν → List Addr → Prop} {f : Ev → Res α} {σ : L2.St} {H : Hp} {Q : ν → Hp → Prop} {q : Addr} {o : HO} (h : rdR g β W rel f σ H Q) (hq : H q = none) :
    rdR g β W rel f σ (upd H q o) fun v H' => H' q = some o ∧ Q v H' := by
  obtain ⟨F, ε, P, en, st, po⟩ := h
  have al := EnvR.alive _ _ _ _ en
  obtain ⟨s2, same⟩ := st.junk (o := o) al hq
  refine ⟨F, ε, P, EnvR.move (fun _ _ h => h) _ _ _ _ same en, s2.base, ?_⟩
  have hp : q ∉ P := fun z => al q z hq
  cases e : f ε with
  | ok a ε' =>
    rw [e] at po
    intro v H' F' R P' rl en' st'
    exact ⟨st'.keep q o upd_same hp, po v H' F' R P' rl en' (s2.tr st')⟩
  | exc c fs ds ε' =>
    rw [e] at po
    intro dx vs H' F' P' a b c d st'
    exact po dx vs H' F' P' a b c d (s2.tr st')
  | bad =>
    rw [e] at po
    exact po.elim
section
variable {X : Cx} {cl : Nat → Addr} {β : List (Option V)} {W : WX} {o e : Expr} {apos pos sp_ : Pos} {fo fe : FE} {k : Nat} {m : Str} {bs : List Bool} {run : List D → CRes}
end
end Nb
namespace GQB
open PySem PySem.SeqAt
open AutoSeq1 (wpAny_loadPart')
open MeetsSeq MeetsSeq2 MeetsSeq3 SeqRoads2 GQ
section
variable {prog : Program} {w : World} {A : Around} {R : Result → Shared → Prop}
end
section
variable {prog : Program} {w : World} {A : Around} {E : Value → Shared → Prop} {s : Shared}
end
end GQB
namespace Nb
open PySem PySem.Spec PyProof.Rows L2 PySem.W
section
variable {X : Cx} {n m : Nat} {D D' : Eqb}
theorem EqB.or (h : EqB X n D) (h' : EqB X n D') : EqB X n (fun b x y H => D b x y H ∨ D' b x y H) := fun A pins s σ H x y u v b sb I rx ry d => by
  rcases d with d | d
  · exact h A pins s σ H x y u v b sb I rx ry d
  · exact h' A pins s σ H x y u v b sb I rx ry d
end
section
variable {X : Cx} {n m : Nat}
end
end Nb
namespace Nb
open PySem PySem.Spec PyProof.Rows L2
section
variable {g : Gh} {F H : Hp}
end
section
variable {X : Cx} {cl : Nat → Addr} {β : List (Option V)} {W : WX} {pos pos' p1 p2 : Pos} {o e b : Expr} {x : Str} {st2 : Stmt} {rest : List Stmt}
end
end Nb
namespace Nb
open PySem PySem.Spec PyProof.Rows L2 PySem.W
section
variable {P : Program} {w : World} {A : Around} {E : Value → Shared → Prop} {s : Shared}
end
section
variable {X : Cx} {cl : Nat → Addr}
variable {β : List (Option V)} {W : WX} {pos : Pos}
end
section
variable {X : Cx} {cl : Nat → Addr}
end
end Nb
namespace Nb
open PySem PySem.Spec PyProof.Rows L2 PySem.W
section
variable {X : Cx} {cl : Nat → Addr}
variable {β : List (Option V)} {W : WX} {pos : Pos} {a b : Expr} {fa : FE}
end
end Nb
namespace Nb
end Nb
namespace Nb
open PySem PySem.Spec PyProof.Rows L2
end Nb
namespace Nb
open PySem PySem.Spec PyProof.Rows L2
end Nb
namespace Nb
open PySem PySem.Spec PyProof.Rows L2
end Nb
namespace Nb
open PySem PySem.Spec PyProof.Rows L2
section
variable {X : Cx} {A : Around} {E : Value → Shared → Prop} {pins : List (Addr × Obj)} {σ : L2.St} {H : Hp} {s : Shared}
end
end Nb
namespace Nb
open PySem PySem.Spec PyProof.Rows L2
section
variable {X : Cx} {cl : Nat → Addr}
variable {β : List (Option V)} {W : WX} {pos : Pos} {a e : Expr} {es : List Expr} {fa : FE} {qs : QS} {i : Nat} {fs : FA}
end
end Nb
namespace Nb
open PySem PySem.Spec PyProof.Rows L2
section
variable {X : Cx} {cl : Nat → Addr}
end
end Nb
namespace Nb
open PySem PySem.Spec PyProof.Rows L2
section
variable {X : Cx} {cl : Nat → Addr}
variable {β : List (Option V)} {W : WX} {pos : Pos} {a e : Expr} {es : List Expr} {fa : FE} {qs : QS} {i : Nat} {fs : FA}
end
end Nb
namespace Nb
open PySem PySem.Spec PyProof.Rows L2
section
variable {X : Cx} {cl : Nat → Addr}
end
end Nb
namespace Nb
open PySem PySem.Spec PyProof.Rows L2
section
variable {X : Cx} {cl : Nat → Addr} {β : List (Option V)} {W : WX} {pos : Pos} {a : Expr} {fa : FE}
end
end Nb
namespace Nb
open PySem PySem.Spec PyProof.Rows L2
section
variable {X : Cx} {cl : Nat → Addr} {β : List (Option V)} {W : WX} {pos : Pos} {a : Expr} {fa : FE} {qa : QD}
end
end Nb
namespace Nb
open PySem PySem.Spec PyProof.Rows L2
section
variable {X : Cx} {cl : Nat → Addr} {β : List (Option V)} {W : WX} {pos : Pos} {a : Expr} {fa : FE} {qa : QD}
end
end Nb
namespace Nb
open PySem PySem.Spec PyProof.Rows L2
section
variable {X : Cx} {cl : Nat → Addr} {pins : List (Addr × Obj)} {σ : L2.St} {H : Hp} {s : Shared}
end
end Nb
namespace Nb
open PySem PySem.Spec PyProof.Rows L2
section
variable {X : Cx} {cl : Nat → Addr}
end
end Nb
namespace Nb
open PySem PySem.Spec PyProof.Rows L2 PySem.W L2.DX
section
variable {X : Cx} {cl : Nat → Addr}
variable {β : List (Option V)} {W : WX} {pos : Pos} {a e : Expr} {es : List Expr} {fa : FE} {qs : QS} {i : Nat} {fs : FA}
end
end Nb
namespace Nb
open PySem PySem.Spec PyProof.Rows L2 PySem.W
section
variable {X : Cx} {cl : Nat → Addr}
end
section
variable {X : Cx} {cl : Nat → Addr} {β : List (Option V)} {W : WX} {a b : Expr} {apos pos : Pos} {fa : FE} {q : QD}
end
end Nb
namespace Nb
open PySem PySem.Spec PyProof.Rows L2 PySem.W
section
variable {X : Cx}
end
section
variable {X : Cx}
end
section
variable {P0 : Program} {w0 : World} {g : Gh} {β : List (Option V)} {W : WX} {σ : L2.St} {F H : Hp} {P : List Addr} {Dl : Addr} {α ν : Type} {rel' : Hp → Hp → α → ν → List Addr → Prop} {Q : ν → Hp → Prop}
end
section
variable {X : Cx} {cl : Nat → Addr} {β : List (Option V)} {W : WX} {pos : Pos}
variable {kx tg iter : Expr} {ifs : List Expr} {scope : Scope} {fi : FI} {p : FG} {tt : FT} {te : FE}
end
end Nb
namespace Nb
open PySem PySem.Spec PyProof.Rows L2
section
variable {X : Cx} {cl : Nat → Addr} {β : List (Option V)} {W : WX} {k v : Expr} {pos : Pos} {fk fv : FE}
end
end Nb
set_option maxHeartbeats 1000000
namespace Nb
open PySem PySem.Spec PyProof.Rows L2
section
variable {X : Cx} {cl : Nat → Addr} {β : List (Option V)} {W : WX} {pos : Pos} {a b : Expr} {fa fb : FE}
end
end Nb
set_option maxHeartbeats 2000000
namespace Nb
open PySem PySem.Spec PyProof.Rows L2
section
variable {X : Cx} {pins : List (Addr × Obj)} {σ : L2.St} {H : Hp} {a : Addr}
abbrev kn (oe : Obj) : HO := .frz oe (.ext fun _ => True)
theorem un_err {fs ex : List Addr} {h h' : Heap} {o : HO} (k : ∀ b u, h.get? b = some u → h'.get? b = some u) (hp : h.get? a = none) (hn : H a = none) : Un fs ex H (upd H a o) h h' where
  keep := fun b u q _ _ _ => k b u q
  slot := fun b u q _ _ _ => ⟨u.slots, k b u q⟩
  free := fun b u q n _ => by rw [upd_ne (fun e => by rw [e, hp] at q; cases q)]; exact n
  there := fun b u q _ => ⟨u, k b u q⟩
  tups := fun b xs q => by rw [upd_ne (ne_of_none q hn)]; exact q
  frzs := fun b u xs q => by rw [upd_ne (ne_of_none q hn)]; exact q
  tbls := fun b ps q => ⟨#[], by rw [upd_ne (ne_of_none q hn), q]; simp⟩
theorem hok_err {P : Program} {w : World} {h h' : Heap} {o : HO} (x : HOk P w H h) (k : ∀ b u, h.get? b = some u → h'.get? b = some u) (hn : H a = none) (new : ObjOk P w (upd H a o) h' a o) : HOk P w (upd H a o) h' := fun b u e => by
  by_cases hb : b = a
  · subst hb; rw [upd_same] at e; cases e; exact new
  · rw [upd_ne hb] at e
    exact (x b u e).stay (fun c v _ q => k c v q) (fun c q => by rw [upd_ne (ne_of_none q hn)]; exact q) fun c xs q => by rw [upd_ne (ne_of_none q hn)]; exact q
theorem inv_err {oe : Obj} {sI s' : Shared} (I : Inv X pins σ H sI) (k : ∀ b o, sI.heap.get? b = some o → s'.heap.get? b = some o) (ne : sI.heap.get? a = none) (na : H a = none) (ha : s'.heap.get? a = some oe) (os : s'.os = sI.os) (bare : AllBare s'.gens) :
    Inv X pins σ (upd H a (kn oe)) s' := by
  have J := I.un (t' := s'.toks) (h' := s'.heap) (un_err (o := kn oe) k ne na) (hok_err (o := kn oe) I.hok k na ⟨ha, trivial, ⟨oe, ha⟩, fun _ _ _ _ => trivial⟩)
  exact ⟨J.ok, os.trans J.os, bare, J.base, J.loc, J.cell, J.free, J.freeC, J.pin, J.hok, J.len⟩
def tKeep (t : L2.St → Hp → XK → Prop) : TE := fun σ H Q => t σ H fun C d H' => ∀ p (oe : Obj) (us : Array Value), H' p = none → oe.cls = C → oe.dict = d → oe.data = .fields us → Q (.ref p) (upd H' p (kn oe))
theorem pe_mk {e : Expr} {t : L2.St → Hp → XK → Prop} (h : PMk X e t) : PE X e (tKeep t) := by
  refine ⟨fun pins s σ H Q I q => ?_⟩
  refine thn (h pins s σ H _ I q) fun u s' hu => ?_
  obtain ⟨a, oe, vs, sI, H', cls, d, rfl, J, k, hne, ha, hz, hd, h1, na, os, ag, r, q⟩ := hu
  exact ⟨.ref a, _, inv_err J k hne na ha os ag, rfl, q a oe vs na hz.1 hz.2 hd⟩
end
section
variable {X : Cx} {cl : Nat → Addr} {β : List (Option V)} {W : WX} {pos p2 p : Pos} {e : Expr} {fe : FE}
theorem err_new {g : Gh} {F H : Hp} {c : Nat} {d : Option Addr} {fs : List Str} {ds : List D} {vs : List V} {oe : Obj} {us : Array Value} {p : Addr} (x : XdAt F d fs vs) (hl : fs.length = vs.length) (r : Reps g F H ds vs []) (hp : H p = none) (t : Exh F H)
    (h1 : oe.cls = .ref (g.cl c)) (h2 : oe.dict = d) (h3 : oe.data = .fields us) : Rep g (upd F p (kn oe)) (upd H p (kn oe)) (.err c fs ds) (.ref p) [] := by
  have ex : Exh F (upd F p (kn oe)) := exh_upd (none_of_exh t hp)
  exact ⟨p, d, vs, rfl, ⟨oe, us, upd_same, h1, h2, h3⟩, xd_mono ex x, hl, rfl, Reps.move ex ds vs [] (fun _ z => nomatch z) r⟩
theorem rd_mkE {c : Nat} {fld : Str} {σ : L2.St} {H : Hp} {Q : VK} (h : rdE X cl β W (fMkE c fld fe) σ H Q) : tKeep (tEx (cl c) fld (rdE X cl β W fe)) σ H Q :=
  rdR.bind (rel := Rep (gx X cl)) h fun F P d ε1 v H1 F1 R P1 rl en1 st1 po => by
    split at po
    · rename_i hz
      have ec := Rep.cold d v R hz rl
      subst ec
      intro dx hdx p oe us hp h1 h2 h3
      have al : ∀ q ∈ [] ++ P1, H1 q ≠ none := fun q hq => EnvR.alive _ _ _ _ en1 q (by simpa using hq)
      obtain ⟨s2, same⟩ := st1.andNewF (o := .xd [(fld, v)]) al hdx
      have e2 : Exh F1 (upd F1 dx (.xd [(fld, v)])) := exh_upd (none_of_exh st1.top hdx)
      have en2 := EnvR.move e2 _ _ _ _ (fun q hq => same q (by simpa using hq)) en1
      have r2 : Rep (gx X cl) (upd F1 dx (.xd [(fld, v)])) (upd H1 dx (.xd [(fld, v)])) d v [] := Rep.move e2 d v [] (fun _ z => nomatch z) rl
      have al2 : ∀ q ∈ [] ++ P1, upd H1 dx (.xd [(fld, v)]) q ≠ none := fun q hq => EnvR.alive _ _ _ _ en2 q (by simpa using hq)
      obtain ⟨s3, same3⟩ := s2.andNewF (o := kn oe) al2 hp
      have e3 := exh_upd (o := kn oe) (none_of_exh s2.top hp)
      have en3 := EnvR.move e3 _ _ _ _ (fun q hq => same3 q (by simpa using hq)) en2
      refine po (.ref p) _ _ [] P1 (err_new (g := gx X cl) (d := some dx) (vs := [v]) (us := us) ⟨dx, rfl, by rw [upd_same]; rfl⟩ rfl ⟨v, [], [], [], rfl, rfl, r2, rfl, rfl⟩ hp s2.top h1 h2 h3) en3 s3
    · exact po.elim
theorem se_mkE {x me par fld : Str} {c k : Nat} (T : ExI X.prog X.K (cl c) me par fld) (hr : Room (k + 1) X.A) (hg : Gl X x) (hm : X.mg x = some (.ref (cl c))) (ha : SE X cl β W e fe)
    (hdb : (x == ("__debug__" : Str)) = false := by decide) (he : starEach [e] X.env = (false, eval e X.env) :: starEach [] X.env := by rfl) (hpl : (backTo p2 (starEach [] X.env)).any (·.1) = false := by rfl) :
    SE X cl β W (.Call (.Name x p) [e] [] p2) (fMkE c fld fe) := (pe_mk (pmk_ex T hr hg hm ha hdb he hpl)).mono fun _ _ _ h => rd_mkE h
theorem se_mkE0 {x me : Str} {c k : Nat} (T : ExI0 X.prog X.K (cl c) me) (hr : Room (k + 1) X.A) (hg : Gl X x) (hm : X.mg x = some (.ref (cl c)))
    (hdb : (x == ("__debug__" : Str)) = false := by decide) : SE X cl β W (.Call (.Name x p) [] [] p2) (fMkE0 c) :=
  (pe_mk (pmk_ex0 T hr hg hm hdb)).mono fun σ H Q h => by
    obtain ⟨F, ε, P, en, st, po⟩ := h
    intro p oe us hp h1 h2 h3
    have al : ∀ q ∈ P, H q ≠ none := EnvR.alive _ _ _ _ en
    obtain ⟨s2, same⟩ := st.andNewF (o := kn oe) al hp
    exact po (.ref p) _ _ [] P (err_new (g := gx X cl) (d := none) (vs := []) (us := us) ⟨rfl, rfl⟩ rfl ⟨rfl, rfl⟩ hp st.top h1 h2 h3) (EnvR.move (exh_upd (none_of_exh st.top hp)) _ _ _ _ same en) s2
def tXe (K : PySem.W.Frag) (f : Str) (te : TE) : TE := fun σ H Q => te σ H fun x H1 => ∃ (a C dd : Addr) (fs : List (Str × V)) (v : V), x = .ref a ∧ ErrAt H1 a C (some dd) ∧ XfC K C ∧ PySem.W.findIn K (.ref C) f = some none ∧ H1 dd = some (.xd fs) ∧ fs.lookup f = some v ∧ Q v H1
theorem pe_xe {te : TE} {n : Str} (he : PE X e te) (hb : attributeBase e n X.env (eval e X.env) = eval e X.env := by rfl) : PE X (.Attribute e n pos) (tXe X.K n te) := by
  refine ⟨fun pins s σ H Q I h => ?_⟩
  refine attr_of hb (thn (he.run pins s σ H _ I h) fun u s1 hh => ?_)
  obtain ⟨x, H1, I1, rx, a, C, dd, fs, v, ex, ⟨oe, us, e1, e2, e3, e4⟩, T, hno, ea, l, q⟩ := hh
  subst ex
  obtain rfl : u = Value.ref a := rx
  obtain ⟨ha, _⟩ := I1.hok a _ e1
  have hx : ObjOk X.prog X.w H1 s1.heap dd (.xd fs) := I1.hok dd _ ea
  obtain ⟨mA, hns, hr⟩ := hx
  obtain ⟨od, ho, hl⟩ := lookIn_ns hns
  obtain ⟨u, hu, ru⟩ := RelO.some_of (v := v) (o := mA n) (by rw [← l]; exact hr n)
  have J : PySem.W.InstAt s1.heap a oe C (some od) := ⟨ha, e2, by unfold PySem.W.notCls; rw [e4] <;> rfl, by rw [e3]; exact ho⟩
  exact PySem.HandSPX.exc_get I1.kIn J T.ga T.gg T.exC (PySem.W.findObj_own T.hdC hno rfl (by rw [hl, hu])) (handed_of ru) ⟨v, H1, I1.tok _, ru, q⟩
theorem se_xe {f : Str} {cs : List Nat} (T : ∀ c ∈ cs, XfC X.K (cl c) ∧ PySem.W.findIn X.K (.ref (cl c)) f = some none) (ha : SE X cl β W e fe) (hb : attributeBase e f X.env (eval e X.env) = eval e X.env := by rfl) : SE X cl β W (.Attribute e f pos) (fXe cs f fe) :=
  (pe_xe ha hb).mono fun σ H Q h => rdR.bind (rel := Rep (gx X cl)) h fun F P d ε1 v H1 F1 R P1 rl en1 st1 po => by
    split at po
    · rename_i c fs ds
      split at po
      · rename_i hc
        obtain ⟨hc, rfl⟩ := hc
        split at po
        · rename_i dv
          split at po
          · obtain ⟨p, d, vs, rfl, h2, h3, hl, rfl, h5⟩ := rl
            obtain ⟨dx, rfl, h3⟩ := h3
            obtain ⟨v, rfl, rv⟩ := reps1 h5
            obtain ⟨T1, T2⟩ := T c (by simpa using hc)
            exact ⟨p, cl c, dx, [(f, v)], v, rfl, err_mono st1.top h2, T1, T2, st1.top _ _ h3, by simp [List.lookup], po v H1 F1 [] P1 rv en1 st1⟩
          · exact po.elim
        · exact po.elim
      · exact po.elim
    · exact po.elim
end
end Nb
namespace PySem.HandSPX
open Builtin Builtin.ObjectAttr
section
variable {prog : Program} {w : World} {A : Around} {R : Result → Shared → Prop} {h : Heap} {g : Array GenState} {d : Drawn} {t : Nat} {os : OsState}
variable {nm q : Str} {C N : Addr} {bs bm bmB : List Value} {hdct : Bool} {sn : List Str} {sub : List Value} {ab : Bool} {col : Option Bool} {dd : Option Addr} {k0 k1 k2 k3 k5 : Option Value} {B newId initId : String} {kw : List (Str × Value)}
theorem kwn_check (F : ExcBaseFacts B newId initId bmB) (hT : ∀ X : String, bm.contains (.type X) = bmB.contains (.type X)) {M : Model} {E : Value → Shared → Prop} {Q : Unit → Shared → Prop}
    (hC : h.get? C = some (excClassObj nm q C N bs bm hdct sn sub ab col dd k0 k1 k2 k3 k5 newId)) (hq : Q () ⟨h, g, d, t, os⟩) : wpAny M A (checkBuiltinCall newId ⟨[.ref C], kw⟩) Q E ⟨h, g, d, t, os⟩ := by
  have e1 : (Value.ref C :: bm).contains (.type B) = true := by rw [List.contains_cons, hT, F.hasB, Bool.or_true]
  have e2 := F.noStar
  simp only [checkBuiltinCall, F.newKind, F.newSplit, F.newRow]
  repeat (first | refine wpAny_loadPart_at hC ?_ | (refine wpAny_isSubtype_exc hC ?_; rw [e1]) | refine wpAny_staticBase_exc hC ?_ | refine wpAny_madeBy_exc hC ?_ | simp only [bne_self_eq_false, Bool.false_eq_true, if_false] | wp_step)
  exact hq
theorem kwn_new (F : ExcBaseFacts B newId initId bmB) (hT : ∀ X : String, bm.contains (.type X) = bmB.contains (.type X))
    (hC : h.get? C = some (excClassObj nm q C N bs bm hdct sn sub ab col dd k0 k1 k2 k3 k5 newId)) (hq : R (.ok (.ret (.ref (h.objs.size + 1)))) ⟨(h.push (W.kdv_tup [])).push (excO C h.objs.size), g, d, t, os⟩) :
    codeAny (model prog w) A (.builtin newId ⟨[.ref C], kw⟩) R ⟨h, g, d, t, os⟩ := by
  have e0 := F.ends
  have e1 : (Value.ref C :: bm).contains (.type B) = true := by rw [List.contains_cons, hT, F.hasB, Bool.or_true]
  have e2 : (Value.ref C :: bm).contains (.type "AttributeError") = false := by rw [List.contains_cons, hT, F.noAttr]; rfl
  have e3 : (Value.ref C :: bm).contains (.type "NameError") = false := by rw [List.contains_cons, hT, F.noName]; rfl
  refine codeAny_builtinAt F.entry ?_
  unfold Builtin.«BaseException.__new__»
  refine wpAt_bind ?_
  show wpAt _ _ _ (stack >>= _) _ _ _
  refine wpAt_bind (wpAt_stack fun p below => wpAt_of_wpAny ?_)
  wp_walk
  refine wpAt_of_wpAny ?_
  rw [F.owner]
  repeat (first | with_reducible refine wpAny_madeHere_exc F.canon hC ?_ | with_reducible refine wpAny_loadPart_at hC ?_ | (with_reducible refine wpAny_isSubtype_exc hC ?_; first | rw [e1] | rw [e2] | rw [e3]) | wp_step)
  show R _ _
  rw [Heap.size_push]
  exact hq
end
end PySem.HandSPX
namespace PySem.HandSPX
open Builtin Builtin.ObjectAttr
section
variable {prog : Program} {w : World} {A : Around} {R : Result → Shared → Prop} {h : Heap} {g : Array GenState} {d : Drawn} {t : Nat} {os : OsState}
variable {nm q : Str} {C N : Addr} {bs bm bmB : List Value} {hdct : Bool} {sn : List Str} {sub : List Value} {ab : Bool} {col : Option Bool} {dd : Option Addr} {k0 k1 k2 k3 k5 : Option Value} {B newId initId : String} {kw : List (Str × Value)} {fI : Addr}
theorem kwn_type (F : ExcBaseFacts B newId initId bmB) (hT : ∀ X : String, bm.contains (.type X) = bmB.contains (.type X)) {Q : Fin → Shared → Prop} {E : Value → Shared → Prop}
    (hC : h.get? C = some (excClassObj nm q C N bs bm hdct sn sub ab col dd k0 k1 k2 k3 k5 newId)) (hi : W.Looks (model prog w) h (typeLookup (.ref C) "__init__") (some (.ref fI))) (hb : ∀ self, W.Looks (model prog w) h (bindSpecial (.ref fI) self) (.ref fI, [self]))
    (hq : codeAny (model prog w) A (.call (.ref fI) ⟨[.ref (h.objs.size + 1)], kw⟩) (fun r s' => match r with
      | .ok (.ret v) => v = .none ∧ Q (.done (.ret (.ref (h.objs.size + 1)))) s'
      | .ok _ => False
      | .error e => E e s') ⟨(h.push (W.kdv_tup [])).push (excO C h.objs.size), g, d, t, os⟩) : wpAny (model prog w) A (Builtin.«type.__call__» ⟨[.ref C], kw⟩) Q E ⟨h, g, d, t, os⟩ := by
  repeat (first | with_reducible refine wpAny_loadPart_at hC ?_ | with_reducible refine wpAny_madeBy_exc hC ?_ | wp_step)
  refine codeAny_call_builtin_code (Code.quiet_builtin _ F.quiet) (kwn_check F hT hC (kwn_new F hT hC ?_))
  show wpAny _ _ _ _ _ _
  have k : ∀ b o, h.get? b = some o → ((h.push (W.kdv_tup [])).push (excO C h.objs.size)).get? b = some o := fun b o e => Heap.get?_push_of_some _ (Heap.get?_push_of_some _ e)
  have c1 := k _ _ hC
  have g1 : ((h.push (W.kdv_tup [])).push (excO C h.objs.size)).get? (h.objs.size + 1) = some (excO C h.objs.size) := by heap_get
  have m1 : (Value.ref C :: bm).contains (.ref C) = true := by simp
  have i1 := hi.keeps k
  have b1 := (hb (.ref (h.objs.size + 1))).keeps k
  unfold isInstance
  repeat (first | with_reducible refine wpAny_loadPart_at g1 ?_ | (with_reducible refine wpAny_isSubtype_exc c1 ?_; rw [m1]) | wp_step)
  show wpAny _ _ (typeLookup (.ref C) _) _ _ _
  refine i1.at (wpAny_holding (wpAny_bind (b1.at (wpAny_bind (wpAny_call (codeAny_mono hq fun r s' z => ?_))))))
  rcases r with e | (v | _ | _ | _) <;> first | exact z | exact z.elim | skip
  obtain ⟨rfl, z⟩ := z
  first
    | exact wpAny_pure (wpAny_pure z)
    | (wp_walk; exact z)
theorem kwn_call (F : ExcBaseFacts B newId initId bmB) (hT : ∀ X : String, bm.contains (.type X) = bmB.contains (.type X))
    (hC : h.get? C = some (excClassObj nm q C N bs bm hdct sn sub ab col dd k0 k1 k2 k3 k5 newId)) (hi : W.Looks (model prog w) h (typeLookup (.ref C) "__init__") (some (.ref fI))) (hb : ∀ self, W.Looks (model prog w) h (bindSpecial (.ref fI) self) (.ref fI, [self]))
    (hq : codeAny (model prog w) (A.under (.builtin "type.__call__" ⟨[.ref C], kw⟩)) (.call (.ref fI) ⟨[.ref (h.objs.size + 1)], kw⟩) (W.InitBack (h.objs.size + 1) R) ⟨(h.push (W.kdv_tup [])).push (excO C h.objs.size), g, d, t, os⟩) :
    codeAny (model prog w) A (.call (.ref C) ⟨[], kw⟩) R ⟨h, g, d, t, os⟩ := by
  have f1 := tc_lookup
  have f2 := tc_bind (.ref C)
  have hTy : (⟨h, g, d, t, os⟩ : Shared).TypeIs (.ref C) "type" := ⟨_, hC, rfl⟩
  refine codeAny_of_tree ?_
  show wpAny _ _ (callAny (.ref C) _) _ _ _
  repeat (any_goals (first | assumption | with_reducible refine wpAny_loadPart_at hC ?_ | wp_step))
  refine ⟨rfl, ?_⟩
  refine codeAny_call_builtin_at (Code.quiet_builtin _ (by decide +kernel)) entry_typeCall (wpAny_check_type_call_sub hC (kwn_type F hT hC hi hb (codeAny_mono hq fun r s' z => ?_)))
  rcases r with e | (v | _ | _ | _) <;> exact z
end
end PySem.HandSPX
namespace Nb
open PySem PySem.Spec PyProof.Rows L2
open PySem.W PySem.Calls in
theorem ex_runK {prog : Program} {w : World} {A : Around} {R : Result → Shared → Prop} {h : Heap} {g : Array GenState} {d : Drawn} {t : Nat} {os : OsState} {K : PySem.W.Frag} {mg mb : Str → Option Value} {C f e t0 : Addr} {v : Value} {me par fld : Str}
    (T : ExI prog K C me par fld) (X : K.In h) (G : h.Ns mainGlobals mg) (B : h.Ns builtinsNs mb) (hb : mb "super" = some (.type "super")) (nl : h.NoLimit) (room : A.depth < recursionLimit)
    (hf : PySem.W.findIn K (.ref C) "__init__" = some (some (.ref f))) {as : Args} (hB : ∀ (oc : Value) (od : Option Addr) (osl : Array (Option Value)) (fd : FuncData), K.lookup f = some ⟨oc, od, .func fd, osl⟩ → bindArgs fd as = pure [(me, .ref e), (par, v)]) (he : h.get? e = some (PySem.HandSPX.excO C t0)) (ke : K.lookup e = none)
    (hq : ∀ h' dx t1 tk, (∀ b o, b ≠ e → h.get? b = some o → h'.get? b = some o) → h'.get? e = some { cls := .ref C, dict := some dx, data := .fields #[.ref t1, .none, .none, .none, .bool false, .none] } → h.objs.size ≤ dx → dx ≠ e →
      h'.Ns1 dx (fun y => if y = fld then some v else none) → R (.ok (.ret .none)) ⟨h', g, d, tk, os⟩) :
    codeAny (model prog w) A (.call (.ref f) as) R ⟨h, g, d, t, os⟩ := by
  obtain ⟨f', hf', tyF, q, txt, j, p, oc, od, scope, params, dV, kV, doc, pm, an, cda, cc, ct, osl, ccl, ccx, cdd, cld, vs, ccs, csl, file, tf, lk, cd, lkc, hvs, hfile, lcc, ⟨a1, ha1, hpo, hpa⟩, hep, hbind, s1, s2, s3, s4, sk, sc, sco, sge, hne, hd1, hd2⟩ := T.ini
  have : f' = f := by rw [hf] at hf'; cases hf'; rfl
  subst this
  subst ha1
  have mgs : mg "super" = none := mg_none_of X G T.su
  refine ks_codeAny_call_defAt (fd := ksFn "__init__" q params (exBody txt a1.arg par fld j p) scope dV kV doc pm an (.ref cda) ct cc) (body := exBody txt a1.arg par fld j p) room (X _ _ lk) rfl nl (codeRec_of X cd) rfl (BindsTo.of_eq (hB _ _ _ _ lk)) ?_ ?_ ?_ sco sge sk
  · intro x hx
    have := List.all_eq_true.mp sc x hx
    simpa using this
  · intro x hx
    simp only [List.mem_cons, List.not_mem_nil, or_false] at hx
    rcases hx with rfl | rfl
    · exact s1
    · exact s2
  intro h0 ns0 k0
  obtain ⟨L, hL⟩ : ∃ L, L = h.objs.size := ⟨_, rfl⟩
  have eL : e ≠ L := by rw [hL]; exact Nat.ne_of_lt (Heap.lt_size he)
  -- the lookups of the two names
  have vme : ∀ {h1 : Heap}, h1.Ns L (fun x => ([(a1.arg, Value.ref e), (par, v)] : List (Str × Value)).reverse.lookup x) → h1.Ns L (fun x => ([(a1.arg, Value.ref e), (par, v)] : List (Str × Value)).reverse.lookup x) := fun z => z
  have lme : ([(a1.arg, Value.ref e), (par, v)] : List (Str × Value)).reverse.lookup a1.arg = some (.ref e) := by
    have : (a1.arg == par) = false := by
      rw [beq_eq_false_iff_ne] at hne ⊢
      exact fun z => hne z.symm
    simp [List.lookup, this]
  have lpar : ([(a1.arg, Value.ref e), (par, v)] : List (Str × Value)).reverse.lookup par = some v := by simp [List.lookup]
  have X0 : K.In h0 := X.keeps k0
  have e0 := k0 _ _ he
  have sz0 : L < h0.objs.size := by
    obtain ⟨o, _, _, e1, _⟩ := ns0
    rw [hL]
    exact Heap.lt_size e1
  rw [← hL] at ns0 ⊢
  have hcl : clsIn K C ≠ none := by
    intro z
    have := T.up
    unfold ks_superIn at this
    rw [z] at this
    cases this
  obtain ⟨cdat, hcd⟩ := Option.ne_none_iff_exists'.mp hcl
  obtain ⟨nm, qn, N, bs, bm, sn, sub, ab, col, dd, k0', k1', k2', k3', k5', hC, hbm⟩ := T.cls
  obtain ⟨oC, hoC1, hoC2⟩ : ∃ oC, h0.get? C = some oC ∧ oC.data = .cls cdat := by
    unfold clsIn at hcd
    split at hcd
    · rename_i lo
      cases hcd
      exact ⟨_, X0 _ _ lo, rfl⟩
    · cases hcd
  have ep := hep L f'
  obtain ⟨pl, ecall⟩ := ep.call
  refine ks_wpAt_execs_cons (ks_wpAt_Expr_any (ks_wpAt_MethodCall (ks_wpAt_super_base (ar := a1) s3 s4 (by decide) rfl (X0 _ _ lk) rfl (by rw [show (ksFn "__init__" q params (exBody txt a1.arg par fld j p) scope dV kV doc pm an (.ref cda) ct cc).params = params from rfl, hpo, List.nil_append, hpa]) rfl (X0 _ _ lkc) rfl hvs hfile T.top ?_) ecall) ep.ia ep.s1)
  refine ks_loadName_global sk s3 (loadGlobal_builtin (G.keeps k0) mgs (B.keeps k0) hb ⟨rfl, ?_⟩)
  refine wpAny_loadName_free sk s4 rfl ⟨_, X0 _ _ lcc, rfl⟩ ?_
  refine wpAny_loadName_local sk s1 ns0 lme ?_
  refine ks_wpAny_isType_cls hoC1 hoC2 ⟨rfl, ?_⟩
  refine ks_wpAny_call_super hoC1 hoC2 e0 rfl (fun c z => by cases z) (looks_mroIn X0 T.me_) (fun h1 so1 k1 => ?_)
  have X1 := X0.keeps k1
  have e1 := k1 _ _ e0
  have at1 : InstAt h1 e (PySem.HandSPX.excO C t0) C none := ⟨e1, rfl, rfl, trivial⟩
  have up := T.up
  unfold ks_superIn at up
  rw [hcd, Option.bind_some] at up
  refine ESX.getMethod_super so1 (looks_opaque X1 T.st) (l₀ := cdat.mro) (fun A Q E s k q => wpAny_bind ((looks_clsIn X1 hcd) A _ E s k (wpAny_pure q))) rfl X1 up ?_ (by decide) (at1.type.andThen (looks_subIn X1 T.exE)) ?_
  · exact ks_ne X1 at1 hcd
  have so2 : (h1.push (ESX.bw e)).get? h1.objs.size = some (ESX.bw e) := Heap.get?_push_at rfl rfl
  have e2 : (h1.push (ESX.bw e)).get? e = some (PySem.HandSPX.excO C t0) := Heap.get?_push_of_some _ e1
  have X2 : K.In (h1.push (ESX.bw e)) := X1.keeps fun b o z => Heap.get?_push_of_some _ z
  have k2 : ∀ b o, h0.get? b = some o → (h1.push (ESX.bw e)).get? b = some o := fun b o z => Heap.get?_push_of_some _ (k1 b o z)
  refine ESX.callWith_bound (x := e) (spliced_more (Calls.Constant_str (spliced_none ⟨so2, ?_⟩))) rfl rfl
  refine ESX.call_bw (X2 _ _ hC) e2 so2 (by simp [sizeLine_eq]) (fun h3 t1 k3 e3 => ?_)
  have LC : L ≠ e := Ne.symm eL
  have X3 : K.In h3 := by
    intro b o z
    refine k3 b o (fun q => ?_) (X2 b o z)
    rw [q, ke] at z
    cases z
  have ns3 : h3.Ns L _ := ns0.at fun o z => k3 L o LC (k2 L o z)
  refine ks_wpAt_execs_cons (wpAt_of_wpAny (plainObj_wpAny_Assign_Attribute ?_ ep.s2))
  refine ESX.ldL ns3 lpar ?_ sk s2 hd2
  refine ESX.ldL ns3 lme ?_ sk s1 hd1
  refine set_plain X3 (ox := { cls := .ref C, data := .fields #[.ref t1, .none, .none, .none, .bool false, .none] }) (od := none) ⟨e3, rfl, rfl, trivial⟩ T.sa ?_
  have hm : cdat.mro = .ref C :: bm ∧ cdat.hasDict = true := by
    have z := hcd
    unfold clsIn at z
    rw [hC] at z
    cases z
    exact ⟨rfl, rfl⟩
  refine ex_sto X3 e3 hcd (by rw [hm.1]; exact hbm) hm.2 T.no (fun h4 tk dx k4 l4 n4 e4 ns4 => ?_)
  have sz3 : h.objs.size < h3.objs.size := by
    obtain ⟨o, _, _, z, _⟩ := ns3
    rw [← hL]
    exact Heap.lt_size z
  have l5 : h3.objs.size ≤ dx := l4
  refine wpAt_of_wpAny (wpAny_pure ?_)
  exact hq h4 dx t1 _ (fun b o hb z => k4 b o hb (k3 b o hb (k2 b o (k0 b o z)))) e4 (by omega) n4 ns4
end Nb
namespace Nb
open PySem PySem.Spec PyProof.Rows L2
def KwB (K : PySem.W.Frag) (C : Addr) (me par : Str) : Prop := ∀ (f : Addr) (oc : Value) (od : Option Addr) (osl : Array (Option Value)) (fd : FuncData), PySem.W.findIn K (.ref C) "__init__" = some (some (.ref f)) → K.lookup f = some ⟨oc, od, .func fd, osl⟩ →
  ∀ a b : Value, bindArgs fd ⟨[a], [(par, b)]⟩ = pure [(me, a), (par, b)]
theorem pmk_exK {X : Cx} {x me par fld : Str} {C : Addr} {e : Expr} {te : TE} {p pos kp : Pos} {k : Nat} (T : ExI X.prog X.K C me par fld) (Tk : KwB X.K C me par) (hr : Room (k + 1) X.A) (hg : Gl X x) (hm : X.mg x = some (.ref C)) (ha : PE X e te)
    (hdb : (x == ("__debug__" : Str)) = false := by decide)
    (hall : (backToKw pos (keywordEach [⟨some par, e, kp⟩] X.env)).all (·.1.isSome) = true := by rfl) (hks : (backToKw pos (keywordEach [⟨some par, e, kp⟩] X.env)).filterMap (·.1) = [par] := by rfl) (hpl : ((backTo pos (starEach [] X.env)).any (·.1) || (backToKw pos (keywordEach [⟨some par, e, kp⟩] X.env)).any (·.1.isNone)) = false := by rfl) :
    PMk X (.Call (.Name x p) [] [⟨some par, e, kp⟩] pos) (tEx C fld te) := by
  intro pins s σ H Q I h
  obtain ⟨nm, q, N, bs, bm, sn, sub, ab, col, dd, k0, k1, k2, k3, k5, hC, hbm⟩ := T.cls
  obtain ⟨fI, iC, tI, _⟩ := T.ini
  have hkw : PK X [⟨some par, e, kp⟩] (tCons te tNil) := pk_cons ha pk_nil
  have h' : tCons te tNil σ H (fun vs H1 => match vs with
    | [v] => ∀ dx, H1 dx = none → Q (.ref C) (some dx) (upd H1 dx (.xd [(fld, v)]))
    | _ => False) := h
  refine wpAny_Call_Name_kw (ld_glob I hg hm ?_ hdb)
  refine PySem.W.callWith_KW0 (h₀ := X.base) I.ok.mod.kin T.kC hall (thn (hkw.run pos pins s σ H _ I h') fun us s1 ⟨vs, H1, I1, r1, q1⟩ => ⟨I1.kIn, ?_⟩) hpl
  obtain ⟨v, rfl⟩ : ∃ v, vs = [v] := by
    match vs, q1 with
    | [v], _ => exact ⟨v, rfl⟩
    | [], z => exact z.elim
    | _ :: _ :: _, z => exact z.elim
  have q1 : ∀ dx, H1 dx = none → Q (.ref C) (some dx) (upd H1 dx (.xd [(fld, v)])) := q1
  obtain ⟨u, rfl, rv⟩ : ∃ u, us = [u] ∧ RelV v u := by
    cases r1 with
    | cons a b => cases b; exact ⟨_, rfl, a⟩
  rw [hks]
  show wpAny _ _ (call (.ref C) [] [(par, u)]) _ _ _
  obtain ⟨hp, g, dr, tk, os⟩ := s1
  have bsz : X.base.objs.size ≤ hp.objs.size := I1.env0.bsz
  have kk : ∀ b o, hp.get? b = some o → ((hp.push (PySem.W.kdv_tup [])).push (PySem.HandSPX.excO C hp.objs.size)).get? b = some o := fun b o z => Heap.get?_push_of_some _ (Heap.get?_push_of_some _ z)
  have hget : ((hp.push (PySem.W.kdv_tup [])).push (PySem.HandSPX.excO C hp.objs.size)).get? (hp.objs.size + 1) = some (PySem.HandSPX.excO C hp.objs.size) := by heap_get
  have ke : X.K.lookup (hp.objs.size + 1) = none := by
    cases z : X.K.lookup (hp.objs.size + 1) with
    | none => rfl
    | some o =>
      have := Heap.lt_size (I1.ok.mod.kin _ _ z)
      have : hp.objs.size + 1 < X.base.objs.size := this
      have : X.base.objs.size ≤ hp.objs.size := bsz
      omega
  obtain ⟨mb, hb1, hb2⟩ := I1.mod.blt
  have bk := I1.bk
  refine wpAny_call (PySem.HandSPX.kwn_call F.excBase_Exception (fun Y => exR_has Y hbm) (I1.kIn _ _ hC) (PySem.W.looks_findIn I1.kIn iC) (fun self => PySem.W.bind_fn I1.kIn self tI) ?_)
  refine ex_runK (mg := X.mg) (mb := mb) T (I1.kIn.keeps kk) ((I1.mod.glob.keeps bk).keeps kk) ((hb1.keeps bk).keeps kk) ((hb2 "super" (by decide)).trans (by decide +kernel)) ((I1.mod.nolimit.keeps bk).keeps kk) (hr.make C [] [(par, u)]).depth iC (fun oc od osl fd lk => Tk fI oc od osl fd iC lk _ _) hget ke ?_
  intro h' dx t1 tk' kp he' hdx hne hns
  have a1 : H1 (hp.objs.size + 1) = none := I1.hok.fresh (Nat.le_succ _)
  have szd : hp.objs.size ≤ dx := by
    have z1 : (hp.objs.size + 1 : Nat) < ((hp.push (PySem.W.kdv_tup [])).push (PySem.HandSPX.excO C hp.objs.size)).objs.size := Heap.lt_size hget
    have z2 : ((hp.push (PySem.W.kdv_tup [])).push (PySem.HandSPX.excO C hp.objs.size)).objs.size ≤ dx := hdx
    omega
  have hd1 : H1 dx = none := I1.hok.fresh szd
  obtain ⟨G, g1, g2⟩ := restrict h' fun b => decide (b ≠ hp.objs.size + 1)
  have gk : ∀ b, b ≠ hp.objs.size + 1 → G.get? b = h'.get? b := fun b z => g1 b (decide_eq_true z)
  have ge : G.get? (hp.objs.size + 1) = none := g2 _ (by simp)
  have kG : ∀ b o, hp.get? b = some o → G.get? b = some o := fun b o z => by
    have nb : b ≠ hp.objs.size + 1 := Nat.ne_of_lt (Nat.lt_succ_of_lt (Heap.lt_size z))
    rw [gk b nb]
    exact kp b o nb (kk b o z)
  have nsG : G.Ns1 dx (fun y => if y = fld then some u else none) := hns.at fun o z => by rw [gk dx hne]; exact z
  have ok : ObjOk X.prog X.w (upd H1 dx (.xd [(fld, v)])) G dx (.xd [(fld, v)]) := by
    refine ⟨_, nsG, fun y => ?_⟩
    by_cases hy : y = fld
    · subst hy
      simp [List.lookup]
      exact rv
    · have hy' : (y == fld) = false := by simpa using hy
      simp only [List.lookup, hy', hy, if_false]
      trivial
  have J := I1.laid (t' := tk') (h' := G) kG szd ok
  refine ⟨rfl, hp.objs.size + 1, _, _, ⟨G, g, dr, tk', os⟩, _, .ref C, some dx, rfl, J, fun b o z => ?_, ge, he', ⟨rfl, rfl⟩, rfl, rfl, ?_, rfl, J.bare, raises_own T.exC T.tyC, q1 dx hd1⟩
  · by_cases hb : b = hp.objs.size + 1
    · rw [hb, ge] at z
      cases z
    · rw [← gk b hb]
      exact z
  · rw [upd_ne hne.symm]
    exact a1
section
variable {X : Cx} {cl : Nat → Addr} {β : List (Option V)} {W : WX} {p2 p kp : Pos} {e : Expr} {fe : FE}
theorem se_mkEK {x me par fld : Str} {c k : Nat} (T : ExI X.prog X.K (cl c) me par fld) (Tk : KwB X.K (cl c) me par) (hr : Room (k + 1) X.A) (hg : Gl X x) (hm : X.mg x = some (.ref (cl c))) (ha : SE X cl β W e fe)
    (hdb : (x == ("__debug__" : Str)) = false := by decide)
    (hall : (backToKw p2 (keywordEach [⟨some par, e, kp⟩] X.env)).all (·.1.isSome) = true := by rfl) (hks : (backToKw p2 (keywordEach [⟨some par, e, kp⟩] X.env)).filterMap (·.1) = [par] := by rfl) (hpl : ((backTo p2 (starEach [] X.env)).any (·.1) || (backToKw p2 (keywordEach [⟨some par, e, kp⟩] X.env)).any (·.1.isNone)) = false := by rfl) :
    SE X cl β W (.Call (.Name x p) [] [⟨some par, e, kp⟩] p2) (fMkE c fld fe) := (pe_mk (pmk_exK T Tk hr hg hm ha hdb hall hks hpl)).mono fun _ _ _ h => rd_mkE h
end
end Nb
namespace Nb
open PySem PySem.Spec PyProof.Rows L2
def rIsK (K : PySem.W.Frag) : List V → Hp → VK → Prop := fun xs H Q => ∃ (a C : Addr) (d : Option Addr) (c : V) (cv : Value) (b : Bool), xs = [.ref a, c] ∧ (∀ u, RelV c u → u = cv) ∧ ErrAt H a C d ∧ (d = none ∨ ∃ dd fs, d = some dd ∧ H dd = some (.xd fs)) ∧
  ExcC K C ∧ PySem.W.kitOne K (.ref C) cv = some b ∧ Q (.bl b) H
theorem call_isK {X : Cx} : CallR X (.builtin "isinstance") (rIsK X.K) := by
  intro pins s σ H xs us Q I r h
  obtain ⟨a, C, d, c, cv, b, rfl, hcv, ⟨oe, vs, e1, e2, e3, e4⟩, hd, T, e, q⟩ := h
  cases r with
  | cons rx rr =>
    cases rr with
    | cons rt rr =>
      cases rr
      cases rx
      have ec := hcv _ rt
      subst ec
      obtain ⟨here, _⟩ := I.hok a _ e1
      have J : ∃ od, PySem.W.InstAt s.heap a oe C od := by
        obtain ⟨oc, odc, oda, osl⟩ := oe
        dsimp only at e2 e3 e4
        subst e2 e3 e4
        rcases hd with rfl | ⟨dd, fs, rfl, hx⟩
        · exact ⟨none, here, rfl, rfl, trivial⟩
        · obtain ⟨mA, ⟨od, _, _, hod, _⟩, _⟩ := I.hok dd _ hx
          exact ⟨some od, here, rfl, rfl, hod⟩
      obtain ⟨od, J⟩ := J
      exact PySem.W.kia_one (PySem.W.kitx_exc (by obtain ⟨cd, hc, _⟩ := PySem.W.any_some T.hd; rw [hc]; rfl) T.hg T.hk T.hs T.ha T.hn T.ht T.hm) I.kIn J e (fun z => nomatch z) fun tk => ⟨.bl b, H, I.kept (t' := tk) fun _ _ z => z, rfl, q⟩
section
variable {X : Cx} {cl : Nat → Addr}
theorem fk_isE {nc ec : List Nat} {tab : IsTab} (ok : IsOk X.K cl nc tab) (ex : ∀ c ∈ ec, ExcC X.K (cl c)) : FnK (gx X cl) (rIsK X.K) (kIsE ec tab) := by
  intro F H ds d vs R Q hr hk t hQ
  unfold kIsE at hk
  split at hk
  · rename_i c fs xs t0
    split at hk
    · rename_i b e2
      split at hk
      · rename_i hm
        obtain ⟨r, e3, e4⟩ := Option.map_eq_some_iff.mp hk
        subst e4
        obtain ⟨v, w, R1, R2, rfl, h1, h2⟩ := reps2 hr
        obtain ⟨p, d, ws, rfl, k2, k3, hl, _, _⟩ := h1
        refine ⟨p, cl c, d, w, _, r, rfl, fun u z => (rep_cls h2 e2).eq z, err_mono t k2, ?_, ex c (by simpa using hm), ok.row (.inr c, b) r e3, hQ _ H F [] ⟨rfl, rfl⟩ (Stp.nil t)⟩
        cases fs with
        | nil => exact .inl k3.1
        | cons f fs =>
          obtain ⟨dx, z1, z2⟩ := k3
          exact .inr ⟨dx, _, z1, t _ _ z2⟩
      · cases hk
    · cases hk
  · cases hk
end
end Nb
namespace Nb
open PySem PySem.Spec PyProof.Rows L2
section
variable {X : Cx} {pins : List (Addr × Obj)} {σ : L2.St} {H : Hp} {s : Shared}
theorem inv_kn {a : Addr} {oe : Obj} (I : Inv X pins σ H s) (na : H a = none) (ha : s.heap.get? a = some oe) (n0 : ∀ o, X.s_0.heap.get? a ≠ some o) (nL : a ≠ X.env.locals) (nc : ∀ v, oe.data ≠ .cell v) (np : ∀ p ∈ X.pn ++ pins, p.1 ≠ a) : Inv X pins σ (upd H a (kn oe)) s := by
  have ne0 : ∀ b o, X.s_0.heap.get? b = some o → b ≠ a := fun b o e z => n0 o (z ▸ e)
  have neH : ∀ b u, H b = some u → b ≠ a := fun b u e z => by rw [z, na] at e; cases e
  refine ⟨I.ok, I.os, I.bare, ⟨I.base.keep, I.base.slot, fun b o e n hx => ?_, I.base.there, fun b xs e => ?_, fun b o u e => ?_, fun b ps e => ?_⟩, I.loc, I.cell, ?_, fun x c e => ?_, fun p hp => ?_, hok_err I.hok (fun _ _ z => z) na ⟨ha, trivial, ⟨oe, ha⟩, fun _ _ _ _ => trivial⟩, I.len⟩
  · rw [upd_ne (ne0 b o e)]; exact I.base.free b o e n hx
  · have z := I.base.tups b xs e
    rw [upd_ne (neH b _ z)]; exact z
  · have z := I.base.frzs b o u e
    rw [upd_ne (neH b _ z)]; exact z
  · obtain ⟨m, z⟩ := I.base.tbls b ps e
    exact ⟨m, by rw [upd_ne (neH b _ z)]; exact z⟩
  · rw [upd_ne (Ne.symm nL)]; exact I.free
  · rw [upd_ne fun z => ?_]
    · exact I.freeC x c e
    · obtain ⟨v, o, ho, hd⟩ := I.cell x c e
      rw [z, ha] at ho
      cases ho
      exact nc v hd
  · obtain ⟨h1, h2, h3⟩ := I.pin p hp
    refine ⟨h1, ?_, h3⟩
    rw [upd_ne (np p hp)]; exact h2
end
end Nb
namespace Nb
open PySem PySem.Spec PyProof.Rows L2
def wKp (K : PySem.W.Frag) (c : Value) (i : Nat) (ts : TS) (D : Ends) : WX := fun cls d σ H => PySem.W.exmOne K cls c = some true ∧
  ∀ (a : Addr) (oe : Obj) (us : Array Value), H a = none → oe.cls = cls → oe.dict = d → oe.data = .fields us →
    ts { nx := fun σ' H' => D.nx (σ'.set i none) H', rt := D.rt, bk := fun σ' H' => D.bk (σ'.set i none) H', ct := fun σ' H' => D.ct (σ'.set i none) H' } (σ.set i (some (.ref a))) (upd H a (kn oe))
section
variable {X : Cx} {x n : Str} {c : Value} {i : Nat} {body suite : List Stmt} {b₀ : Stmt} {np pos pos' : Pos} {tb : WX → TS} {ts : TS}
theorem ps_try_kp (hs : X.stack = X.env :: X.outer) (hf : X.env.frame = some X.env.locals) (hN : X.N.Nodup) (hi : X.N[i]? = some n) (hln : X.env.kindOf n = some .local) (hc : Names X x c) (hex : X.ex = [])
    (hb : ∀ (W : WX) (pn : List (Addr × Obj)) (xe : Value → Shared → Prop), Takes (X.tr pn xe) W → PassesOwn (model X.prog X.w) X.A X.env xe → PSs (X.tr pn xe) body (tb W))
    (hsu : ∀ (a : Addr) (pn : List (Addr × Obj)), PSs (X.suite a pn) (b₀ :: suite) ts) :
    PS X (.Try body [.ExceptHandler (some (.Name x np)) (some n) (b₀ :: suite) pos'] [] [] pos) (fun D σ H => tb (wKp X.K c i ts D) D σ H) := by
  refine ⟨fun pins s σ H D I h => ?_⟩
  have ok := I.ok
  have hfr : X.A.frames = some (X.env :: X.outer) := by rw [ok.frames, hs]
  have hloc : Loc X.env.scope n := .inl hln
  refine wpAny_Try_except ?_
  refine wpAny_mono ((hb (wKp X.K c i ts D) (X.pn ++ pins) (fun e s₁ => wpAny (model X.prog X.w) X.A (noteFrame e X.env) (fun _ s₂ => wpAny (model X.prog X.w) X.A (setFlight e none) (fun _ s₃ =>
    wpAny (model X.prog X.w) X.A (handleBy e X.env [.ExceptHandler (some (.Name x np)) (some n) (b₀ :: suite) pos']) (SP X pins D) X.xe s₃) X.xe s₂) X.xe s₁) (fun u s' xx => ?_) PassesOwn.looking).run [] s σ H D (I.toTry _) h) (fun f s1 hsp => ?_) (fun _ _ q => q)
  · obtain ⟨a, B, sI, pins', σ', H', cls, d, rfl, J', nb, up, sky, na, os, ag, hb1, hyes⟩ := xx
    have J : Inv X pins σ' H' sI := J'.ofTry ok
    have sky' : Sky B (X.env :: X.outer) a (Zc cls d) X.env.locals s'.heap := by rw [← hs]; exact sky
    show wpAny (model X.prog X.w) X.A (noteFrame (.ref a) X.env) _ _ _
    refine Sky.land Zc.steady hfr hf sky' fun h3 fl3 up3 => ?_
    have J3 : Inv X pins σ' H' { s' with heap := h3 } := J.landed nb fl3.1 (up.trans up3) os ag
    have Ba : B.get? a = none := fl3.2.1
    obtain ⟨oe3, vs3, he3, hz3, hd3⟩ := fl3.there
    have notFr : ∀ {h : Heap} {o : Obj} {vs : Array Value}, h.FunFrames B (X.env :: X.outer) → h.get? a = some o → o.data = .fields vs → a ∉ frs (X.env :: X.outer) := fun {h o vs} ff e dd hm => by
      obtain ⟨_, o', e', hnf⟩ := ff.mem hm
      rw [e] at e'; cases e'
      exact hnf _ dd
    have nfr := notFr fl3.2.2.1 he3 hd3
    have nL : a ≠ X.env.locals := fun z => nfr (List.mem_filterMap.mpr ⟨X.env, List.mem_cons_self, by rw [hf, z]⟩)
    have nF : a ∉ X.fs := fun hm => by
      obtain ⟨e, he, q⟩ := List.mem_filterMap.mp hm
      exact nfr (List.mem_filterMap.mpr ⟨e, List.mem_cons_of_mem _ he, q⟩)
    -- it stood nowhere before
    have nI : ∀ o, sI.heap.get? a ≠ some o := fun o z => by
      have := nb a o z (by rw [hs]; exact nfr)
      rw [Ba] at this
      cases this
    have n0 : ∀ o, X.s_0.heap.get? a ≠ some o := fun o z => by
      obtain ⟨o', e⟩ := J.base.there a o z (by rw [hex]; exact fun z => nomatch z)
      exact nI o' e
    have npn : ∀ p ∈ X.pn ++ pins, p.1 ≠ a := fun p hp z => by
      obtain ⟨e, _⟩ := J.pin p hp
      exact nI p.2 (z ▸ e)
    refine wpAny_handleBy_cons (codeAny_handlers_test ?_) (by intro q; cases q)
    have LT : PySem.W.Looks (model X.prog X.w) h3 (typeOf (.ref a)) cls := fun A Q E s k q => wpAny_typeOf_ref (k _ _ he3) (by rw [hz3.1]; exact q)
    have LM := PySem.W.exm_one (M := model X.prog X.w) (J3.kIn) LT hb1
    have S3 := J3.suite he3 hd3 na nL nF
    have test : ∀ {Q : Value → Shared → Prop} {E : Value → Shared → Prop}, Q c { s' with heap := h3 } → wpAny (model X.prog X.w) (X.A.mark (some (.ref a))) (eval (.Name x np) X.env) Q E { s' with heap := h3 } := fun {Q E} q => by
      obtain ⟨hg, hdbg, hm | ⟨hm, hv, hnn⟩⟩ := hc
      · exact ld_glob (X := X.suite a ((a, oe3) :: (X.pn ++ pins))) S3 hg hm q hdbg
      · exact ld_blt (X := X.suite a ((a, oe3) :: (X.pn ++ pins))) S3 hg hm hv q hnn hdbg
    refine test (LM.here ?_)
    refine codeAny_handlers_suite_as ?_
    refine HandSPX.lands_againZ fl3 fun h4 fl4 up4 => ?_
    have J4 : Inv X pins σ' H' { s' with heap := h4 } := J.landed nb fl4.1 ((up.trans up3).trans up4) os ag
    obtain ⟨oe4, vs4, he4, hz4, hd4⟩ := fl4.there
    have K4 := inv_kn (oe := oe4) J4 na he4 n0 nL (fun v z => by rw [hd4] at z; cases z) npn
    have S4 : Inv (X.suite a (X.pn ++ pins)) [] σ' (upd H' a (kn oe4)) { s' with heap := h4 } :=
      ⟨K4.ok.suite _ _, K4.os, K4.bare, K4.base, K4.loc, K4.cell, K4.free, K4.freeC, fun p hp => K4.pin p (by rw [List.append_nil] at hp; exact hp), K4.hok, K4.len⟩
    refine store_ok (X := X.suite a (X.pn ++ pins)) (v := .ref a) S4 hN hi hloc rfl (fun s5 S5 => ?_) (.inr hln)
    refine wpAny_mono ((hsu a (X.pn ++ pins)).run [] s5 _ _ _ S5 (hyes a oe4 vs4 na hz4.1 hz4.2 hd4)) (fun f s6 hsp => ?_) (fun _ _ z => False.elim z)
    have unS : ∀ {σ6 : L2.St} {H6 : Hp} {s6 : Shared}, Inv (X.suite a (X.pn ++ pins)) [] σ6 H6 s6 → Inv X pins σ6 H6 s6 := fun S6 => ⟨ok, S6.os, S6.bare, S6.base, S6.loc, S6.cell, S6.free, S6.freeC, fun p hp => S6.pin p (List.mem_append_left _ hp), S6.hok, S6.len⟩
    have end_ : ∀ {σ6 : L2.St} {H6 : Hp} {Q : Shared → Prop}, Inv (X.suite a (X.pn ++ pins)) [] σ6 H6 s6 → (∀ s7, Inv X pins (σ6.set i none) H6 s7 → Q s7) →
        wpAny (model X.prog X.w) X.A (do bindName X.env n .none; unbindBehindTheSuite X.env n pos') (fun _ s7 => Q s7) X.xe s6 := fun {σ6 H6 Q} S6 hq => gone_ok (unS S6) hN hi hln hq
    cases f with
    | next =>
      obtain ⟨σ6, H6, S6, q6⟩ := hsp
      exact end_ S6 fun s7 J7 => ⟨_, _, J7, q6⟩
    | brk =>
      obtain ⟨σ6, H6, S6, q6⟩ := hsp
      exact end_ S6 fun s7 J7 => ⟨_, _, J7, q6⟩
    | cont =>
      obtain ⟨σ6, H6, S6, q6⟩ := hsp
      exact end_ S6 fun s7 J7 => ⟨_, _, J7, q6⟩
    | ret u =>
      obtain ⟨v6, σ6, H6, S6, r6, q6⟩ := hsp
      exact end_ S6 fun s7 J7 => ⟨_, _, _, J7, r6, q6⟩
  · cases f with
    | next =>
      obtain ⟨σ', H', J', q⟩ := hsp
      exact wpAny_execs_nil ⟨σ', H', J'.ofTry ok, q⟩
    | brk =>
      obtain ⟨σ', H', J', q⟩ := hsp
      exact ⟨σ', H', J'.ofTry ok, q⟩
    | cont =>
      obtain ⟨σ', H', J', q⟩ := hsp
      exact ⟨σ', H', J'.ofTry ok, q⟩
    | ret u =>
      obtain ⟨v, σ', H', J', r, q⟩ := hsp
      exact ⟨v, σ', H', J'.ofTry ok, r, q⟩
end
end Nb
namespace Nb
open PySem PySem.Spec PyProof.Rows L2
section
variable {X : Cx} {cl : Nat → Addr} {β : List (Option V)} {W : WX} {pos pos' np : Pos}
theorem s_tryN {x n : Str} {i : Nat} {C : Value} {body suite : List Stmt} {b₀ : Stmt} {fb fh : FS} (cs : List Nat)
    (hs : X.stack = X.env :: X.outer) (hf : X.env.frame = some X.env.locals) (hN : X.N.Nodup) (hi : X.N[i]? = some n) (hln : X.env.kindOf n = some .local) (hc : Names X x C) (hex : X.ex = [])
    (sub : ∀ c ∈ cs, PySem.W.exmOne X.K (.ref (cl c)) C = some true)
    (hb : ∀ (W' : WX) (pn : List (Addr × Obj)) (xe : Value → Shared → Prop), Takes (X.tr pn xe) W' → PassesOwn (model X.prog X.w) X.A X.env xe → SSs (X.tr pn xe) cl β W' body fb)
    (hh : ∀ (a : Addr) (pn : List (Addr × Obj)), SSs (X.suite a pn) cl β (fun _ _ _ _ => False) (b₀ :: suite) fh) :
    SS X cl β W (.Try body [.ExceptHandler (some (.Name x np)) (some n) (b₀ :: suite) pos'] [] [] pos) (fTryN cs i fb fh) := by
  have main := ps_try_kp (X := X) (x := x) (n := n) (c := C) (i := i) (body := body) (suite := suite) (b₀ := b₀) (np := np) (pos := pos) (pos' := pos') (tb := fun W' => rdS (gx X cl) β W' fb) (ts := rdS (gx X cl) β (fun _ _ _ _ => False) fh) hs hf hN hi hln hc hex
    (fun W' pn xe h1 h2 => hb W' pn xe h1 h2) (fun a pn => hh a pn)
  refine PSm main fun D σ H h => ?_
  obtain ⟨F, ε, P, en, st, po⟩ := h
  refine ⟨F, ε, P, en, st, ?_⟩
  unfold fTryN at po
  cases q : fb ε with
  | exc c fs ds ε1 =>
    rw [q] at po
    intro σ' dx vs H' F' P' h1 h2 h3 h4 h5
    simp only at po
    split at po
    · rename_i hcs
      obtain ⟨hcs, hi1⟩ := hcs
      refine ⟨sub c (by simpa using hcs), fun a oe us ha k1 k2 k3 => ?_⟩
      obtain ⟨s2, same⟩ := h5.andNewF (o := kn oe) (EnvR.alive _ _ _ _ h4) ha
      have ex : Exh F' (upd F' a (kn oe)) := exh_upd (none_of_exh h5.top ha)
      have r1 : Rep (gx X cl) (upd F' a (kn oe)) (upd H' a (kn oe)) (.err c fs ds) (.ref a) [] := err_new (g := gx X cl) (us := us) h1 h2 h3 ha h5.top k1 k2 k3
      have en1 := EnvR.move ex _ _ _ _ same h4
      obtain ⟨A, P1, B, e1, en2⟩ := en1.setAt (i := i) hi1 r1
      have s3 : Stp F H P (upd F' a (kn oe)) (upd H' a (kn oe)) (A ++ [] ++ B) := s2.drop (by
        rw [e1]
        simpa using sub_mid [] A P1 B)
      cases qh : fh (ε1.set i (.val (.err c fs ds))) with
      | nx ε2 =>
        rw [qh] at po
        simp only at po
        split at po
        · rename_i hi2
          refine ⟨_, _, _, en2, s3.base, ?_⟩
          rw [qh]
          intro σ6 H6 F6 P6 en6 st6
          obtain ⟨P7, sP7, en7⟩ := en6.setNo i hi2
          exact po _ H6 F6 P7 (en7 none) ((s3.tr st6).drop sP7)
        · exact po.elim
      | bk ε2 => rw [qh] at po; exact po.elim
      | ct ε2 => rw [qh] at po; exact po.elim
      | rt d ε2 => rw [qh] at po; exact po.elim
      | exc c' fs' ds' ε2 => rw [qh] at po; exact po.elim
      | bad => rw [qh] at po; exact po.elim
    · exact po.elim
  | nx ε1 => rw [q] at po; exact po
  | bk ε1 => rw [q] at po; exact po
  | ct ε1 => rw [q] at po; exact po
  | rt d ε1 => rw [q] at po; exact po
  | bad => rw [q] at po; exact po
end
end Nb
namespace Nb
open PySem PySem.Spec PyProof.Rows L2
def cxW (P : Program) (w : World) (K : PySem.W.Frag) (mg : Str → Option Value) (base : Heap) (N : List Str) (qual : Str) (scope : Scope) (f : Addr) (cd : Value) (A : Around) (outer : List Env) (s : Shared) (H : Hp) (E : XK) : Cx :=
  { cxOf (CX P w) P w K mg base N qual scope f cd A outer s H E with calm := false }
theorem inv_startW {P : Program} {w : World} {K : PySem.W.Frag} {mg : Str → Option Value} {base : Heap} {N ps : List Str} {qual : Str} {scope : Scope} {f : Addr} {cd : Value} {A : Around} {outer : List Env} {s s1 : Shared} {H : Hp} {E : XK} {us : List Value} {vs : List V}
    (S : FnScope N ps scope) (e0 : Env0 P w K mg base A outer s H) (hl : vs.length = ps.length) (r : Vals vs us)
    (x : InCallC s s.heap.objs.size (bindL (envOfC qual scope s.heap.objs.size f cd).kindOf (ps.zip us) fun _ => none) (cellsFrom (s.heap.objs.size + 1) scope.names []) (bindC (envOfC qual scope s.heap.objs.size f cd).kindOf (ps.zip us) fun _ => none) s1) :
    Inv (cxW P w K mg base N qual scope f cd A outer s H E) [] (start N vs) H s1 := by
  have e1 : Env0 P w K mg base { A with handled := none } outer s H := ⟨e0.frames, e0.mod, e0.bs, e0.bsz, e0.funs, e0.frf, e0.hok, e0.bare⟩
  have J := inv_start (CX := CX P w) (E := E) S rfl e1 hl r x
  have ok := J.ok
  exact ⟨⟨ok.mod, ok.kind, ok.glob, ok.blt, ok.above, ok.inj, ok.has, ok.cab, (fun z => absurd (show false = true from z) Bool.false_ne_true), ok.frames, ok.stk, ok.exf, ok.bs, ok.bsz, ok.noex, ok.exfs, ok.funs, ok.frf⟩, J.os, J.bare, J.base, J.loc, J.cell, J.free, J.freeC, J.pin, J.hok, J.len⟩
section
variable {P : Program} {w : World} {K : PySem.W.Frag} {mg : Str → Option Value} {base : Heap} {cl : Nat → Addr} {x qual : Str} {params : Arguments} {body : List Stmt} {scope : Scope} {dvs : List V} {kws : List (Str × V)} {f : Addr} {fd : FuncData} {N ps : List Str} {k : Nat} {bs : List Bool} {fb : FS}
theorem fd_okW (Fd : FunD K x qual params body scope dvs kws f fd) (S : FnScope N ps scope) (hn : ps.length ≤ N.length) (hb : Binds K fd ps [])
    (hbody : ∀ (cdv : Value) (A : Around) (outer : List Env) (s : Shared) (H : Hp) (β : List (Option V)) (E : XK), L2H.RoomH k (A.deeper (envOfC qual scope s.heap.objs.size f cdv)) →
      SSs (cxW P w K mg base N qual scope f cdv A outer s H E) cl β (fun c d _ H' => E c d H') body fb) : FnW P w K mg base (k + 1) f (spD ⟨K, cl, w⟩ bs (runB ps.length N.length bs fb)) := by
  obtain ⟨oc, od, dV, kV, doc, pm, an, cdv, ct, osl, rfl, lk, hcd, _, _⟩ := Fd.ex
  intro A outer s H us vs Q E hr e0 r hsp
  obtain ⟨h1, F, ds, P1, rr, st, po⟩ := hsp
  unfold runB at po
  split at po
  · rename_i hl0
    have hl : vs.length = ps.length := (Reps.length _ _ _ rr).symm.trans hl0
    have kp : ∀ b o, base.get? b = some o → s.heap.get? b = some o := fun b o e => (e0.bs b o e).1
    have hbt := hb s us (e0.mod.kin.keeps kp) (by rw [List.append_nil, ← r.length]; exact hl)
    rw [List.append_nil] at hbt
    refine codeAny_call_function hr.depth (e0.mod.kin.keeps kp _ _ lk) rfl S.co S.gen rfl (PySem.W.codeRec_of (e0.mod.kin.keeps kp) hcd) (hbt _ _ _ _ ?_)
    refine wpAny_newFunctionEnv_cells S.kind (fun ⟨n, v⟩ hy => (S.par n (List.of_mem_zip hy).1).imp id fun q => ⟨q, PySem.W.cellsFrom_some _ _ _ (.inl q)⟩) fun env he s1 x => ?_
    subst he
    refine ⟨(e0.mod.nolimit.keeps kp).keeps x.toInCall.keep, codeAny_func ?_⟩
    have I := inv_startW (E := E) S e0 hl r x
    refine wpAny_mono ((hbody cdv A outer s H (bet0 bs vs N.length) E (hr.deeper _)).run [] s1 (start N vs) H { nx := fun _ H' => Q .non H', rt := Q } I (cres_ok (by omega) h1 rr st po)) (fun fl s' hs => ?_) fun e s' hs => hs
    cases fl with
    | ret u =>
      obtain ⟨v, σ', H', J, rv, q⟩ := hs
      exact ⟨v, H', J.os, J.bare, J.base, J.hok, rv, q⟩
    | next =>
      obtain ⟨σ', H', J, q⟩ := hs
      exact ⟨V.non, H', J.os, J.bare, J.base, J.hok, rfl, q⟩
    | brk => exact let ⟨_, _, _, q⟩ := hs; False.elim q
    | cont => exact let ⟨_, _, _, q⟩ := hs; False.elim q
  · exact po.elim
end
def CallW (P : Program) (w : World) (K : PySem.W.Frag) (mg : Str → Option Value) (base : Heap) (cl : Nat → Addr) (k : Nat) (x : Str) (bs : List Bool) (run : List D → CRes) : Prop :=
  ∃ f, FnW P w K mg base k f (spD ⟨K, cl, w⟩ bs run) ∧ mg x = some (.ref f) ∧ PySem.W.keepIn K (.ref f) = true
section
variable {X : Cx} {cl : Nat → Addr} {β : List (Option V)} {W : WX} {pos : Pos} {k : Nat} {bs : List Bool} {run : List D → CRes} {x : Str} {p : Pos} {e : Expr} {es : List Expr} {fs : FA}
theorem se_callW (C : CallW X.prog X.w X.K X.mg X.base cl k x bs run) (hr : L2H.RoomH k X.A) (tk : Takes X W) (hg : Gl X x) (ha : SA X cl β W (e :: es) fs) (hdb : (x == ("__debug__" : Str)) = false := by decide)
    (he : starEach (e :: es) X.env = (false, eval e X.env) :: starEach es X.env := by rfl) (hpl : (backTo pos (starEach es X.env)).any (·.1) = false := by rfl) : SE X cl β W (.Call (.Name x p) (e :: es) [] pos) (fCall bs run fs) := by
  obtain ⟨f, G, hm, hk⟩ := C
  refine ⟨fun pins s σ H Q I h => ?_⟩
  refine wpAny_Call_Name_kw (ld_glob I hg hm ?_ hdb)
  refine PySem.W.callWith_K (h₀ := X.base) I.ok.mod.kin hk (thn (ha.run pos pins s σ H _ I (rd_call h)) fun us s1 ⟨vs, H1, I1, r, q⟩ => ⟨I1.kIn, ?_⟩) he hpl
  refine wpAny_call (codeAny_mono (G X.A X.stack s1 H1 us vs Q _ hr I1.env0 r q) fun r s' hq => ?_)
  cases r with
  | error e => exact tk e s' (XE.of_call I1 (fun cls d H' h => h) hq)
  | ok fl =>
    cases fl with
    | ret u => exact I1.after hq
    | next => exact False.elim hq
    | brk => exact False.elim hq
    | cont => exact False.elim hq
end
theorem fnW_bad {P : Program} {w : World} {K : PySem.W.Frag} {mg : Str → Option Value} {base : Heap} {g : Gh} {k : Nat} {f : Addr} {bs : List Bool} : FnW P w K mg base k f (spD g bs (fun _ => .bad)) := fun A outer s H us vs Q E hr e hv hs => (spD_bad hs).elim
theorem takes_no (X : Cx) : Takes X (fun _ _ _ _ => False) := fun _ _ ⟨_, _, _, _, _, _, _, _, _, _, _, _, _, _, _, _, z⟩ => z.elim
theorem roomH_mark {k : Nat} {A : Around} (h : Room k A) (v : Option Value) : L2H.RoomH k (A.mark v) := ⟨h.dp, h.un⟩
end Nb
namespace Nb
open PySem PySem.Spec PyProof.Rows L2
theorem pmk_own00 {X : Cx} {C : Addr} {x : Str} {p pos : Pos} (T : ExB X.K C) (hg : Gl X x) (gC : X.mg x = some (.ref C)) (hdb : (x == ("__debug__" : Str)) = false := by decide) :
    PMk X (.Call (.Name x p) [] [] pos) (fun _ H Q => Q (.ref C) none H) := by
  intro pins s σ H Q I h
  refine wpAny_Call_Name_kw (ld_glob I hg gC ?_ hdb)
  refine PySem.W.callWith_K0 I.kIn T.k ?_
  show wpAny _ _ (call (.ref C) []) _ _ _
  obtain ⟨bm, N, nm, qn, bs, hdct, sn, sub, ab, col, dd, k0, k1, k2, k3, k5, mN, hC, hN, hni, T2⟩ := exc_obj I.kIn T.q
  refine PySem.wpAny_call_exc_subT F.excBase_Exception T2 hC hN hni (fun h' e hm => ?_) (by show 0 ≤ sizeLine; omega)
  exact mk_of I hm (raises_own T.s T.t) h (I.hok.gone hm.new)
section
variable {X : Cx} {cl : Nat → Addr} {β : List (Option V)} {W : WX} {pos p : Pos} {x : Str} {c : Nat} {e : Expr} {es : List Expr} {fs : FA}
theorem se_mkB0 (T : ExB X.K (cl c)) (hg : Gl X x) (hm : X.mg x = some (.ref (cl c))) (hdb : (x == ("__debug__" : Str)) = false := by decide) : SE X cl β W (.Call (.Name x p) [] [] pos) (fMkE0 c) :=
  (pe_mk (pmk_own00 T hg hm hdb)).mono fun σ H Q h => by
    obtain ⟨F, ε, P, en, st, po⟩ := h
    intro p oe us hp h1 h2 h3
    have al : ∀ q ∈ P, H q ≠ none := EnvR.alive _ _ _ _ en
    obtain ⟨s2, same⟩ := st.andNewF (o := kn oe) al hp
    exact po (.ref p) _ _ [] P (err_new (g := gx X cl) (d := none) (vs := []) (us := us) ⟨rfl, rfl⟩ rfl ⟨rfl, rfl⟩ hp st.top h1 h2 h3) (EnvR.move (exh_upd (none_of_exh st.top hp)) _ _ _ _ same en) s2
theorem se_mkB (T : ExB X.K (cl c)) (hg : Gl X x) (hm : X.mg x = some (.ref (cl c))) (ha : SA X cl β W (e :: es) fs) (hdb : (x == ("__debug__" : Str)) = false := by decide)
    (he : starEach (e :: es) X.env = (false, eval e X.env) :: starEach es X.env := by rfl) (hpl : (backTo pos (starEach es X.env)).any (·.1) = false := by rfl) : SE X cl β W (.Call (.Name x p) (e :: es) [] pos) (fMkB c fs) :=
  (pe_mk (pmk_ownA F.excBase_Exception T.q hm T.k (raises_own T.s T.t) hg ha hdb he hpl)).mono fun σ H Q h => rdR.bind (rel := relA (gx X cl) σ) h fun F P as ε1 vs H1 F1 R1 P1 r1 en1 st1 po1 => by
    split at po1
    · rename_i hz
      have hl : ∀ (as : List AD) (vs : List V) (R : List Addr), relA (gx X cl) σ F1 H1 as vs R → as.length = vs.length := by
        intro as
        induction as with
        | nil => intro vs R h; rw [h.1]; rfl
        | cons a as ih =>
          intro vs R h
          cases a with
          | v d =>
            obtain ⟨v, vr, _, R2, h1, _, _, h4⟩ := h
            rw [h1, List.length_cons, List.length_cons, ih vr R2 h4]
          | b i =>
            obtain ⟨v, vr, h1, _, h3⟩ := h
            rw [h1, List.length_cons, List.length_cons, ih vr R h3]
      refine ⟨by rw [← hl _ _ _ r1]; exact mx_line hz, ?_⟩
      intro p oe us hp h1 h2 h3
      have st2 : Stp F H P F1 H1 P1 := st1.drop (List.sublist_append_right R1 P1)
      obtain ⟨s2, same⟩ := st2.andNewF (o := kn oe) (EnvR.alive _ _ _ _ en1) hp
      exact po1 (.ref p) _ _ [] P1 (err_new (g := gx X cl) (d := none) (vs := []) (us := us) ⟨rfl, rfl⟩ rfl ⟨rfl, rfl⟩ hp st2.top h1 h2 h3) (EnvR.move (exh_upd (none_of_exh st2.top hp)) _ _ _ _ same en1) s2
    · exact po1.elim
end
theorem fExB_ok {K : PySem.W.Frag} {x : Str} (h : fExB x K = true) : ExB K (He.ga K x) := by
  obtain ⟨h1, h⟩ := He.ba h
  obtain ⟨h2, h⟩ := He.ba h
  obtain ⟨h3, h4⟩ := He.ba h
  exact ⟨h1, h2, of_decide_eq_true h3, of_decide_eq_true h4⟩
end Nb
namespace Nb
open PySem PySem.Spec PyProof.Rows L2
theorem kwB_of {P : Program} {K : PySem.W.Frag} {me par fld : Str} {d : DefE} (e : fnE K (d.adr K) = d.val) (c : d.ok K P.main.file = true) (h : fEx d.cls fld K = true)
    (t : ∀ fd : FuncData, fd.name = "__init__" → fd.qualname = d.qual → fd.params = d.params → fd.body = .stmts d.body → fd.scope = d.scope → fd.defaults = .none → ∀ a b : Value, bindArgs fd ⟨[a], [(par, b)]⟩ = pure [(me, a), (par, b)]) : KwB K (He.ga K d.cls) me par := by
  intro f oc od osl fd hf lk a b
  obtain ⟨_, h⟩ := He.ba h
  obtain ⟨_, h⟩ := He.ba h
  obtain ⟨_, h⟩ := He.ba h
  obtain ⟨_, h⟩ := He.ba h
  obtain ⟨_, h⟩ := He.ba h
  obtain ⟨_, h⟩ := He.ba h
  obtain ⟨_, h⟩ := He.ba h
  obtain ⟨_, h⟩ := He.ba h
  obtain ⟨_, h⟩ := He.ba h
  obtain ⟨_, h⟩ := He.ba h
  obtain ⟨_, h⟩ := He.ba h
  obtain ⟨h12, _⟩ := He.ba h
  have h12 := He.eqO_ok h12
  rw [hf] at h12
  have ef : f = d.adr K := by
    have := Option.some.inj (Option.some.inj h12)
    exact Value.ref.inj this
  subst ef
  unfold DefE.ok at c
  unfold fnE at e
  rw [lk] at c e
  have e2 : (some (fd.name, fd.qualname, fd.params, fd.body, fd.scope, fd.globals, ([] : List (Str × Addr)), fd.builtins) : He.FnW) = d.val := e
  unfold DefE.val at e2
  simp only [Option.some.injEq, Prod.mk.injEq] at e2
  obtain ⟨g1, g2, g3, g4, g5, _⟩ := e2
  obtain ⟨_, k2⟩ := He.ba (show (PySem.W.codeIn K fd.code d.qual && (cellOk K (He.ga K d.cls) fd.closure && (fileOk K P.main.file fd.code && isNon fd.defaults))) = true from c)
  obtain ⟨_, k3⟩ := He.ba k2
  obtain ⟨_, k4⟩ := He.ba k3
  exact t fd g1 g2 g3 g4 g5 (isNon_ok k4) a b
end Nb
namespace Nb
open PySem PySem.W PySem.Calls PyProof.Rows PyProof.V PySem.Spec
theorem en_no_len : typeLookup (.type "enumerate") "__len__" = pure none := am_miss_of_fast (by decide +kernel)
theorem en_no_hint : typeLookup (.type "enumerate") "__length_hint__" = pure none := am_miss_of_fast (by decide +kernel)
section
variable {prog : Program} {w : World} {A : Around} {E : Value → Shared → Prop} {s : Shared} {items : Array Value} {R : Result → Shared → Prop}
theorem en_item {e it l : Addr} {i : Nat} {x : Value} {Q : Option Value → Shared → Prop} (hst : EnSt s.heap e it i) (hit : s.heap.IsListIter it l i) (hl : s.heap.IsList l items) (hx : items[i]? = some x) (hne : e ≠ it) (ht : e < s.heap.objs.size) (ht2 : it < s.heap.objs.size)
    (hQ : ∀ h', EnSt h' e it (i + 1) → h'.IsListIter it l (i + 1) → h'.get? s.heap.objs.size = some { cls := .type "tuple", data := .seq #[.int (i : Nat) s.toks, x] } → h'.objs.size = s.heap.objs.size + 1 →
      (∀ b o, b ≠ e → b ≠ it → s.heap.get? b = some o → h'.get? b = some o) → Q (some (.ref s.heap.objs.size)) { s with heap := h', toks := s.toks + 1 }) : wpAny (model prog w) A (pyNext (.ref e)) Q E s := by
  rcases hst with ⟨rfl, h0⟩ | ⟨T, old, f, oT, h0, hT, n1, n2⟩
  · refine wpAny_pyNext_enum_item h0 hit hl hx hne fun h' a1 a2 a3 a4 a5 => hQ h' (.inr ⟨s.heap.objs.size, x, false, _, a1, a3, Nat.ne_of_gt ht, Nat.ne_of_gt ht2⟩) a2 a3 a4 a5
  · refine wpAny_pyNext_enum_item_held h0 hT n1 n2 hit hl hx hne fun h' a1 a2 a3 a4 a5 => hQ h' (.inr ⟨T, old, true, oT, a1, a5 T oT n1 n2 hT, n1, n2⟩) a2 a3 a4 a5
theorem en_done {e it l : Addr} {i : Nat} {Q : Option Value → Shared → Prop} (hh : A.handled = none) (hst : EnSt s.heap e it i) (hit : s.heap.IsListIter it l i) (hl : s.heap.IsList l items) (hx : items[i]? = none)
    (hQ : ∀ h', Heap.ExtBut it s.heap h' → Q none { s with heap := h' }) : wpAny (model prog w) A (pyNext (.ref e)) Q E s := by
  rcases hst with ⟨rfl, h0⟩ | ⟨T, old, f, oT, h0, hT, n1, n2⟩
  · exact wpAny_pyNext_enum_end hh h0 hit hl hx hQ
  · exact wpAny_pyNext_enum_end_held hh h0 hit hl hx hQ
theorem en_loop {S e it l lo : Addr} (hh : A.handled = none) (hSe : S ≠ e) (hSi : S ≠ it) (hSl : l ≠ S) (hei : e ≠ it) (hle : l ≠ e) (hli : l ≠ it) (hn : items.size ≤ sizeLine) (l1 : S < lo) (l2 : e < lo) (l3 : it < lo) (res : Value) {h₁ : Heap}
    (hR : ∀ h' tk acc c as, (∀ b o, b ≠ S → b ≠ e → b ≠ it → h₁.get? b = some o → h'.get? b = some o) → h'.get? S = some { cls := .type "list", dict := none, data := .seq acc c, slots := #[] } → as.length = items.size → EnG items lo h' as →
      acc.toList = as.map Value.ref → R (.ok (.ret res)) { s with heap := h', toks := tk }) :
    ∀ (k i : Nat) (h : Heap) (tk c : Nat) (acc : Array Value) (as : List Addr), items.size - i = k → i ≤ items.size → EnSt h e it i → h.IsListIter it l i → h.IsList l items → (∀ b o, b ≠ S → b ≠ e → b ≠ it → h₁.get? b = some o → h.get? b = some o) →
      h.get? S = some { cls := .type "list", dict := none, data := .seq acc c, slots := #[] } → acc.toList = as.map Value.ref → as.length = i → EnG items lo h as → lo ≤ h.objs.size →
      codeAny (model prog w) A (.builtin "list.extend.loop" ⟨[.ref S, .ref e, res], []⟩) R { s with heap := h, toks := tk } := by
  intro k
  induction k with
  | zero =>
    intro i h tk c acc as hk hi hst hit hL hkeep hS hacc hal hG hlo
    refine codeAny_builtin PySem.F.entry_extend_loop ?_
    rw [Around.under_plainId PySem.F.plain_extend_loop _]
    show wpAny _ A.in1 (pyNext (.ref e) >>= _) _ _ _
    refine wpAny_bind (en_done (s := { s with heap := h, toks := tk }) (A := A.in1) hh hst hit hL (Array.getElem?_eq_none (by omega)) fun h' he => ?_)
    refine wpAny_pure (hR h' tk acc c as (fun b o h1 h2 h3 z => he b o h3 (hkeep b o h1 h2 h3 z)) (he S _ hSi hS) (by omega) ⟨hG.rise, hG.above, fun j a hj => ?_⟩ hacc)
    obtain ⟨t, x, e1, e2⟩ := hG.pairs j a hj
    have := hG.above a (List.mem_of_getElem? hj)
    exact ⟨t, x, e1, he a _ (Nat.ne_of_gt (Nat.lt_of_lt_of_le l3 this)) e2⟩
  | succ k ih =>
    intro i h tk c acc as hk hi hst hit hL hkeep hS hacc hal hG hlo
    have hlt : i < items.size := by omega
    have hx : items[i]? = some items[i] := Array.getElem?_eq_getElem hlt
    have hsz : acc.size = i := by rw [← Array.length_toList, hacc, List.length_map, hal]
    refine codeAny_builtin PySem.F.entry_extend_loop ?_
    rw [Around.under_plainId PySem.F.plain_extend_loop _]
    show wpAny _ A.in1 (pyNext (.ref e) >>= _) _ _ _
    refine wpAny_bind (en_item (s := { s with heap := h, toks := tk }) hst hit hL hx hei (Nat.lt_of_lt_of_le l2 hlo) (Nat.lt_of_lt_of_le l3 hlo) fun h' hst' hit' ht hz hkp => ?_)
    dsimp only at ht hz hkp ⊢
    have hS' := hkp S _ hSe hSi hS
    have up : ∀ b o, b ≠ S → h'.get? b = some o → (h'.update S (Obj.mapSeq (·.push (Value.ref h.objs.size)))).get? b = some o := fun b o hb e => (Heap.get?_update_other _ _ (Ne.symm hb)).trans e
    have hSlt : S < h.objs.size := Heap.lt_size hS
    have hS2 := Heap.get?_update_self (Obj.mapSeq (·.push (Value.ref h.objs.size))) hS' rfl
    show wpAny _ A.in1 (updateSeq S (·.push (Value.ref h.objs.size)) >>= _) _ _ _
    refine wpAny_bind ?_
    refine wpAny_updateSeq hS' rfl (wpAny_pure ⟨plainId_quiet PySem.F.plain_extend_loop _, ih (i + 1) _ _ _ (acc.push (Value.ref h.objs.size)) (as ++ [h.objs.size]) (by omega) hlt (hst'.keep (S := S) up hSe fun o _ => ⟨_, hS2⟩) (hit'.at fun o z => up it o (Ne.symm hSi) z) ((hL.at fun o z => hkp l o hle hli z).at fun o z => up l o hSl z)
      (fun b o h1 h2 h3 z => up b o h1 (hkp b o h2 h3 (hkeep b o h1 h2 h3 z))) hS2 (by rw [Array.toList_push, hacc, List.map_append]; rfl) (by rw [List.length_append, hal]; rfl) ⟨?_, ?_, ?_⟩ ?_⟩) (by rw [hsz]; omega) (by show (acc.push (Value.ref h.objs.size)).size ≤ sizeLine + 1; rw [Array.size_push, hsz]; omega)
    · refine List.pairwise_append.mpr ⟨hG.rise, List.pairwise_singleton _ _, fun a ha b hb => ?_⟩
      rw [List.mem_singleton.mp hb]
      obtain ⟨j, hj⟩ := List.mem_iff_getElem?.mp ha
      obtain ⟨_, _, _, z⟩ := hG.pairs j a hj
      exact Heap.lt_size z
    · intro a ha
      rcases List.mem_append.mp ha with ha | ha
      · exact hG.above a ha
      · rw [List.mem_singleton.mp ha]; exact hlo
    · intro j b hj
      rcases Nat.lt_trichotomy j as.length with h1 | h1 | h1
      · rw [List.getElem?_append_left h1] at hj
        obtain ⟨t, x', e1, e3⟩ := hG.pairs j b hj
        have hb := hG.above b (List.mem_of_getElem? hj)
        exact ⟨t, x', e1, up b _ (Nat.ne_of_gt (Nat.lt_of_lt_of_le l1 hb)) (hkp b _ (Nat.ne_of_gt (Nat.lt_of_lt_of_le l2 hb)) (Nat.ne_of_gt (Nat.lt_of_lt_of_le l3 hb)) e3)⟩
      · subst h1
        have hb : h.objs.size = b := by simpa using hj
        subst hb
        exact ⟨tk, items[i], by rw [hal]; exact hx, by rw [hal]; exact up _ _ (Nat.ne_of_gt hSlt) ht⟩
      · have hnone : (as ++ [h.objs.size])[j]? = none := List.getElem?_eq_none (by rw [List.length_append, List.length_singleton]; omega)
        rw [hnone] at hj; cases hj
    · have z : (h'.update S (Obj.mapSeq (·.push (Value.ref h.objs.size)))).get? h.objs.size = _ := up _ _ (Nat.ne_of_gt hSlt) ht
      exact Nat.le_trans hlo (Nat.le_of_lt (Heap.lt_size z))
theorem en_extend {e it l S : Addr} (hh : A.handled = none) (hst : EnSt s.heap e it 0) (hit : s.heap.IsListIter it l 0) (hL : s.heap.IsList l items) (hSe : S ≠ e) (hSi : S ≠ it) (hSl : l ≠ S) (hei : e ≠ it) (hle : l ≠ e) (hli : l ≠ it) (res : Value) (c₀ : Nat) (hS : s.heap.get? S = some { cls := .type "list", data := .seq #[] c₀ })
    (he0 : s.TypeIs (.ref e) "enumerate") (hself : ∀ {E : Value → Shared → Prop} {Q : Value → Shared → Prop}, Q (.ref e) s → wpAny (model prog w) A.in1 (pyIter (.ref e)) Q E s) (ht2 : it < s.heap.objs.size) (hn : items.size ≤ sizeLine)
    (hR : ∀ h' tk acc c as, (∀ b o, b ≠ S → b ≠ e → b ≠ it → s.heap.get? b = some o → h'.get? b = some o) → h'.get? S = some { cls := .type "list", dict := none, data := .seq acc c, slots := #[] } → as.length = items.size → EnG items s.heap.objs.size h' as →
      acc.toList = as.map Value.ref → R (.ok (.ret res)) { s with heap := h', toks := tk }) :
    wpAny (model prog w) A.in1 (Builtin.List.listExtendWith (.ref S) (.ref e) res)
      (fun fin s' => match fin with
        | .done f => R (.ok f) s'
        | .again c' => c'.quiet = true ∧ codeAny (model prog w) A c' R s') (fun e s' => R (.error e) s') s := by
  have l1 : S < s.heap.objs.size := Heap.lt_size hS
  have l2 : e < s.heap.objs.size := by
    obtain ⟨o, z, _⟩ := he0
    exact Heap.lt_size z
  unfold Builtin.List.listExtendWith
  refine wpAny_bind (wpAny_typeOf he0 ?_)
  have h1 : Builtin.List.listSameRef (.ref S) (.ref e) = false := by simp [Builtin.List.listSameRef, hSe]
  have h2 : (Value.type "enumerate" == Value.type "list") = false := by decide
  have h3 : (Value.type "enumerate" == Value.type "tuple") = false := by decide
  simp only [h1, h2, h3, Bool.or_false, Bool.false_eq_true, if_false]
  refine wpAny_bind (hself ?_)
  refine wpAny_bind (wpAny_holding ?_)
  unfold Builtin.List.listLengthHint
  refine wpAny_bind (wpAny_specialOf he0 en_no_len ?_)
  show wpAny _ A.in1 (specialOf (Value.ref e) (Str.ofString "__length_hint__") >>= _) _ _ _
  refine wpAny_bind (wpAny_specialOf he0 en_no_hint ?_)
  refine wpAny_pure ?_
  show wpAny _ A.in1 (rule "list.extend.makes-room" >>= fun _ => Builtin.List.listTouch (.ref S) >>= fun _ =>
    again (.builtin "list.extend.loop" ⟨[.ref S, .ref e, res], []⟩)) _ _ _
  refine wpAny_bind (wpAny_rule ?_)
  refine wpAny_bind ?_
  show wpAny _ A.in1 (updateSeq S (·.push .none) >>= fun _ => updateSeq S (·.pop)) _ _ _
  refine wpAny_bind (wpAny_updateSeq hS rfl ?_)
  have hS₂ := Heap.get?_update_self (Obj.mapSeq (·.push Value.none)) hS rfl
  refine wpAny_updateSeq (hz := by seq_fits) hS₂ rfl ?_
  have hS₃ := Heap.get?_update_self (Obj.mapSeq (·.pop)) hS₂ rfl
  have oth : ∀ b o, b ≠ S → s.heap.get? b = some o → ((s.heap.update S (Obj.mapSeq (·.push Value.none))).update S (Obj.mapSeq (·.pop))).get? b = some o :=
    fun b o hb e => (Heap.get?_update_other _ _ (Ne.symm hb)).trans ((Heap.get?_update_other _ _ (Ne.symm hb)).trans e)
  refine wpAny_pure ⟨plainId_quiet PySem.F.plain_extend_loop _, en_loop (h₁ := s.heap) hh hSe hSi hSl hei hle hli hn l1 l2 ht2 res (fun h' tk acc c as k1 k2 k3 k4 k5 => hR h' tk acc c as k1 k2 k3 k4 k5) items.size 0 _ _ _ #[] [] (Nat.sub_zero _) (Nat.zero_le _)
    (hst.keep (S := S) oth hSe fun o _ => ⟨_, hS₃⟩) (hit.at fun o z => oth it o (Ne.symm hSi) z) (hL.at fun o z => oth l o hSl z) (fun b o k1 _ _ z => oth b o k1 z) hS₃ rfl rfl ⟨List.Pairwise.nil, (fun _ ha => nomatch ha), (fun j a hj => by simp at hj)⟩ ?_⟩
  rw [Heap.size_update, Heap.size_update]
  exact Nat.le_refl _
end
end Nb
namespace Nb
open PySem PySem.W PySem.Calls PyProof.Rows PyProof.V PySem.Spec
section
variable {prog : Program} {w : World} {A : Around} {E : Value → Shared → Prop} {s : Shared} {items : Array Value} {R : Result → Shared → Prop}
theorem en_init {e it l S : Addr} (hh : A.handled = none) (hst : IsEnum s.heap e it 0 .none) (hit : s.heap.IsListIter it l 0) (hL : s.heap.IsList l items) (hSe : S ≠ e) (hSi : S ≠ it) (hSl : l ≠ S) (hei : e ≠ it) (hle : l ≠ e) (hli : l ≠ it) (hS : s.heap.get? S = some { cls := .type "list", data := .seq #[] })
    (ht2 : it < s.heap.objs.size) (hn : items.size ≤ sizeLine)
    (hR : ∀ h' tk acc c as, (∀ b o, b ≠ S → b ≠ e → b ≠ it → s.heap.get? b = some o → h'.get? b = some o) → h'.get? S = some { cls := .type "list", dict := none, data := .seq acc c, slots := #[] } → as.length = items.size → EnG items s.heap.objs.size h' as →
      acc.toList = as.map Value.ref → R (.ok (.ret .none)) { s with heap := h', toks := tk }) :
    wpAny (model prog w) A.in1 (Builtin.«list.__init__» ⟨[.ref S, .ref e], []⟩)
      (fun fin s' => match fin with
        | .done f => R (.ok f) s'
        | .again c' => c'.quiet = true ∧ codeAny (model prog w) A c' R s') (fun e s' => R (.error e) s') s := by
  show wpAny _ _ (do let old ← Builtin.List.listItems (.ref S); Builtin.List.listUpdate (.ref S) (fun _ => #[]); letGo old.toList.reverse; Builtin.List.listExtendWith (.ref S) (.ref e) .none) _ _ s
  refine wpAny_bind ?_
  unfold Builtin.List.listItems
  refine wpAny_bind (wpAny_seqItems hS rfl (wpAny_pure ?_))
  show wpAny _ _ (updateSeq S (fun _ => #[]) >>= fun _ => letGo (#[] : Array Value).toList.reverse >>= fun _ => Builtin.List.listExtendWith (.ref S) (.ref e) .none) _ _ s
  refine wpAny_bind (wpAny_updateSeq hS rfl ?_)
  have hS₂ := Heap.get?_update_self (Obj.mapSeq (fun _ => (#[] : Array Value))) hS rfl
  have oth : ∀ b o, b ≠ S → s.heap.get? b = some o → (s.heap.update S (Obj.mapSeq (fun _ => (#[] : Array Value)))).get? b = some o :=
    fun b o hb e => (Heap.get?_update_other _ _ (Ne.symm hb)).trans e
  have e1 := oth e _ (Ne.symm hSe) hst
  refine wpAny_bind (wpAny_letGo ?_)
  refine en_extend hh (.inl ⟨rfl, e1⟩) (hit.at fun o z => oth it o (Ne.symm hSi) z) (hL.at fun o z => oth l o hSl z) hSe hSi hSl hei hle hli .none _ hS₂ ⟨_, e1, rfl⟩ (fun q => wpAny_pyIter_enum e1 q) (by rw [Heap.size_update]; exact ht2) hn (fun h' tk acc c as k1 k2 k3 k4 k5 => ?_)
  exact hR h' tk acc c as (fun b o h1 h2 h3 z => k1 b o h1 h2 h3 (oth b o h1 z)) k2 k3 (by rw [Heap.size_update] at k4; exact k4) k5
theorem en_call {e it l : Addr} {Q : Value → Shared → Prop} (hh : A.handled = none) (hst : IsEnum s.heap e it 0 .none) (hit : s.heap.IsListIter it l 0) (hL : s.heap.IsList l items) (hei : e ≠ it) (hle : l ≠ e) (hli : l ≠ it) (hn : items.size ≤ sizeLine)
    (hQ : ∀ h' tk acc c as, (∀ b o, b ≠ e → b ≠ it → s.heap.get? b = some o → h'.get? b = some o) → h'.get? s.heap.objs.size = some { cls := .type "list", dict := none, data := .seq acc c, slots := #[] } → as.length = items.size → EnG items (s.heap.objs.size + 1) h' as →
      acc.toList = as.map Value.ref → Q (.ref s.heap.objs.size) { s with heap := h', toks := tk }) :
    wpAny (model prog w) A (call (.type "list") [.ref e]) Q E s := by
  refine callType_codes (Q₁ := fun obj s₁ => obj = .ref s.heap.objs.size ∧ s₁ = { s with heap := s.heap.push { cls := .type "list", data := .seq #[] } }) PySem.F.called_list (PySem.F.typeCall_list_1 _) PySem.F.entry_list_init
    (code_list_new _ ⟨rfl, rfl⟩) fun obj s₁ h₁ => ?_
  obtain ⟨rfl, rfl⟩ := h₁
  have hS : (s.heap.push { cls := .type "list", data := .seq #[] }).get? s.heap.objs.size = some { cls := .type "list", data := .seq #[] } := Heap.get?_push_size _ rfl
  have le : e < s.heap.objs.size := Heap.lt_size hst
  have li : it < s.heap.objs.size := by
    obtain ⟨o, z, _⟩ := hit
    exact Heap.lt_size z
  have ll : l < s.heap.objs.size := by
    obtain ⟨o, z, _⟩ := hL
    exact Heap.lt_size z
  have kp : ∀ b o, s.heap.get? b = some o → (s.heap.push { cls := .type "list", data := .seq #[] }).get? b = some o := fun b o z => Heap.get?_push_of_some _ z
  refine ⟨⟨_, hS, rfl⟩, PySem.F.args_list_init_2 _ _, en_init (A := A.in1) (s := { s with heap := s.heap.push { cls := .type "list", data := .seq #[] } }) hh (kp _ _ hst) (hit.at fun o z => kp it o z) (hL.at fun o z => kp l o z) (Nat.ne_of_gt le) (Nat.ne_of_gt li) (Nat.ne_of_lt ll) hei hle hli hS
    (Nat.lt_of_lt_of_le li (by show s.heap.objs.size ≤ (s.heap.push _).objs.size; rw [Heap.size_push]; exact Nat.le_succ _)) hn (fun h' tk acc c as k1 k2 k3 k4 k5 => ?_)⟩
  refine ⟨rfl, hQ h' tk acc c as (fun b o h2 h3 z => k1 b o (Nat.ne_of_lt (Heap.lt_size z)) h2 h3 (kp b o z)) k2 k3 ?_ k5⟩
  have e1 : (s.heap.push { cls := .type "list", data := .seq #[] }).objs.size = s.heap.objs.size + 1 := Heap.size_push _ _
  rw [← e1]
  exact k4
end
end Nb
namespace Nb
open PySem PySem.Spec PyProof.Rows L2 PySem.W L2.DX
theorem boot_Exception : bootBuiltins "Exception" = some (.type "Exception") := by decide +kernel
theorem boot_ValueError : bootBuiltins "ValueError" = some (.type "ValueError") := by decide +kernel
theorem boot_TypeError : bootBuiltins "TypeError" = some (.type "TypeError") := by decide +kernel
theorem boot_LookupError : bootBuiltins "LookupError" = some (.type "LookupError") := by decide +kernel
theorem boot_ArithmeticError : bootBuiltins "ArithmeticError" = some (.type "ArithmeticError") := by decide +kernel
theorem boot_RuntimeError : bootBuiltins "RuntimeError" = some (.type "RuntimeError") := by decide +kernel
def putE : Hp → List Addr → Nat → List V → Hp
  | H, a :: as, i, w :: ws => putE (upd H a (.tup [.int (i : Nat), w])) as (i + 1) ws
  | H, _, _, _ => H
theorem takeE {X : Cx} {pins : List (Addr × Obj)} {σ : L2.St} {H0 : Hp} {s : Shared} {h' : Heap} {tk : Nat} (I0 : Inv X pins σ H0 s) : ∀ (as : List Addr) (i : Nat) (ws : List V) (H1 : Hp), Inv X pins σ H1 { s with heap := h', toks := tk } → as.Nodup → as.length = ws.length →
    (∀ (j : Nat) (a : Addr) (w : V), as[j]? = some a → ws[j]? = some w → s.heap.objs.size ≤ a ∧ H1 a = none ∧ ∀ H2, ObjOk X.prog X.w H2 h' a (.tup [.int ((i + j : Nat) : Nat), w])) →
    Inv X pins σ (putE H1 as i ws) { s with heap := h', toks := tk }
  | [], _, _, H1, I1, _, _, _ => by rw [putE] <;> first | exact I1 | (intros; contradiction)
  | _ :: _, _, [], H1, I1, _, h, _ => by simp at h
  | a :: as, i, w :: ws, H1, I1, hn, hl, h => by
    obtain ⟨hb, hnone, ok⟩ := h 0 a w rfl rfl
    have I2 : Inv X pins σ (upd H1 a (.tup [.int (i : Nat), w])) { s with heap := h', toks := tk } := I1.take (h' := h') (t' := tk) (fun b ob _ e => e) (I0.fpOk hb hnone) (ok _)
    rw [List.nodup_cons] at hn
    refine takeE I0 as (i + 1) ws (upd H1 a (.tup [.int (i : Nat), w])) I2 hn.2 (by simpa using hl) fun j c r hj hr => ?_
    obtain ⟨c1, c3, c4⟩ := h (j + 1) c r (by simpa using hj) (by simpa using hr)
    exact ⟨c1, by rw [upd_ne (fun z => hn.1 (by rw [← z]; exact List.mem_of_getElem? hj))]; exact c3, fun H2 => by
      have e : i + 1 + j = i + (j + 1) := by omega
      rw [e]
      exact c4 H2⟩
theorem putE_stp {g : Gh} {F H : Hp} {P R : List Addr} : ∀ (ts : List Addr) (i : Nat) (ds : List D) (ws : List V) (F1 H1 : Hp), Stp F H P F1 H1 R → (∀ q ∈ R, H1 q ≠ none) → ts.Nodup → ts.length = ws.length → (∀ t ∈ ts, H1 t = none) → Reps g F1 H1 ds ws [] →
    ∃ F2, Stp F H P F2 (putE H1 ts i ws) R ∧ Exh F1 F2 ∧ Reps g F2 (putE H1 ts i ws) (enumD i ds) (ts.map V.ref) [] ∧ (∀ q ∈ R, putE H1 ts i ws q = H1 q)
  | [], i, [], ws, F1, H1, st, _, _, hl, _, _ => by
    have e : putE H1 [] i ws = H1 := by rw [putE] <;> first | rfl | (intros; contradiction)
    rw [e]
    exact ⟨F1, st, Exh.rfl' F1, ⟨rfl, rfl⟩, fun _ _ => rfl⟩
  | [], _, _ :: _, ws, _, _, _, _, _, hl, _, rp => by
    obtain ⟨v, vr, P1, P2, h1, _⟩ := rp
    subst h1
    simp at hl
  | _ :: _, _, [], ws, _, _, _, _, _, hl, _, rp => by
    obtain ⟨h1, _⟩ := rp
    subst h1
    simp at hl
  | t :: ts, i, d :: ds, ws, F1, H1, st, al, nd, hl, hn, rp => by
    obtain ⟨v, vr, P1, P2, h1, h2, h3, h4⟩ := rp
    subst h1
    obtain ⟨rfl, rfl⟩ : P1 = [] ∧ P2 = [] := by simpa using h2.symm
    obtain ⟨st2, same⟩ := st.andNewF (o := .tup [.int (i : Nat), v]) al (hn t List.mem_cons_self)
    rw [List.nodup_cons] at nd
    have hF : F1 t = none := by
      cases e : F1 t with
      | none => rfl
      | some o => have := st.top t o e; rw [hn t List.mem_cons_self] at this; cases this
    have ex : Exh F1 (upd F1 t (.tup [.int (i : Nat), v])) := exh_upd hF
    obtain ⟨F2, a1, a2, a3, a4⟩ := putE_stp ts (i + 1) ds vr (upd F1 t (.tup [.int (i : Nat), v])) (upd H1 t (.tup [.int (i : Nat), v])) st2 (fun r hr => by rw [same r hr]; exact al r hr) nd.2 (by simpa using hl) (fun r hr => by
      rw [upd_ne (fun z => nd.1 (by rw [← z]; exact hr))]
      exact hn r (List.mem_cons_of_mem _ hr)) (Reps.move ex ds vr [] (fun q z => nomatch z) h4)
    refine ⟨F2, a1, ex.tr a2, ⟨.ref t, ts.map V.ref, [], [], rfl, rfl, ⟨t, [.int (i : Nat), v], rfl, .inl (.inl (a2 _ _ upd_same)), ?_⟩, a3⟩, fun r hr => (a4 r hr).trans (same r hr)⟩
    exact ⟨.int (i : Nat), [v], [], [], rfl, rfl, ⟨rfl, rfl⟩, v, [], [], [], rfl, rfl, Rep.move (ex.tr a2) d v [] (fun q z => nomatch z) h3, rfl, rfl⟩
section
variable {X : Cx} {cl : Nat → Addr} {β : List (Option V)} {W : WX} {p p2 p3 p4 : Pos} {e : Expr} {fe : FE}
def tListEnm (t : TE) : TE := fun σ H Q => t σ H fun x H1 => ∃ (a : Addr) (ws : List V), x = .ref a ∧ H1 a = some (.lst ws) ∧ ws.length < 64 ∧
  ∀ (l : Addr) (ts : List Addr), ts.length = ws.length → ts.Nodup → (∀ t ∈ ts, H1 t = none) → H1 l = none → l ∉ ts → Q (.ref l) (putE (upd H1 l (.lst (ts.map V.ref))) ts 0 ws)
theorem pe_listEnm {t : TE} (hc : X.calm = true) (hg : Gl X "list") (hm : X.mg "list" = none) (hg2 : Gl X "enumerate") (hm2 : X.mg "enumerate" = none) (ha : PE X e t)
    (hs1 : starEach [Expr.Call (.Name "enumerate" p2) [e] [] p3] X.env = (false, eval (Expr.Call (.Name "enumerate" p2) [e] [] p3) X.env) :: starEach [] X.env := by rfl)
    (hs2 : starEach [e] X.env = (false, eval e X.env) :: starEach [] X.env := by rfl) :
    PE X (.Call (.Name "list" p) [.Call (.Name "enumerate" p2) [e] [] p3] [] p4) (tListEnm t) := by
  refine ⟨fun pins s σ H Q I h => ?_⟩
  refine Call_ (ld_blt I hg hm boot_list (PyProof.Rows.callWith_type1 (PyProof.Rows.args_cons ?_ hs1) hs1 rfl))
  refine Call_ (ld_blt I hg2 hm2 boot_enumerate (PyProof.Rows.callWith_type1 (PyProof.Rows.args_cons ?_ hs2) hs2 rfl))
  refine thn (ha.run pins s σ H _ I h) fun v s1 ⟨x, H1, I1, r1, a, ws, ex, hla, h64, q⟩ => PyProof.Rows.args_nil ?_
  subst ex
  obtain rfl : v = Value.ref a := r1
  obtain ⟨_, its, n, rv, hga⟩ := (show ObjOk X.prog X.w H1 s1.heap a (.lst ws) from I1.hok a _ hla)
  have hh : X.A.handled = none := I1.ok.hd hc
  have hL : s1.heap.IsList a its.toArray := ⟨_, hga, rfl, n, rfl⟩
  have la : a < s1.heap.objs.size := Heap.lt_size hga
  have hlen : ws.length = its.length := rv.length
  refine PySem.call_enumerate_list hL fun h1 he hit hsz hk => PyProof.Rows.args_nil ?_
  refine en_call (s := { s1 with heap := h1 }) hh he hit (hL.at fun o z => hk a o z) (Nat.succ_ne_self _) (Nat.ne_of_lt (Nat.lt_succ_of_lt la)) (Nat.ne_of_lt la) (by rw [List.size_toArray, sizeLine_eq]; omega) fun h' tk acc c as hk2 hS hal hG hacc => ?_
  have kk : ∀ b o, s1.heap.get? b = some o → h'.get? b = some o := fun b o z => by
    have lb := Heap.lt_size z
    exact hk2 b o (Nat.ne_of_lt (Nat.lt_succ_of_lt lb)) (Nat.ne_of_lt lb) (hk b o z)
  have laq : as.length = ws.length := by rw [hal, List.size_toArray, hlen]
  have nd : as.Nodup := List.Pairwise.imp (fun h => Nat.ne_of_lt h) hG.rise
  have eacc : acc = (as.map Value.ref).toArray := by rw [← hacc]
  have szS : s1.heap.objs.size ≤ h1.objs.size := by rw [hsz]; exact Nat.le_add_right _ _
  have lt0 : ∀ b ∈ as, h1.objs.size < b := fun b hb => hG.above b hb
  have hn0 : H1 h1.objs.size = none := I1.hok.fresh szS
  have fresh : ∀ t ∈ as, H1 t = none := fun t ht => I1.hok.fresh (Nat.le_trans szS (Nat.le_of_lt (lt0 t ht)))
  have hnot : h1.objs.size ∉ as := fun z => Nat.lt_irrefl _ (lt0 _ z)
  have I2 : Inv X pins σ H1 { s1 with heap := h', toks := tk } := I1.kept (t' := tk) kk
  have I3 : Inv X pins σ (upd H1 h1.objs.size (.lst (as.map V.ref))) { s1 with heap := h', toks := tk } :=
    I2.take (h' := h') (t' := tk) (fun b ob _ e => e) (I1.fpOk szS hn0) ⟨by rw [List.length_map, sizeLine_eq]; omega, as.map Value.ref, c, LiI.vals_refs as, by
      have hS : h'.get? h1.objs.size = _ := hS
      rw [hS, eacc]⟩
  have I4 := takeE I1 as 0 ws _ I3 nd laq fun j b w hj hw => by
    obtain ⟨t1, x, e1, e2⟩ := hG.pairs j b hj
    have hm := List.mem_of_getElem? hj
    obtain ⟨y, hy, rw1⟩ := LiI.paired_get (show Paired RelV ws its from rv) hw
    have ey : y = x := by
      have e1 : its.toArray[j]? = some x := e1
      rw [List.getElem?_toArray, hy] at e1
      exact Option.some.inj e1
    subst ey
    refine ⟨Nat.le_trans szS (Nat.le_of_lt (lt0 b hm)), by rw [upd_ne (fun z => hnot (by rw [← z]; exact hm))]; exact fresh b hm, fun H2 => ⟨by show 2 ≤ sizeLine; decide, [.int (j : Nat) t1, y], .cons ?_ (.cons rw1 .nil), ⟨_, e2, rfl, 0, rfl⟩⟩⟩
    rw [Nat.zero_add]
    exact ⟨t1, rfl⟩
  exact ⟨.ref h1.objs.size, _, I4, rfl, q _ as laq nd fresh hn0 hnot⟩
theorem se_listEnm (hc : X.calm = true) (hg : Gl X "list") (hm : X.mg "list" = none) (hg2 : Gl X "enumerate") (hm2 : X.mg "enumerate" = none) (ha : SE X cl β W e fe)
    (hs1 : starEach [Expr.Call (.Name "enumerate" p2) [e] [] p3] X.env = (false, eval (Expr.Call (.Name "enumerate" p2) [e] [] p3) X.env) :: starEach [] X.env := by rfl)
    (hs2 : starEach [e] X.env = (false, eval e X.env) :: starEach [] X.env := by rfl) : SE X cl β W (.Call (.Name "list" p) [.Call (.Name "enumerate" p2) [e] [] p3] [] p4) (fListEnm fe) :=
  (pe_listEnm hc hg hm hg2 hm2 ha hs1 hs2).mono fun σ H Q h => rdR.bind (rel := Rep (gx X cl)) h fun F P d ε1 v H1 F1 R1 P1 r1 en1 st1 po1 => by
    split at po1
    · rename_i o ds
      split at po1
      · rename_i hq
        obtain ⟨hz, h64⟩ := hq
        obtain ⟨a, ws, P2, e1, ea, rp⟩ := Rep.lstAt st1.top r1
        have c2 := Reps.cold ds ws P2 hz rp
        subst c2
        subst e1
        have wl : ws.length = ds.length := (Reps.length ds ws [] rp).symm
        refine ⟨a, ws, rfl, ea, by omega, fun l ts hl hn hts hlp hlt => ?_⟩
        have st2 : Stp F H P F1 H1 P1 := st1.drop (List.sublist_append_right R1 P1)
        have al1 : ∀ q ∈ P1, H1 q ≠ none := fun q hq => EnvR.alive _ _ _ _ en1 q hq
        obtain ⟨s3, same3⟩ := st2.andNew (o := .lst (ts.map V.ref)) al1 hlp
        have al3 : ∀ q ∈ l :: P1, upd H1 l (.lst (ts.map V.ref)) q ≠ none := fun q hq => by
          rcases List.mem_cons.mp hq with e | hq
          · rw [e, upd_same]; exact fun z => nomatch z
          · rw [same3 q hq]; exact al1 q hq
        obtain ⟨F2, s4, ex, rps, same4⟩ := putE_stp (g := gx X cl) ts 0 ds ws F1 _ s3 al3 hn hl (fun t ht => by
          rw [upd_ne (fun z => hlt (by rw [← z]; exact ht))]
          exact hts t ht) (Reps.move (Exh.rfl' F1) ds ws [] (fun q z => nomatch z) rp)
        refine po1 _ _ F2 [l] P1 ⟨l, ts.map V.ref, [], rfl, ?_, rfl, rps⟩ (EnvR.move ex _ _ _ _ (fun q hq => (same4 q (List.mem_cons_of_mem _ hq)).trans (same3 q hq)) en1) s4
        rw [same4 l List.mem_cons_self, upd_same]
      · exact po1.elim
    · exact po1.elim
end
end Nb
set_option maxHeartbeats 4000000
namespace K01
open PySem PySem.Spec PyProof.Rows L2 Nb
abbrev N_law_deck : List Str := ["_law_script", "_law_cells", "_law_mixed", "_law_cell"]
theorem sc_law_deck : FnScope N_law_deck ["_law_script"] (defScope st_law_deck) := ⟨rfl, rfl, rfl, by decide +kernel, rfl, by decide +kernel, by decide +kernel⟩
abbrev N_law_draw : List Str := ["_law_deck_here", "_law_many", "_law_turn", "_law_cell", "_law_mixed"]
theorem sc_law_draw : FnScope N_law_draw ["_law_deck_here", "_law_many"] (defScope st_law_draw) := ⟨rfl, rfl, rfl, by decide +kernel, rfl, by decide +kernel, by decide +kernel⟩
abbrev N_law_pick : List Str := ["_law_deck_here", "_law_some"]
theorem sc_law_pick : FnScope N_law_pick ["_law_deck_here", "_law_some"] (defScope st_law_pick) := ⟨rfl, rfl, rfl, by decide +kernel, rfl, by decide +kernel, by decide +kernel⟩
abbrev N_law_value : List Str := ["_law_deck_here", "_law_deep", "_law_inner", "_law_some", "_law_k"]
theorem sc_law_value : FnScope N_law_value ["_law_deck_here", "_law_deep"] (defScope st_law_value) := ⟨rfl, rfl, rfl, by decide +kernel, rfl, by decide +kernel, by decide +kernel⟩
abbrev N_law_by_name : List Str := ["_law_which", "_law_value_here"]
theorem sc_law_by_name : FnScope N_law_by_name ["_law_which", "_law_value_here"] (defScope st_law_by_name) := ⟨rfl, rfl, rfl, by decide +kernel, rfl, by decide +kernel, by decide +kernel⟩
abbrev N_law_made : List Str := ["_law_which", "_law_value_here"]
theorem sc_law_made : FnScope N_law_made ["_law_which", "_law_value_here"] (defScope st_law_made) := ⟨rfl, rfl, rfl, by decide +kernel, rfl, by decide +kernel, by decide +kernel⟩
abbrev N_law_kept : List Str := ["_law_which", "_law_error"]
theorem sc_law_kept : FnScope N_law_kept ["_law_which", "_law_error"] (defScope st_law_kept) := ⟨rfl, rfl, rfl, by decide +kernel, rfl, by decide +kernel, by decide +kernel⟩
abbrev N_law_classes : List Str := ["_law_error", "_law_some", "_law_usual"]
theorem sc_law_classes : FnScope N_law_classes ["_law_error"] (defScope st_law_classes) := ⟨rfl, rfl, rfl, by decide +kernel, rfl, by decide +kernel, by decide +kernel⟩
abbrev N_law_classes_due : List Str := ["_law_which", "_law_k"]
theorem sc_law_classes_due : FnScope N_law_classes_due ["_law_which"] (defScope st_law_classes_due) := ⟨rfl, rfl, rfl, by decide +kernel, rfl, by decide +kernel, by decide +kernel⟩
abbrev N_law_thrown : List Str := ["_law_which", "_law_value_here", "_law_found", "e"]
theorem sc_law_thrown : FnScope N_law_thrown ["_law_which", "_law_value_here"] (defScope st_law_thrown) := ⟨rfl, rfl, rfl, by decide +kernel, rfl, by decide +kernel, by decide +kernel⟩
abbrev N_law_right : List Str := ["_law_deck_here", "_law_which", "_law_value_here", "_law_other", "_law_before", "_law_due", "_law_far", "_law_error"]
theorem sc_law_right : FnScope N_law_right ["_law_deck_here", "_law_which"] (defScope st_law_right) := ⟨rfl, rfl, rfl, by decide +kernel, rfl, by decide +kernel, by decide +kernel⟩
abbrev N_law_base_right : List Str := ["_law_value_here", "_law_some", "_law_error"]
theorem sc_law_base_right : FnScope N_law_base_right ["_law_value_here"] (defScope st_law_base_right) := ⟨rfl, rfl, rfl, by decide +kernel, rfl, by decide +kernel, by decide +kernel⟩
abbrev N_law : List Str := ["_law_script", "_law_deck_here", "_law_which"]
theorem sc_law : FnScope N_law ["_law_script"] (defScope st_law) := ⟨rfl, rfl, rfl, by decide +kernel, rfl, by decide +kernel, by decide +kernel⟩
structure Runs where
  law_deck : List D → CRes
  law_draw : List D → CRes
  law_pick : List D → CRes
  law_value : List D → CRes
  law_by_name : List D → CRes
  law_made : List D → CRes
  law_kept : List D → CRes
  law_classes : List D → CRes
  law_classes_due : List D → CRes
  law_thrown : List D → CRes
  law_right : List D → CRes
  law_base_right : List D → CRes
  law : List D → CRes
structure Md (P : Program) (K : PySem.W.Frag) (mg : Str → Option Value) : Prop where
  n_ArithmeticError : mg "ArithmeticError" = none
  n_Exception : mg "Exception" = none
  n_LookupError : mg "LookupError" = none
  n_RuntimeError : mg "RuntimeError" = none
  n_TypeError : mg "TypeError" = none
  n_ValueError : mg "ValueError" = none
  n_dict : mg "dict" = none
  n_enumerate : mg "enumerate" = none
  n_int : mg "int" = none
  n_isinstance : mg "isinstance" = none
  n_len : mg "len" = none
  n_list : mg "list" = none
  n_range : mg "range" = none
  n_repr : mg "repr" = none
  n_tuple : mg "tuple" = none
  g_BadDocument : mg "BadDocument" = some (.ref (clK K 0))
  g_BadGrammar : mg "BadGrammar" = some (.ref (clK K 2))
  g_BadJudge : mg "BadJudge" = some (.ref (clK K 3))
  g_BadRows : mg "BadRows" = some (.ref (clK K 1))
  g_BadText : mg "BadText" = some (.ref (clK K 5))
  g_InvalidCommand : mg "InvalidCommand" = some (.ref (clK K 9))
  g_NamesError : mg "NamesError" = some (.ref (clK K 12))
  g_NoGrammar : mg "NoGrammar" = some (.ref (clK K 10))
  g_NoPlace : mg "NoPlace" = some (.ref (clK K 4))
  g_NoReader : mg "NoReader" = some (.ref (clK K 11))
  g_NoRing : mg "NoRing" = some (.ref (clK K 6))
  g_NothingToUndo : mg "NothingToUndo" = some (.ref (clK K 8))
  g_Refused : mg "Refused" = some (.ref (clK K 7))
  ca_BadDocument : CaU K (clK K 0) "part"
  ca_BadGrammar : CaU K (clK K 2) "part"
  ca_BadJudge : CaU K (clK K 3) "part"
  ca_BadRows : CaU K (clK K 1) "part"
  ca_BadText : CaU K (clK K 5) "place"
  ca_InvalidCommand : CaU K (clK K 9) "nofield"
  ca_NamesError : CaU K (clK K 12) "nofield"
  ca_NoGrammar : CaU K (clK K 10) "nofield"
  ca_NoPlace : CaU K (clK K 4) "place"
  ca_NoReader : CaU K (clK K 11) "nofield"
  ca_NoRing : CaU K (clK K 6) "guard"
  ca_NothingToUndo : CaU K (clK K 8) "nofield"
  ca_Refused : CaU K (clK K 7) "sign"
  e0_InvalidCommand : ExI0 P K (clK K 9) "self"
  e0_NoGrammar : ExI0 P K (clK K 10) "self"
  e0_NoReader : ExI0 P K (clK K 11) "self"
  e0_NothingToUndo : ExI0 P K (clK K 8) "self"
  e_BadDocument : ExI P K (clK K 0) "self" "part" "part"
  e_BadGrammar : ExI P K (clK K 2) "self" "part" "part"
  e_BadJudge : ExI P K (clK K 3) "self" "part" "part"
  e_BadRows : ExI P K (clK K 1) "self" "part" "part"
  e_BadText : ExI P K (clK K 5) "self" "place" "place"
  e_NoPlace : ExI P K (clK K 4) "self" "place" "place"
  e_NoRing : ExI P K (clK K 6) "self" "guard" "guard"
  e_Refused : ExI P K (clK K 7) "self" "sign" "sign"
  eb_NamesError : ExB K (clK K 12)
  kb_BadDocument : KwB K (clK K 0) "self" "part"
  kb_BadGrammar : KwB K (clK K 2) "self" "part"
  kb_BadJudge : KwB K (clK K 3) "self" "part"
  kb_BadRows : KwB K (clK K 1) "self" "part"
  kb_BadText : KwB K (clK K 5) "self" "place"
  kb_NoPlace : KwB K (clK K 4) "self" "place"
  kb_NoRing : KwB K (clK K 6) "self" "guard"
  kb_Refused : KwB K (clK K 7) "self" "sign"
  sys : SysOk K
  xb_BadDocument_NamesError : PySem.W.exmOne K (.ref (clK K 0)) (.ref (clK K 12)) = some true
  xb_BadGrammar_NamesError : PySem.W.exmOne K (.ref (clK K 2)) (.ref (clK K 12)) = some true
  xb_BadJudge_NamesError : PySem.W.exmOne K (.ref (clK K 3)) (.ref (clK K 12)) = some true
  xb_BadRows_NamesError : PySem.W.exmOne K (.ref (clK K 1)) (.ref (clK K 12)) = some true
  xb_BadText_NamesError : PySem.W.exmOne K (.ref (clK K 5)) (.ref (clK K 12)) = some true
  xb_InvalidCommand_NamesError : PySem.W.exmOne K (.ref (clK K 9)) (.ref (clK K 12)) = some true
  xb_NoGrammar_NamesError : PySem.W.exmOne K (.ref (clK K 10)) (.ref (clK K 12)) = some true
  xb_NoPlace_NamesError : PySem.W.exmOne K (.ref (clK K 4)) (.ref (clK K 12)) = some true
  xb_NoReader_NamesError : PySem.W.exmOne K (.ref (clK K 11)) (.ref (clK K 12)) = some true
  xb_NoRing_NamesError : PySem.W.exmOne K (.ref (clK K 6)) (.ref (clK K 12)) = some true
  xb_NothingToUndo_NamesError : PySem.W.exmOne K (.ref (clK K 8)) (.ref (clK K 12)) = some true
  xb_Refused_NamesError : PySem.W.exmOne K (.ref (clK K 7)) (.ref (clK K 12)) = some true
  is : IsOk K (clK K) NC TAB
structure Ok (P : Program) (w : World) (K : PySem.W.Frag) (mg : Str → Option Value) (base : Heap) (n : Nat) (r : Runs) : Prop where
  law_deck : CallD P w K mg base (clK K) false (3 * n + 2) "_law_deck" [] r.law_deck
  law_draw : CallD P w K mg base (clK K) false (3 * n + 2) "_law_draw" [true] r.law_draw
  law_pick : CallD P w K mg base (clK K) false (3 * n + 2) "_law_pick" [true] r.law_pick
  law_value : CallD P w K mg base (clK K) false (3 * n + 2) "_law_value" [true] r.law_value
  law_by_name : CallD P w K mg base (clK K) false (3 * n + 2) "_law_by_name" [] r.law_by_name
  law_made : CallD P w K mg base (clK K) false (3 * n + 2) "_law_made" [] r.law_made
  law_kept : CallD P w K mg base (clK K) false (3 * n + 2) "_law_kept" [] r.law_kept
  law_kept_W : CallW P w K mg base (clK K) (3 * n + 2) "_law_kept" [] r.law_kept
  law_classes : CallD P w K mg base (clK K) false (3 * n + 2) "_law_classes" [] r.law_classes
  law_classes_W : CallW P w K mg base (clK K) (3 * n + 2) "_law_classes" [] r.law_classes
  law_classes_due : CallD P w K mg base (clK K) false (3 * n + 2) "_law_classes_due" [] r.law_classes_due
  law_thrown : CallD P w K mg base (clK K) false (3 * n + 2) "_law_thrown" [] r.law_thrown
  law_right : CallD P w K mg base (clK K) true (3 * n + 2) "_law_right" [true] r.law_right
  law_base_right : CallD P w K mg base (clK K) false (3 * n + 2) "_law_base_right" [] r.law_base_right
def fr_law_deck_1 (r : Runs) : FS := (fAsg (fBin kMod (fFn kInt (aCons (fBin kAdd (fBin kAdd (fBin kMulS (fQ (qV 2)) (fC (.int 48271))) (fBin kMod (fFn kInt (aCons (fQ (qV 3)) aNil)) (fC (.int 2147483629)))) (fC (.int 42))) aNil)) (fC (.int 2147483587))) (gNm 2))
def fb_law_deck (r : Runs) : FS := (fSeq (fPar 1 2 (aCons (fFn kList (aCons (fSl (fQ (qV 0)) oNone (oSome (fC (.int 63)))) aNil)) (aCons (fC (.int 1363001)) aNil))) (fSeq (fFor (fIts (fVar 1)) (gNm 3) (fr_law_deck_1 r)) (fRt (fDic [.inr "cells", .inr "mixed", .inr "draws"] [(fRev (fVar 1)), (fQ (qV 2)), (fC (.int 0))]))))
def fb_law_draw (r : Runs) : FS := (fSeq (fSetI 0 sNil (qC (.str "draws")) (fBin kAdd (fQ (qIx (qV 0) (qC (.str "draws")))) (fC (.int 1)))) (fSeq (fPar 2 3 (aCons (fQ (qIx (qV 0) (qC (.str "draws")))) (aCons (fQ (qIx (qV 0) (qC (.str "mixed")))) aNil))) (fSeq (fIfS (asB (fNil true (qIx (qV 0) (qC (.str "cells"))))) (fSeq (fAsg (fMutP "list" kPop 0 (sKey sNil (qC (.str "cells"))) aNil) (gNm 3)) (fSeq (fIfS (asB (fBin kGe (fQ (qV 3)) (fBin kPow (fC (.int 10)) (fC (.int 18))))) (fSeq (fDo (fMutP "list" kApp 0 (sKey sNil (qC (.str "cells"))) (aCons (fBin kDiv (fQ (qV 3)) (fQ (qV 1))) aNil))) (fRt (fBin kMod (fFn kInt (aCons (fQ (qV 3)) aNil)) (fQ (qV 1))))) fNx) (fAsg (fBin kAdd (fQ (qV 3)) (fQ (qIx (qV 0) (qC (.str "mixed"))))) (gNm 3)))) fNx) (fSeq (fAsg (fBin kMod (fBin kMulS (fFn kInt (aCons (fBin kAdd (fBin kAdd (fBin kMod (fFn kInt (aCons (fQ (qV 3)) aNil)) (fC (.int 2147483629))) (fBin kMulS (fBin kMulS (fC (.int 60301)) (fQ (qV 2))) (fQ (qV 2)))) (fC (.int 8))) aNil)) (fC (.int 40692))) (fC (.int 2147483647))) (gNm 4)) (fSeq (fAsg (fBin kMod (fFn kInt (aCons (fBin kAdd (fBin kAdd (fBin kMulS (fQ (qV 4)) (fQ (qV 4))) (fBin kMulS (fC (.int 39373)) (fQ (qV 2)))) (fC (.int 14))) aNil)) (fC (.int 2147483587))) (gNm 4)) (fRt (fBin kMod (fBin kDiv (fBin kMod (fFn kInt (aCons (fBin kMulS (fQ (qV 4)) (fC (.int 69621))) aNil)) (fC (.int 2147483563))) (fC (.int 64))) (fQ (qV 1)))))))))
def fb_law_pick (r : Runs) : FS := (fRt (fBin kIx (fVar 1) (fCall [true] r.law_draw (aBor 0 (aCons (fQ (qLen (qV 1))) aNil)))))
def lc_law_value_1 (r : Runs) : Ev → List D → Res (List D) := stp1 fYes (fFz (fCall [true] r.law_value (aBor 0 (aCons (fBin kSub (fQ (qV 1)) (fC (.int 1))) aNil))))
def fb_law_value (r : Runs) : FS := (fSeq (fIfS (fAndT (asB (fBin kGt (fQ (qV 1)) (fC (.int 0)))) (asB (fBin (kEq false) (fCall [true] r.law_draw (aBor 0 (aCons (fC (.int 3)) aNil))) (fC (.int 0))))) (fSeq (fAsg (fLc [4] (fRng1 (aCons (fCall [true] r.law_draw (aBor 0 (aCons (fC (.int 3)) aNil))) aNil)) (gNm 4) (lc_law_value_1 r)) (gNm 2)) (fRt (fCall [true] r.law_pick (aBor 0 (aCons (fFz (fLst (aCons (fFn kTuple (aCons (fVar 2) aNil)) (aCons (fVar 2) (aCons (fDic [.inr "part"] [(fVar 2)]) (aCons (fFn kDictP (aCons (fListEnm (fVar 2)) aNil)) aNil)))))) aNil))))) fNx) (fSeq (fAsg (fLst (aCons (fC (.int 0)) (aCons (fC (.int 1)) (aCons (fNeg (fC (.int 1))) (aCons (fC (.bl true)) (aCons (fC (.bl false)) (aCons (fC .non) (aCons (fC (.str "")) (aCons (fC (.str "moves")) (aCons (fBin kMulS (fC (.str "a")) (fC (.int 300))) (aCons (fBin kPow (fC (.int 10)) (fC (.int 39))) (aCons (fTup aNil) (aCons (fLst aNil) (aCons fDicN (aCons (fTup (aCons (fC (.str "a")) (aCons (fC (.int 0)) (aCons (fC (.int 1)) aNil)))) (aCons (fC (.str "above")) aNil)))))))))))))))) (gNm 3)) (fRt (fCall [true] r.law_pick (aBor 0 (aCons (fVar 3) aNil))))))
def fb_law_by_name (r : Runs) : FS := (fSeq (fIfS (asB (fBin kLt (fQ (qV 0)) (fC (.int 2)))) (fRt (fIf (asB (fBin (kEq false) (fQ (qV 0)) (fC (.int 0)))) (fMkE 0 "part" (fQ (qV 1))) (fMkE 1 "part" (fQ (qV 1))))) fNx) (fSeq (fIfS (asB (fBin kLt (fQ (qV 0)) (fC (.int 4)))) (fRt (fIf (asB (fBin (kEq false) (fQ (qV 0)) (fC (.int 2)))) (fMkE 2 "part" (fQ (qV 1))) (fMkE 3 "part" (fQ (qV 1))))) fNx) (fSeq (fIfS (asB (fBin kLt (fQ (qV 0)) (fC (.int 6)))) (fRt (fIf (asB (fBin (kEq false) (fQ (qV 0)) (fC (.int 4)))) (fMkE 4 "place" (fQ (qV 1))) (fMkE 5 "place" (fQ (qV 1))))) fNx) (fSeq (fIfS (asB (fBin kLt (fQ (qV 0)) (fC (.int 8)))) (fRt (fIf (asB (fBin (kEq false) (fQ (qV 0)) (fC (.int 6)))) (fMkE 6 "guard" (fQ (qV 1))) (fMkE 7 "sign" (fQ (qV 1))))) fNx) (fRt (fBin kIx (fLst (aCons (fMkE0 8) (aCons (fMkE0 9) (aCons (fMkE0 10) (aCons (fMkE0 11) aNil))))) (fBin kSub (fQ (qV 0)) (fC (.int 8)))))))))
def fb_law_made (r : Runs) : FS := (fSeq (fIfS (asB (fBin kLt (fQ (qV 0)) (fC (.int 2)))) (fRt (fIf (asB (fBin (kEq false) (fQ (qV 0)) (fC (.int 0)))) (fMkE 0 "part" (fQ (qV 1))) (fMkE 1 "part" (fQ (qV 1))))) fNx) (fSeq (fIfS (asB (fBin kLt (fQ (qV 0)) (fC (.int 4)))) (fRt (fIf (asB (fBin (kEq false) (fQ (qV 0)) (fC (.int 2)))) (fMkE 2 "part" (fQ (qV 1))) (fMkE 3 "part" (fQ (qV 1))))) fNx) (fSeq (fIfS (asB (fBin kLt (fQ (qV 0)) (fC (.int 6)))) (fRt (fIf (asB (fBin (kEq false) (fQ (qV 0)) (fC (.int 4)))) (fMkE 4 "place" (fQ (qV 1))) (fMkE 5 "place" (fQ (qV 1))))) fNx) (fSeq (fIfS (asB (fBin kLt (fQ (qV 0)) (fC (.int 8)))) (fRt (fIf (asB (fBin (kEq false) (fQ (qV 0)) (fC (.int 6)))) (fMkE 6 "guard" (fQ (qV 1))) (fMkE 7 "sign" (fQ (qV 1))))) fNx) (fRt (fBin kIx (fLst (aCons (fMkE0 8) (aCons (fMkE0 9) (aCons (fMkE0 10) (aCons (fMkE0 11) aNil))))) (fBin kSub (fQ (qV 0)) (fC (.int 8)))))))))
def fb_law_kept (r : Runs) : FS := (fSeq (fIfS (asB (fBin kLt (fQ (qV 0)) (fC (.int 4)))) (fRt (fLst (aCons (fXe [0, 1, 2, 3] "part" (fQ (qV 1))) aNil))) fNx) (fSeq (fIfS (asB (fBin kLt (fQ (qV 0)) (fC (.int 6)))) (fRt (fLst (aCons (fXe [4, 5] "place" (fQ (qV 1))) aNil))) fNx) (fSeq (fIfS (asB (fBin (kEq false) (fQ (qV 0)) (fC (.int 6)))) (fRt (fLst (aCons (fXe [6] "guard" (fQ (qV 1))) aNil))) fNx) (fRt (fIf (asB (fBin (kEq false) (fQ (qV 0)) (fC (.int 7)))) (fLst (aCons (fXe [7] "sign" (fQ (qV 1))) aNil)) (fLst aNil))))))
def fb_law_classes (r : Runs) : FS := (fSeq (fAsg (fLst (aCons (fFn (kIsE [0, 1, 2, 3, 4, 5, 6, 7, 8, 9, 10, 11, 12] TAB) (aCons (fQ (qV 0)) (aCons (fC (.cls 0)) aNil))) (aCons (fFn (kIsE [0, 1, 2, 3, 4, 5, 6, 7, 8, 9, 10, 11, 12] TAB) (aCons (fQ (qV 0)) (aCons (fC (.cls 1)) aNil))) (aCons (fFn (kIsE [0, 1, 2, 3, 4, 5, 6, 7, 8, 9, 10, 11, 12] TAB) (aCons (fQ (qV 0)) (aCons (fC (.cls 2)) aNil))) aNil)))) (gNm 1)) (fSeq (fAsg (fBin kAdd (fVar 1) (fLst (aCons (fFn (kIsE [0, 1, 2, 3, 4, 5, 6, 7, 8, 9, 10, 11, 12] TAB) (aCons (fQ (qV 0)) (aCons (fC (.cls 3)) aNil))) (aCons (fFn (kIsE [0, 1, 2, 3, 4, 5, 6, 7, 8, 9, 10, 11, 12] TAB) (aCons (fQ (qV 0)) (aCons (fC (.cls 4)) aNil))) (aCons (fFn (kIsE [0, 1, 2, 3, 4, 5, 6, 7, 8, 9, 10, 11, 12] TAB) (aCons (fQ (qV 0)) (aCons (fC (.cls 5)) aNil))) aNil))))) (gNm 1)) (fSeq (fAsg (fBin kAdd (fVar 1) (fLst (aCons (fFn (kIsE [0, 1, 2, 3, 4, 5, 6, 7, 8, 9, 10, 11, 12] TAB) (aCons (fQ (qV 0)) (aCons (fC (.cls 6)) aNil))) (aCons (fFn (kIsE [0, 1, 2, 3, 4, 5, 6, 7, 8, 9, 10, 11, 12] TAB) (aCons (fQ (qV 0)) (aCons (fC (.cls 7)) aNil))) (aCons (fFn (kIsE [0, 1, 2, 3, 4, 5, 6, 7, 8, 9, 10, 11, 12] TAB) (aCons (fQ (qV 0)) (aCons (fC (.cls 8)) aNil))) aNil))))) (gNm 1)) (fSeq (fAsg (fBin kAdd (fVar 1) (fLst (aCons (fFn (kIsE [0, 1, 2, 3, 4, 5, 6, 7, 8, 9, 10, 11, 12] TAB) (aCons (fQ (qV 0)) (aCons (fC (.cls 9)) aNil))) (aCons (fFn (kIsE [0, 1, 2, 3, 4, 5, 6, 7, 8, 9, 10, 11, 12] TAB) (aCons (fQ (qV 0)) (aCons (fC (.cls 10)) aNil))) (aCons (fFn (kIsE [0, 1, 2, 3, 4, 5, 6, 7, 8, 9, 10, 11, 12] TAB) (aCons (fQ (qV 0)) (aCons (fC (.cls 11)) aNil))) aNil))))) (gNm 1)) (fSeq (fAsg (fBin kAdd (fVar 1) (fLst (aCons (fFn (kIsE [0, 1, 2, 3, 4, 5, 6, 7, 8, 9, 10, 11, 12] TAB) (aCons (fQ (qV 0)) (aCons (fC (.cls 12)) aNil))) (aCons (fFn (kIsE [0, 1, 2, 3, 4, 5, 6, 7, 8, 9, 10, 11, 12] TAB) (aCons (fQ (qV 0)) (aCons (fC (.ty "Exception")) aNil))) aNil)))) (gNm 1)) (fSeq (fAsg (fLst (aCons (fFn (kIsE [0, 1, 2, 3, 4, 5, 6, 7, 8, 9, 10, 11, 12] TAB) (aCons (fQ (qV 0)) (aCons (fC (.ty "ValueError")) aNil))) (aCons (fFn (kIsE [0, 1, 2, 3, 4, 5, 6, 7, 8, 9, 10, 11, 12] TAB) (aCons (fQ (qV 0)) (aCons (fC (.ty "TypeError")) aNil))) (aCons (fFn (kIsE [0, 1, 2, 3, 4, 5, 6, 7, 8, 9, 10, 11, 12] TAB) (aCons (fQ (qV 0)) (aCons (fC (.ty "LookupError")) aNil))) aNil)))) (gNm 2)) (fRt (fBin kAdd (fBin kAdd (fVar 1) (fVar 2)) (fLst (aCons (fFn (kIsE [0, 1, 2, 3, 4, 5, 6, 7, 8, 9, 10, 11, 12] TAB) (aCons (fQ (qV 0)) (aCons (fC (.ty "ArithmeticError")) aNil))) (aCons (fFn (kIsE [0, 1, 2, 3, 4, 5, 6, 7, 8, 9, 10, 11, 12] TAB) (aCons (fQ (qV 0)) (aCons (fC (.ty "RuntimeError")) aNil))) aNil)))))))))))
def lc_law_classes_due_1 (r : Runs) : Ev → List D → Res (List D) := stp1 fYes (fBin (kEq false) (fQ (qV 1)) (fQ (qV 0)))
def fb_law_classes_due (r : Runs) : FS := (fRt (fBin kAdd (fBin kAdd (fLc [1] (fRng1 (aCons (fC (.int 12)) aNil)) (gNm 1) (lc_law_classes_due_1 r)) (fLst (aCons (fC (.bl true)) (aCons (fC (.bl true)) aNil)))) (fBin kMulS (fLst (aCons (fC (.bl false)) aNil)) (fC (.int 5)))))
def fb_law_thrown (r : Runs) : FS := (fSeq (fAsg (fC .non) (gNm 2)) (fSeq (fTryN [0, 1, 2, 3, 4, 5, 6, 7, 8, 9, 10, 11] 3 (fSeq (fIfS (asB (fBin (kEq false) (fQ (qV 0)) (fC (.int 0)))) (fRaise 0 "part" (fQ (qV 1))) fNx) (fSeq (fIfS (asB (fBin (kEq false) (fQ (qV 0)) (fC (.int 1)))) (fRaise 1 "part" (fQ (qV 1))) fNx) (fSeq (fIfS (asB (fBin (kEq false) (fQ (qV 0)) (fC (.int 2)))) (fRaise 2 "part" (fQ (qV 1))) fNx) (fSeq (fIfS (asB (fBin (kEq false) (fQ (qV 0)) (fC (.int 3)))) (fRaise 3 "part" (fQ (qV 1))) fNx) (fSeq (fIfS (asB (fBin (kEq false) (fQ (qV 0)) (fC (.int 4)))) (fRaise 4 "place" (fQ (qV 1))) fNx) (fSeq (fIfS (asB (fBin (kEq false) (fQ (qV 0)) (fC (.int 5)))) (fRaise 5 "place" (fQ (qV 1))) fNx) (fSeq (fIfS (asB (fBin (kEq false) (fQ (qV 0)) (fC (.int 6)))) (fRaise 6 "guard" (fQ (qV 1))) fNx) (fSeq (fIfS (asB (fBin (kEq false) (fQ (qV 0)) (fC (.int 7)))) (fRaise 7 "sign" (fQ (qV 1))) fNx) (fSeq (fIfS (asB (fBin (kEq false) (fQ (qV 0)) (fC (.int 8)))) (fRaise0 8) fNx) (fSeq (fIfS (asB (fBin (kEq false) (fQ (qV 0)) (fC (.int 9)))) (fRaise0 9) fNx) (fSeq (fIfS (asB (fBin (kEq false) (fQ (qV 0)) (fC (.int 10)))) (fRaise0 10) fNx) (fRaise0 11)))))))))))) (fAsg (fLst (aCons (fCall [] r.law_kept (aCons (fQ (qV 0)) (aCons (fQ (qV 3)) aNil))) (aCons (fCall [] r.law_classes (aCons (fQ (qV 3)) aNil)) aNil))) (gNm 2))) (fRt (fMov 2))))
def fr_law_right_1 (r : Runs) : FS := (fIfS (fOrT (asB (fBin (kEq true) (fFn kReprX (aCons (fCall [] r.law_kept (aCons (fQ (qV 1)) (aCons (fQ (qV 7)) aNil))) aNil)) (fFn kReprX (aCons (fVar 5) aNil)))) (asB (fBin (kEq true) (fCall [] r.law_classes (aCons (fQ (qV 7)) aNil)) (fCall [] r.law_classes_due (aCons (fQ (qV 1)) aNil))))) (fRt (fC (.bl false))) fNx)
def fb_law_right (r : Runs) : FS := (fSeq (fPar 2 3 (aCons (fCall [true] r.law_value (aBor 0 (aCons (fC (.int 3)) aNil))) (aCons (fCall [true] r.law_value (aBor 0 (aCons (fC (.int 3)) aNil))) aNil))) (fSeq (fPar3 4 5 6 (aCons (fFn kReprX (aCons (fLst (aCons (fQ (qV 2)) (aCons (fQ (qV 3)) aNil))) aNil)) (aCons (fSl (fFz (fLst (aCons (fQ (qV 2)) aNil))) oNone (oSome (fFn kInt (aCons (fBin kLt (fQ (qV 1)) (fC (.int 8))) aNil)))) (aCons (fCall [] r.law_made (aCons (fQ (qV 1)) (aCons (fQ (qV 3)) aNil))) aNil)))) (fSeq (fFor (fIts (fTup (aCons (fCall [] r.law_made (aCons (fQ (qV 1)) (aCons (fQ (qV 2)) aNil))) (aCons (fCall [] r.law_by_name (aCons (fQ (qV 1)) (aCons (fQ (qV 2)) aNil))) aNil)))) (gNm 7) (fr_law_right_1 r)) (fSeq (fIfS (asB (fBin (kEq true) (fFn kReprX (aCons (fCall [] r.law_kept (aCons (fQ (qV 1)) (aCons (fQ (qV 6)) aNil))) aNil)) (fFn kReprX (aCons (fSl (fFz (fLst (aCons (fQ (qV 3)) aNil))) oNone (oSome (fFn kInt (aCons (fBin kLt (fQ (qV 1)) (fC (.int 8))) aNil)))) aNil)))) (fRt (fC (.bl false))) fNx) (fSeq (fIfS (asB (fBin (kEq true) (fFn kReprX (aCons (fCall [] r.law_thrown (aCons (fQ (qV 1)) (aCons (fQ (qV 2)) aNil))) aNil)) (fFn kReprX (aCons (fLst (aCons (fVar 5) (aCons (fCall [] r.law_classes_due (aCons (fQ (qV 1)) aNil)) aNil))) aNil)))) (fRt (fC (.bl false))) fNx) (fRt (fBin (kEq false) (fFn kReprX (aCons (fLst (aCons (fQ (qV 2)) (aCons (fQ (qV 3)) aNil))) aNil)) (fQ (qV 4)))))))))
def lc_law_base_right_1 (r : Runs) : Ev → List D → Res (List D) := stp1 (fOrT (fNotT (fTru (fFn (kIsE [0, 1, 2, 3, 4, 5, 6, 7, 8, 9, 10, 11, 12] TAB) (aCons (fQ (qV 2)) (aCons (fC (.ty "Exception")) aNil))))) (fTru (fFn (kIsE [0, 1, 2, 3, 4, 5, 6, 7, 8, 9, 10, 11, 12] TAB) (aCons (fQ (qV 2)) (aCons (fC (.cls 0)) aNil))))) (fQ (qV 2))
def fb_law_base_right (r : Runs) : FS := (fSeq (fAsg (fLst (aCons (fMkE0 12) (aCons (fMkB 12 (aCons (fQ (qV 0)) aNil)) (aCons (fMkB 12 (aCons (fQ (qV 0)) (aCons (fC (.int 1)) aNil))) (aCons (fMkB 12 (aCons (fC (.str "a")) (aCons (fLst (aCons (fQ (qV 0)) aNil)) (aCons fDicN aNil)))) aNil))))) (gNm 1)) (fRt (fBin (kEq false) (fLc [2] (fIts (fVar 1)) (gNm 2) (lc_law_base_right_1 r)) (fLst aNil))))
def lc_law_1 (r : Runs) : Ev → List D → Res (List D) := stp1 (fNotT (fTru (fCall [true] r.law_right (aBor 1 (aCons (fQ (qV 2)) aNil))))) (fQ (qV 2))
def fb_law (r : Runs) : FS := (fSeq (fAsg (fCall [] r.law_deck (aCons (fQ (qV 0)) aNil)) (gNm 1)) (fSeq (fIfS (fNotT (fTru (fCall [] r.law_base_right (aCons (fCall [true] r.law_value (aBor 1 (aCons (fC (.int 2)) aNil))) aNil)))) (fRt (fC (.bl false))) fNx) (fRt (fBin (kEq false) (fLc [2] (fRng1 (aCons (fC (.int 12)) aNil)) (gNm 2) (lc_law_1 r)) (fLst aNil)))))
end K01
namespace K01
open PySem PySem.Spec PyProof.Rows L2 Nb
section
variable {P : Program} {w : World} {K : PySem.W.Frag} {mg : Str → Option Value} {base : Heap} {n : Nat} {r : Runs} {f : Addr} {cdv : Value} {A : Around} {outer : List Env} {s : Shared} {H : Hp} {β : List (Option V)} {E : XK}
theorem rU1 {k : Nat} {A} (h : Room k A) : A.units + 1 < cLine := by have := h.units; omega
theorem rU101 {k : Nat} {A} (h : Room k A) : A.units + 101 < cLine := by have := h.un; omega
theorem der_law_deck (m : Md P K mg) (o : Ok P w K mg base n r) (hr : Room (3 * n + 4) (A.deeper (envOfC "_law_deck" (defScope st_law_deck) s.heap.objs.size f cdv))) :
    SSs (cxOf (CX P w) P w K mg base N_law_deck "_law_deck" (defScope st_law_deck) f cdv A outer s H E) (clK K) β (fun c d _ H' => E c d H') (defBody st_law_deck) (fb_law_deck r) := by
  exact (ss_cons (s_par 1 2 rfl sc_law_deck.nd (sa_cons (se_fnT call_list_of fk_list rfl m.n_list boot_list (sa_cons (se_sl (se_q (sq_var 0)) so_none (so_some se_int)) sa_nil)) (sa_cons se_int sa_nil))) (ss_cons (s_for (is := [3]) (passes_of rfl) rfl (si_its (se_var 1)) (sg_name 3 (by decide) sc_law_deck.nd) (ss_one (s_set 2 sc_law_deck.nd (se_bin op_mod o2_mod (se_fnT call_int1 fk_int rfl m.n_int boot_int (sa_cons (se_bin op_addX o2_add (se_bin op_addX o2_add (se_bin op_mulY o2_mulY (se_q (sq_var 2)) se_int) (se_bin op_mod o2_mod (se_fnT call_int1 fk_int rfl m.n_int boot_int (sa_cons (se_q (sq_var 3)) sa_nil)) se_int)) se_int) sa_nil)) se_int)))) (ss_one (s_ret (se_dic (sps_str (se_rev (se_var 1)) (sps_str (se_q (sq_var 2)) (sps_str se_int sps_nil))))))))
theorem der_law_draw (m : Md P K mg) (o : Ok P w K mg base n r) (hr : Room (3 * n + 4) (A.deeper (envOfC "_law_draw" (defScope st_law_draw) s.heap.objs.size f cdv))) :
    SSs (cxOf (CX P w) P w K mg base N_law_draw "_law_draw" (defScope st_law_draw) f cdv A outer s H E) (clK K) β (fun c d _ H' => E c d H') (defBody st_law_draw) (fb_law_draw r) := by
  have h64 := hr.units
  have h1 := rU1 hr
  exact (ss_cons (s_setI h1 (sp_var 0) sq_str (se_bin op_addX o2_add (se_q (sq_ix h1 (sq_var 0) sq_str)) se_int)) (ss_cons (s_par 2 3 rfl sc_law_draw.nd (sa_cons (se_q (sq_ix h1 (sq_var 0) sq_str)) (sa_cons (se_q (sq_ix h1 (sq_var 0) sq_str)) sa_nil))) (ss_cons (s_if (st_neNil h64 (sq_ix h1 (sq_var 0) sq_str)) (ss_cons (s_set 3 sc_law_draw.nd (se_popP (sp_key h1 (sp_var 0) sq_str))) (ss_cons (s_if (st_cmp op_geX o2_ord (se_q (sq_var 3)) (se_bin op_pow o2_pow se_int se_int) (by rfl)) (ss_cons (s_expr (se_appP (sp_key h1 (sp_var 0) sq_str) (sa_cons (se_bin op_fdiv o2_div (se_q (sq_var 3)) (se_q (sq_var 1))) sa_nil))) (ss_one (s_ret (se_bin op_mod o2_mod (se_fnT call_int1 fk_int rfl m.n_int boot_int (sa_cons (se_q (sq_var 3)) sa_nil)) (se_q (sq_var 1)))))) ss_nil) (ss_one (s_set 3 sc_law_draw.nd (se_bin op_addX o2_add (se_q (sq_var 3)) (se_q (sq_ix h1 (sq_var 0) sq_str))))))) ss_nil) (ss_cons (s_set 4 sc_law_draw.nd (se_bin op_mod o2_mod (se_bin op_mulY o2_mulY (se_fnT call_int1 fk_int rfl m.n_int boot_int (sa_cons (se_bin op_addX o2_add (se_bin op_addX o2_add (se_bin op_mod o2_mod (se_fnT call_int1 fk_int rfl m.n_int boot_int (sa_cons (se_q (sq_var 3)) sa_nil)) se_int) (se_bin op_mulY o2_mulY (se_bin op_mulY o2_mulY se_int (se_q (sq_var 2))) (se_q (sq_var 2)))) se_int) sa_nil)) se_int) se_int)) (ss_cons (s_set 4 sc_law_draw.nd (se_bin op_mod o2_mod (se_fnT call_int1 fk_int rfl m.n_int boot_int (sa_cons (se_bin op_addX o2_add (se_bin op_addX o2_add (se_bin op_mulY o2_mulY (se_q (sq_var 4)) (se_q (sq_var 4))) (se_bin op_mulY o2_mulY se_int (se_q (sq_var 2)))) se_int) sa_nil)) se_int)) (ss_one (s_ret (se_bin op_mod o2_mod (se_bin op_fdiv o2_div (se_bin op_mod o2_mod (se_fnT call_int1 fk_int rfl m.n_int boot_int (sa_cons (se_bin op_mulY o2_mulY (se_q (sq_var 4)) se_int) sa_nil)) se_int) se_int) (se_q (sq_var 1))))))))))
theorem der_law_pick (m : Md P K mg) (o : Ok P w K mg base n r) (hr : Room (3 * n + 4) (A.deeper (envOfC "_law_pick" (defScope st_law_pick) s.heap.objs.size f cdv))) :
    SSs (cxOf (CX P w) P w K mg base N_law_pick "_law_pick" (defScope st_law_pick) f cdv A outer s H E) (clK K) β (fun c d _ H' => E c d H') (defBody st_law_pick) (fb_law_pick r) := by
  have h2 := hr.mono (show 3 * n + 2 ≤ 3 * n + 4 by omega)
  have tk : Takes (cxOf (CX P w) P w K mg base N_law_pick "_law_pick" (defScope st_law_pick) f cdv A outer s H E) (fun c d _ H' => E c d H') := takes_of rfl rfl rfl rfl
  exact (ss_one (s_ret (se_ix (se_var 1) (se_call o.law_draw h2 (fun z => nomatch z) tk rfl (sa_bor 0 (sa_cons (se_q (sq_len (sq_var 1) rfl m.n_len)) sa_nil))))))
theorem der_law_value (m : Md P K mg) (o : Ok P w K mg base n r) (hr : Room (3 * n + 4) (A.deeper (envOfC "_law_value" (defScope st_law_value) s.heap.objs.size f cdv))) :
    SSs (cxOf (CX P w) P w K mg base N_law_value "_law_value" (defScope st_law_value) f cdv A outer s H E) (clK K) β (fun c d _ H' => E c d H') (defBody st_law_value) (fb_law_value r) := by
  have h2 := hr.mono (show 3 * n + 2 ≤ 3 * n + 4 by omega)
  have h64 := hr.units
  have tk : Takes (cxOf (CX P w) P w K mg base N_law_value "_law_value" (defScope st_law_value) f cdv A outer s H E) (fun c d _ H' => E c d H') := takes_of rfl rfl rfl rfl
  exact (ss_cons (s_if (st_bool (sw_and (st_cmp op_gtX o2_ord (se_q (sq_var 1)) se_int (by rfl)) (sw_and1 (st_cmp (op_eqP h64) o2_eq (se_call o.law_draw h2 (fun z => nomatch z) tk rfl (sa_bor 0 (sa_cons se_int sa_nil))) se_int (by rfl))))) (ss_cons (s_setLc 2 [("_law_k", 4)] rfl sc_law_value.nd (blkOk_by (by rfl)) (si_rng1 rfl m.n_range (sa_cons (se_call o.law_draw h2 (fun z => nomatch z) tk rfl (sa_bor 0 (sa_cons se_int sa_nil))) sa_nil)) (fun _ _ _ _ _ => (sg_name 4 (by decide) sc_law_value.nd)) (fun _ _ _ _ _ => sts_nil) (fun _ _ _ _ _ => (se_fz (se_call o.law_value h2 (fun z => nomatch z) takes_blk rfl (sa_bor 0 (sa_cons (se_bin op_sub o2_sub (se_q (sq_var 1)) se_int) sa_nil)))))) (ss_one (s_ret (se_call o.law_pick h2 (fun z => nomatch z) tk rfl (sa_bor 0 (sa_cons (se_fz (se_lst (sa_cons (se_fnT call_tuple_of fk_tuple rfl m.n_tuple boot_tuple (sa_cons (se_var 2) sa_nil)) (sa_cons (se_var 2) (sa_cons (se_dic (sps_str (se_var 2) sps_nil)) (sa_cons (se_fnT (call_dictPk rfl) fk_dictP rfl m.n_dict boot_dict (sa_cons (se_listEnm rfl rfl m.n_list rfl m.n_enumerate (se_var 2)) sa_nil)) sa_nil)))))) sa_nil)))))) ss_nil) (ss_cons (s_set 3 sc_law_value.nd (se_lst (sa_cons se_int (sa_cons se_int (sa_cons (se_neg se_int) (sa_cons se_bl (sa_cons se_bl (sa_cons se_non (sa_cons se_str (sa_cons se_str (sa_cons (se_bin op_mulY o2_mulY se_str se_int) (sa_cons (se_bin op_pow o2_pow se_int se_int) (sa_cons (se_tup sa_nil) (sa_cons (se_lst sa_nil) (sa_cons se_dicN (sa_cons (se_tup (sa_cons se_str (sa_cons se_int (sa_cons se_int sa_nil)))) (sa_cons se_str sa_nil))))))))))))))))) (ss_one (s_ret (se_call o.law_pick h2 (fun z => nomatch z) tk rfl (sa_bor 0 (sa_cons (se_var 3) sa_nil)))))))
theorem der_law_by_name (m : Md P K mg) (o : Ok P w K mg base n r) (hr : Room (3 * n + 4) (A.deeper (envOfC "_law_by_name" (defScope st_law_by_name) s.heap.objs.size f cdv))) :
    SSs (cxOf (CX P w) P w K mg base N_law_by_name "_law_by_name" (defScope st_law_by_name) f cdv A outer s H E) (clK K) β (fun c d _ H' => E c d H') (defBody st_law_by_name) (fb_law_by_name r) := by
  have h3 := hr.mono (show 3 * n + 2 + 1 ≤ 3 * n + 4 by omega)
  have h64 := hr.units
  exact (ss_cons (s_if (st_cmp op_ltX o2_ord (se_q (sq_var 0)) se_int (by rfl)) (ss_one (s_ret (se_if (st_cmp (op_eqP h64) o2_eq (se_q (sq_var 0)) se_int (by rfl)) (se_mkEK m.e_BadDocument m.kb_BadDocument h3 rfl m.g_BadDocument (se_q (sq_var 1))) (se_mkEK m.e_BadRows m.kb_BadRows h3 rfl m.g_BadRows (se_q (sq_var 1)))))) ss_nil) (ss_cons (s_if (st_cmp op_ltX o2_ord (se_q (sq_var 0)) se_int (by rfl)) (ss_one (s_ret (se_if (st_cmp (op_eqP h64) o2_eq (se_q (sq_var 0)) se_int (by rfl)) (se_mkEK m.e_BadGrammar m.kb_BadGrammar h3 rfl m.g_BadGrammar (se_q (sq_var 1))) (se_mkEK m.e_BadJudge m.kb_BadJudge h3 rfl m.g_BadJudge (se_q (sq_var 1)))))) ss_nil) (ss_cons (s_if (st_cmp op_ltX o2_ord (se_q (sq_var 0)) se_int (by rfl)) (ss_one (s_ret (se_if (st_cmp (op_eqP h64) o2_eq (se_q (sq_var 0)) se_int (by rfl)) (se_mkEK m.e_NoPlace m.kb_NoPlace h3 rfl m.g_NoPlace (se_q (sq_var 1))) (se_mkEK m.e_BadText m.kb_BadText h3 rfl m.g_BadText (se_q (sq_var 1)))))) ss_nil) (ss_cons (s_if (st_cmp op_ltX o2_ord (se_q (sq_var 0)) se_int (by rfl)) (ss_one (s_ret (se_if (st_cmp (op_eqP h64) o2_eq (se_q (sq_var 0)) se_int (by rfl)) (se_mkEK m.e_NoRing m.kb_NoRing h3 rfl m.g_NoRing (se_q (sq_var 1))) (se_mkEK m.e_Refused m.kb_Refused h3 rfl m.g_Refused (se_q (sq_var 1)))))) ss_nil) (ss_one (s_ret (se_ix (se_lst (sa_cons (se_mkE0 m.e0_NothingToUndo h3 rfl m.g_NothingToUndo) (sa_cons (se_mkE0 m.e0_InvalidCommand h3 rfl m.g_InvalidCommand) (sa_cons (se_mkE0 m.e0_NoGrammar h3 rfl m.g_NoGrammar) (sa_cons (se_mkE0 m.e0_NoReader h3 rfl m.g_NoReader) sa_nil))))) (se_bin op_sub o2_sub (se_q (sq_var 0)) se_int))))))))
theorem der_law_made (m : Md P K mg) (o : Ok P w K mg base n r) (hr : Room (3 * n + 4) (A.deeper (envOfC "_law_made" (defScope st_law_made) s.heap.objs.size f cdv))) :
    SSs (cxOf (CX P w) P w K mg base N_law_made "_law_made" (defScope st_law_made) f cdv A outer s H E) (clK K) β (fun c d _ H' => E c d H') (defBody st_law_made) (fb_law_made r) := by
  have h3 := hr.mono (show 3 * n + 2 + 1 ≤ 3 * n + 4 by omega)
  have h64 := hr.units
  exact (ss_cons (s_if (st_cmp op_ltX o2_ord (se_q (sq_var 0)) se_int (by rfl)) (ss_one (s_ret (se_if (st_cmp (op_eqP h64) o2_eq (se_q (sq_var 0)) se_int (by rfl)) (se_mkE m.e_BadDocument h3 rfl m.g_BadDocument (se_q (sq_var 1))) (se_mkE m.e_BadRows h3 rfl m.g_BadRows (se_q (sq_var 1)))))) ss_nil) (ss_cons (s_if (st_cmp op_ltX o2_ord (se_q (sq_var 0)) se_int (by rfl)) (ss_one (s_ret (se_if (st_cmp (op_eqP h64) o2_eq (se_q (sq_var 0)) se_int (by rfl)) (se_mkE m.e_BadGrammar h3 rfl m.g_BadGrammar (se_q (sq_var 1))) (se_mkE m.e_BadJudge h3 rfl m.g_BadJudge (se_q (sq_var 1)))))) ss_nil) (ss_cons (s_if (st_cmp op_ltX o2_ord (se_q (sq_var 0)) se_int (by rfl)) (ss_one (s_ret (se_if (st_cmp (op_eqP h64) o2_eq (se_q (sq_var 0)) se_int (by rfl)) (se_mkE m.e_NoPlace h3 rfl m.g_NoPlace (se_q (sq_var 1))) (se_mkE m.e_BadText h3 rfl m.g_BadText (se_q (sq_var 1)))))) ss_nil) (ss_cons (s_if (st_cmp op_ltX o2_ord (se_q (sq_var 0)) se_int (by rfl)) (ss_one (s_ret (se_if (st_cmp (op_eqP h64) o2_eq (se_q (sq_var 0)) se_int (by rfl)) (se_mkE m.e_NoRing h3 rfl m.g_NoRing (se_q (sq_var 1))) (se_mkE m.e_Refused h3 rfl m.g_Refused (se_q (sq_var 1)))))) ss_nil) (ss_one (s_ret (se_ix (se_lst (sa_cons (se_mkE0 m.e0_NothingToUndo h3 rfl m.g_NothingToUndo) (sa_cons (se_mkE0 m.e0_InvalidCommand h3 rfl m.g_InvalidCommand) (sa_cons (se_mkE0 m.e0_NoGrammar h3 rfl m.g_NoGrammar) (sa_cons (se_mkE0 m.e0_NoReader h3 rfl m.g_NoReader) sa_nil))))) (se_bin op_sub o2_sub (se_q (sq_var 0)) se_int))))))))
theorem der_law_kept (m : Md P K mg) (o : Ok P w K mg base n r) (hr : Room (3 * n + 4) (A.deeper (envOfC "_law_kept" (defScope st_law_kept) s.heap.objs.size f cdv))) :
    SSs (cxOf (CX P w) P w K mg base N_law_kept "_law_kept" (defScope st_law_kept) f cdv A outer s H E) (clK K) β (fun c d _ H' => E c d H') (defBody st_law_kept) (fb_law_kept r) := by
  have h64 := hr.units
  exact (ss_cons (s_if (st_cmp op_ltX o2_ord (se_q (sq_var 0)) se_int (by rfl)) (ss_one (s_ret (se_lst (sa_cons (se_xe (fun c hc => by simp only [List.mem_cons, List.not_mem_nil, or_false] at hc; rcases hc with rfl | rfl | rfl | rfl <;> first | exact ⟨m.ca_BadDocument.x, m.ca_BadDocument.no⟩ | exact ⟨m.ca_BadRows.x, m.ca_BadRows.no⟩ | exact ⟨m.ca_BadGrammar.x, m.ca_BadGrammar.no⟩ | exact ⟨m.ca_BadJudge.x, m.ca_BadJudge.no⟩) (se_q (sq_var 1))) sa_nil)))) ss_nil) (ss_cons (s_if (st_cmp op_ltX o2_ord (se_q (sq_var 0)) se_int (by rfl)) (ss_one (s_ret (se_lst (sa_cons (se_xe (fun c hc => by simp only [List.mem_cons, List.not_mem_nil, or_false] at hc; rcases hc with rfl | rfl <;> first | exact ⟨m.ca_NoPlace.x, m.ca_NoPlace.no⟩ | exact ⟨m.ca_BadText.x, m.ca_BadText.no⟩) (se_q (sq_var 1))) sa_nil)))) ss_nil) (ss_cons (s_if (st_cmp (op_eqP h64) o2_eq (se_q (sq_var 0)) se_int (by rfl)) (ss_one (s_ret (se_lst (sa_cons (se_xe (fun c hc => by simp only [List.mem_cons, List.not_mem_nil, or_false] at hc; rcases hc with rfl <;> first | exact ⟨m.ca_NoRing.x, m.ca_NoRing.no⟩) (se_q (sq_var 1))) sa_nil)))) ss_nil) (ss_one (s_ret (se_if (st_cmp (op_eqP h64) o2_eq (se_q (sq_var 0)) se_int (by rfl)) (se_lst (sa_cons (se_xe (fun c hc => by simp only [List.mem_cons, List.not_mem_nil, or_false] at hc; rcases hc with rfl <;> first | exact ⟨m.ca_Refused.x, m.ca_Refused.no⟩) (se_q (sq_var 1))) sa_nil)) (se_lst sa_nil)))))))
theorem derW_law_kept (m : Md P K mg) (o : Ok P w K mg base n r) (hr : L2H.RoomH (3 * n + 4) (A.deeper (envOfC "_law_kept" (defScope st_law_kept) s.heap.objs.size f cdv))) :
    SSs (cxW P w K mg base N_law_kept "_law_kept" (defScope st_law_kept) f cdv A outer s H E) (clK K) β (fun c d _ H' => E c d H') (defBody st_law_kept) (fb_law_kept r) := by
  have h64 : (A.deeper (envOfC "_law_kept" (defScope st_law_kept) s.heap.objs.size f cdv)).units + 64 < cLine := by have := hr.un; omega
  have h1 : (A.deeper (envOfC "_law_kept" (defScope st_law_kept) s.heap.objs.size f cdv)).units + 1 < cLine := by omega
  exact (ss_cons (s_if (st_cmp op_ltX o2_ord (se_q (sq_var 0)) se_int (by rfl)) (ss_one (s_ret (se_lst (sa_cons (se_xe (fun c hc => by simp only [List.mem_cons, List.not_mem_nil, or_false] at hc; rcases hc with rfl | rfl | rfl | rfl <;> first | exact ⟨m.ca_BadDocument.x, m.ca_BadDocument.no⟩ | exact ⟨m.ca_BadRows.x, m.ca_BadRows.no⟩ | exact ⟨m.ca_BadGrammar.x, m.ca_BadGrammar.no⟩ | exact ⟨m.ca_BadJudge.x, m.ca_BadJudge.no⟩) (se_q (sq_var 1))) sa_nil)))) ss_nil) (ss_cons (s_if (st_cmp op_ltX o2_ord (se_q (sq_var 0)) se_int (by rfl)) (ss_one (s_ret (se_lst (sa_cons (se_xe (fun c hc => by simp only [List.mem_cons, List.not_mem_nil, or_false] at hc; rcases hc with rfl | rfl <;> first | exact ⟨m.ca_NoPlace.x, m.ca_NoPlace.no⟩ | exact ⟨m.ca_BadText.x, m.ca_BadText.no⟩) (se_q (sq_var 1))) sa_nil)))) ss_nil) (ss_cons (s_if (st_cmp (op_eqP h64) o2_eq (se_q (sq_var 0)) se_int (by rfl)) (ss_one (s_ret (se_lst (sa_cons (se_xe (fun c hc => by simp only [List.mem_cons, List.not_mem_nil, or_false] at hc; rcases hc with rfl <;> first | exact ⟨m.ca_NoRing.x, m.ca_NoRing.no⟩) (se_q (sq_var 1))) sa_nil)))) ss_nil) (ss_one (s_ret (se_if (st_cmp (op_eqP h64) o2_eq (se_q (sq_var 0)) se_int (by rfl)) (se_lst (sa_cons (se_xe (fun c hc => by simp only [List.mem_cons, List.not_mem_nil, or_false] at hc; rcases hc with rfl <;> first | exact ⟨m.ca_Refused.x, m.ca_Refused.no⟩) (se_q (sq_var 1))) sa_nil)) (se_lst sa_nil)))))))
theorem der_law_classes (m : Md P K mg) (o : Ok P w K mg base n r) (hr : Room (3 * n + 4) (A.deeper (envOfC "_law_classes" (defScope st_law_classes) s.heap.objs.size f cdv))) :
    SSs (cxOf (CX P w) P w K mg base N_law_classes "_law_classes" (defScope st_law_classes) f cdv A outer s H E) (clK K) β (fun c d _ H' => E c d H') (defBody st_law_classes) (fb_law_classes r) := by
  exact (ss_cons (s_set 1 sc_law_classes.nd (se_lst (sa_cons (se_fnB call_isK (fk_isE m.is (fun c hc => by simp only [List.mem_cons, List.not_mem_nil, or_false] at hc; rcases hc with rfl | rfl | rfl | rfl | rfl | rfl | rfl | rfl | rfl | rfl | rfl | rfl | rfl <;> first | exact m.ca_BadDocument.c | exact m.ca_BadRows.c | exact m.ca_BadGrammar.c | exact m.ca_BadJudge.c | exact m.ca_NoPlace.c | exact m.ca_BadText.c | exact m.ca_NoRing.c | exact m.ca_Refused.c | exact m.ca_NothingToUndo.c | exact m.ca_InvalidCommand.c | exact m.ca_NoGrammar.c | exact m.ca_NoReader.c | exact m.ca_NamesError.c)) rfl m.n_isinstance boot_isinstance (sa_cons (se_q (sq_var 0)) (sa_cons (se_gcls (by rfl) m.g_BadDocument) sa_nil))) (sa_cons (se_fnB call_isK (fk_isE m.is (fun c hc => by simp only [List.mem_cons, List.not_mem_nil, or_false] at hc; rcases hc with rfl | rfl | rfl | rfl | rfl | rfl | rfl | rfl | rfl | rfl | rfl | rfl | rfl <;> first | exact m.ca_BadDocument.c | exact m.ca_BadRows.c | exact m.ca_BadGrammar.c | exact m.ca_BadJudge.c | exact m.ca_NoPlace.c | exact m.ca_BadText.c | exact m.ca_NoRing.c | exact m.ca_Refused.c | exact m.ca_NothingToUndo.c | exact m.ca_InvalidCommand.c | exact m.ca_NoGrammar.c | exact m.ca_NoReader.c | exact m.ca_NamesError.c)) rfl m.n_isinstance boot_isinstance (sa_cons (se_q (sq_var 0)) (sa_cons (se_gcls (by rfl) m.g_BadRows) sa_nil))) (sa_cons (se_fnB call_isK (fk_isE m.is (fun c hc => by simp only [List.mem_cons, List.not_mem_nil, or_false] at hc; rcases hc with rfl | rfl | rfl | rfl | rfl | rfl | rfl | rfl | rfl | rfl | rfl | rfl | rfl <;> first | exact m.ca_BadDocument.c | exact m.ca_BadRows.c | exact m.ca_BadGrammar.c | exact m.ca_BadJudge.c | exact m.ca_NoPlace.c | exact m.ca_BadText.c | exact m.ca_NoRing.c | exact m.ca_Refused.c | exact m.ca_NothingToUndo.c | exact m.ca_InvalidCommand.c | exact m.ca_NoGrammar.c | exact m.ca_NoReader.c | exact m.ca_NamesError.c)) rfl m.n_isinstance boot_isinstance (sa_cons (se_q (sq_var 0)) (sa_cons (se_gcls (by rfl) m.g_BadGrammar) sa_nil))) sa_nil))))) (ss_cons (s_set 1 sc_law_classes.nd (se_bin op_addX o2_add (se_var 1) (se_lst (sa_cons (se_fnB call_isK (fk_isE m.is (fun c hc => by simp only [List.mem_cons, List.not_mem_nil, or_false] at hc; rcases hc with rfl | rfl | rfl | rfl | rfl | rfl | rfl | rfl | rfl | rfl | rfl | rfl | rfl <;> first | exact m.ca_BadDocument.c | exact m.ca_BadRows.c | exact m.ca_BadGrammar.c | exact m.ca_BadJudge.c | exact m.ca_NoPlace.c | exact m.ca_BadText.c | exact m.ca_NoRing.c | exact m.ca_Refused.c | exact m.ca_NothingToUndo.c | exact m.ca_InvalidCommand.c | exact m.ca_NoGrammar.c | exact m.ca_NoReader.c | exact m.ca_NamesError.c)) rfl m.n_isinstance boot_isinstance (sa_cons (se_q (sq_var 0)) (sa_cons (se_gcls (by rfl) m.g_BadJudge) sa_nil))) (sa_cons (se_fnB call_isK (fk_isE m.is (fun c hc => by simp only [List.mem_cons, List.not_mem_nil, or_false] at hc; rcases hc with rfl | rfl | rfl | rfl | rfl | rfl | rfl | rfl | rfl | rfl | rfl | rfl | rfl <;> first | exact m.ca_BadDocument.c | exact m.ca_BadRows.c | exact m.ca_BadGrammar.c | exact m.ca_BadJudge.c | exact m.ca_NoPlace.c | exact m.ca_BadText.c | exact m.ca_NoRing.c | exact m.ca_Refused.c | exact m.ca_NothingToUndo.c | exact m.ca_InvalidCommand.c | exact m.ca_NoGrammar.c | exact m.ca_NoReader.c | exact m.ca_NamesError.c)) rfl m.n_isinstance boot_isinstance (sa_cons (se_q (sq_var 0)) (sa_cons (se_gcls (by rfl) m.g_NoPlace) sa_nil))) (sa_cons (se_fnB call_isK (fk_isE m.is (fun c hc => by simp only [List.mem_cons, List.not_mem_nil, or_false] at hc; rcases hc with rfl | rfl | rfl | rfl | rfl | rfl | rfl | rfl | rfl | rfl | rfl | rfl | rfl <;> first | exact m.ca_BadDocument.c | exact m.ca_BadRows.c | exact m.ca_BadGrammar.c | exact m.ca_BadJudge.c | exact m.ca_NoPlace.c | exact m.ca_BadText.c | exact m.ca_NoRing.c | exact m.ca_Refused.c | exact m.ca_NothingToUndo.c | exact m.ca_InvalidCommand.c | exact m.ca_NoGrammar.c | exact m.ca_NoReader.c | exact m.ca_NamesError.c)) rfl m.n_isinstance boot_isinstance (sa_cons (se_q (sq_var 0)) (sa_cons (se_gcls (by rfl) m.g_BadText) sa_nil))) sa_nil)))))) (ss_cons (s_set 1 sc_law_classes.nd (se_bin op_addX o2_add (se_var 1) (se_lst (sa_cons (se_fnB call_isK (fk_isE m.is (fun c hc => by simp only [List.mem_cons, List.not_mem_nil, or_false] at hc; rcases hc with rfl | rfl | rfl | rfl | rfl | rfl | rfl | rfl | rfl | rfl | rfl | rfl | rfl <;> first | exact m.ca_BadDocument.c | exact m.ca_BadRows.c | exact m.ca_BadGrammar.c | exact m.ca_BadJudge.c | exact m.ca_NoPlace.c | exact m.ca_BadText.c | exact m.ca_NoRing.c | exact m.ca_Refused.c | exact m.ca_NothingToUndo.c | exact m.ca_InvalidCommand.c | exact m.ca_NoGrammar.c | exact m.ca_NoReader.c | exact m.ca_NamesError.c)) rfl m.n_isinstance boot_isinstance (sa_cons (se_q (sq_var 0)) (sa_cons (se_gcls (by rfl) m.g_NoRing) sa_nil))) (sa_cons (se_fnB call_isK (fk_isE m.is (fun c hc => by simp only [List.mem_cons, List.not_mem_nil, or_false] at hc; rcases hc with rfl | rfl | rfl | rfl | rfl | rfl | rfl | rfl | rfl | rfl | rfl | rfl | rfl <;> first | exact m.ca_BadDocument.c | exact m.ca_BadRows.c | exact m.ca_BadGrammar.c | exact m.ca_BadJudge.c | exact m.ca_NoPlace.c | exact m.ca_BadText.c | exact m.ca_NoRing.c | exact m.ca_Refused.c | exact m.ca_NothingToUndo.c | exact m.ca_InvalidCommand.c | exact m.ca_NoGrammar.c | exact m.ca_NoReader.c | exact m.ca_NamesError.c)) rfl m.n_isinstance boot_isinstance (sa_cons (se_q (sq_var 0)) (sa_cons (se_gcls (by rfl) m.g_Refused) sa_nil))) (sa_cons (se_fnB call_isK (fk_isE m.is (fun c hc => by simp only [List.mem_cons, List.not_mem_nil, or_false] at hc; rcases hc with rfl | rfl | rfl | rfl | rfl | rfl | rfl | rfl | rfl | rfl | rfl | rfl | rfl <;> first | exact m.ca_BadDocument.c | exact m.ca_BadRows.c | exact m.ca_BadGrammar.c | exact m.ca_BadJudge.c | exact m.ca_NoPlace.c | exact m.ca_BadText.c | exact m.ca_NoRing.c | exact m.ca_Refused.c | exact m.ca_NothingToUndo.c | exact m.ca_InvalidCommand.c | exact m.ca_NoGrammar.c | exact m.ca_NoReader.c | exact m.ca_NamesError.c)) rfl m.n_isinstance boot_isinstance (sa_cons (se_q (sq_var 0)) (sa_cons (se_gcls (by rfl) m.g_NothingToUndo) sa_nil))) sa_nil)))))) (ss_cons (s_set 1 sc_law_classes.nd (se_bin op_addX o2_add (se_var 1) (se_lst (sa_cons (se_fnB call_isK (fk_isE m.is (fun c hc => by simp only [List.mem_cons, List.not_mem_nil, or_false] at hc; rcases hc with rfl | rfl | rfl | rfl | rfl | rfl | rfl | rfl | rfl | rfl | rfl | rfl | rfl <;> first | exact m.ca_BadDocument.c | exact m.ca_BadRows.c | exact m.ca_BadGrammar.c | exact m.ca_BadJudge.c | exact m.ca_NoPlace.c | exact m.ca_BadText.c | exact m.ca_NoRing.c | exact m.ca_Refused.c | exact m.ca_NothingToUndo.c | exact m.ca_InvalidCommand.c | exact m.ca_NoGrammar.c | exact m.ca_NoReader.c | exact m.ca_NamesError.c)) rfl m.n_isinstance boot_isinstance (sa_cons (se_q (sq_var 0)) (sa_cons (se_gcls (by rfl) m.g_InvalidCommand) sa_nil))) (sa_cons (se_fnB call_isK (fk_isE m.is (fun c hc => by simp only [List.mem_cons, List.not_mem_nil, or_false] at hc; rcases hc with rfl | rfl | rfl | rfl | rfl | rfl | rfl | rfl | rfl | rfl | rfl | rfl | rfl <;> first | exact m.ca_BadDocument.c | exact m.ca_BadRows.c | exact m.ca_BadGrammar.c | exact m.ca_BadJudge.c | exact m.ca_NoPlace.c | exact m.ca_BadText.c | exact m.ca_NoRing.c | exact m.ca_Refused.c | exact m.ca_NothingToUndo.c | exact m.ca_InvalidCommand.c | exact m.ca_NoGrammar.c | exact m.ca_NoReader.c | exact m.ca_NamesError.c)) rfl m.n_isinstance boot_isinstance (sa_cons (se_q (sq_var 0)) (sa_cons (se_gcls (by rfl) m.g_NoGrammar) sa_nil))) (sa_cons (se_fnB call_isK (fk_isE m.is (fun c hc => by simp only [List.mem_cons, List.not_mem_nil, or_false] at hc; rcases hc with rfl | rfl | rfl | rfl | rfl | rfl | rfl | rfl | rfl | rfl | rfl | rfl | rfl <;> first | exact m.ca_BadDocument.c | exact m.ca_BadRows.c | exact m.ca_BadGrammar.c | exact m.ca_BadJudge.c | exact m.ca_NoPlace.c | exact m.ca_BadText.c | exact m.ca_NoRing.c | exact m.ca_Refused.c | exact m.ca_NothingToUndo.c | exact m.ca_InvalidCommand.c | exact m.ca_NoGrammar.c | exact m.ca_NoReader.c | exact m.ca_NamesError.c)) rfl m.n_isinstance boot_isinstance (sa_cons (se_q (sq_var 0)) (sa_cons (se_gcls (by rfl) m.g_NoReader) sa_nil))) sa_nil)))))) (ss_cons (s_set 1 sc_law_classes.nd (se_bin op_addX o2_add (se_var 1) (se_lst (sa_cons (se_fnB call_isK (fk_isE m.is (fun c hc => by simp only [List.mem_cons, List.not_mem_nil, or_false] at hc; rcases hc with rfl | rfl | rfl | rfl | rfl | rfl | rfl | rfl | rfl | rfl | rfl | rfl | rfl <;> first | exact m.ca_BadDocument.c | exact m.ca_BadRows.c | exact m.ca_BadGrammar.c | exact m.ca_BadJudge.c | exact m.ca_NoPlace.c | exact m.ca_BadText.c | exact m.ca_NoRing.c | exact m.ca_Refused.c | exact m.ca_NothingToUndo.c | exact m.ca_InvalidCommand.c | exact m.ca_NoGrammar.c | exact m.ca_NoReader.c | exact m.ca_NamesError.c)) rfl m.n_isinstance boot_isinstance (sa_cons (se_q (sq_var 0)) (sa_cons (se_gcls (by rfl) m.g_NamesError) sa_nil))) (sa_cons (se_fnB call_isK (fk_isE m.is (fun c hc => by simp only [List.mem_cons, List.not_mem_nil, or_false] at hc; rcases hc with rfl | rfl | rfl | rfl | rfl | rfl | rfl | rfl | rfl | rfl | rfl | rfl | rfl <;> first | exact m.ca_BadDocument.c | exact m.ca_BadRows.c | exact m.ca_BadGrammar.c | exact m.ca_BadJudge.c | exact m.ca_NoPlace.c | exact m.ca_BadText.c | exact m.ca_NoRing.c | exact m.ca_Refused.c | exact m.ca_NothingToUndo.c | exact m.ca_InvalidCommand.c | exact m.ca_NoGrammar.c | exact m.ca_NoReader.c | exact m.ca_NamesError.c)) rfl m.n_isinstance boot_isinstance (sa_cons (se_q (sq_var 0)) (sa_cons (se_bty rfl m.n_Exception boot_Exception) sa_nil))) sa_nil))))) (ss_cons (s_set 2 sc_law_classes.nd (se_lst (sa_cons (se_fnB call_isK (fk_isE m.is (fun c hc => by simp only [List.mem_cons, List.not_mem_nil, or_false] at hc; rcases hc with rfl | rfl | rfl | rfl | rfl | rfl | rfl | rfl | rfl | rfl | rfl | rfl | rfl <;> first | exact m.ca_BadDocument.c | exact m.ca_BadRows.c | exact m.ca_BadGrammar.c | exact m.ca_BadJudge.c | exact m.ca_NoPlace.c | exact m.ca_BadText.c | exact m.ca_NoRing.c | exact m.ca_Refused.c | exact m.ca_NothingToUndo.c | exact m.ca_InvalidCommand.c | exact m.ca_NoGrammar.c | exact m.ca_NoReader.c | exact m.ca_NamesError.c)) rfl m.n_isinstance boot_isinstance (sa_cons (se_q (sq_var 0)) (sa_cons (se_bty rfl m.n_ValueError boot_ValueError) sa_nil))) (sa_cons (se_fnB call_isK (fk_isE m.is (fun c hc => by simp only [List.mem_cons, List.not_mem_nil, or_false] at hc; rcases hc with rfl | rfl | rfl | rfl | rfl | rfl | rfl | rfl | rfl | rfl | rfl | rfl | rfl <;> first | exact m.ca_BadDocument.c | exact m.ca_BadRows.c | exact m.ca_BadGrammar.c | exact m.ca_BadJudge.c | exact m.ca_NoPlace.c | exact m.ca_BadText.c | exact m.ca_NoRing.c | exact m.ca_Refused.c | exact m.ca_NothingToUndo.c | exact m.ca_InvalidCommand.c | exact m.ca_NoGrammar.c | exact m.ca_NoReader.c | exact m.ca_NamesError.c)) rfl m.n_isinstance boot_isinstance (sa_cons (se_q (sq_var 0)) (sa_cons (se_bty rfl m.n_TypeError boot_TypeError) sa_nil))) (sa_cons (se_fnB call_isK (fk_isE m.is (fun c hc => by simp only [List.mem_cons, List.not_mem_nil, or_false] at hc; rcases hc with rfl | rfl | rfl | rfl | rfl | rfl | rfl | rfl | rfl | rfl | rfl | rfl | rfl <;> first | exact m.ca_BadDocument.c | exact m.ca_BadRows.c | exact m.ca_BadGrammar.c | exact m.ca_BadJudge.c | exact m.ca_NoPlace.c | exact m.ca_BadText.c | exact m.ca_NoRing.c | exact m.ca_Refused.c | exact m.ca_NothingToUndo.c | exact m.ca_InvalidCommand.c | exact m.ca_NoGrammar.c | exact m.ca_NoReader.c | exact m.ca_NamesError.c)) rfl m.n_isinstance boot_isinstance (sa_cons (se_q (sq_var 0)) (sa_cons (se_bty rfl m.n_LookupError boot_LookupError) sa_nil))) sa_nil))))) (ss_one (s_ret (se_bin op_addX o2_add (se_bin op_addX o2_add (se_var 1) (se_var 2)) (se_lst (sa_cons (se_fnB call_isK (fk_isE m.is (fun c hc => by simp only [List.mem_cons, List.not_mem_nil, or_false] at hc; rcases hc with rfl | rfl | rfl | rfl | rfl | rfl | rfl | rfl | rfl | rfl | rfl | rfl | rfl <;> first | exact m.ca_BadDocument.c | exact m.ca_BadRows.c | exact m.ca_BadGrammar.c | exact m.ca_BadJudge.c | exact m.ca_NoPlace.c | exact m.ca_BadText.c | exact m.ca_NoRing.c | exact m.ca_Refused.c | exact m.ca_NothingToUndo.c | exact m.ca_InvalidCommand.c | exact m.ca_NoGrammar.c | exact m.ca_NoReader.c | exact m.ca_NamesError.c)) rfl m.n_isinstance boot_isinstance (sa_cons (se_q (sq_var 0)) (sa_cons (se_bty rfl m.n_ArithmeticError boot_ArithmeticError) sa_nil))) (sa_cons (se_fnB call_isK (fk_isE m.is (fun c hc => by simp only [List.mem_cons, List.not_mem_nil, or_false] at hc; rcases hc with rfl | rfl | rfl | rfl | rfl | rfl | rfl | rfl | rfl | rfl | rfl | rfl | rfl <;> first | exact m.ca_BadDocument.c | exact m.ca_BadRows.c | exact m.ca_BadGrammar.c | exact m.ca_BadJudge.c | exact m.ca_NoPlace.c | exact m.ca_BadText.c | exact m.ca_NoRing.c | exact m.ca_Refused.c | exact m.ca_NothingToUndo.c | exact m.ca_InvalidCommand.c | exact m.ca_NoGrammar.c | exact m.ca_NoReader.c | exact m.ca_NamesError.c)) rfl m.n_isinstance boot_isinstance (sa_cons (se_q (sq_var 0)) (sa_cons (se_bty rfl m.n_RuntimeError boot_RuntimeError) sa_nil))) sa_nil))))))))))))
theorem derW_law_classes (m : Md P K mg) (o : Ok P w K mg base n r) (hr : L2H.RoomH (3 * n + 4) (A.deeper (envOfC "_law_classes" (defScope st_law_classes) s.heap.objs.size f cdv))) :
    SSs (cxW P w K mg base N_law_classes "_law_classes" (defScope st_law_classes) f cdv A outer s H E) (clK K) β (fun c d _ H' => E c d H') (defBody st_law_classes) (fb_law_classes r) := by
  have h64 : (A.deeper (envOfC "_law_classes" (defScope st_law_classes) s.heap.objs.size f cdv)).units + 64 < cLine := by have := hr.un; omega
  have h1 : (A.deeper (envOfC "_law_classes" (defScope st_law_classes) s.heap.objs.size f cdv)).units + 1 < cLine := by omega
  exact (ss_cons (s_set 1 sc_law_classes.nd (se_lst (sa_cons (se_fnB call_isK (fk_isE m.is (fun c hc => by simp only [List.mem_cons, List.not_mem_nil, or_false] at hc; rcases hc with rfl | rfl | rfl | rfl | rfl | rfl | rfl | rfl | rfl | rfl | rfl | rfl | rfl <;> first | exact m.ca_BadDocument.c | exact m.ca_BadRows.c | exact m.ca_BadGrammar.c | exact m.ca_BadJudge.c | exact m.ca_NoPlace.c | exact m.ca_BadText.c | exact m.ca_NoRing.c | exact m.ca_Refused.c | exact m.ca_NothingToUndo.c | exact m.ca_InvalidCommand.c | exact m.ca_NoGrammar.c | exact m.ca_NoReader.c | exact m.ca_NamesError.c)) rfl m.n_isinstance boot_isinstance (sa_cons (se_q (sq_var 0)) (sa_cons (se_gcls (by rfl) m.g_BadDocument) sa_nil))) (sa_cons (se_fnB call_isK (fk_isE m.is (fun c hc => by simp only [List.mem_cons, List.not_mem_nil, or_false] at hc; rcases hc with rfl | rfl | rfl | rfl | rfl | rfl | rfl | rfl | rfl | rfl | rfl | rfl | rfl <;> first | exact m.ca_BadDocument.c | exact m.ca_BadRows.c | exact m.ca_BadGrammar.c | exact m.ca_BadJudge.c | exact m.ca_NoPlace.c | exact m.ca_BadText.c | exact m.ca_NoRing.c | exact m.ca_Refused.c | exact m.ca_NothingToUndo.c | exact m.ca_InvalidCommand.c | exact m.ca_NoGrammar.c | exact m.ca_NoReader.c | exact m.ca_NamesError.c)) rfl m.n_isinstance boot_isinstance (sa_cons (se_q (sq_var 0)) (sa_cons (se_gcls (by rfl) m.g_BadRows) sa_nil))) (sa_cons (se_fnB call_isK (fk_isE m.is (fun c hc => by simp only [List.mem_cons, List.not_mem_nil, or_false] at hc; rcases hc with rfl | rfl | rfl | rfl | rfl | rfl | rfl | rfl | rfl | rfl | rfl | rfl | rfl <;> first | exact m.ca_BadDocument.c | exact m.ca_BadRows.c | exact m.ca_BadGrammar.c | exact m.ca_BadJudge.c | exact m.ca_NoPlace.c | exact m.ca_BadText.c | exact m.ca_NoRing.c | exact m.ca_Refused.c | exact m.ca_NothingToUndo.c | exact m.ca_InvalidCommand.c | exact m.ca_NoGrammar.c | exact m.ca_NoReader.c | exact m.ca_NamesError.c)) rfl m.n_isinstance boot_isinstance (sa_cons (se_q (sq_var 0)) (sa_cons (se_gcls (by rfl) m.g_BadGrammar) sa_nil))) sa_nil))))) (ss_cons (s_set 1 sc_law_classes.nd (se_bin op_addX o2_add (se_var 1) (se_lst (sa_cons (se_fnB call_isK (fk_isE m.is (fun c hc => by simp only [List.mem_cons, List.not_mem_nil, or_false] at hc; rcases hc with rfl | rfl | rfl | rfl | rfl | rfl | rfl | rfl | rfl | rfl | rfl | rfl | rfl <;> first | exact m.ca_BadDocument.c | exact m.ca_BadRows.c | exact m.ca_BadGrammar.c | exact m.ca_BadJudge.c | exact m.ca_NoPlace.c | exact m.ca_BadText.c | exact m.ca_NoRing.c | exact m.ca_Refused.c | exact m.ca_NothingToUndo.c | exact m.ca_InvalidCommand.c | exact m.ca_NoGrammar.c | exact m.ca_NoReader.c | exact m.ca_NamesError.c)) rfl m.n_isinstance boot_isinstance (sa_cons (se_q (sq_var 0)) (sa_cons (se_gcls (by rfl) m.g_BadJudge) sa_nil))) (sa_cons (se_fnB call_isK (fk_isE m.is (fun c hc => by simp only [List.mem_cons, List.not_mem_nil, or_false] at hc; rcases hc with rfl | rfl | rfl | rfl | rfl | rfl | rfl | rfl | rfl | rfl | rfl | rfl | rfl <;> first | exact m.ca_BadDocument.c | exact m.ca_BadRows.c | exact m.ca_BadGrammar.c | exact m.ca_BadJudge.c | exact m.ca_NoPlace.c | exact m.ca_BadText.c | exact m.ca_NoRing.c | exact m.ca_Refused.c | exact m.ca_NothingToUndo.c | exact m.ca_InvalidCommand.c | exact m.ca_NoGrammar.c | exact m.ca_NoReader.c | exact m.ca_NamesError.c)) rfl m.n_isinstance boot_isinstance (sa_cons (se_q (sq_var 0)) (sa_cons (se_gcls (by rfl) m.g_NoPlace) sa_nil))) (sa_cons (se_fnB call_isK (fk_isE m.is (fun c hc => by simp only [List.mem_cons, List.not_mem_nil, or_false] at hc; rcases hc with rfl | rfl | rfl | rfl | rfl | rfl | rfl | rfl | rfl | rfl | rfl | rfl | rfl <;> first | exact m.ca_BadDocument.c | exact m.ca_BadRows.c | exact m.ca_BadGrammar.c | exact m.ca_BadJudge.c | exact m.ca_NoPlace.c | exact m.ca_BadText.c | exact m.ca_NoRing.c | exact m.ca_Refused.c | exact m.ca_NothingToUndo.c | exact m.ca_InvalidCommand.c | exact m.ca_NoGrammar.c | exact m.ca_NoReader.c | exact m.ca_NamesError.c)) rfl m.n_isinstance boot_isinstance (sa_cons (se_q (sq_var 0)) (sa_cons (se_gcls (by rfl) m.g_BadText) sa_nil))) sa_nil)))))) (ss_cons (s_set 1 sc_law_classes.nd (se_bin op_addX o2_add (se_var 1) (se_lst (sa_cons (se_fnB call_isK (fk_isE m.is (fun c hc => by simp only [List.mem_cons, List.not_mem_nil, or_false] at hc; rcases hc with rfl | rfl | rfl | rfl | rfl | rfl | rfl | rfl | rfl | rfl | rfl | rfl | rfl <;> first | exact m.ca_BadDocument.c | exact m.ca_BadRows.c | exact m.ca_BadGrammar.c | exact m.ca_BadJudge.c | exact m.ca_NoPlace.c | exact m.ca_BadText.c | exact m.ca_NoRing.c | exact m.ca_Refused.c | exact m.ca_NothingToUndo.c | exact m.ca_InvalidCommand.c | exact m.ca_NoGrammar.c | exact m.ca_NoReader.c | exact m.ca_NamesError.c)) rfl m.n_isinstance boot_isinstance (sa_cons (se_q (sq_var 0)) (sa_cons (se_gcls (by rfl) m.g_NoRing) sa_nil))) (sa_cons (se_fnB call_isK (fk_isE m.is (fun c hc => by simp only [List.mem_cons, List.not_mem_nil, or_false] at hc; rcases hc with rfl | rfl | rfl | rfl | rfl | rfl | rfl | rfl | rfl | rfl | rfl | rfl | rfl <;> first | exact m.ca_BadDocument.c | exact m.ca_BadRows.c | exact m.ca_BadGrammar.c | exact m.ca_BadJudge.c | exact m.ca_NoPlace.c | exact m.ca_BadText.c | exact m.ca_NoRing.c | exact m.ca_Refused.c | exact m.ca_NothingToUndo.c | exact m.ca_InvalidCommand.c | exact m.ca_NoGrammar.c | exact m.ca_NoReader.c | exact m.ca_NamesError.c)) rfl m.n_isinstance boot_isinstance (sa_cons (se_q (sq_var 0)) (sa_cons (se_gcls (by rfl) m.g_Refused) sa_nil))) (sa_cons (se_fnB call_isK (fk_isE m.is (fun c hc => by simp only [List.mem_cons, List.not_mem_nil, or_false] at hc; rcases hc with rfl | rfl | rfl | rfl | rfl | rfl | rfl | rfl | rfl | rfl | rfl | rfl | rfl <;> first | exact m.ca_BadDocument.c | exact m.ca_BadRows.c | exact m.ca_BadGrammar.c | exact m.ca_BadJudge.c | exact m.ca_NoPlace.c | exact m.ca_BadText.c | exact m.ca_NoRing.c | exact m.ca_Refused.c | exact m.ca_NothingToUndo.c | exact m.ca_InvalidCommand.c | exact m.ca_NoGrammar.c | exact m.ca_NoReader.c | exact m.ca_NamesError.c)) rfl m.n_isinstance boot_isinstance (sa_cons (se_q (sq_var 0)) (sa_cons (se_gcls (by rfl) m.g_NothingToUndo) sa_nil))) sa_nil)))))) (ss_cons (s_set 1 sc_law_classes.nd (se_bin op_addX o2_add (se_var 1) (se_lst (sa_cons (se_fnB call_isK (fk_isE m.is (fun c hc => by simp only [List.mem_cons, List.not_mem_nil, or_false] at hc; rcases hc with rfl | rfl | rfl | rfl | rfl | rfl | rfl | rfl | rfl | rfl | rfl | rfl | rfl <;> first | exact m.ca_BadDocument.c | exact m.ca_BadRows.c | exact m.ca_BadGrammar.c | exact m.ca_BadJudge.c | exact m.ca_NoPlace.c | exact m.ca_BadText.c | exact m.ca_NoRing.c | exact m.ca_Refused.c | exact m.ca_NothingToUndo.c | exact m.ca_InvalidCommand.c | exact m.ca_NoGrammar.c | exact m.ca_NoReader.c | exact m.ca_NamesError.c)) rfl m.n_isinstance boot_isinstance (sa_cons (se_q (sq_var 0)) (sa_cons (se_gcls (by rfl) m.g_InvalidCommand) sa_nil))) (sa_cons (se_fnB call_isK (fk_isE m.is (fun c hc => by simp only [List.mem_cons, List.not_mem_nil, or_false] at hc; rcases hc with rfl | rfl | rfl | rfl | rfl | rfl | rfl | rfl | rfl | rfl | rfl | rfl | rfl <;> first | exact m.ca_BadDocument.c | exact m.ca_BadRows.c | exact m.ca_BadGrammar.c | exact m.ca_BadJudge.c | exact m.ca_NoPlace.c | exact m.ca_BadText.c | exact m.ca_NoRing.c | exact m.ca_Refused.c | exact m.ca_NothingToUndo.c | exact m.ca_InvalidCommand.c | exact m.ca_NoGrammar.c | exact m.ca_NoReader.c | exact m.ca_NamesError.c)) rfl m.n_isinstance boot_isinstance (sa_cons (se_q (sq_var 0)) (sa_cons (se_gcls (by rfl) m.g_NoGrammar) sa_nil))) (sa_cons (se_fnB call_isK (fk_isE m.is (fun c hc => by simp only [List.mem_cons, List.not_mem_nil, or_false] at hc; rcases hc with rfl | rfl | rfl | rfl | rfl | rfl | rfl | rfl | rfl | rfl | rfl | rfl | rfl <;> first | exact m.ca_BadDocument.c | exact m.ca_BadRows.c | exact m.ca_BadGrammar.c | exact m.ca_BadJudge.c | exact m.ca_NoPlace.c | exact m.ca_BadText.c | exact m.ca_NoRing.c | exact m.ca_Refused.c | exact m.ca_NothingToUndo.c | exact m.ca_InvalidCommand.c | exact m.ca_NoGrammar.c | exact m.ca_NoReader.c | exact m.ca_NamesError.c)) rfl m.n_isinstance boot_isinstance (sa_cons (se_q (sq_var 0)) (sa_cons (se_gcls (by rfl) m.g_NoReader) sa_nil))) sa_nil)))))) (ss_cons (s_set 1 sc_law_classes.nd (se_bin op_addX o2_add (se_var 1) (se_lst (sa_cons (se_fnB call_isK (fk_isE m.is (fun c hc => by simp only [List.mem_cons, List.not_mem_nil, or_false] at hc; rcases hc with rfl | rfl | rfl | rfl | rfl | rfl | rfl | rfl | rfl | rfl | rfl | rfl | rfl <;> first | exact m.ca_BadDocument.c | exact m.ca_BadRows.c | exact m.ca_BadGrammar.c | exact m.ca_BadJudge.c | exact m.ca_NoPlace.c | exact m.ca_BadText.c | exact m.ca_NoRing.c | exact m.ca_Refused.c | exact m.ca_NothingToUndo.c | exact m.ca_InvalidCommand.c | exact m.ca_NoGrammar.c | exact m.ca_NoReader.c | exact m.ca_NamesError.c)) rfl m.n_isinstance boot_isinstance (sa_cons (se_q (sq_var 0)) (sa_cons (se_gcls (by rfl) m.g_NamesError) sa_nil))) (sa_cons (se_fnB call_isK (fk_isE m.is (fun c hc => by simp only [List.mem_cons, List.not_mem_nil, or_false] at hc; rcases hc with rfl | rfl | rfl | rfl | rfl | rfl | rfl | rfl | rfl | rfl | rfl | rfl | rfl <;> first | exact m.ca_BadDocument.c | exact m.ca_BadRows.c | exact m.ca_BadGrammar.c | exact m.ca_BadJudge.c | exact m.ca_NoPlace.c | exact m.ca_BadText.c | exact m.ca_NoRing.c | exact m.ca_Refused.c | exact m.ca_NothingToUndo.c | exact m.ca_InvalidCommand.c | exact m.ca_NoGrammar.c | exact m.ca_NoReader.c | exact m.ca_NamesError.c)) rfl m.n_isinstance boot_isinstance (sa_cons (se_q (sq_var 0)) (sa_cons (se_bty rfl m.n_Exception boot_Exception) sa_nil))) sa_nil))))) (ss_cons (s_set 2 sc_law_classes.nd (se_lst (sa_cons (se_fnB call_isK (fk_isE m.is (fun c hc => by simp only [List.mem_cons, List.not_mem_nil, or_false] at hc; rcases hc with rfl | rfl | rfl | rfl | rfl | rfl | rfl | rfl | rfl | rfl | rfl | rfl | rfl <;> first | exact m.ca_BadDocument.c | exact m.ca_BadRows.c | exact m.ca_BadGrammar.c | exact m.ca_BadJudge.c | exact m.ca_NoPlace.c | exact m.ca_BadText.c | exact m.ca_NoRing.c | exact m.ca_Refused.c | exact m.ca_NothingToUndo.c | exact m.ca_InvalidCommand.c | exact m.ca_NoGrammar.c | exact m.ca_NoReader.c | exact m.ca_NamesError.c)) rfl m.n_isinstance boot_isinstance (sa_cons (se_q (sq_var 0)) (sa_cons (se_bty rfl m.n_ValueError boot_ValueError) sa_nil))) (sa_cons (se_fnB call_isK (fk_isE m.is (fun c hc => by simp only [List.mem_cons, List.not_mem_nil, or_false] at hc; rcases hc with rfl | rfl | rfl | rfl | rfl | rfl | rfl | rfl | rfl | rfl | rfl | rfl | rfl <;> first | exact m.ca_BadDocument.c | exact m.ca_BadRows.c | exact m.ca_BadGrammar.c | exact m.ca_BadJudge.c | exact m.ca_NoPlace.c | exact m.ca_BadText.c | exact m.ca_NoRing.c | exact m.ca_Refused.c | exact m.ca_NothingToUndo.c | exact m.ca_InvalidCommand.c | exact m.ca_NoGrammar.c | exact m.ca_NoReader.c | exact m.ca_NamesError.c)) rfl m.n_isinstance boot_isinstance (sa_cons (se_q (sq_var 0)) (sa_cons (se_bty rfl m.n_TypeError boot_TypeError) sa_nil))) (sa_cons (se_fnB call_isK (fk_isE m.is (fun c hc => by simp only [List.mem_cons, List.not_mem_nil, or_false] at hc; rcases hc with rfl | rfl | rfl | rfl | rfl | rfl | rfl | rfl | rfl | rfl | rfl | rfl | rfl <;> first | exact m.ca_BadDocument.c | exact m.ca_BadRows.c | exact m.ca_BadGrammar.c | exact m.ca_BadJudge.c | exact m.ca_NoPlace.c | exact m.ca_BadText.c | exact m.ca_NoRing.c | exact m.ca_Refused.c | exact m.ca_NothingToUndo.c | exact m.ca_InvalidCommand.c | exact m.ca_NoGrammar.c | exact m.ca_NoReader.c | exact m.ca_NamesError.c)) rfl m.n_isinstance boot_isinstance (sa_cons (se_q (sq_var 0)) (sa_cons (se_bty rfl m.n_LookupError boot_LookupError) sa_nil))) sa_nil))))) (ss_one (s_ret (se_bin op_addX o2_add (se_bin op_addX o2_add (se_var 1) (se_var 2)) (se_lst (sa_cons (se_fnB call_isK (fk_isE m.is (fun c hc => by simp only [List.mem_cons, List.not_mem_nil, or_false] at hc; rcases hc with rfl | rfl | rfl | rfl | rfl | rfl | rfl | rfl | rfl | rfl | rfl | rfl | rfl <;> first | exact m.ca_BadDocument.c | exact m.ca_BadRows.c | exact m.ca_BadGrammar.c | exact m.ca_BadJudge.c | exact m.ca_NoPlace.c | exact m.ca_BadText.c | exact m.ca_NoRing.c | exact m.ca_Refused.c | exact m.ca_NothingToUndo.c | exact m.ca_InvalidCommand.c | exact m.ca_NoGrammar.c | exact m.ca_NoReader.c | exact m.ca_NamesError.c)) rfl m.n_isinstance boot_isinstance (sa_cons (se_q (sq_var 0)) (sa_cons (se_bty rfl m.n_ArithmeticError boot_ArithmeticError) sa_nil))) (sa_cons (se_fnB call_isK (fk_isE m.is (fun c hc => by simp only [List.mem_cons, List.not_mem_nil, or_false] at hc; rcases hc with rfl | rfl | rfl | rfl | rfl | rfl | rfl | rfl | rfl | rfl | rfl | rfl | rfl <;> first | exact m.ca_BadDocument.c | exact m.ca_BadRows.c | exact m.ca_BadGrammar.c | exact m.ca_BadJudge.c | exact m.ca_NoPlace.c | exact m.ca_BadText.c | exact m.ca_NoRing.c | exact m.ca_Refused.c | exact m.ca_NothingToUndo.c | exact m.ca_InvalidCommand.c | exact m.ca_NoGrammar.c | exact m.ca_NoReader.c | exact m.ca_NamesError.c)) rfl m.n_isinstance boot_isinstance (sa_cons (se_q (sq_var 0)) (sa_cons (se_bty rfl m.n_RuntimeError boot_RuntimeError) sa_nil))) sa_nil))))))))))))
theorem der_law_classes_due (m : Md P K mg) (o : Ok P w K mg base n r) (hr : Room (3 * n + 4) (A.deeper (envOfC "_law_classes_due" (defScope st_law_classes_due) s.heap.objs.size f cdv))) :
    SSs (cxOf (CX P w) P w K mg base N_law_classes_due "_law_classes_due" (defScope st_law_classes_due) f cdv A outer s H E) (clK K) β (fun c d _ H' => E c d H') (defBody st_law_classes_due) (fb_law_classes_due r) := by
  have h64 := hr.units
  exact (ss_one (s_ret (se_bin op_addX o2_add (se_bin op_addX o2_add (se_lc [("_law_k", 1)] rfl sc_law_classes_due.nd (blkOk_by (by rfl)) (si_rng1 rfl m.n_range (sa_cons se_int sa_nil)) (fun _ _ _ _ _ => (sg_name 1 (by decide) sc_law_classes_due.nd)) (fun _ _ _ _ _ => sts_nil) (fun _ _ _ _ _ => (se_cmp (op_eqP h64) o2_eq (se_q (sq_var 1)) (se_q (sq_var 0)) (by rfl)))) (se_lst (sa_cons se_bl (sa_cons se_bl sa_nil)))) (se_bin op_mulY o2_mulY (se_lst (sa_cons se_bl sa_nil)) se_int))))
theorem der_law_thrown (m : Md P K mg) (o : Ok P w K mg base n r) (hr : Room (3 * n + 4) (A.deeper (envOfC "_law_thrown" (defScope st_law_thrown) s.heap.objs.size f cdv))) :
    SSs (cxOf (CX P w) P w K mg base N_law_thrown "_law_thrown" (defScope st_law_thrown) f cdv A outer s H E) (clK K) β (fun c d _ H' => E c d H') (defBody st_law_thrown) (fb_law_thrown r) := by
  have h2 := hr.mono (show 3 * n + 2 ≤ 3 * n + 4 by omega)
  have h3 := hr.mono (show 3 * n + 2 + 1 ≤ 3 * n + 4 by omega)
  have h64 := hr.units
  exact (ss_cons (s_set 2 sc_law_thrown.nd se_non) (ss_cons (s_tryN [0, 1, 2, 3, 4, 5, 6, 7, 8, 9, 10, 11] rfl rfl sc_law_thrown.nd rfl rfl ⟨rfl, by decide, .inl m.g_NamesError⟩ rfl (fun c hc => by simp only [List.mem_cons, List.not_mem_nil, or_false] at hc; rcases hc with rfl | rfl | rfl | rfl | rfl | rfl | rfl | rfl | rfl | rfl | rfl | rfl <;> first | exact m.xb_BadDocument_NamesError | exact m.xb_BadRows_NamesError | exact m.xb_BadGrammar_NamesError | exact m.xb_BadJudge_NamesError | exact m.xb_NoPlace_NamesError | exact m.xb_BadText_NamesError | exact m.xb_NoRing_NamesError | exact m.xb_Refused_NamesError | exact m.xb_NothingToUndo_NamesError | exact m.xb_InvalidCommand_NamesError | exact m.xb_NoGrammar_NamesError | exact m.xb_NoReader_NamesError) (fun W2 pn xe tkT psT => (ss_cons (s_if (st_cmp (op_eqP h64) o2_eq (se_q (sq_var 0)) se_int (by rfl)) (ss_one (s_raise m.e_BadDocument h3 rfl tkT rfl m.g_BadDocument (se_q (sq_var 1)))) ss_nil) (ss_cons (s_if (st_cmp (op_eqP h64) o2_eq (se_q (sq_var 0)) se_int (by rfl)) (ss_one (s_raise m.e_BadRows h3 rfl tkT rfl m.g_BadRows (se_q (sq_var 1)))) ss_nil) (ss_cons (s_if (st_cmp (op_eqP h64) o2_eq (se_q (sq_var 0)) se_int (by rfl)) (ss_one (s_raise m.e_BadGrammar h3 rfl tkT rfl m.g_BadGrammar (se_q (sq_var 1)))) ss_nil) (ss_cons (s_if (st_cmp (op_eqP h64) o2_eq (se_q (sq_var 0)) se_int (by rfl)) (ss_one (s_raise m.e_BadJudge h3 rfl tkT rfl m.g_BadJudge (se_q (sq_var 1)))) ss_nil) (ss_cons (s_if (st_cmp (op_eqP h64) o2_eq (se_q (sq_var 0)) se_int (by rfl)) (ss_one (s_raise m.e_NoPlace h3 rfl tkT rfl m.g_NoPlace (se_q (sq_var 1)))) ss_nil) (ss_cons (s_if (st_cmp (op_eqP h64) o2_eq (se_q (sq_var 0)) se_int (by rfl)) (ss_one (s_raise m.e_BadText h3 rfl tkT rfl m.g_BadText (se_q (sq_var 1)))) ss_nil) (ss_cons (s_if (st_cmp (op_eqP h64) o2_eq (se_q (sq_var 0)) se_int (by rfl)) (ss_one (s_raise m.e_NoRing h3 rfl tkT rfl m.g_NoRing (se_q (sq_var 1)))) ss_nil) (ss_cons (s_if (st_cmp (op_eqP h64) o2_eq (se_q (sq_var 0)) se_int (by rfl)) (ss_one (s_raise m.e_Refused h3 rfl tkT rfl m.g_Refused (se_q (sq_var 1)))) ss_nil) (ss_cons (s_if (st_cmp (op_eqP h64) o2_eq (se_q (sq_var 0)) se_int (by rfl)) (ss_one (s_raise0 m.e0_NothingToUndo h3 rfl tkT rfl m.g_NothingToUndo)) ss_nil) (ss_cons (s_if (st_cmp (op_eqP h64) o2_eq (se_q (sq_var 0)) se_int (by rfl)) (ss_one (s_raise0 m.e0_InvalidCommand h3 rfl tkT rfl m.g_InvalidCommand)) ss_nil) (ss_cons (s_if (st_cmp (op_eqP h64) o2_eq (se_q (sq_var 0)) se_int (by rfl)) (ss_one (s_raise0 m.e0_NoGrammar h3 rfl tkT rfl m.g_NoGrammar)) ss_nil) (ss_one (s_raise0 m.e0_NoReader h3 rfl tkT rfl m.g_NoReader)))))))))))))) (fun a pn => (ss_one (s_set 2 sc_law_thrown.nd (se_lst (sa_cons (se_callW o.law_kept_W (roomH_mark h2 _) (takes_no _) rfl (sa_cons (se_q (sq_var 0)) (sa_cons (se_q (sq_var 3)) sa_nil))) (sa_cons (se_callW o.law_classes_W (roomH_mark h2 _) (takes_no _) rfl (sa_cons (se_q (sq_var 3)) sa_nil)) sa_nil))))))) (ss_one (s_ret (se_mov 2)))))
theorem der_law_right (m : Md P K mg) (o : Ok P w K mg base n r) (hr : Room (3 * n + 4) (A.deeper (envOfC "_law_right" (defScope st_law_right) s.heap.objs.size f cdv))) (hg : (A.deeper (envOfC "_law_right" (defScope st_law_right) s.heap.objs.size f cdv)).guards = some []) :
    SSs (cxOf (CX P w) P w K mg base N_law_right "_law_right" (defScope st_law_right) f cdv A outer s H E) (clK K) β (fun c d _ H' => E c d H') (defBody st_law_right) (fb_law_right r) := by
  have h2 := hr.mono (show 3 * n + 2 ≤ 3 * n + 4 by omega)
  have h64 := hr.units
  have h101 := rU101 hr
  have tk : Takes (cxOf (CX P w) P w K mg base N_law_right "_law_right" (defScope st_law_right) f cdv A outer s H E) (fun c d _ H' => E c d H') := takes_of rfl rfl rfl rfl
  exact (ss_cons (s_par 2 3 rfl sc_law_right.nd (sa_cons (se_call o.law_value h2 (fun z => nomatch z) tk rfl (sa_bor 0 (sa_cons se_int sa_nil))) (sa_cons (se_call o.law_value h2 (fun z => nomatch z) tk rfl (sa_bor 0 (sa_cons se_int sa_nil))) sa_nil))) (ss_cons (s_par3 4 5 6 rfl sc_law_right.nd (sa_cons (se_fnB (call_reprD m.sys hg h101) fk_reprX rfl m.n_repr boot_repr (sa_cons (se_lst (sa_cons (se_q (sq_var 2)) (sa_cons (se_q (sq_var 3)) sa_nil))) sa_nil)) (sa_cons (se_sl (se_fz (se_lst (sa_cons (se_q (sq_var 2)) sa_nil))) so_none (so_some (se_fnT call_int1 fk_int rfl m.n_int boot_int (sa_cons (se_cmp op_ltX o2_ord (se_q (sq_var 1)) se_int (by rfl)) sa_nil)))) (sa_cons (se_call o.law_made h2 (fun z => nomatch z) tk rfl (sa_cons (se_q (sq_var 1)) (sa_cons (se_q (sq_var 3)) sa_nil))) sa_nil)))) (ss_cons (s_for (is := [7]) (passes_of rfl) rfl (si_its (se_tup (sa_cons (se_call o.law_made h2 (fun z => nomatch z) tk rfl (sa_cons (se_q (sq_var 1)) (sa_cons (se_q (sq_var 2)) sa_nil))) (sa_cons (se_call o.law_by_name h2 (fun z => nomatch z) tk rfl (sa_cons (se_q (sq_var 1)) (sa_cons (se_q (sq_var 2)) sa_nil))) sa_nil)))) (sg_name 7 (by decide) sc_law_right.nd) (ss_one (s_if (st_bool (sw_or (st_cmp (op_neP h64) o2_ne (se_fnB (call_reprD m.sys hg h101) fk_reprX rfl m.n_repr boot_repr (sa_cons (se_call o.law_kept h2 (fun z => nomatch z) tk rfl (sa_cons (se_q (sq_var 1)) (sa_cons (se_q (sq_var 7)) sa_nil))) sa_nil)) (se_fnB (call_reprD m.sys hg h101) fk_reprX rfl m.n_repr boot_repr (sa_cons (se_var 5) sa_nil)) (by rfl)) (sw_or1 (st_cmp (op_neP h64) o2_ne (se_call o.law_classes h2 (fun z => nomatch z) tk rfl (sa_cons (se_q (sq_var 7)) sa_nil)) (se_call o.law_classes_due h2 (fun z => nomatch z) tk rfl (sa_cons (se_q (sq_var 1)) sa_nil)) (by rfl))))) (ss_one (s_ret se_bl)) ss_nil))) (ss_cons (s_if (st_cmp (op_neP h64) o2_ne (se_fnB (call_reprD m.sys hg h101) fk_reprX rfl m.n_repr boot_repr (sa_cons (se_call o.law_kept h2 (fun z => nomatch z) tk rfl (sa_cons (se_q (sq_var 1)) (sa_cons (se_q (sq_var 6)) sa_nil))) sa_nil)) (se_fnB (call_reprD m.sys hg h101) fk_reprX rfl m.n_repr boot_repr (sa_cons (se_sl (se_fz (se_lst (sa_cons (se_q (sq_var 3)) sa_nil))) so_none (so_some (se_fnT call_int1 fk_int rfl m.n_int boot_int (sa_cons (se_cmp op_ltX o2_ord (se_q (sq_var 1)) se_int (by rfl)) sa_nil)))) sa_nil)) (by rfl)) (ss_one (s_ret se_bl)) ss_nil) (ss_cons (s_if (st_cmp (op_neP h64) o2_ne (se_fnB (call_reprD m.sys hg h101) fk_reprX rfl m.n_repr boot_repr (sa_cons (se_call o.law_thrown h2 (fun z => nomatch z) tk rfl (sa_cons (se_q (sq_var 1)) (sa_cons (se_q (sq_var 2)) sa_nil))) sa_nil)) (se_fnB (call_reprD m.sys hg h101) fk_reprX rfl m.n_repr boot_repr (sa_cons (se_lst (sa_cons (se_var 5) (sa_cons (se_call o.law_classes_due h2 (fun z => nomatch z) tk rfl (sa_cons (se_q (sq_var 1)) sa_nil)) sa_nil))) sa_nil)) (by rfl)) (ss_one (s_ret se_bl)) ss_nil) (ss_one (s_ret (se_cmp (op_eqP h64) o2_eq (se_fnB (call_reprD m.sys hg h101) fk_reprX rfl m.n_repr boot_repr (sa_cons (se_lst (sa_cons (se_q (sq_var 2)) (sa_cons (se_q (sq_var 3)) sa_nil))) sa_nil)) (se_q (sq_var 4)) (by rfl)))))))))
theorem der_law_base_right (m : Md P K mg) (o : Ok P w K mg base n r) (hr : Room (3 * n + 4) (A.deeper (envOfC "_law_base_right" (defScope st_law_base_right) s.heap.objs.size f cdv))) :
    SSs (cxOf (CX P w) P w K mg base N_law_base_right "_law_base_right" (defScope st_law_base_right) f cdv A outer s H E) (clK K) β (fun c d _ H' => E c d H') (defBody st_law_base_right) (fb_law_base_right r) := by
  have h64 := hr.units
  exact (ss_cons (s_set 1 sc_law_base_right.nd (se_lst (sa_cons (se_mkB0 m.eb_NamesError rfl m.g_NamesError) (sa_cons (se_mkB m.eb_NamesError rfl m.g_NamesError (sa_cons (se_q (sq_var 0)) sa_nil)) (sa_cons (se_mkB m.eb_NamesError rfl m.g_NamesError (sa_cons (se_q (sq_var 0)) (sa_cons se_int sa_nil))) (sa_cons (se_mkB m.eb_NamesError rfl m.g_NamesError (sa_cons se_str (sa_cons (se_lst (sa_cons (se_q (sq_var 0)) sa_nil)) (sa_cons se_dicN sa_nil)))) sa_nil)))))) (ss_one (s_ret (se_cmp (op_eqP h64) o2_eq (se_lc [("_law_error", 2)] rfl sc_law_base_right.nd (blkOk_by (by rfl)) (si_its (se_var 1)) (fun _ _ _ _ _ => (sg_name 2 (by decide) sc_law_base_right.nd)) (fun _ _ _ _ _ => (sts_one (st_bool (sw_or (st_not (st_tru (se_fnB call_isK (fk_isE m.is (fun c hc => by simp only [List.mem_cons, List.not_mem_nil, or_false] at hc; rcases hc with rfl | rfl | rfl | rfl | rfl | rfl | rfl | rfl | rfl | rfl | rfl | rfl | rfl <;> first | exact m.ca_BadDocument.c | exact m.ca_BadRows.c | exact m.ca_BadGrammar.c | exact m.ca_BadJudge.c | exact m.ca_NoPlace.c | exact m.ca_BadText.c | exact m.ca_NoRing.c | exact m.ca_Refused.c | exact m.ca_NothingToUndo.c | exact m.ca_InvalidCommand.c | exact m.ca_NoGrammar.c | exact m.ca_NoReader.c | exact m.ca_NamesError.c)) rfl m.n_isinstance boot_isinstance (sa_cons (se_q (sq_var 2)) (sa_cons (se_bty rfl m.n_Exception boot_Exception) sa_nil))))) (sw_or1 (st_tru (se_fnB call_isK (fk_isE m.is (fun c hc => by simp only [List.mem_cons, List.not_mem_nil, or_false] at hc; rcases hc with rfl | rfl | rfl | rfl | rfl | rfl | rfl | rfl | rfl | rfl | rfl | rfl | rfl <;> first | exact m.ca_BadDocument.c | exact m.ca_BadRows.c | exact m.ca_BadGrammar.c | exact m.ca_BadJudge.c | exact m.ca_NoPlace.c | exact m.ca_BadText.c | exact m.ca_NoRing.c | exact m.ca_Refused.c | exact m.ca_NothingToUndo.c | exact m.ca_InvalidCommand.c | exact m.ca_NoGrammar.c | exact m.ca_NoReader.c | exact m.ca_NamesError.c)) rfl m.n_isinstance boot_isinstance (sa_cons (se_q (sq_var 2)) (sa_cons (se_gcls (by rfl) m.g_BadDocument) sa_nil))))))))) (fun _ _ _ _ _ => (se_q (sq_var 2)))) (se_lst sa_nil) (by rfl)))))
theorem der_law (m : Md P K mg) (o : Ok P w K mg base n r) (hr : Room (3 * n + 4) (A.deeper (envOfC "law" (defScope st_law) s.heap.objs.size f cdv))) (hg : (A.deeper (envOfC "law" (defScope st_law) s.heap.objs.size f cdv)).guards = some []) :
    SSs (cxOf (CX P w) P w K mg base N_law "law" (defScope st_law) f cdv A outer s H E) (clK K) β (fun c d _ H' => E c d H') (defBody st_law) (fb_law r) := by
  have h2 := hr.mono (show 3 * n + 2 ≤ 3 * n + 4 by omega)
  have h64 := hr.units
  have tk : Takes (cxOf (CX P w) P w K mg base N_law "law" (defScope st_law) f cdv A outer s H E) (fun c d _ H' => E c d H') := takes_of rfl rfl rfl rfl
  exact (ss_cons (s_set 1 sc_law.nd (se_call o.law_deck h2 (fun z => nomatch z) tk rfl (sa_cons (se_q (sq_var 0)) sa_nil))) (ss_cons (s_if (st_not (st_tru (se_call o.law_base_right h2 (fun z => nomatch z) tk rfl (sa_cons (se_call o.law_value h2 (fun z => nomatch z) tk rfl (sa_bor 1 (sa_cons se_int sa_nil))) sa_nil)))) (ss_one (s_ret se_bl)) ss_nil) (ss_one (s_ret (se_cmp (op_eqP h64) o2_eq (se_lc [("_law_which", 2)] rfl sc_law.nd (blkOk_by (by rfl)) (si_rng1 rfl m.n_range (sa_cons se_int sa_nil)) (fun _ _ _ _ _ => (sg_name 2 (by decide) sc_law.nd)) (fun _ _ _ _ _ => (sts_one (st_not (st_tru (se_call o.law_right h2 (fun _ => hg) takes_blk rfl (sa_bor 1 (sa_cons (se_q (sq_var 2)) sa_nil))))))) (fun _ _ _ _ _ => (se_q (sq_var 2)))) (se_lst sa_nil) (by rfl))))))
end
end K01
namespace K01
open PySem PySem.Spec PyProof.Rows L2 Nb
def r0 : Runs := ⟨fun _ => .bad, fun _ => .bad, fun _ => .bad, fun _ => .bad, fun _ => .bad, fun _ => .bad, fun _ => .bad, fun _ => .bad, fun _ => .bad, fun _ => .bad, fun _ => .bad, fun _ => .bad, fun _ => .bad⟩
def nextR (r : Runs) : Runs := ⟨runB 1 4 [] (fb_law_deck r), runB 2 5 [true] (fb_law_draw r), runB 2 2 [true] (fb_law_pick r), runB 2 5 [true] (fb_law_value r), runB 2 2 [] (fb_law_by_name r), runB 2 2 [] (fb_law_made r), runB 2 2 [] (fb_law_kept r), runB 1 3 [] (fb_law_classes r), runB 1 2 [] (fb_law_classes_due r), runB 2 4 [] (fb_law_thrown r), runB 2 8 [true] (fb_law_right r), runB 1 3 [] (fb_law_base_right r), runB 1 3 [] (fb_law r)⟩
def runs : Nat → Runs
  | 0 => r0
  | n + 1 => nextR (runs n)
abbrev FDx (K : PySem.W.Frag) (x q : Str) (st : Stmt) (a : Addr) : Prop := ∃ fd, FunD K x q (defArgs st) (defBody st) (defScope st) [] [] a fd
structure Wd (K : PySem.W.Frag) (mg : Str → Option Value) : Prop where
  gl_law_deck : mg "_law_deck" = some (.ref (d_law_deck.adr K))
  gl_law_draw : mg "_law_draw" = some (.ref (d_law_draw.adr K))
  gl_law_pick : mg "_law_pick" = some (.ref (d_law_pick.adr K))
  gl_law_value : mg "_law_value" = some (.ref (d_law_value.adr K))
  gl_law_by_name : mg "_law_by_name" = some (.ref (d_law_by_name.adr K))
  gl_law_made : mg "_law_made" = some (.ref (d_law_made.adr K))
  gl_law_kept : mg "_law_kept" = some (.ref (d_law_kept.adr K))
  gl_law_classes : mg "_law_classes" = some (.ref (d_law_classes.adr K))
  gl_law_classes_due : mg "_law_classes_due" = some (.ref (d_law_classes_due.adr K))
  gl_law_thrown : mg "_law_thrown" = some (.ref (d_law_thrown.adr K))
  gl_law_right : mg "_law_right" = some (.ref (d_law_right.adr K))
  gl_law_base_right : mg "_law_base_right" = some (.ref (d_law_base_right.adr K))
  gl_law : mg "law" = some (.ref (d_law.adr K))
  fd_law_deck : FDx K "_law_deck" "_law_deck" st_law_deck (d_law_deck.adr K)
  fd_law_draw : FDx K "_law_draw" "_law_draw" st_law_draw (d_law_draw.adr K)
  fd_law_pick : FDx K "_law_pick" "_law_pick" st_law_pick (d_law_pick.adr K)
  fd_law_value : FDx K "_law_value" "_law_value" st_law_value (d_law_value.adr K)
  fd_law_by_name : FDx K "_law_by_name" "_law_by_name" st_law_by_name (d_law_by_name.adr K)
  fd_law_made : FDx K "_law_made" "_law_made" st_law_made (d_law_made.adr K)
  fd_law_kept : FDx K "_law_kept" "_law_kept" st_law_kept (d_law_kept.adr K)
  fd_law_classes : FDx K "_law_classes" "_law_classes" st_law_classes (d_law_classes.adr K)
  fd_law_classes_due : FDx K "_law_classes_due" "_law_classes_due" st_law_classes_due (d_law_classes_due.adr K)
  fd_law_thrown : FDx K "_law_thrown" "_law_thrown" st_law_thrown (d_law_thrown.adr K)
  fd_law_right : FDx K "_law_right" "_law_right" st_law_right (d_law_right.adr K)
  fd_law_base_right : FDx K "_law_base_right" "_law_base_right" st_law_base_right (d_law_base_right.adr K)
  fd_law : FDx K "law" "law" st_law (d_law.adr K)
theorem tk_BadDocument : ∀ fd : FuncData, fd.name = "__init__" → fd.qualname = en_BadDocument.qual → fd.params = en_BadDocument.params → fd.body = .stmts en_BadDocument.body → fd.scope = en_BadDocument.scope → fd.defaults = .none → ∀ a b : Value, bindArgs fd ⟨[a], [(("part" : Str), b)]⟩ = pure [(("self" : Str), a), (("part" : Str), b)] := by
  intro fd h1 h2 h3 h4 h5 h6 a b
  obtain ⟨n1, n2, n3, n4, n5, n6, n7, n8, n9, n10, n11, n12, n13, n14, n15⟩ := fd
  dsimp only at h1 h2 h3 h4 h5 h6
  subst h1 h2 h3 h4 h5 h6
  rfl
theorem tx_BadDocument : ExTx "self" "part" "part" en_BadDocument where
  tx := ⟨_, _, exPos en_BadDocument.body, rfl, fun _ _ _ _ _ _ _ _ _ _ => ⟨⟨_, rfl⟩, rfl, rfl, rfl⟩⟩
  pa := ⟨_, rfl, rfl, rfl⟩
  bi := fun _ _ _ _ _ _ _ _ _ => rfl
  sc := ⟨rfl, rfl, rfl, rfl, rfl, by decide +kernel, rfl, rfl, by decide, by decide, by decide⟩
theorem tk_BadGrammar : ∀ fd : FuncData, fd.name = "__init__" → fd.qualname = en_BadGrammar.qual → fd.params = en_BadGrammar.params → fd.body = .stmts en_BadGrammar.body → fd.scope = en_BadGrammar.scope → fd.defaults = .none → ∀ a b : Value, bindArgs fd ⟨[a], [(("part" : Str), b)]⟩ = pure [(("self" : Str), a), (("part" : Str), b)] := by
  intro fd h1 h2 h3 h4 h5 h6 a b
  obtain ⟨n1, n2, n3, n4, n5, n6, n7, n8, n9, n10, n11, n12, n13, n14, n15⟩ := fd
  dsimp only at h1 h2 h3 h4 h5 h6
  subst h1 h2 h3 h4 h5 h6
  rfl
theorem tx_BadGrammar : ExTx "self" "part" "part" en_BadGrammar where
  tx := ⟨_, _, exPos en_BadGrammar.body, rfl, fun _ _ _ _ _ _ _ _ _ _ => ⟨⟨_, rfl⟩, rfl, rfl, rfl⟩⟩
  pa := ⟨_, rfl, rfl, rfl⟩
  bi := fun _ _ _ _ _ _ _ _ _ => rfl
  sc := ⟨rfl, rfl, rfl, rfl, rfl, by decide +kernel, rfl, rfl, by decide, by decide, by decide⟩
theorem tk_BadJudge : ∀ fd : FuncData, fd.name = "__init__" → fd.qualname = en_BadJudge.qual → fd.params = en_BadJudge.params → fd.body = .stmts en_BadJudge.body → fd.scope = en_BadJudge.scope → fd.defaults = .none → ∀ a b : Value, bindArgs fd ⟨[a], [(("part" : Str), b)]⟩ = pure [(("self" : Str), a), (("part" : Str), b)] := by
  intro fd h1 h2 h3 h4 h5 h6 a b
  obtain ⟨n1, n2, n3, n4, n5, n6, n7, n8, n9, n10, n11, n12, n13, n14, n15⟩ := fd
  dsimp only at h1 h2 h3 h4 h5 h6
  subst h1 h2 h3 h4 h5 h6
  rfl
theorem tx_BadJudge : ExTx "self" "part" "part" en_BadJudge where
  tx := ⟨_, _, exPos en_BadJudge.body, rfl, fun _ _ _ _ _ _ _ _ _ _ => ⟨⟨_, rfl⟩, rfl, rfl, rfl⟩⟩
  pa := ⟨_, rfl, rfl, rfl⟩
  bi := fun _ _ _ _ _ _ _ _ _ => rfl
  sc := ⟨rfl, rfl, rfl, rfl, rfl, by decide +kernel, rfl, rfl, by decide, by decide, by decide⟩
theorem tk_BadRows : ∀ fd : FuncData, fd.name = "__init__" → fd.qualname = en_BadRows.qual → fd.params = en_BadRows.params → fd.body = .stmts en_BadRows.body → fd.scope = en_BadRows.scope → fd.defaults = .none → ∀ a b : Value, bindArgs fd ⟨[a], [(("part" : Str), b)]⟩ = pure [(("self" : Str), a), (("part" : Str), b)] := by
  intro fd h1 h2 h3 h4 h5 h6 a b
  obtain ⟨n1, n2, n3, n4, n5, n6, n7, n8, n9, n10, n11, n12, n13, n14, n15⟩ := fd
  dsimp only at h1 h2 h3 h4 h5 h6
  subst h1 h2 h3 h4 h5 h6
  rfl
theorem tx_BadRows : ExTx "self" "part" "part" en_BadRows where
  tx := ⟨_, _, exPos en_BadRows.body, rfl, fun _ _ _ _ _ _ _ _ _ _ => ⟨⟨_, rfl⟩, rfl, rfl, rfl⟩⟩
  pa := ⟨_, rfl, rfl, rfl⟩
  bi := fun _ _ _ _ _ _ _ _ _ => rfl
  sc := ⟨rfl, rfl, rfl, rfl, rfl, by decide +kernel, rfl, rfl, by decide, by decide, by decide⟩
theorem tk_BadText : ∀ fd : FuncData, fd.name = "__init__" → fd.qualname = en_BadText.qual → fd.params = en_BadText.params → fd.body = .stmts en_BadText.body → fd.scope = en_BadText.scope → fd.defaults = .none → ∀ a b : Value, bindArgs fd ⟨[a], [(("place" : Str), b)]⟩ = pure [(("self" : Str), a), (("place" : Str), b)] := by
  intro fd h1 h2 h3 h4 h5 h6 a b
  obtain ⟨n1, n2, n3, n4, n5, n6, n7, n8, n9, n10, n11, n12, n13, n14, n15⟩ := fd
  dsimp only at h1 h2 h3 h4 h5 h6
  subst h1 h2 h3 h4 h5 h6
  rfl
theorem tx_BadText : ExTx "self" "place" "place" en_BadText where
  tx := ⟨_, _, exPos en_BadText.body, rfl, fun _ _ _ _ _ _ _ _ _ _ => ⟨⟨_, rfl⟩, rfl, rfl, rfl⟩⟩
  pa := ⟨_, rfl, rfl, rfl⟩
  bi := fun _ _ _ _ _ _ _ _ _ => rfl
  sc := ⟨rfl, rfl, rfl, rfl, rfl, by decide +kernel, rfl, rfl, by decide, by decide, by decide⟩
theorem tx_InvalidCommand : ExTx0 "self" en_InvalidCommand where
  tx := ⟨_, _, exPos0 en_InvalidCommand.body, rfl, fun _ _ _ _ _ _ _ _ _ _ => ⟨⟨_, rfl⟩, rfl, rfl⟩⟩
  pa := ⟨_, rfl, rfl, rfl⟩
  bi := fun _ _ _ _ _ _ _ _ => rfl
  sc := ⟨rfl, rfl, rfl, rfl, by decide +kernel, rfl, rfl, by decide⟩
theorem tx_NoGrammar : ExTx0 "self" en_NoGrammar where
  tx := ⟨_, _, exPos0 en_NoGrammar.body, rfl, fun _ _ _ _ _ _ _ _ _ _ => ⟨⟨_, rfl⟩, rfl, rfl⟩⟩
  pa := ⟨_, rfl, rfl, rfl⟩
  bi := fun _ _ _ _ _ _ _ _ => rfl
  sc := ⟨rfl, rfl, rfl, rfl, by decide +kernel, rfl, rfl, by decide⟩
theorem tk_NoPlace : ∀ fd : FuncData, fd.name = "__init__" → fd.qualname = en_NoPlace.qual → fd.params = en_NoPlace.params → fd.body = .stmts en_NoPlace.body → fd.scope = en_NoPlace.scope → fd.defaults = .none → ∀ a b : Value, bindArgs fd ⟨[a], [(("place" : Str), b)]⟩ = pure [(("self" : Str), a), (("place" : Str), b)] := by
  intro fd h1 h2 h3 h4 h5 h6 a b
  obtain ⟨n1, n2, n3, n4, n5, n6, n7, n8, n9, n10, n11, n12, n13, n14, n15⟩ := fd
  dsimp only at h1 h2 h3 h4 h5 h6
  subst h1 h2 h3 h4 h5 h6
  rfl
theorem tx_NoPlace : ExTx "self" "place" "place" en_NoPlace where
  tx := ⟨_, _, exPos en_NoPlace.body, rfl, fun _ _ _ _ _ _ _ _ _ _ => ⟨⟨_, rfl⟩, rfl, rfl, rfl⟩⟩
  pa := ⟨_, rfl, rfl, rfl⟩
  bi := fun _ _ _ _ _ _ _ _ _ => rfl
  sc := ⟨rfl, rfl, rfl, rfl, rfl, by decide +kernel, rfl, rfl, by decide, by decide, by decide⟩
theorem tx_NoReader : ExTx0 "self" en_NoReader where
  tx := ⟨_, _, exPos0 en_NoReader.body, rfl, fun _ _ _ _ _ _ _ _ _ _ => ⟨⟨_, rfl⟩, rfl, rfl⟩⟩
  pa := ⟨_, rfl, rfl, rfl⟩
  bi := fun _ _ _ _ _ _ _ _ => rfl
  sc := ⟨rfl, rfl, rfl, rfl, by decide +kernel, rfl, rfl, by decide⟩
theorem tk_NoRing : ∀ fd : FuncData, fd.name = "__init__" → fd.qualname = en_NoRing.qual → fd.params = en_NoRing.params → fd.body = .stmts en_NoRing.body → fd.scope = en_NoRing.scope → fd.defaults = .none → ∀ a b : Value, bindArgs fd ⟨[a], [(("guard" : Str), b)]⟩ = pure [(("self" : Str), a), (("guard" : Str), b)] := by
  intro fd h1 h2 h3 h4 h5 h6 a b
  obtain ⟨n1, n2, n3, n4, n5, n6, n7, n8, n9, n10, n11, n12, n13, n14, n15⟩ := fd
  dsimp only at h1 h2 h3 h4 h5 h6
  subst h1 h2 h3 h4 h5 h6
  rfl
theorem tx_NoRing : ExTx "self" "guard" "guard" en_NoRing where
  tx := ⟨_, _, exPos en_NoRing.body, rfl, fun _ _ _ _ _ _ _ _ _ _ => ⟨⟨_, rfl⟩, rfl, rfl, rfl⟩⟩
  pa := ⟨_, rfl, rfl, rfl⟩
  bi := fun _ _ _ _ _ _ _ _ _ => rfl
  sc := ⟨rfl, rfl, rfl, rfl, rfl, by decide +kernel, rfl, rfl, by decide, by decide, by decide⟩
theorem tx_NothingToUndo : ExTx0 "self" en_NothingToUndo where
  tx := ⟨_, _, exPos0 en_NothingToUndo.body, rfl, fun _ _ _ _ _ _ _ _ _ _ => ⟨⟨_, rfl⟩, rfl, rfl⟩⟩
  pa := ⟨_, rfl, rfl, rfl⟩
  bi := fun _ _ _ _ _ _ _ _ => rfl
  sc := ⟨rfl, rfl, rfl, rfl, by decide +kernel, rfl, rfl, by decide⟩
theorem tk_Refused : ∀ fd : FuncData, fd.name = "__init__" → fd.qualname = en_Refused.qual → fd.params = en_Refused.params → fd.body = .stmts en_Refused.body → fd.scope = en_Refused.scope → fd.defaults = .none → ∀ a b : Value, bindArgs fd ⟨[a], [(("sign" : Str), b)]⟩ = pure [(("self" : Str), a), (("sign" : Str), b)] := by
  intro fd h1 h2 h3 h4 h5 h6 a b
  obtain ⟨n1, n2, n3, n4, n5, n6, n7, n8, n9, n10, n11, n12, n13, n14, n15⟩ := fd
  dsimp only at h1 h2 h3 h4 h5 h6
  subst h1 h2 h3 h4 h5 h6
  rfl
theorem tx_Refused : ExTx "self" "sign" "sign" en_Refused where
  tx := ⟨_, _, exPos en_Refused.body, rfl, fun _ _ _ _ _ _ _ _ _ _ => ⟨⟨_, rfl⟩, rfl, rfl, rfl⟩⟩
  pa := ⟨_, rfl, rfl, rfl⟩
  bi := fun _ _ _ _ _ _ _ _ _ => rfl
  sc := ⟨rfl, rfl, rfl, rfl, rfl, by decide +kernel, rfl, rfl, by decide, by decide, by decide⟩
section
variable {P : Program} {K : PySem.W.Frag} {h : Heap} {mg : Str → Option Value}
theorem md_of (X : K.In h) (G : h.Ns mainGlobals mg) (top : (P.main.scope.names.lookup ("super" : Str)).isSome = false) (cy : SaysY fx fn P.main.file en K) : Md P K mg := have c := cy.x; have c0 := c
  ⟨He.free_ok X G (c.fact 0),
   He.free_ok X G (c.fact 1),
   He.free_ok X G (c.fact 2),
   He.free_ok X G (c.fact 3),
   He.free_ok X G (c.fact 4),
   He.free_ok X G (c.fact 5),
   He.free_ok X G (c.fact 6),
   He.free_ok X G (c.fact 7),
   He.free_ok X G (c.fact 8),
   He.free_ok X G (c.fact 9),
   He.free_ok X G (c.fact 10),
   He.free_ok X G (c.fact 11),
   He.free_ok X G (c.fact 12),
   He.free_ok X G (c.fact 13),
   He.free_ok X G (c.fact 14),
   He.glo_ok X G (c.fact 15),
   He.glo_ok X G (c.fact 16),
   He.glo_ok X G (c.fact 17),
   He.glo_ok X G (c.fact 18),
   He.glo_ok X G (c.fact 19),
   He.glo_ok X G (c.fact 20),
   He.glo_ok X G (c.fact 21),
   He.glo_ok X G (c.fact 22),
   He.glo_ok X G (c.fact 23),
   He.glo_ok X G (c.fact 24),
   He.glo_ok X G (c.fact 25),
   He.glo_ok X G (c.fact 26),
   He.glo_ok X G (c.fact 27),
   fCa_ok (c0.fact 29),
   fCa_ok (c0.fact 30),
   fCa_ok (c0.fact 31),
   fCa_ok (c0.fact 32),
   fCa_ok (c0.fact 33),
   fCa_ok (c0.fact 34),
   fCa_ok (c0.fact 35),
   fCa_ok (c0.fact 36),
   fCa_ok (c0.fact 37),
   fCa_ok (c0.fact 38),
   fCa_ok (c0.fact 39),
   fCa_ok (c0.fact 40),
   fCa_ok (c0.fact 41),
   exI0_of (d := en_InvalidCommand) (cy.err 5).1 (cy.err 5).2 (c0.fact 42) tx_InvalidCommand top,
   exI0_of (d := en_NoGrammar) (cy.err 6).1 (cy.err 6).2 (c0.fact 43) tx_NoGrammar top,
   exI0_of (d := en_NoReader) (cy.err 8).1 (cy.err 8).2 (c0.fact 44) tx_NoReader top,
   exI0_of (d := en_NothingToUndo) (cy.err 10).1 (cy.err 10).2 (c0.fact 45) tx_NothingToUndo top,
   exI_of (d := en_BadDocument) (cy.err 0).1 (cy.err 0).2 (c0.fact 46) tx_BadDocument top,
   exI_of (d := en_BadGrammar) (cy.err 1).1 (cy.err 1).2 (c0.fact 47) tx_BadGrammar top,
   exI_of (d := en_BadJudge) (cy.err 2).1 (cy.err 2).2 (c0.fact 48) tx_BadJudge top,
   exI_of (d := en_BadRows) (cy.err 3).1 (cy.err 3).2 (c0.fact 49) tx_BadRows top,
   exI_of (d := en_BadText) (cy.err 4).1 (cy.err 4).2 (c0.fact 50) tx_BadText top,
   exI_of (d := en_NoPlace) (cy.err 7).1 (cy.err 7).2 (c0.fact 51) tx_NoPlace top,
   exI_of (d := en_NoRing) (cy.err 9).1 (cy.err 9).2 (c0.fact 52) tx_NoRing top,
   exI_of (d := en_Refused) (cy.err 11).1 (cy.err 11).2 (c0.fact 53) tx_Refused top,
   fExB_ok (c0.fact 54),
   kwB_of (d := en_BadDocument) (cy.err 0).1 (cy.err 0).2 (c0.fact 46) tk_BadDocument,
   kwB_of (d := en_BadGrammar) (cy.err 1).1 (cy.err 1).2 (c0.fact 47) tk_BadGrammar,
   kwB_of (d := en_BadJudge) (cy.err 2).1 (cy.err 2).2 (c0.fact 48) tk_BadJudge,
   kwB_of (d := en_BadRows) (cy.err 3).1 (cy.err 3).2 (c0.fact 49) tk_BadRows,
   kwB_of (d := en_BadText) (cy.err 4).1 (cy.err 4).2 (c0.fact 50) tk_BadText,
   kwB_of (d := en_NoPlace) (cy.err 7).1 (cy.err 7).2 (c0.fact 51) tk_NoPlace,
   kwB_of (d := en_NoRing) (cy.err 9).1 (cy.err 9).2 (c0.fact 52) tk_NoRing,
   kwB_of (d := en_Refused) (cy.err 11).1 (cy.err 11).2 (c0.fact 53) tk_Refused,
   fSys_ok (c0.fact 55),
   fXm_ok (c0.fact 56),
   fXm_ok (c0.fact 57),
   fXm_ok (c0.fact 58),
   fXm_ok (c0.fact 59),
   fXm_ok (c0.fact 60),
   fXm_ok (c0.fact 61),
   fXm_ok (c0.fact 62),
   fXm_ok (c0.fact 63),
   fXm_ok (c0.fact 64),
   fXm_ok (c0.fact 65),
   fXm_ok (c0.fact 66),
   fXm_ok (c0.fact 67),
   (fTab_ok (c0.fact 28) (fun c hc => absurd hc (by simp [NC])))⟩
theorem wd_of (X : K.In h) (G : h.Ns mainGlobals mg) (c : SaysX fx fn K) : Wd K mg :=
  ⟨He.glo_ok X G (c.fact 68),
   He.glo_ok X G (c.fact 69),
   He.glo_ok X G (c.fact 70),
   He.glo_ok X G (c.fact 71),
   He.glo_ok X G (c.fact 72),
   He.glo_ok X G (c.fact 73),
   He.glo_ok X G (c.fact 74),
   He.glo_ok X G (c.fact 75),
   He.glo_ok X G (c.fact 76),
   He.glo_ok X G (c.fact 77),
   He.glo_ok X G (c.fact 78),
   He.glo_ok X G (c.fact 79),
   He.glo_ok X G (c.fact 80),
   c.def_ (d := d_law_deck) 0,
   c.def_ (d := d_law_draw) 1,
   c.def_ (d := d_law_pick) 2,
   c.def_ (d := d_law_value) 3,
   c.def_ (d := d_law_by_name) 4,
   c.def_ (d := d_law_made) 5,
   c.def_ (d := d_law_kept) 6,
   c.def_ (d := d_law_classes) 7,
   c.def_ (d := d_law_classes_due) 8,
   c.def_ (d := d_law_thrown) 9,
   c.def_ (d := d_law_right) 10,
   c.def_ (d := d_law_base_right) 11,
   c.def_ (d := d_law) 12⟩
end
structure Fs (P : Program) (w : World) (K : PySem.W.Frag) (mg : Str → Option Value) (base : Heap) (n : Nat) (r : Runs) : Prop where
  law_deck : FnG false P w K mg base (3 * n + 2) (d_law_deck.adr K) (spD ⟨K, clK K, w⟩ [] r.law_deck)
  law_draw : FnG false P w K mg base (3 * n + 2) (d_law_draw.adr K) (spD ⟨K, clK K, w⟩ [true] r.law_draw)
  law_pick : FnG false P w K mg base (3 * n + 2) (d_law_pick.adr K) (spD ⟨K, clK K, w⟩ [true] r.law_pick)
  law_value : FnG false P w K mg base (3 * n + 2) (d_law_value.adr K) (spD ⟨K, clK K, w⟩ [true] r.law_value)
  law_by_name : FnG false P w K mg base (3 * n + 2) (d_law_by_name.adr K) (spD ⟨K, clK K, w⟩ [] r.law_by_name)
  law_made : FnG false P w K mg base (3 * n + 2) (d_law_made.adr K) (spD ⟨K, clK K, w⟩ [] r.law_made)
  law_kept : FnG false P w K mg base (3 * n + 2) (d_law_kept.adr K) (spD ⟨K, clK K, w⟩ [] r.law_kept)
  law_kept_W : FnW P w K mg base (3 * n + 2) (d_law_kept.adr K) (spD ⟨K, clK K, w⟩ [] r.law_kept)
  law_classes : FnG false P w K mg base (3 * n + 2) (d_law_classes.adr K) (spD ⟨K, clK K, w⟩ [] r.law_classes)
  law_classes_W : FnW P w K mg base (3 * n + 2) (d_law_classes.adr K) (spD ⟨K, clK K, w⟩ [] r.law_classes)
  law_classes_due : FnG false P w K mg base (3 * n + 2) (d_law_classes_due.adr K) (spD ⟨K, clK K, w⟩ [] r.law_classes_due)
  law_thrown : FnG false P w K mg base (3 * n + 2) (d_law_thrown.adr K) (spD ⟨K, clK K, w⟩ [] r.law_thrown)
  law_right : FnG true P w K mg base (3 * n + 2) (d_law_right.adr K) (spD ⟨K, clK K, w⟩ [true] r.law_right)
  law_base_right : FnG false P w K mg base (3 * n + 2) (d_law_base_right.adr K) (spD ⟨K, clK K, w⟩ [] r.law_base_right)
  law : FnG true P w K mg base (3 * n + 2) (d_law.adr K) (spD ⟨K, clK K, w⟩ [] r.law)
section
variable {P : Program} {w : World} {K : PySem.W.Frag} {mg : Str → Option Value} {base : Heap} {n : Nat} {r : Runs}
theorem fs0 (wd : Wd K mg) : Fs P w K mg base 0 r0 := ⟨fng_bad, fng_bad, fng_bad, fng_bad, fng_bad, fng_bad, fng_bad, fnW_bad, fng_bad, fnW_bad, fng_bad, fng_bad, fng_bad, fng_bad, fng_bad⟩
theorem ok_of (wd : Wd K mg) (F : Fs P w K mg base n r) : Ok P w K mg base n r := ⟨⟨_, F.law_deck, wd.gl_law_deck, (let ⟨_, Fd⟩ := wd.fd_law_deck; Fd.kp)⟩,
  ⟨_, F.law_draw, wd.gl_law_draw, (let ⟨_, Fd⟩ := wd.fd_law_draw; Fd.kp)⟩,
  ⟨_, F.law_pick, wd.gl_law_pick, (let ⟨_, Fd⟩ := wd.fd_law_pick; Fd.kp)⟩,
  ⟨_, F.law_value, wd.gl_law_value, (let ⟨_, Fd⟩ := wd.fd_law_value; Fd.kp)⟩,
  ⟨_, F.law_by_name, wd.gl_law_by_name, (let ⟨_, Fd⟩ := wd.fd_law_by_name; Fd.kp)⟩,
  ⟨_, F.law_made, wd.gl_law_made, (let ⟨_, Fd⟩ := wd.fd_law_made; Fd.kp)⟩,
  ⟨_, F.law_kept, wd.gl_law_kept, (let ⟨_, Fd⟩ := wd.fd_law_kept; Fd.kp)⟩,
  ⟨_, F.law_kept_W, wd.gl_law_kept, (let ⟨_, Fd⟩ := wd.fd_law_kept; Fd.kp)⟩,
  ⟨_, F.law_classes, wd.gl_law_classes, (let ⟨_, Fd⟩ := wd.fd_law_classes; Fd.kp)⟩,
  ⟨_, F.law_classes_W, wd.gl_law_classes, (let ⟨_, Fd⟩ := wd.fd_law_classes; Fd.kp)⟩,
  ⟨_, F.law_classes_due, wd.gl_law_classes_due, (let ⟨_, Fd⟩ := wd.fd_law_classes_due; Fd.kp)⟩,
  ⟨_, F.law_thrown, wd.gl_law_thrown, (let ⟨_, Fd⟩ := wd.fd_law_thrown; Fd.kp)⟩,
  ⟨_, F.law_right, wd.gl_law_right, (let ⟨_, Fd⟩ := wd.fd_law_right; Fd.kp)⟩,
  ⟨_, F.law_base_right, wd.gl_law_base_right, (let ⟨_, Fd⟩ := wd.fd_law_base_right; Fd.kp)⟩⟩
abbrev FQx (P : Program) (w : World) (K : PySem.W.Frag) (mg : Str → Option Value) (base : Heap) (n : Nat) (x q : Str) (st : Stmt) (a : Addr) (ps : List Str) (bs : List Bool) (run : List D → CRes) : Prop := ∃ fd, FunD K x q (defArgs st) (defBody st) (defScope st) [] [] a fd ∧ FnQ false P w K mg base (3 * n + 4 + 1) a fd ps (spD ⟨K, clK K, w⟩ bs run)
theorem fqO {x q : Str} {st : Stmt} {f : Addr} {N ps : List Str} {bs : List Bool} {fb : FS} (Fd : FDx K x q st f) (S : FnScope N ps (defScope st)) (hn : ps.length ≤ N.length) (Dr : ∀ (cdv : Value) (A : Around) (outer : List Env) (s : Shared) (H : Hp) (β : List (Option V)) (E : XK), Room (3 * n + 4) (A.deeper (envOfC q (defScope st) s.heap.objs.size f cdv)) →
      SSs (cxOf (CX P w) P w K mg base N q (defScope st) f cdv A outer s H E) (clK K) β (fun c d _ H' => E c d H') (defBody st) fb) : FQx P w K mg base n x q st f ps bs (runB ps.length N.length bs fb) := by
  obtain ⟨fd, Fd⟩ := Fd
  exact ⟨fd, Fd, fd_ok Fd S hn fun cdv A outer s H β E hr _ => Dr cdv A outer s H β E hr⟩
theorem fq_law_deck (m : Md P K mg) (wd : Wd K mg) (o : Ok P w K mg base n r) : FQx P w K mg base n "_law_deck" "_law_deck" st_law_deck (d_law_deck.adr K) ["_law_script"] [] (runB 1 4 [] (fb_law_deck r)) := fqO (N := N_law_deck) wd.fd_law_deck sc_law_deck (by decide) fun _ _ _ _ _ _ _ hr => der_law_deck m o hr
theorem fn_law_deck (m : Md P K mg) (wd : Wd K mg) (o : Ok P w K mg base n r) : FnG false P w K mg base (3 * n + 4 + 1) (d_law_deck.adr K) (spD ⟨K, clK K, w⟩ [] (runB 1 4 [] (fb_law_deck r))) := by
  obtain ⟨fd, Fd, F⟩ := fq_law_deck m wd o
  exact F.g (Fd.bindsN fun _ _ _ _ _ _ us hl => match us, hl with | [_], _ => rfl)
theorem fq_law_draw (m : Md P K mg) (wd : Wd K mg) (o : Ok P w K mg base n r) : FQx P w K mg base n "_law_draw" "_law_draw" st_law_draw (d_law_draw.adr K) ["_law_deck_here", "_law_many"] [true] (runB 2 5 [true] (fb_law_draw r)) := fqO (N := N_law_draw) wd.fd_law_draw sc_law_draw (by decide) fun _ _ _ _ _ _ _ hr => der_law_draw m o hr
theorem fn_law_draw (m : Md P K mg) (wd : Wd K mg) (o : Ok P w K mg base n r) : FnG false P w K mg base (3 * n + 4 + 1) (d_law_draw.adr K) (spD ⟨K, clK K, w⟩ [true] (runB 2 5 [true] (fb_law_draw r))) := by
  obtain ⟨fd, Fd, F⟩ := fq_law_draw m wd o
  exact F.g (Fd.bindsN fun _ _ _ _ _ _ us hl => match us, hl with | [_, _], _ => rfl)
theorem fq_law_pick (m : Md P K mg) (wd : Wd K mg) (o : Ok P w K mg base n r) : FQx P w K mg base n "_law_pick" "_law_pick" st_law_pick (d_law_pick.adr K) ["_law_deck_here", "_law_some"] [true] (runB 2 2 [true] (fb_law_pick r)) := fqO (N := N_law_pick) wd.fd_law_pick sc_law_pick (by decide) fun _ _ _ _ _ _ _ hr => der_law_pick m o hr
theorem fn_law_pick (m : Md P K mg) (wd : Wd K mg) (o : Ok P w K mg base n r) : FnG false P w K mg base (3 * n + 4 + 1) (d_law_pick.adr K) (spD ⟨K, clK K, w⟩ [true] (runB 2 2 [true] (fb_law_pick r))) := by
  obtain ⟨fd, Fd, F⟩ := fq_law_pick m wd o
  exact F.g (Fd.bindsN fun _ _ _ _ _ _ us hl => match us, hl with | [_, _], _ => rfl)
theorem fq_law_value (m : Md P K mg) (wd : Wd K mg) (o : Ok P w K mg base n r) : FQx P w K mg base n "_law_value" "_law_value" st_law_value (d_law_value.adr K) ["_law_deck_here", "_law_deep"] [true] (runB 2 5 [true] (fb_law_value r)) := fqO (N := N_law_value) wd.fd_law_value sc_law_value (by decide) fun _ _ _ _ _ _ _ hr => der_law_value m o hr
theorem fn_law_value (m : Md P K mg) (wd : Wd K mg) (o : Ok P w K mg base n r) : FnG false P w K mg base (3 * n + 4 + 1) (d_law_value.adr K) (spD ⟨K, clK K, w⟩ [true] (runB 2 5 [true] (fb_law_value r))) := by
  obtain ⟨fd, Fd, F⟩ := fq_law_value m wd o
  exact F.g (Fd.bindsN fun _ _ _ _ _ _ us hl => match us, hl with | [_, _], _ => rfl)
theorem fq_law_by_name (m : Md P K mg) (wd : Wd K mg) (o : Ok P w K mg base n r) : FQx P w K mg base n "_law_by_name" "_law_by_name" st_law_by_name (d_law_by_name.adr K) ["_law_which", "_law_value_here"] [] (runB 2 2 [] (fb_law_by_name r)) := fqO (N := N_law_by_name) wd.fd_law_by_name sc_law_by_name (by decide) fun _ _ _ _ _ _ _ hr => der_law_by_name m o hr
theorem fn_law_by_name (m : Md P K mg) (wd : Wd K mg) (o : Ok P w K mg base n r) : FnG false P w K mg base (3 * n + 4 + 1) (d_law_by_name.adr K) (spD ⟨K, clK K, w⟩ [] (runB 2 2 [] (fb_law_by_name r))) := by
  obtain ⟨fd, Fd, F⟩ := fq_law_by_name m wd o
  exact F.g (Fd.bindsN fun _ _ _ _ _ _ us hl => match us, hl with | [_, _], _ => rfl)
theorem fq_law_made (m : Md P K mg) (wd : Wd K mg) (o : Ok P w K mg base n r) : FQx P w K mg base n "_law_made" "_law_made" st_law_made (d_law_made.adr K) ["_law_which", "_law_value_here"] [] (runB 2 2 [] (fb_law_made r)) := fqO (N := N_law_made) wd.fd_law_made sc_law_made (by decide) fun _ _ _ _ _ _ _ hr => der_law_made m o hr
theorem fn_law_made (m : Md P K mg) (wd : Wd K mg) (o : Ok P w K mg base n r) : FnG false P w K mg base (3 * n + 4 + 1) (d_law_made.adr K) (spD ⟨K, clK K, w⟩ [] (runB 2 2 [] (fb_law_made r))) := by
  obtain ⟨fd, Fd, F⟩ := fq_law_made m wd o
  exact F.g (Fd.bindsN fun _ _ _ _ _ _ us hl => match us, hl with | [_, _], _ => rfl)
theorem fq_law_kept (m : Md P K mg) (wd : Wd K mg) (o : Ok P w K mg base n r) : FQx P w K mg base n "_law_kept" "_law_kept" st_law_kept (d_law_kept.adr K) ["_law_which", "_law_error"] [] (runB 2 2 [] (fb_law_kept r)) := fqO (N := N_law_kept) wd.fd_law_kept sc_law_kept (by decide) fun _ _ _ _ _ _ _ hr => der_law_kept m o hr
theorem fn_law_kept (m : Md P K mg) (wd : Wd K mg) (o : Ok P w K mg base n r) : FnG false P w K mg base (3 * n + 4 + 1) (d_law_kept.adr K) (spD ⟨K, clK K, w⟩ [] (runB 2 2 [] (fb_law_kept r))) := by
  obtain ⟨fd, Fd, F⟩ := fq_law_kept m wd o
  exact F.g (Fd.bindsN fun _ _ _ _ _ _ us hl => match us, hl with | [_, _], _ => rfl)
theorem fnW_law_kept (m : Md P K mg) (wd : Wd K mg) (o : Ok P w K mg base n r) : FnW P w K mg base (3 * n + 4 + 1) (d_law_kept.adr K) (spD ⟨K, clK K, w⟩ [] (runB 2 2 [] (fb_law_kept r))) := by
  obtain ⟨fd, Fd⟩ := wd.fd_law_kept
  generalize d_law_kept.adr K = f at Fd ⊢
  exact fd_okW (N := N_law_kept) (k := 3 * n + 4) (ps := ["_law_which", "_law_error"]) (bs := []) Fd sc_law_kept (by decide) (Fd.bindsN fun _ _ _ _ _ _ us hl => match us, hl with | [_, _], _ => rfl) fun cdv A outer s H β E hr => derW_law_kept m o hr
theorem fq_law_classes (m : Md P K mg) (wd : Wd K mg) (o : Ok P w K mg base n r) : FQx P w K mg base n "_law_classes" "_law_classes" st_law_classes (d_law_classes.adr K) ["_law_error"] [] (runB 1 3 [] (fb_law_classes r)) := fqO (N := N_law_classes) wd.fd_law_classes sc_law_classes (by decide) fun _ _ _ _ _ _ _ hr => der_law_classes m o hr
theorem fn_law_classes (m : Md P K mg) (wd : Wd K mg) (o : Ok P w K mg base n r) : FnG false P w K mg base (3 * n + 4 + 1) (d_law_classes.adr K) (spD ⟨K, clK K, w⟩ [] (runB 1 3 [] (fb_law_classes r))) := by
  obtain ⟨fd, Fd, F⟩ := fq_law_classes m wd o
  exact F.g (Fd.bindsN fun _ _ _ _ _ _ us hl => match us, hl with | [_], _ => rfl)
theorem fnW_law_classes (m : Md P K mg) (wd : Wd K mg) (o : Ok P w K mg base n r) : FnW P w K mg base (3 * n + 4 + 1) (d_law_classes.adr K) (spD ⟨K, clK K, w⟩ [] (runB 1 3 [] (fb_law_classes r))) := by
  obtain ⟨fd, Fd⟩ := wd.fd_law_classes
  generalize d_law_classes.adr K = f at Fd ⊢
  exact fd_okW (N := N_law_classes) (k := 3 * n + 4) (ps := ["_law_error"]) (bs := []) Fd sc_law_classes (by decide) (Fd.bindsN fun _ _ _ _ _ _ us hl => match us, hl with | [_], _ => rfl) fun cdv A outer s H β E hr => derW_law_classes m o hr
theorem fq_law_classes_due (m : Md P K mg) (wd : Wd K mg) (o : Ok P w K mg base n r) : FQx P w K mg base n "_law_classes_due" "_law_classes_due" st_law_classes_due (d_law_classes_due.adr K) ["_law_which"] [] (runB 1 2 [] (fb_law_classes_due r)) := fqO (N := N_law_classes_due) wd.fd_law_classes_due sc_law_classes_due (by decide) fun _ _ _ _ _ _ _ hr => der_law_classes_due m o hr
theorem fn_law_classes_due (m : Md P K mg) (wd : Wd K mg) (o : Ok P w K mg base n r) : FnG false P w K mg base (3 * n + 4 + 1) (d_law_classes_due.adr K) (spD ⟨K, clK K, w⟩ [] (runB 1 2 [] (fb_law_classes_due r))) := by
  obtain ⟨fd, Fd, F⟩ := fq_law_classes_due m wd o
  exact F.g (Fd.bindsN fun _ _ _ _ _ _ us hl => match us, hl with | [_], _ => rfl)
theorem fq_law_thrown (m : Md P K mg) (wd : Wd K mg) (o : Ok P w K mg base n r) : FQx P w K mg base n "_law_thrown" "_law_thrown" st_law_thrown (d_law_thrown.adr K) ["_law_which", "_law_value_here"] [] (runB 2 4 [] (fb_law_thrown r)) := fqO (N := N_law_thrown) wd.fd_law_thrown sc_law_thrown (by decide) fun _ _ _ _ _ _ _ hr => der_law_thrown m o hr
theorem fn_law_thrown (m : Md P K mg) (wd : Wd K mg) (o : Ok P w K mg base n r) : FnG false P w K mg base (3 * n + 4 + 1) (d_law_thrown.adr K) (spD ⟨K, clK K, w⟩ [] (runB 2 4 [] (fb_law_thrown r))) := by
  obtain ⟨fd, Fd, F⟩ := fq_law_thrown m wd o
  exact F.g (Fd.bindsN fun _ _ _ _ _ _ us hl => match us, hl with | [_, _], _ => rfl)
theorem fq_law_right (m : Md P K mg) (wd : Wd K mg) (o : Ok P w K mg base n r) : ∃ fd, FunD K "_law_right" "_law_right" (defArgs st_law_right) (defBody st_law_right) (defScope st_law_right) [] [] (d_law_right.adr K) fd ∧ FnQ true P w K mg base (3 * n + 4 + 1) (d_law_right.adr K) fd ["_law_deck_here", "_law_which"] (spD ⟨K, clK K, w⟩ [true] (runB 2 8 [true] (fb_law_right r))) := by
  obtain ⟨fd, Fd⟩ := wd.fd_law_right
  refine ⟨fd, Fd, ?_⟩
  generalize d_law_right.adr K = f at Fd ⊢
  have D := fun cdv A outer s H β E hr hg => der_law_right (f := f) (P := P) (w := w) (cdv := cdv) (A := A) (outer := outer) (s := s) (H := H) (β := β) (E := E) m o hr hg
  have L : (["_law_deck_here", "_law_which"] : List Str).length ≤ N_law_right.length := by decide
  generalize fb_law_right r = fb at D ⊢
  exact fd_ok (N := N_law_right) (k := 3 * n + 4) (ps := ["_law_deck_here", "_law_which"]) (bs := [true]) (fb := fb) Fd sc_law_right L fun cdv A outer s H β E hr hg => D cdv A outer s H β E hr (hg rfl)
theorem fn_law_right (m : Md P K mg) (wd : Wd K mg) (o : Ok P w K mg base n r) : FnG true P w K mg base (3 * n + 4 + 1) (d_law_right.adr K) (spD ⟨K, clK K, w⟩ [true] (runB 2 8 [true] (fb_law_right r))) := by
  obtain ⟨fd, Fd, F⟩ := fq_law_right m wd o
  exact F.g (Fd.bindsN fun _ _ _ _ _ _ us hl => match us, hl with | [_, _], _ => rfl)
theorem fq_law_base_right (m : Md P K mg) (wd : Wd K mg) (o : Ok P w K mg base n r) : FQx P w K mg base n "_law_base_right" "_law_base_right" st_law_base_right (d_law_base_right.adr K) ["_law_value_here"] [] (runB 1 3 [] (fb_law_base_right r)) := fqO (N := N_law_base_right) wd.fd_law_base_right sc_law_base_right (by decide) fun _ _ _ _ _ _ _ hr => der_law_base_right m o hr
theorem fn_law_base_right (m : Md P K mg) (wd : Wd K mg) (o : Ok P w K mg base n r) : FnG false P w K mg base (3 * n + 4 + 1) (d_law_base_right.adr K) (spD ⟨K, clK K, w⟩ [] (runB 1 3 [] (fb_law_base_right r))) := by
  obtain ⟨fd, Fd, F⟩ := fq_law_base_right m wd o
  exact F.g (Fd.bindsN fun _ _ _ _ _ _ us hl => match us, hl with | [_], _ => rfl)
theorem fq_law (m : Md P K mg) (wd : Wd K mg) (o : Ok P w K mg base n r) : ∃ fd, FunD K "law" "law" (defArgs st_law) (defBody st_law) (defScope st_law) [] [] (d_law.adr K) fd ∧ FnQ true P w K mg base (3 * n + 4 + 1) (d_law.adr K) fd ["_law_script"] (spD ⟨K, clK K, w⟩ [] (runB 1 3 [] (fb_law r))) := by
  obtain ⟨fd, Fd⟩ := wd.fd_law
  refine ⟨fd, Fd, ?_⟩
  generalize d_law.adr K = f at Fd ⊢
  have D := fun cdv A outer s H β E hr hg => der_law (f := f) (P := P) (w := w) (cdv := cdv) (A := A) (outer := outer) (s := s) (H := H) (β := β) (E := E) m o hr hg
  have L : (["_law_script"] : List Str).length ≤ N_law.length := by decide
  generalize fb_law r = fb at D ⊢
  exact fd_ok (N := N_law) (k := 3 * n + 4) (ps := ["_law_script"]) (bs := []) (fb := fb) Fd sc_law L fun cdv A outer s H β E hr hg => D cdv A outer s H β E hr (hg rfl)
theorem fn_law (m : Md P K mg) (wd : Wd K mg) (o : Ok P w K mg base n r) : FnG true P w K mg base (3 * n + 4 + 1) (d_law.adr K) (spD ⟨K, clK K, w⟩ [] (runB 1 3 [] (fb_law r))) := by
  obtain ⟨fd, Fd, F⟩ := fq_law m wd o
  exact F.g (Fd.bindsN fun _ _ _ _ _ _ us hl => match us, hl with | [_], _ => rfl)
theorem fs_step (m : Md P K mg) (wd : Wd K mg) (F : Fs P w K mg base n r) : Fs P w K mg base (n + 1) (nextR r) := by
  have o := ok_of wd F
  exact ⟨fn_law_deck m wd o, fn_law_draw m wd o, fn_law_pick m wd o, fn_law_value m wd o, fn_law_by_name m wd o, fn_law_made m wd o, fn_law_kept m wd o, fnW_law_kept m wd o, fn_law_classes m wd o, fnW_law_classes m wd o, fn_law_classes_due m wd o, fn_law_thrown m wd o, fn_law_right m wd o, fn_law_base_right m wd o, fn_law m wd o⟩
theorem fs_all (m : Md P K mg) (wd : Wd K mg) : ∀ n : Nat, Fs P w K mg base n (runs n)
  | 0 => fs0 wd
  | n + 1 => fs_step m wd (fs_all m wd n)
end
end K01
namespace Nb
open PySem PySem.Spec PyProof.Rows L2
theorem ap_fVar (i : Nat) (ε : Ev) : fVar i ε = (match ε[i]? with
  | some (.val d) => .ok d.frz (ε.set i (.val d.frz))
  | some (.bor d) => if d.fz then .ok d ε else .bad
  | _ => .bad) := rfl
theorem ap_fMov (i : Nat) (ε : Ev) : fMov i ε = (match ε[i]? with
  | some (.val d) => .ok d (ε.set i .no)
  | _ => .bad) := rfl
theorem ap_fC (d : D) (ε : Ev) : fC d ε = (.ok d ε) := rfl
def kfBin2 (k : D → D → Option D) (fa fb : FE) (d1 : D) : D → Ev → Res D := fun d2 ε => .of (k d1 d2) ε
theorem kk_fBin2 (k : D → D → Option D) (fa fb : FE) (d1 : D) (d2 : D) (ε : Ev) : kfBin2 k fa fb d1 d2 ε = (.of (k d1 d2) ε) := rfl
def kfBin1 (k : D → D → Option D) (fa fb : FE)  : D → Ev → Res D := fun d1 ε => (fb ε).bind (kfBin2 k fa fb d1)
theorem kk_fBin1 (k : D → D → Option D) (fa fb : FE)  (d1 : D) (ε : Ev) : kfBin1 k fa fb d1 ε = ((fb ε).bind (kfBin2 k fa fb d1)) := rfl
theorem ap_fBin (k : D → D → Option D) (fa fb : FE) (ε : Ev) : fBin k fa fb ε = ((fa ε).bind (kfBin1 k fa fb)) := rfl
def kfIf1 (t : FT) (f g : FE)  : Bool → Ev → Res D := fun b ε => if b = true then f ε else g ε
theorem kk_fIf1 (t : FT) (f g : FE)  (b : Bool) (ε : Ev) : kfIf1 t f g b ε = (if b = true then f ε else g ε) := rfl
theorem ap_fIf (t : FT) (f g : FE) (ε : Ev) : fIf t f g ε = ((t ε).bind (kfIf1 t f g)) := rfl
def kfAndV1 (f g : FE)  : D → Ev → Res D := fun d ε => match d.tru with
  | some true => g ε
  | some false => .ok d ε
  | none => .bad
theorem kk_fAndV1 (f g : FE)  (d : D) (ε : Ev) : kfAndV1 f g d ε = (match d.tru with
  | some true => g ε
  | some false => .ok d ε
  | none => .bad) := rfl
theorem ap_fAndV (f g : FE) (ε : Ev) : fAndV f g ε = ((f ε).bind (kfAndV1 f g)) := rfl
def kfOrV1 (f g : FE)  : D → Ev → Res D := fun d ε => match d.tru with
  | some true => .ok d ε
  | some false => g ε
  | none => .bad
theorem kk_fOrV1 (f g : FE)  (d : D) (ε : Ev) : kfOrV1 f g d ε = (match d.tru with
  | some true => .ok d ε
  | some false => g ε
  | none => .bad) := rfl
theorem ap_fOrV (f g : FE) (ε : Ev) : fOrV f g ε = ((f ε).bind (kfOrV1 f g)) := rfl
def kfNotV1 (f : FE)  : D → Ev → Res D := fun d ε => match d.tru with
  | some b => .ok (.bl (!b)) ε
  | none => .bad
theorem kk_fNotV1 (f : FE)  (d : D) (ε : Ev) : kfNotV1 f d ε = (match d.tru with
  | some b => .ok (.bl (!b)) ε
  | none => .bad) := rfl
theorem ap_fNotV (f : FE) (ε : Ev) : fNotV f ε = ((f ε).bind (kfNotV1 f)) := rfl
def kfNeg1 (f : FE)  : D → Ev → Res D := fun d ε => match d with
  | .int i => .ok (.int (-i)) ε
  | _ => .bad
theorem kk_fNeg1 (f : FE)  (d : D) (ε : Ev) : kfNeg1 f d ε = (match d with
  | .int i => .ok (.int (-i)) ε
  | _ => .bad) := rfl
theorem ap_fNeg (f : FE) (ε : Ev) : fNeg f ε = ((f ε).bind (kfNeg1 f)) := rfl
def kchE1 (k' : D → D → Option D) (fc : FE) (d2 : D)  : D → Ev → Res D := fun d3 ε => .of (k' d2 d3) ε
theorem kk_chE1 (k' : D → D → Option D) (fc : FE) (d2 : D)  (d3 : D) (ε : Ev) : kchE1 k' fc d2 d3 ε = (.of (k' d2 d3) ε) := rfl
def chE (k' : D → D → Option D) (fc : FE) (d2 : D) : FE := fun ε => ((fc ε).bind (kchE1 k' fc d2))
theorem ap_chE (k' : D → D → Option D) (fc : FE) (d2 : D) (ε : Ev) : chE k' fc d2 ε = ((fc ε).bind (kchE1 k' fc d2)) := rfl
def kfChain2 (k k' : D → D → Option D) (fa fb fc : FE) (d1 : D) : D → Ev → Res D := fun d2 ε => if d1.fz = true ∧ d2.fz = true then (match k d1 d2 with
  | some (.bl true) => chE k' fc d2 ε
  | some (.bl false) => .ok (.bl false) ε
  | _ => .bad) else .bad
theorem kk_fChain2 (k k' : D → D → Option D) (fa fb fc : FE) (d1 : D) (d2 : D) (ε : Ev) : kfChain2 k k' fa fb fc d1 d2 ε = (if d1.fz = true ∧ d2.fz = true then (match k d1 d2 with
  | some (.bl true) => chE k' fc d2 ε
  | some (.bl false) => .ok (.bl false) ε
  | _ => .bad) else .bad) := rfl
def kfChain1 (k k' : D → D → Option D) (fa fb fc : FE)  : D → Ev → Res D := fun d1 ε => (fb ε).bind (kfChain2 k k' fa fb fc d1)
theorem kk_fChain1 (k k' : D → D → Option D) (fa fb fc : FE)  (d1 : D) (ε : Ev) : kfChain1 k k' fa fb fc d1 ε = ((fb ε).bind (kfChain2 k k' fa fb fc d1)) := rfl
theorem ap_fChain (k k' : D → D → Option D) (fa fb fc : FE) (ε : Ev) : fChain k k' fa fb fc ε = ((fa ε).bind (kfChain1 k k' fa fb fc)) := rfl
def kfTup1 (fs : FA)  : List AD → Ev → Res D := fun as ε => match allV as with
  | some ds => if ds.length ≤ mx then .ok (.tup ds) ε else .bad
  | none => .bad
theorem kk_fTup1 (fs : FA)  (as : List AD) (ε : Ev) : kfTup1 fs as ε = (match allV as with
  | some ds => if ds.length ≤ mx then .ok (.tup ds) ε else .bad
  | none => .bad) := rfl
theorem ap_fTup (fs : FA) (ε : Ev) : fTup fs ε = ((fs ε).bind (kfTup1 fs)) := rfl
def kfLst1 (fs : FA)  : List AD → Ev → Res D := fun as ε => match allV as with
  | some ds => if ds.length ≤ mx then .ok (.lst true ds) ε else .bad
  | none => .bad
theorem kk_fLst1 (fs : FA)  (as : List AD) (ε : Ev) : kfLst1 fs as ε = (match allV as with
  | some ds => if ds.length ≤ mx then .ok (.lst true ds) ε else .bad
  | none => .bad) := rfl
theorem ap_fLst (fs : FA) (ε : Ev) : fLst fs ε = ((fs ε).bind (kfLst1 fs)) := rfl
theorem ap_oNone  (ε : Ev) : oNone ε = (.ok none ε) := rfl
def koSome1 (f : FE)  : D → Ev → Res (Option Int) := fun d ε => match d with
  | .int i => .ok (some i) ε
  | _ => .bad
theorem kk_oSome1 (f : FE)  (d : D) (ε : Ev) : koSome1 f d ε = (match d with
  | .int i => .ok (some i) ε
  | _ => .bad) := rfl
theorem ap_oSome (f : FE) (ε : Ev) : oSome f ε = ((f ε).bind (koSome1 f)) := rfl
def kfSl3 (f : FE) (lo hi : FO) (d : D) (l : Option Int) : Option Int → Ev → Res D := fun u ε => if d.fz = true then .of (kSl l u d) ε else .bad
theorem kk_fSl3 (f : FE) (lo hi : FO) (d : D) (l : Option Int) (u : Option Int) (ε : Ev) : kfSl3 f lo hi d l u ε = (if d.fz = true then .of (kSl l u d) ε else .bad) := rfl
def kfSl2 (f : FE) (lo hi : FO) (d : D) : Option Int → Ev → Res D := fun l ε => (hi ε).bind (kfSl3 f lo hi d l)
theorem kk_fSl2 (f : FE) (lo hi : FO) (d : D) (l : Option Int) (ε : Ev) : kfSl2 f lo hi d l ε = ((hi ε).bind (kfSl3 f lo hi d l)) := rfl
def kfSl1 (f : FE) (lo hi : FO)  : D → Ev → Res D := fun d ε => (lo ε).bind (kfSl2 f lo hi d)
theorem kk_fSl1 (f : FE) (lo hi : FO)  (d : D) (ε : Ev) : kfSl1 f lo hi d ε = ((lo ε).bind (kfSl2 f lo hi d)) := rfl
theorem ap_fSl (f : FE) (lo hi : FO) (ε : Ev) : fSl f lo hi ε = ((f ε).bind (kfSl1 f lo hi)) := rfl
def kfFn1 (k : List D → Option D) (fs : FA)  : List AD → Ev → Res D := fun as ε => match allV as with
  | some ds => .of (k ds) ε
  | none => .bad
theorem kk_fFn1 (k : List D → Option D) (fs : FA)  (as : List AD) (ε : Ev) : kfFn1 k fs as ε = (match allV as with
  | some ds => .of (k ds) ε
  | none => .bad) := rfl
theorem ap_fFn (k : List D → Option D) (fs : FA) (ε : Ev) : fFn k fs ε = ((fs ε).bind (kfFn1 k fs)) := rfl
def kmtE1 (k : D → List D → Option D) (s : Str) (fs : FA)  : List AD → Ev → Res D := fun as ε => match allV as with
  | some ds => .of (k (.str s) ds) ε
  | none => .bad
theorem kk_mtE1 (k : D → List D → Option D) (s : Str) (fs : FA)  (as : List AD) (ε : Ev) : kmtE1 k s fs as ε = (match allV as with
  | some ds => .of (k (.str s) ds) ε
  | none => .bad) := rfl
def mtE (k : D → List D → Option D) (s : Str) (fs : FA) : FE := fun ε => ((fs ε).bind (kmtE1 k s fs))
theorem ap_mtE (k : D → List D → Option D) (s : Str) (fs : FA) (ε : Ev) : mtE k s fs ε = ((fs ε).bind (kmtE1 k s fs)) := rfl
def kfMt1 (k : D → List D → Option D) (f : FE) (fs : FA)  : D → Ev → Res D := fun d ε => match d with
  | .str s => mtE k s fs ε
  | _ => .bad
theorem kk_fMt1 (k : D → List D → Option D) (f : FE) (fs : FA)  (d : D) (ε : Ev) : kfMt1 k f fs d ε = (match d with
  | .str s => mtE k s fs ε
  | _ => .bad) := rfl
theorem ap_fMt (k : D → List D → Option D) (f : FE) (fs : FA) (ε : Ev) : fMt k f fs ε = ((f ε).bind (kfMt1 k f fs)) := rfl
def kfFz1 (f : FE)  : D → Ev → Res D := fun d ε => .ok d.frz ε
theorem kk_fFz1 (f : FE)  (d : D) (ε : Ev) : kfFz1 f d ε = (.ok d.frz ε) := rfl
theorem ap_fFz (f : FE) (ε : Ev) : fFz f ε = ((f ε).bind (kfFz1 f)) := rfl
def kLst : List D → Ev → Res D := fun acc ε => .ok (.lst true acc) ε
theorem kk_Lst (acc : List D) (ε : Ev) : kLst acc ε = .ok (.lst true acc) ε := rfl
def kfLc1 (vs : List Nat) (fi : FI) (p : FG) (step : Ev → List D → Res (List D))  : List D → Ev → Res D := fun ds ε => (lpGo vs p step ds (clr vs ε) []).bind kLst
theorem kk_fLc1 (vs : List Nat) (fi : FI) (p : FG) (step : Ev → List D → Res (List D))  (ds : List D) (ε : Ev) : kfLc1 vs fi p step ds ε = ((lpGo vs p step ds (clr vs ε) []).bind kLst) := rfl
theorem ap_fLc (vs : List Nat) (fi : FI) (p : FG) (step : Ev → List D → Res (List D)) (ε : Ev) : fLc vs fi p step ε = ((fi ε).bind (kfLc1 vs fi p step)) := rfl
def kfCall1 (bs : List Bool) (run : List D → CRes) (fs : FA)  : List AD → Ev → Res D := fun as ε => callR bs run as ε
theorem kk_fCall1 (bs : List Bool) (run : List D → CRes) (fs : FA)  (as : List AD) (ε : Ev) : kfCall1 bs run fs as ε = (callR bs run as ε) := rfl
theorem ap_fCall (bs : List Bool) (run : List D → CRes) (fs : FA) (ε : Ev) : fCall bs run fs ε = ((fs ε).bind (kfCall1 bs run fs)) := rfl
theorem ap_fQ (q : QD) (ε : Ev) : fQ q ε = (match q ε with
  | some d => if d.fz = true then .ok d ε else .bad
  | none => .bad) := rfl
theorem ap_fTruQ (q : QD) (ε : Ev) : fTruQ q ε = (match q ε with
  | some d => (match d.tru with
    | some b => .ok b ε
    | none => .bad)
  | none => .bad) := rfl
def kmvE1 (k : D → List D → Option (D × D)) (i : Nat) (fs : FA)  : List AD → Ev → Res D := fun as ε => match allV as, qV i ε with
    | some ds, some d => (match k d ds with
      | some p => .ok p.2 (setS i p.1 ε)
      | none => .bad)
    | _, _ => .bad
theorem kk_mvE1 (k : D → List D → Option (D × D)) (i : Nat) (fs : FA)  (as : List AD) (ε : Ev) : kmvE1 k i fs as ε = (match allV as, qV i ε with
    | some ds, some d => (match k d ds with
      | some p => .ok p.2 (setS i p.1 ε)
      | none => .bad)
    | _, _ => .bad) := rfl
def mvE (k : D → List D → Option (D × D)) (i : Nat) (fs : FA) : FE := fun ε => ((fs ε).bind (kmvE1 k i fs))
theorem ap_mvE (k : D → List D → Option (D × D)) (i : Nat) (fs : FA) (ε : Ev) : mvE k i fs ε = ((fs ε).bind (kmvE1 k i fs)) := rfl
theorem ap_fMutV (T : String) (k : D → List D → Option (D × D)) (i : Nat) (fs : FA) (ε : Ev) : fMutV T k i fs ε = (match qV i ε with
  | some d0 => if tyD T d0 = true then mvE k i fs ε else .bad
  | none => .bad) := rfl
def kMutP (k : D → List D → Option (D × D)) (i : Nat) (s : List LS) (d0 d : D) (sv : SV) : List AD → Ev → Res D := fun as ε2 => match allV as with
      | some ds => (match k d ds, ε2[i]? with
        | some p, some .no => (match setL s d0 p.1 with
          | some d0' => .ok p.2 (setS i d0' (ε2.set i sv))
          | none => .bad)
        | _, _ => .bad)
      | none => .bad
theorem kk_MutP (k : D → List D → Option (D × D)) (i : Nat) (s : List LS) (d0 d : D) (sv : SV) (as : List AD) (ε2 : Ev) : kMutP k i s d0 d sv as ε2 = (match allV as with
      | some ds => (match k d ds, ε2[i]? with
        | some p, some .no => (match setL s d0 p.1 with
          | some d0' => .ok p.2 (setS i d0' (ε2.set i sv))
          | none => .bad)
        | _, _ => .bad)
      | none => .bad) := rfl
theorem ap_fMutP (T : String) (k : D → List D → Option (D × D)) (i : Nat) (qs : QS) (fs : FA) (ε : Ev) : fMutP T k i qs fs ε = (match qs ε, qV i ε with
  | some s, some d0 => (match getL s d0 with
    | some d => if tyD T d = true then ((fs (ε.set i .no)).bind (kMutP k i s d0 d (ε.getD i .no))) else .bad
    | none => .bad)
  | _, _ => .bad) := rfl
def kfMake1 (c : Nat) (bs : List Bool) (run : List D → CRes) (fs : FA)  : List AD → Ev → Res D := fun as ε => makeR c bs run as ε
theorem kk_fMake1 (c : Nat) (bs : List Bool) (run : List D → CRes) (fs : FA)  (as : List AD) (ε : Ev) : kfMake1 c bs run fs as ε = (makeR c bs run as ε) := rfl
theorem ap_fMake (c : Nat) (bs : List Bool) (run : List D → CRes) (fs : FA) (ε : Ev) : fMake c bs run fs ε = ((fs ε).bind (kfMake1 c bs run fs)) := rfl
theorem ap_fMakeL (i : Nat) (c : Nat) (bs : List Bool) (run : List D → CRes) (fs : FA) (ε : Ev) : fMakeL i c bs run fs ε = (match ε[i]? with
  | some (.val (.cls c')) => if c' = c then fMake c bs run fs ε else .bad
  | _ => .bad) := rfl
def kmeE1 (bs : List Bool) (run : List D → CRes) (d : D) (fs : FA)  : List AD → Ev → Res D := fun as ε => callR bs run (.v d :: as) ε
theorem kk_meE1 (bs : List Bool) (run : List D → CRes) (d : D) (fs : FA)  (as : List AD) (ε : Ev) : kmeE1 bs run d fs as ε = (callR bs run (.v d :: as) ε) := rfl
def meE (bs : List Bool) (run : List D → CRes) (d : D) (fs : FA) : FE := fun ε => ((fs ε).bind (kmeE1 bs run d fs))
theorem ap_meE (bs : List Bool) (run : List D → CRes) (d : D) (fs : FA) (ε : Ev) : meE bs run d fs ε = ((fs ε).bind (kmeE1 bs run d fs)) := rfl
def kfMeth1 (c : Nat) (m : Str) (bs : List Bool) (run : List D → CRes) (fo : FE) (fs : FA)  : D → Ev → Res D := fun d ε => match d with
  | .ins o c' fs' ds => if c' = c ∧ D.fz (.ins o c' fs' ds) = true ∧ posD m fs' = none then meE bs run (.ins o c' fs' ds) fs ε else .bad
  | _ => .bad
theorem kk_fMeth1 (c : Nat) (m : Str) (bs : List Bool) (run : List D → CRes) (fo : FE) (fs : FA)  (d : D) (ε : Ev) : kfMeth1 c m bs run fo fs d ε = (match d with
  | .ins o c' fs' ds => if c' = c ∧ D.fz (.ins o c' fs' ds) = true ∧ posD m fs' = none then meE bs run (.ins o c' fs' ds) fs ε else .bad
  | _ => .bad) := rfl
theorem ap_fMeth (c : Nat) (m : Str) (bs : List Bool) (run : List D → CRes) (fo : FE) (fs : FA) (ε : Ev) : fMeth c m bs run fo fs ε = ((fo ε).bind (kfMeth1 c m bs run fo fs)) := rfl
def kfCMeth1 (c : Nat) (bs : List Bool) (run : List D → CRes) (fo : FE) (fs : FA)  : D → Ev → Res D := fun d ε => match d with
  | .cls c' => if c' = c then meE bs run (.cls c) fs ε else .bad
  | _ => .bad
theorem kk_fCMeth1 (c : Nat) (bs : List Bool) (run : List D → CRes) (fo : FE) (fs : FA)  (d : D) (ε : Ev) : kfCMeth1 c bs run fo fs d ε = (match d with
  | .cls c' => if c' = c then meE bs run (.cls c) fs ε else .bad
  | _ => .bad) := rfl
theorem ap_fCMeth (c : Nat) (bs : List Bool) (run : List D → CRes) (fo : FE) (fs : FA) (ε : Ev) : fCMeth c bs run fo fs ε = ((fo ε).bind (kfCMeth1 c bs run fo fs)) := rfl
def kFA_len1 (fs : FA) (n : Nat)  : List AD → Ev → Res (List AD) := fun as ε => if as.length = n then .ok as ε else .bad
theorem kk_FA_len1 (fs : FA) (n : Nat)  (as : List AD) (ε : Ev) : kFA_len1 fs n as ε = (if as.length = n then .ok as ε else .bad) := rfl
theorem ap_FA_len (fs : FA) (n : Nat) (ε : Ev) : FA.len fs n ε = ((fs ε).bind (kFA_len1 fs n)) := rfl
def kfProp1 (c : Nat) (run : List D → CRes) (fo : FE)  : D → Ev → Res D := fun d ε => match d with
  | .ins o c' fs' ds => if c' = c ∧ D.fz (.ins o c' fs' ds) = true then (match run [.ins o c' fs' ds] with
    | .ok d' [] => .ok d' ε
    | _ => .bad) else .bad
  | _ => .bad
theorem kk_fProp1 (c : Nat) (run : List D → CRes) (fo : FE)  (d : D) (ε : Ev) : kfProp1 c run fo d ε = (match d with
  | .ins o c' fs' ds => if c' = c ∧ D.fz (.ins o c' fs' ds) = true then (match run [.ins o c' fs' ds] with
    | .ok d' [] => .ok d' ε
    | _ => .bad) else .bad
  | _ => .bad) := rfl
theorem ap_fProp (c : Nat) (run : List D → CRes) (fo : FE) (ε : Ev) : fProp c run fo ε = ((fo ε).bind (kfProp1 c run fo)) := rfl
theorem ap_fNil (n : Bool) (q : QD) (ε : Ev) : fNil n q ε = (match q ε with
  | some (.lst o ds) => (match datas ds with
    | some xs => .ok (.bl (n != ds.isEmpty)) ε
    | none => .bad)
  | _ => .bad) := rfl
def kfRev1 (f : FE)  : D → Ev → Res D := fun d ε => match d.frz with
  | .lst _ ds => .ok (.lst true ds.reverse) ε
  | .scr ds => .ok (.lst true ds.reverse) ε
  | _ => .bad
theorem kk_fRev1 (f : FE)  (d : D) (ε : Ev) : kfRev1 f d ε = (match d.frz with
  | .lst _ ds => .ok (.lst true ds.reverse) ε
  | .scr ds => .ok (.lst true ds.reverse) ε
  | _ => .bad) := rfl
theorem ap_fRev (f : FE) (ε : Ev) : fRev f ε = ((f ε).bind (kfRev1 f)) := rfl
theorem ap_fDicN  (ε : Ev) : fDicN ε = (.ok (.dic true [] []) ε) := rfl
def kfDic1 (ks : List Key) (fl : List FE)  : List AD → Ev → Res D := fun as ε => match allV as with
  | some ds => if ds.length = ks.length ∧ apart ks = true then .ok (.dic true ks ds) ε else .bad
  | none => .bad
theorem kk_fDic1 (ks : List Key) (fl : List FE)  (as : List AD) (ε : Ev) : kfDic1 ks fl as ε = (match allV as with
  | some ds => if ds.length = ks.length ∧ apart ks = true then .ok (.dic true ks ds) ε else .bad
  | none => .bad) := rfl
theorem ap_fDic (ks : List Key) (fl : List FE) (ε : Ev) : fDic ks fl ε = ((evl fl ε).bind (kfDic1 ks fl)) := rfl
def kasB1 (f : FE)  : D → Ev → Res Bool := fun d ε => match d with
  | .bl b => .ok b ε
  | _ => .bad
theorem kk_asB1 (f : FE)  (d : D) (ε : Ev) : kasB1 f d ε = (match d with
  | .bl b => .ok b ε
  | _ => .bad) := rfl
theorem ap_asB (f : FE) (ε : Ev) : asB f ε = ((f ε).bind (kasB1 f)) := rfl
def kfTru1 (f : FE)  : D → Ev → Res Bool := fun d ε => match d.tru with
  | some b => .ok b ε
  | none => .bad
theorem kk_fTru1 (f : FE)  (d : D) (ε : Ev) : kfTru1 f d ε = (match d.tru with
  | some b => .ok b ε
  | none => .bad) := rfl
theorem ap_fTru (f : FE) (ε : Ev) : fTru f ε = ((f ε).bind (kfTru1 f)) := rfl
def kfNotT1 (f : FT)  : Bool → Ev → Res Bool := fun b ε => .ok (!b) ε
theorem kk_fNotT1 (f : FT)  (b : Bool) (ε : Ev) : kfNotT1 f b ε = (.ok (!b) ε) := rfl
theorem ap_fNotT (f : FT) (ε : Ev) : fNotT f ε = ((f ε).bind (kfNotT1 f)) := rfl
def kfAndT1 (f g : FT)  : Bool → Ev → Res Bool := fun b ε => if b = true then g ε else .ok false ε
theorem kk_fAndT1 (f g : FT)  (b : Bool) (ε : Ev) : kfAndT1 f g b ε = (if b = true then g ε else .ok false ε) := rfl
theorem ap_fAndT (f g : FT) (ε : Ev) : fAndT f g ε = ((f ε).bind (kfAndT1 f g)) := rfl
def kfOrT1 (f g : FT)  : Bool → Ev → Res Bool := fun b ε => if b = true then .ok true ε else g ε
theorem kk_fOrT1 (f g : FT)  (b : Bool) (ε : Ev) : kfOrT1 f g b ε = (if b = true then .ok true ε else g ε) := rfl
theorem ap_fOrT (f g : FT) (ε : Ev) : fOrT f g ε = ((f ε).bind (kfOrT1 f g)) := rfl
theorem ap_fYes  (ε : Ev) : fYes ε = (.ok true ε) := rfl
theorem ap_aNil  (ε : Ev) : aNil ε = (.ok [] ε) := rfl
def kaCons2 (f : FE) (fs : FA) (d : D) : List AD → Ev → Res (List AD) := fun as ε => .ok (.v d :: as) ε
theorem kk_aCons2 (f : FE) (fs : FA) (d : D) (as : List AD) (ε : Ev) : kaCons2 f fs d as ε = (.ok (.v d :: as) ε) := rfl
def kaCons1 (f : FE) (fs : FA)  : D → Ev → Res (List AD) := fun d ε => (fs ε).bind (kaCons2 f fs d)
theorem kk_aCons1 (f : FE) (fs : FA)  (d : D) (ε : Ev) : kaCons1 f fs d ε = ((fs ε).bind (kaCons2 f fs d)) := rfl
theorem ap_aCons (f : FE) (fs : FA) (ε : Ev) : aCons f fs ε = ((f ε).bind (kaCons1 f fs)) := rfl
def kabE1 (i : Nat) (fs : FA)  : List AD → Ev → Res (List AD) := fun as ε => .ok (.b i :: as) ε
theorem kk_abE1 (i : Nat) (fs : FA)  (as : List AD) (ε : Ev) : kabE1 i fs as ε = (.ok (.b i :: as) ε) := rfl
def abE (i : Nat) (fs : FA) : FA := fun ε => ((fs ε).bind (kabE1 i fs))
theorem ap_abE (i : Nat) (fs : FA) (ε : Ev) : abE i fs ε = ((fs ε).bind (kabE1 i fs)) := rfl
theorem ap_aBor (i : Nat) (fs : FA) (ε : Ev) : aBor i fs ε = (match ε[i]? with
  | some (.val _) => abE i fs ε
  | some (.bor _) => abE i fs ε
  | _ => .bad) := rfl
def kasE1 (ds : List D) (fs : FA)  : List AD → Ev → Res (List AD) := fun as ε => .ok (ds.map .v ++ as) ε
theorem kk_asE1 (ds : List D) (fs : FA)  (as : List AD) (ε : Ev) : kasE1 ds fs as ε = (.ok (ds.map .v ++ as) ε) := rfl
def asE (ds : List D) (fs : FA) : FA := fun ε => ((fs ε).bind (kasE1 ds fs))
theorem ap_asE (ds : List D) (fs : FA) (ε : Ev) : asE ds fs ε = ((fs ε).bind (kasE1 ds fs)) := rfl
def kaStar1 (f : FE) (fs : FA)  : D → Ev → Res (List AD) := fun d ε => match d.items with
  | some ds => if fzs ds = true then asE ds fs ε else .bad
  | none => .bad
theorem kk_aStar1 (f : FE) (fs : FA)  (d : D) (ε : Ev) : kaStar1 f fs d ε = (match d.items with
  | some ds => if fzs ds = true then asE ds fs ε else .bad
  | none => .bad) := rfl
theorem ap_aStar (f : FE) (fs : FA) (ε : Ev) : aStar f fs ε = ((f ε).bind (kaStar1 f fs)) := rfl
def kaKw2 (fs fk : FA) (as : List AD) : List AD → Ev → Res (List AD) := fun zs ε => .ok (as ++ zs) ε
theorem kk_aKw2 (fs fk : FA) (as : List AD) (zs : List AD) (ε : Ev) : kaKw2 fs fk as zs ε = (.ok (as ++ zs) ε) := rfl
def kaKw1 (fs fk : FA)  : List AD → Ev → Res (List AD) := fun as ε => (fk ε).bind (kaKw2 fs fk as)
theorem kk_aKw1 (fs fk : FA)  (as : List AD) (ε : Ev) : kaKw1 fs fk as ε = ((fk ε).bind (kaKw2 fs fk as)) := rfl
theorem ap_aKw (fs fk : FA) (ε : Ev) : aKw fs fk ε = ((fs ε).bind (kaKw1 fs fk)) := rfl
theorem ap_fNx  (ε : Ev) : fNx ε = (.nx ε) := rfl
theorem ap_fSeq (f h : FS) (ε : Ev) : fSeq f h ε = ((f ε).seq h) := rfl
theorem ap_fBk  (ε : Ev) : fBk ε = (.bk ε) := rfl
theorem ap_fCt  (ε : Ev) : fCt ε = (.ct ε) := rfl
def kfDo1 (f : FE)  : D → Ev → Out := fun d ε => .nx ε
theorem kk_fDo1 (f : FE)  (d : D) (ε : Ev) : kfDo1 f d ε = (.nx ε) := rfl
theorem ap_fDo (f : FE) (ε : Ev) : fDo f ε = ((f ε).out (kfDo1 f)) := rfl
def kfRt1 (f : FE)  : D → Ev → Out := fun d ε => .rt d ε
theorem kk_fRt1 (f : FE)  (d : D) (ε : Ev) : kfRt1 f d ε = (.rt d ε) := rfl
theorem ap_fRt (f : FE) (ε : Ev) : fRt f ε = ((f ε).out (kfRt1 f)) := rfl
theorem ap_fRtN  (ε : Ev) : fRtN ε = (.rt .non ε) := rfl
def kfIfS1 (t : FT) (f h : FS)  : Bool → Ev → Out := fun b ε => if b = true then f ε else h ε
theorem kk_fIfS1 (t : FT) (f h : FS)  (b : Bool) (ε : Ev) : kfIfS1 t f h b ε = (if b = true then f ε else h ε) := rfl
theorem ap_fIfS (t : FT) (f h : FS) (ε : Ev) : fIfS t f h ε = ((t ε).out (kfIfS1 t f h)) := rfl
def kfAsg1 (f : FE) (p : FG)  : D → Ev → Out := fun d ε => match p d ε with
  | some ε2 => .nx ε2
  | none => .bad
theorem kk_fAsg1 (f : FE) (p : FG)  (d : D) (ε : Ev) : kfAsg1 f p d ε = (match p d ε with
  | some ε2 => .nx ε2
  | none => .bad) := rfl
theorem ap_fAsg (f : FE) (p : FG) (ε : Ev) : fAsg f p ε = ((f ε).out (kfAsg1 f p)) := rfl
def kfPar1 (i j : Nat) (fs : FA)  : List AD → Ev → Out := fun as ε => match as with
  | [.v d, .v e] => if i < ε.length ∧ j < ε.length then .nx ((ε.set i (.val d)).set j (.val e)) else .bad
  | _ => .bad
theorem kk_fPar1 (i j : Nat) (fs : FA)  (as : List AD) (ε : Ev) : kfPar1 i j fs as ε = (match as with
  | [.v d, .v e] => if i < ε.length ∧ j < ε.length then .nx ((ε.set i (.val d)).set j (.val e)) else .bad
  | _ => .bad) := rfl
theorem ap_fPar (i j : Nat) (fs : FA) (ε : Ev) : fPar i j fs ε = ((fs ε).out (kfPar1 i j fs)) := rfl
def kfFor1 (fi : FI) (p : FG) (body : FS)  : List D → Ev → Out := fun ds ε => forGo p body ds ε
theorem kk_fFor1 (fi : FI) (p : FG) (body : FS)  (ds : List D) (ε : Ev) : kfFor1 fi p body ds ε = (forGo p body ds ε) := rfl
theorem ap_fFor (fi : FI) (p : FG) (body : FS) (ε : Ev) : fFor fi p body ε = ((fi ε).out (kfFor1 fi p body)) := rfl
def kauE1 (f : Int → Int → Int) (m : Int) (i : Nat) (fe : FE)  : D → Ev → Out := fun d ε => match d with
    | .int n => if i < ε.length then .nx (ε.set i (.val (.int (f m n)))) else .bad
    | _ => .bad
theorem kk_auE1 (f : Int → Int → Int) (m : Int) (i : Nat) (fe : FE)  (d : D) (ε : Ev) : kauE1 f m i fe d ε = (match d with
    | .int n => if i < ε.length then .nx (ε.set i (.val (.int (f m n)))) else .bad
    | _ => .bad) := rfl
def auE (f : Int → Int → Int) (m : Int) (i : Nat) (fe : FE) : FS := fun ε => ((fe ε).out (kauE1 f m i fe))
theorem ap_auE (f : Int → Int → Int) (m : Int) (i : Nat) (fe : FE) (ε : Ev) : auE f m i fe ε = ((fe ε).out (kauE1 f m i fe)) := rfl
theorem ap_fAug (f : Int → Int → Int) (i : Nat) (fe : FE) (ε : Ev) : fAug f i fe ε = (match qV i ε with
  | some (.int m) => auE f m i fe ε
  | _ => .bad) := rfl
def kfSetI1 (i : Nat) (qs : QS) (q : QD) (f : FE)  : D → Ev → Out := fun d ε => match qs ε, q ε, qV i ε with
  | some s, some di, some d0 => (match getL s d0 with
    | some c => (match kSet c di d with
      | some c' => (match setL s d0 c' with
        | some d0' => .nx (setS i d0' ε)
        | none => .bad)
      | none => .bad)
    | none => .bad)
  | _, _, _ => .bad
theorem kk_fSetI1 (i : Nat) (qs : QS) (q : QD) (f : FE)  (d : D) (ε : Ev) : kfSetI1 i qs q f d ε = (match qs ε, q ε, qV i ε with
  | some s, some di, some d0 => (match getL s d0 with
    | some c => (match kSet c di d with
      | some c' => (match setL s d0 c' with
        | some d0' => .nx (setS i d0' ε)
        | none => .bad)
      | none => .bad)
    | none => .bad)
  | _, _, _ => .bad) := rfl
theorem ap_fSetI (i : Nat) (qs : QS) (q : QD) (f : FE) (ε : Ev) : fSetI i qs q f ε = ((f ε).out (kfSetI1 i qs q f)) := rfl
def kfSetF1 (i : Nat) (qs : QS) (c : Nat) (f : Str) (fe : FE)  : D → Ev → Out := fun d ε => match qs ε, qV i ε with
  | some s, some d0 => (match getL s d0 with
    | some (.ins true c' fs ds) => if c' = c ∧ fs.length < 100 then (match setL s d0 (.ins true c (putD f d fs ds).1 (putD f d fs ds).2) with
      | some d0' => .nx (setS i d0' ε)
      | none => .bad) else .bad
    | _ => .bad)
  | _, _ => .bad
theorem kk_fSetF1 (i : Nat) (qs : QS) (c : Nat) (f : Str) (fe : FE)  (d : D) (ε : Ev) : kfSetF1 i qs c f fe d ε = (match qs ε, qV i ε with
  | some s, some d0 => (match getL s d0 with
    | some (.ins true c' fs ds) => if c' = c ∧ fs.length < 100 then (match setL s d0 (.ins true c (putD f d fs ds).1 (putD f d fs ds).2) with
      | some d0' => .nx (setS i d0' ε)
      | none => .bad) else .bad
    | _ => .bad)
  | _, _ => .bad) := rfl
theorem ap_fSetF (i : Nat) (qs : QS) (c : Nat) (f : Str) (fe : FE) (ε : Ev) : fSetF i qs c f fe ε = ((fe ε).out (kfSetF1 i qs c f fe)) := rfl
theorem ap_gNm (i : Nat) (d : D) (ε : Ev) : gNm i d ε = (if i < ε.length then some (ε.set i (.val d)) else none) := rfl
theorem ap_gsNil (ε : Ev) : gsNil [] ε = some ε := rfl
theorem ap_gsCons (p : FG) (ps : List D → Ev → Option Ev) (d : D) (r : List D) (ε : Ev) : gsCons p ps (d :: r) ε = (p d ε).bind (ps r) := rfl
theorem ap_gTp (ps : List D → Ev → Option Ev) (ds : List D) (ε : Ev) : gTp ps (.tup ds) ε = ps ds ε := rfl
def kfIts1 (f : FE)  : D → Ev → Res (List D) := fun d ε => match d.frz.items with
  | some ds => .ok ds ε
  | none => .bad
theorem kk_fIts1 (f : FE)  (d : D) (ε : Ev) : kfIts1 f d ε = (match d.frz.items with
  | some ds => .ok ds ε
  | none => .bad) := rfl
theorem ap_fIts (f : FE) (ε : Ev) : fIts f ε = ((f ε).bind (kfIts1 f)) := rfl
def kfRng11 (fs : FA)  : List AD → Ev → Res (List D) := fun as ε => match as with
  | [.v (.int j)] => if inR j = true then .ok (rngD 0 1 j.toNat) ε else .bad
  | _ => .bad
theorem kk_fRng11 (fs : FA)  (as : List AD) (ε : Ev) : kfRng11 fs as ε = (match as with
  | [.v (.int j)] => if inR j = true then .ok (rngD 0 1 j.toNat) ε else .bad
  | _ => .bad) := rfl
theorem ap_fRng1 (fs : FA) (ε : Ev) : fRng1 fs ε = ((fs ε).bind (kfRng11 fs)) := rfl
def kfRng21 (fs : FA)  : List AD → Ev → Res (List D) := fun as ε => match as with
  | [.v (.int i), .v (.int j)] => if inR i = true ∧ inR j = true then .ok (rngD i 1 (j - i).toNat) ε else .bad
  | _ => .bad
theorem kk_fRng21 (fs : FA)  (as : List AD) (ε : Ev) : kfRng21 fs as ε = (match as with
  | [.v (.int i), .v (.int j)] => if inR i = true ∧ inR j = true then .ok (rngD i 1 (j - i).toNat) ε else .bad
  | _ => .bad) := rfl
theorem ap_fRng2 (fs : FA) (ε : Ev) : fRng2 fs ε = ((fs ε).bind (kfRng21 fs)) := rfl
def kfRngD1 (fs : FA)  : List AD → Ev → Res (List D) := fun as ε => match as with
  | [.v (.int i), .v (.int j), .v (.int (-1))] => if inR i = true ∧ inR j = true then .ok (rngD i (-1) (i - j).toNat) ε else .bad
  | _ => .bad
theorem kk_fRngD1 (fs : FA)  (as : List AD) (ε : Ev) : kfRngD1 fs as ε = (match as with
  | [.v (.int i), .v (.int j), .v (.int (-1))] => if inR i = true ∧ inR j = true then .ok (rngD i (-1) (i - j).toNat) ε else .bad
  | _ => .bad) := rfl
theorem ap_fRngD (fs : FA) (ε : Ev) : fRngD fs ε = ((fs ε).bind (kfRngD1 fs)) := rfl
def kfChs1 (f : FE)  : D → Ev → Res (List D) := fun d ε => match d with
  | .str s => .ok (s.cps.toList.map fun c => .str ⟨#[c]⟩) ε
  | _ => .bad
theorem kk_fChs1 (f : FE)  (d : D) (ε : Ev) : kfChs1 f d ε = (match d with
  | .str s => .ok (s.cps.toList.map fun c => .str ⟨#[c]⟩) ε
  | _ => .bad) := rfl
theorem ap_fChs (f : FE) (ε : Ev) : fChs f ε = ((f ε).bind (kfChs1 f)) := rfl
def kfEnm1 (fs : FA)  : List AD → Ev → Res (List D) := fun as ε => match as with
  | [.v d] => match d.frz.items with
    | some ds => .ok (enD 0 ds) ε
    | none => .bad
  | _ => .bad
theorem kk_fEnm1 (fs : FA)  (as : List AD) (ε : Ev) : kfEnm1 fs as ε = (match as with
  | [.v d] => match d.frz.items with
    | some ds => .ok (enD 0 ds) ε
    | none => .bad
  | _ => .bad) := rfl
theorem ap_fEnm (fs : FA) (ε : Ev) : fEnm fs ε = ((fs ε).bind (kfEnm1 fs)) := rfl
theorem ap_qV (i : Nat) (ε : Ev) : qV i ε = (match ε[i]? with
  | some (.val d) => some d
  | some (.bor d) => some d
  | _ => none) := rfl
theorem ap_qC (d : D) (ε : Ev) : qC d ε = some d := rfl
theorem ap_qNeg (qa : QD) (ε : Ev) : qNeg qa ε = (match qa ε with
  | some (.int i) => some (.int (-i))
  | _ => none) := rfl
theorem ap_qIx (qa qb : QD) (ε : Ev) : qIx qa qb ε = (match qa ε, qb ε with
  | some d1, some d2 => kIxP d1 d2
  | _, _ => none) := rfl
def fldOf (cs : List Nat) (f : Str) : D → Option D
  | .ins _ c fs ds => if cs.contains c = true then lookD f fs ds else none
  | _ => none
theorem ap_qFld (cs : List Nat) (f : Str) (qa : QD) (ε : Ev) : qFld cs f qa ε = (qa ε).bind (fldOf cs f) := by
  unfold qFld
  cases qa ε with
  | none => rfl
  | some d => cases d <;> rfl
theorem kk_fld (cs : List Nat) (f : Str) (o : Bool) (c : Nat) (fs : List Str) (ds : List D) : fldOf cs f (.ins o c fs ds) = (if cs.contains c = true then lookD f fs ds else none) := rfl
theorem ap_qLen (qa : QD) (ε : Ev) : qLen qa ε = (match qa ε with
  | some d => kLenP d
  | none => none) := rfl
theorem ap_sNil (ε : Ev) : sNil ε = some [] := rfl
theorem ap_sIx (qs : QS) (q : QD) (ε : Ev) : sIx qs q ε = (match qs ε, q ε with
  | some s, some (.int n) => some (s ++ [.ix n])
  | _, _ => none) := rfl
theorem ap_sKey (qs : QS) (q : QD) (ε : Ev) : sKey qs q ε = (match qs ε, q ε with
  | some s, some (.int n) => some (s ++ [.key (.inl n)])
  | some s, some (.str n) => some (s ++ [.key (.inr n)])
  | _, _ => none) := rfl
theorem ap_sFldx (qs : QS) (c : Nat) (f : Str) (ε : Ev) : sFld' qs c f ε = (qs ε).map fun s => s ++ [.fld c f] := rfl
def kS2 (acc : List D) : D → Ev → Res (List D) := fun y ε => if acc.length < mx then .ok (acc ++ [y]) ε else .bad
theorem kk_S2 (acc : List D) (y : D) (ε : Ev) : kS2 acc y ε = (if acc.length < mx then .ok (acc ++ [y]) ε else .bad) := rfl
def kS1 (te : FE) (acc : List D) : Bool → Ev → Res (List D) := fun b ε => if b = true then (te ε).nox.bind (kS2 acc) else .ok acc ε
theorem kk_S1 (te : FE) (acc : List D) (b : Bool) (ε : Ev) : kS1 te acc b ε = (if b = true then (te ε).nox.bind (kS2 acc) else .ok acc ε) := rfl
theorem ap_stp1 (tt : FT) (te : FE) (ε : Ev) (acc : List D) : stp1 tt te ε acc = (tt ε).nox.bind (kS1 te acc) := rfl
def kT2 (vs1 : List Nat) (p1 : FG) (tt1 : FT) (te : FE) (acc : List D) : List D → Ev → Res (List D) := fun ds ε => lpGo vs1 p1 (stp1 tt1 te) ds (clr vs1 ε) acc
theorem kk_T2 (vs1 : List Nat) (p1 : FG) (tt1 : FT) (te : FE) (acc ds : List D) (ε : Ev) : kT2 vs1 p1 tt1 te acc ds ε = lpGo vs1 p1 (stp1 tt1 te) ds (clr vs1 ε) acc := rfl
def kT1 (vs1 : List Nat) (fi1 : FI) (p1 : FG) (tt1 : FT) (te : FE) (acc : List D) : Bool → Ev → Res (List D) := fun b ε => if b = true then (fi1 ε).nox.bind (kT2 vs1 p1 tt1 te acc) else .ok acc ε
theorem kk_T1 (vs1 : List Nat) (fi1 : FI) (p1 : FG) (tt1 : FT) (te : FE) (acc : List D) (b : Bool) (ε : Ev) : kT1 vs1 fi1 p1 tt1 te acc b ε = (if b = true then (fi1 ε).nox.bind (kT2 vs1 p1 tt1 te acc) else .ok acc ε) := rfl
theorem ap_stp2 (tt : FT) (vs1 : List Nat) (fi1 : FI) (p1 : FG) (tt1 : FT) (te : FE) (ε : Ev) (acc : List D) : stp2 tt vs1 fi1 p1 tt1 te ε acc = (tt ε).nox.bind (kT1 vs1 fi1 p1 tt1 te acc) := rfl
def kLp (vs : List Nat) (p : FG) (st : Ev → List D → Res (List D)) (ds : List D) : List D → Ev → Res (List D) := fun acc ε => lpGo vs p st ds (clr vs ε) acc
theorem kk_Lp (vs : List Nat) (p : FG) (st : Ev → List D → Res (List D)) (ds acc : List D) (ε : Ev) : kLp vs p st ds acc ε = lpGo vs p st ds (clr vs ε) acc := rfl
theorem lg_cons (vs : List Nat) (p : FG) (st : Ev → List D → Res (List D)) (d : D) (ds : List D) (ε : Ev) (acc : List D) : lpGo vs p st (d :: ds) ε acc = (match p d ε with
  | none => .bad
  | some ε1 => (st ε1 acc).bind (kLp vs p st ds)) := rfl
def kWh (c : FT) (b : FS) (n : Nat) : Bool → Ev → Out := fun t ε => if t = true then (b ε).lp (whGo c b n) else .nx ε
theorem kk_Wh (c : FT) (b : FS) (n : Nat) (t : Bool) (ε : Ev) : kWh c b n t ε = (if t = true then (b ε).lp (whGo c b n) else .nx ε) := rfl
theorem wg_succ (c : FT) (b : FS) (n : Nat) (ε : Ev) : whGo c b (n + 1) ε = (c ε).out (kWh c b n) := rfl
theorem ap_fWh (c : FT) (body : FS) (ε : Ev) : fWh c body ε = whGo c body fuel ε := rfl
theorem ap_evl0 (ε : Ev) : evl [] ε = .ok [] ε := rfl
theorem ap_evl1 (f : FE) (fl : List FE) (ε : Ev) : evl (f :: fl) ε = aCons f (evl fl) ε := rfl
section
variable {α β : Type}
theorem b_ok (a : α) (ε : Ev) (k : α → Ev → Res β) : (Res.ok a ε).bind k = k a ε := rfl
theorem b_exc (c : Nat) (fs : List Str) (ds : List D) (ε : Ev) (k : α → Ev → Res β) : (Res.exc c fs ds ε : Res α).bind k = .exc c fs ds ε := rfl
theorem b_bad (k : α → Ev → Res β) : (Res.bad : Res α).bind k = .bad := rfl
theorem o_ok (a : α) (ε : Ev) (k : α → Ev → Out) : (Res.ok a ε).out k = k a ε := rfl
theorem o_exc (c : Nat) (fs : List Str) (ds : List D) (ε : Ev) (k : α → Ev → Out) : (Res.exc c fs ds ε : Res α).out k = .exc c fs ds ε := rfl
theorem o_bad (k : α → Ev → Out) : (Res.bad : Res α).out k = .bad := rfl
theorem n_ok (a : α) (ε : Ev) : (Res.ok a ε).nox = .ok a ε := rfl
end
theorem q_nx (ε : Ev) (k : FS) : (Out.nx ε).seq k = k ε := rfl
theorem q_bk (ε : Ev) (k : FS) : (Out.bk ε).seq k = .bk ε := rfl
theorem q_ct (ε : Ev) (k : FS) : (Out.ct ε).seq k = .ct ε := rfl
theorem q_rt (d : D) (ε : Ev) (k : FS) : (Out.rt d ε).seq k = .rt d ε := rfl
theorem q_exc (c : Nat) (fs : List Str) (ds : List D) (ε : Ev) (k : FS) : (Out.exc c fs ds ε).seq k = .exc c fs ds ε := rfl
theorem l_nx (ε : Ev) (k : FS) : (Out.nx ε).lp k = k ε := rfl
theorem l_bk (ε : Ev) (k : FS) : (Out.bk ε).lp k = .nx ε := rfl
theorem l_ct (ε : Ev) (k : FS) : (Out.ct ε).lp k = k ε := rfl
theorem l_rt (d : D) (ε : Ev) (k : FS) : (Out.rt d ε).lp k = .rt d ε := rfl
theorem l_exc (c : Nat) (fs : List Str) (ds : List D) (ε : Ev) (k : FS) : (Out.exc c fs ds ε).lp k = .exc c fs ds ε := rfl
theorem of_some (d : D) (ε : Ev) : Res.of (some d) ε = .ok d ε := rfl
theorem fg_nil (p : FG) (b : FS) (ε : Ev) : forGo p b [] ε = .nx ε := rfl
theorem fg_cons (p : FG) (b : FS) (d : D) (ds : List D) (ε : Ev) : forGo p b (d :: ds) ε = (match p d ε with
  | none => .bad
  | some ε1 => (b ε1).lp (forGo p b ds)) := rfl
theorem lg_nil (vs : List Nat) (p : FG) (st : Ev → List D → Res (List D)) (ε : Ev) (acc : List D) : lpGo vs p st [] ε acc = .ok acc ε := rfl
theorem clr_nil (ε : Ev) : clr [] ε = ε := rfl
theorem clr_cons (i : Nat) (is : List Nat) (ε : Ev) : clr (i :: is) ε = (clr is ε).set i .no := rfl
theorem allV_nil : allV [] = some [] := rfl
theorem allV_v (d : D) (as : List AD) : allV (.v d :: as) = (allV as).map (d :: ·) := rfl
theorem allV_map (ds : List D) : allV (ds.map AD.v) = some ds := by
  induction ds with
  | nil => rfl
  | cons d ds ih => simp [allV, ih]
theorem allV_app (ds : List D) (as : List AD) : allV (ds.map AD.v ++ as) = (allV as).map (ds ++ ·) := by
  induction ds with
  | nil => simp
  | cons d ds ih => simp [allV, ih, Option.map_map, Function.comp_def]
theorem tk_nil (ε : Ev) : takeA [] [] ε = some ([], ε) := rfl
theorem tk_v (d : D) (as : List AD) (ε : Ev) : takeA [] (.v d :: as) ε = (takeA [] as ε).map fun p => (d :: p.1, p.2) := rfl
theorem tk_f (bs : List Bool) (d : D) (as : List AD) (ε : Ev) : takeA (false :: bs) (.v d :: as) ε = (takeA bs as ε).map fun p => (d :: p.1, p.2) := rfl
theorem tk_tv (bs : List Bool) (d : D) (as : List AD) (ε : Ev) : takeA (true :: bs) (.v d :: as) ε = (takeA bs as ε).map fun p => (d :: p.1, p.2) := rfl
theorem tk_tb (bs : List Bool) (j : Nat) (as : List AD) (ε : Ev) : takeA (true :: bs) (.b j :: as) ε = (match ε[j]? with
    | some (.val d) => (takeA bs as (ε.set j .no)).map fun p => (d :: p.1, p.2)
    | some (.bor d) => (takeA bs as (ε.set j .no)).map fun p => (d :: p.1, p.2)
    | _ => none) := rfl
theorem tk_map (ds : List D) (ε : Ev) : takeA [] (ds.map AD.v) ε = some (ds, ε) := by
  induction ds with
  | nil => rfl
  | cons d ds ih => simp [takeA, ih]
theorem gv_nil (ε0 : Ev) (as : List AD) (ε : Ev) : giveA ε0 [] as [] ε = some ε := rfl
theorem gv_f (ε0 : Ev) (bs : List Bool) (d : D) (as : List AD) (os : List D) (ε : Ev) : giveA ε0 (false :: bs) (.v d :: as) os ε = giveA ε0 bs as os ε := rfl
theorem gv_tv (ε0 : Ev) (bs : List Bool) (d : D) (as : List AD) (o : D) (os : List D) (ε : Ev) : giveA ε0 (true :: bs) (.v d :: as) (o :: os) ε = giveA ε0 bs as os ε := rfl
theorem gv_tb (ε0 : Ev) (bs : List Bool) (j : Nat) (as : List AD) (o : D) (os : List D) (ε : Ev) : giveA ε0 (true :: bs) (.b j :: as) (o :: os) ε = (match ε0[j]?, ε[j]? with
    | some (.val _), some .no => giveA ε0 bs as os (ε.set j (.val o))
    | some (.bor _), some .no => giveA ε0 bs as os (ε.set j (.bor o))
    | _, _ => none) := rfl
theorem e0_nil (n : Nat) : env0 [] [] n = List.replicate n .no := by cases n <;> rfl
theorem e0_v (d : D) (ds : List D) (n : Nat) : env0 [] (d :: ds) (n + 1) = .val d :: env0 [] ds n := rfl
theorem e0_t (bs : List Bool) (d : D) (ds : List D) (n : Nat) : env0 (true :: bs) (d :: ds) (n + 1) = .bor d :: env0 bs ds n := rfl
theorem e0_f (bs : List Bool) (d : D) (ds : List D) (n : Nat) : env0 (false :: bs) (d :: ds) (n + 1) = .val d :: env0 bs ds n := rfl
theorem os_nil (ε : Ev) : outs [] ε = some [] := rfl
theorem os_t (bs : List Bool) (d : D) (ε : Ev) : outs (true :: bs) (.bor d :: ε) = (outs bs ε).map (d :: ·) := rfl
theorem os_f (bs : List Bool) (s : SV) (ε : Ev) : outs (false :: bs) (s :: ε) = outs bs ε := rfl
theorem cr_rt (bs : List Bool) (d : D) (ε : Ev) : (Out.rt d ε).cres bs = (match outs bs ε with
    | some os => .ok d os
    | none => .bad) := rfl
theorem cr_nx (bs : List Bool) (ε : Ev) : (Out.nx ε).cres bs = (match outs bs ε with
    | some os => .ok .non os
    | none => .bad) := rfl
theorem cr_exc (bs : List Bool) (c : Nat) (fs : List Str) (ds : List D) (ε : Ev) : (Out.exc c fs ds ε).cres bs = (match outs bs ε with
    | some os => .exc c fs ds os
    | none => .bad) := rfl
mutual
theorem D.frz_of : ∀ d : D, d.fz = true → d.frz = d
  | .non, _ => by simp [D.frz]
  | .bl _, _ => by simp [D.frz]
  | .int _, _ => by simp [D.frz]
  | .str _, _ => by simp [D.frz]
  | .ty _, _ => by simp [D.frz]
  | .cls _, _ => by simp [D.frz]
  | .tup ds, h => by simp only [D.fz] at h; simp [D.frz, frzs_of ds h]
  | .tuk ds, h => by simp only [D.fz] at h; simp [D.frz, frzs_of ds h]
  | .scr ds, h => by simp only [D.fz] at h; simp [D.frz, frzs_of ds h]
  | .lst o ds, h => by simp only [D.fz, Bool.and_eq_true, Bool.not_eq_true'] at h; simp [D.frz, frzs_of ds h.2, h.1]
  | .dic o _ ds, h => by simp only [D.fz, Bool.and_eq_true, Bool.not_eq_true'] at h; simp [D.frz, frzs_of ds h.2, h.1]
  | .ins o _ _ ds, h => by simp only [D.fz, Bool.and_eq_true, Bool.not_eq_true'] at h; simp [D.frz, frzs_of ds h.2, h.1]
  | .dcn o _ ds, h => by simp only [D.fz, Bool.and_eq_true, Bool.not_eq_true'] at h; simp [D.frz, frzs_of ds h.2, h.1]
  | .dil _ ds, h => by simp only [D.fz] at h; simp [D.frz, frzs_of ds h]
  | .dcb o _ _, h => by simp only [D.fz, Bool.not_eq_true'] at h; simp [D.frz, h]
  | .err _ _ ds, h => by simp only [D.fz] at h; simp [D.frz, frzs_of ds h]
theorem frzs_of : ∀ ds : List D, fzs ds = true → frzs ds = ds
  | [], _ => by simp [frzs]
  | d :: ds, h => by simp only [fzs, Bool.and_eq_true] at h; simp [frzs, D.frz_of d h.1, frzs_of ds h.2]
end
theorem fzs_iff (ds : List D) : fzs ds = true ↔ ∀ d ∈ ds, d.fz = true := by
  induction ds with
  | nil => simp [fzs]
  | cons d ds ih => simp [fzs, ih]
theorem fzs_map {α : Type} {f : α → D} (h : ∀ x, (f x).fz = true) (xs : List α) : fzs (xs.map f) = true := by
  rw [fzs_iff]
  intro d hd
  obtain ⟨x, _, rfl⟩ := List.mem_map.mp hd
  exact h x
theorem fz_non : D.non.fz = true := by simp [D.fz]
theorem fz_bl (b : Bool) : (D.bl b).fz = true := by simp [D.fz]
theorem fz_int (b : Int) : (D.int b).fz = true := by simp [D.fz]
theorem fz_str (b : Str) : (D.str b).fz = true := by simp [D.fz]
theorem fz_ty (b : String) : (D.ty b).fz = true := by simp [D.fz]
theorem fz_cls (b : Nat) : (D.cls b).fz = true := by simp [D.fz]
theorem fz_tup (ds : List D) : (D.tup ds).fz = fzs ds := by simp [D.fz]
theorem fz_scr (ds : List D) : (D.scr ds).fz = fzs ds := by simp [D.fz]
theorem fz_lst (o : Bool) (ds : List D) : (D.lst o ds).fz = (!o && fzs ds) := by simp [D.fz]
theorem fz_dic (o : Bool) (ks : List Key) (ds : List D) : (D.dic o ks ds).fz = (!o && fzs ds) := by simp [D.fz]
theorem fz_ins (o : Bool) (c : Nat) (fs : List Str) (ds : List D) : (D.ins o c fs ds).fz = (!o && fzs ds) := by simp [D.fz]
theorem fzs_nil : fzs [] = true := by simp [fzs]
theorem fzs_cons (d : D) (ds : List D) : fzs (d :: ds) = (d.fz && fzs ds) := by simp [fzs]
theorem rz_non : D.non.frz = .non := by simp [D.frz]
theorem rz_bl (b : Bool) : (D.bl b).frz = .bl b := by simp [D.frz]
theorem rz_int (b : Int) : (D.int b).frz = .int b := by simp [D.frz]
theorem rz_str (b : Str) : (D.str b).frz = .str b := by simp [D.frz]
theorem rz_tup (ds : List D) : (D.tup ds).frz = .tup (frzs ds) := by simp [D.frz]
theorem rz_scr (ds : List D) : (D.scr ds).frz = .scr (frzs ds) := by simp [D.frz]
theorem rz_lst (o : Bool) (ds : List D) : (D.lst o ds).frz = .lst false (frzs ds) := by simp [D.frz]
theorem rz_dic (o : Bool) (ks : List Key) (ds : List D) : (D.dic o ks ds).frz = .dic false ks (frzs ds) := by simp [D.frz]
theorem rz_ins (o : Bool) (c : Nat) (fs : List Str) (ds : List D) : (D.ins o c fs ds).frz = .ins false c fs (frzs ds) := by simp [D.frz]
theorem rzs_nil : frzs [] = [] := by simp [frzs]
theorem rzs_cons (d : D) (ds : List D) : frzs (d :: ds) = d.frz :: frzs ds := by simp [frzs]
theorem frzs_fz {ds : List D} (h : fzs ds = true) : frzs ds = ds := frzs_of ds h
theorem lpGo_inv {vs : List Nat} {p : FG} {st : Ev → List D → Res (List D)} (I : Nat → Ev → List D → Prop) : ∀ (ds : List D) (k : Nat) (ε : Ev) (acc : List D), I k ε acc →
    (∀ i d ε acc, ds[i]? = some d → I (k + i) ε acc → ∃ ε1 ε2 acc', p d ε = some ε1 ∧ st ε1 acc = .ok acc' ε2 ∧ I (k + i + 1) (clr vs ε2) acc') →
    ∃ ε' acc', lpGo vs p st ds ε acc = .ok acc' ε' ∧ I (k + ds.length) ε' acc'
  | [], k, ε, acc, h0, _ => ⟨ε, acc, rfl, h0⟩
  | d :: ds, k, ε, acc, h0, hs => by
    obtain ⟨ε1, ε2, acc', e1, e2, h1⟩ := hs 0 d ε acc (by simp) h0
    obtain ⟨ε', a', e3, h3⟩ := lpGo_inv I ds (k + 1) (clr vs ε2) acc' h1 fun i d' ε' a' hd hI => by
      have := hs (i + 1) d' ε' a' (by simpa using hd) (by rw [show k + (i + 1) = k + 1 + i by omega]; exact hI)
      rw [show k + (i + 1) = k + 1 + i by omega] at this
      exact this
    refine ⟨ε', a', ?_, by rw [show k + (d :: ds).length = k + 1 + ds.length by simp; omega]; exact h3⟩
    simp only [lpGo, e1, e2, Res.bind]
    exact e3
theorem forGo_inv {p : FG} {b : FS} (I : Nat → Ev → Prop) : ∀ (ds : List D) (k : Nat) (ε : Ev), I k ε →
    (∀ i d ε, ds[i]? = some d → I (k + i) ε → ∃ ε1 ε2, p d ε = some ε1 ∧ b ε1 = .nx ε2 ∧ I (k + i + 1) ε2) → ∃ ε', forGo p b ds ε = .nx ε' ∧ I (k + ds.length) ε'
  | [], k, ε, h0, _ => ⟨ε, rfl, h0⟩
  | d :: ds, k, ε, h0, hs => by
    obtain ⟨ε1, ε2, e1, e2, h1⟩ := hs 0 d ε (by simp) h0
    obtain ⟨ε', e3, h3⟩ := forGo_inv I ds (k + 1) ε2 h1 fun i d' ε' hd hI => by
      have := hs (i + 1) d' ε' (by simpa using hd) (by rw [show k + (i + 1) = k + 1 + i by omega]; exact hI)
      rw [show k + (i + 1) = k + 1 + i by omega] at this
      exact this
    refine ⟨ε', ?_, by rw [show k + (d :: ds).length = k + 1 + ds.length by simp; omega]; exact h3⟩
    simp only [forGo, e1, e2, Out.lp]
    exact e3
def sO (l : List Nat) : Str := ⟨l.toArray⟩
theorem sO_inj {a b : List Nat} : sO a = sO b ↔ a = b := by simp [sO]
theorem items_tup (ds : List D) : (D.tup ds).items = some ds := rfl
theorem items_lst (o : Bool) (ds : List D) : (D.lst o ds).items = some ds := rfl
theorem items_scr (ds : List D) : (D.scr ds).items = some ds := rfl
theorem atI_nat {α : Type} (xs : List α) (n : Nat) : atI xs (n : Int) = xs[n]? := by
  unfold atI ixN
  by_cases h : n < xs.length
  · simp [h]
  · simp [h, List.getElem?_eq_none (Nat.le_of_not_lt h)]
theorem sIx_n (n d k : Nat) : HT.sIx n d (some (k : Int)) = min k n := HT.sIx_nat n d k
end Nb
namespace Nb
open PySem PySem.Spec PyProof.Rows L2
inductive T where
  | nd (s : List Nat) (ps : List T)
def word (s : List Nat) : Prop := 1 ≤ s.length ∧ s.length ≤ 8 ∧ ∀ c ∈ s, 97 ≤ c ∧ c ≤ 122
def T.nm : T → List Nat
  | .nd s _ => s
def T.pts : T → List T
  | .nd _ ps => ps
mutual
def T.wf : T → Prop
  | .nd s ps => word s ∧ wfs ps
def wfs : List T → Prop
  | [] => True
  | p :: ps => p.wf ∧ wfs ps
end
mutual
def T.size : T → Nat
  | .nd _ ps => 1 + szs ps
def szs : List T → Nat
  | [] => 0
  | p :: ps => p.size + szs ps
end
mutual
/-- the greatest number of names of a way -/
def T.dep : T → Nat
  | .nd _ ps => 1 + deps ps
def deps : List T → Nat
  | [] => 0
  | p :: ps => max p.dep (deps ps)
end
mutual
def T.text : T → List Nat
  | .nd s ps => s ++ txl ps
def txl : List T → List Nat
  | [] => []
  | p :: ps => 40 :: (p.text ++ txm ps)
def txm : List T → List Nat
  | [] => [41]
  | p :: ps => 32 :: (p.text ++ txm ps)
end
mutual
def T.plc : T → List (List Nat)
  | .nd _ ps => [] :: plcs 0 ps
def plcs : Nat → List T → List (List Nat)
  | _, [] => []
  | k, p :: ps => (p.plc.map fun x => k :: x) ++ plcs (k + 1) ps
end
def plD (l : List Nat) : D := .tup (l.map fun n => .int (n : Nat))
mutual
def treeD : T → D
  | .nd s ps => .tup [.str (sO s), .tup (treeDs ps)]
def treeDs : List T → List D
  | [] => []
  | p :: ps => treeD p :: treeDs ps
end
def FL : List Str := ["name", "parts", "name_count", "places", "text_told"]
mutual
def docD : T → D
  | .nd s ps => .ins false 3 FL [.str (sO s), .tup (docDs ps), .int ((T.nd s ps).dep : Nat), .tup ((T.nd s ps).plc.map plD), .str (sO (T.nd s ps).text)]
def docDs : List T → List D
  | [] => []
  | p :: ps => docD p :: docDs ps
end
def spotD (x : List Nat × T) : D := .tup [plD x.1, treeD x.2]
theorem treeDs_map (ps : List T) : treeDs ps = ps.map treeD := by
  induction ps with
  | nil => rfl
  | cons p ps ih => rw [treeDs, ih]; rfl
theorem docDs_map (ps : List T) : docDs ps = ps.map docD := by
  induction ps with
  | nil => rfl
  | cons p ps ih => rw [docDs, ih]; rfl
theorem wfs_iff (ps : List T) : wfs ps ↔ ∀ p ∈ ps, p.wf := by
  induction ps with
  | nil => simp [wfs]
  | cons p ps ih => simp [wfs, ih]
theorem szs_mem {ps : List T} {p : T} (h : p ∈ ps) : p.size ≤ szs ps := by
  induction ps with
  | nil => cases h
  | cons q ps ih =>
    simp only [szs]
    rcases List.mem_cons.mp h with rfl | h
    · omega
    · have := ih h; omega
theorem deps_mem {ps : List T} {p : T} (h : p ∈ ps) : p.dep ≤ deps ps := by
  induction ps with
  | nil => cases h
  | cons q ps ih =>
    simp only [deps]
    rcases List.mem_cons.mp h with rfl | h
    · omega
    · have := ih h; omega
theorem fz_plD (l : List Nat) : (plD l).fz = true := by
  rw [plD, fz_tup, fzs_iff]
  intro d hd
  obtain ⟨n, _, rfl⟩ := List.mem_map.mp hd
  exact fz_int _
mutual
theorem fz_treeD : ∀ t : T, (treeD t).fz = true
  | .nd s ps => by rw [treeD, fz_tup, fzs_cons, fz_str, fzs_cons, fz_tup, fzs_treeDs ps, fzs_nil]; rfl
theorem fzs_treeDs : ∀ ps : List T, fzs (treeDs ps) = true
  | [] => by rw [treeDs, fzs_nil]
  | p :: ps => by rw [treeDs, fzs_cons, fz_treeD p, fzs_treeDs ps]; rfl
end
mutual
theorem fz_docD : ∀ t : T, (docD t).fz = true
  | .nd s ps => by
    rw [docD, fz_ins]
    simp only [fzs_cons, fz_str, fz_tup, fzs_docDs ps, fz_int, fzs_nil, fzs_map fz_plD]
    rfl
theorem fzs_docDs : ∀ ps : List T, fzs (docDs ps) = true
  | [] => by rw [docDs, fzs_nil]
  | p :: ps => by rw [docDs, fzs_cons, fz_docD p, fzs_docDs ps]; rfl
end
theorem fz_spotD (x : List Nat × T) : (spotD x).fz = true := by
  rw [spotD, fz_tup, fzs_cons, fz_plD, fzs_cons, fz_treeD, fzs_nil]; rfl
theorem rz_treeD (t : T) : (treeD t).frz = treeD t := D.frz_of _ (fz_treeD t)
theorem rz_docD (t : T) : (docD t).frz = docD t := D.frz_of _ (fz_docD t)
theorem rzs_treeDs (t : List T) : frzs (treeDs t) = treeDs t := frzs_of _ (fzs_treeDs t)
theorem rzs_docDs (t : List T) : frzs (docDs t) = docDs t := frzs_of _ (fzs_docDs t)
theorem rz_plD (l : List Nat) : (plD l).frz = plD l := D.frz_of _ (fz_plD l)
theorem kEq_int (n : Bool) (i j : Int) : kEq n (.int i) (.int j) = some (.bl (n != (i == j))) := by
  simp [kEq, D.data, PyData.eqv, PyData.depth]
theorem kEq_bl (n : Bool) (i j : Bool) : kEq n (.bl i) (.bl j) = some (.bl (n != (i == j))) := by
  simp [kEq, D.data, PyData.eqv, PyData.depth]
theorem kEq_strs (n : Bool) (a b : Str) : kEq n (.str a) (.str b) = some (.bl (n != decide (a = b))) := by
  simp only [kEq, D.data, PyData.eqv, PyData.depth, Nat.min_self]
  rw [if_pos (by omega)]
  congr 3
theorem kEq_str (n : Bool) (a b : List Nat) : kEq n (.str (sO a)) (.str (sO b)) = some (.bl (n != decide (a = b))) := by
  rw [kEq_strs, decide_eq_decide.mpr sO_inj]
end Nb
namespace Nb
open PySem PySem.Spec PyProof.Rows L2
theorem kAdd_int (i j : Int) : kAdd (.int i) (.int j) = some (.int (i + j)) := rfl
theorem kSub_int (i j : Int) : kSub (.int i) (.int j) = some (.int (i - j)) := rfl
theorem kMod_int (i j : Int) (h : 0 < j) : kMod (.int i) (.int j) = some (.int (i % j)) := by simp [kMod, h]
theorem kDiv_int (i j : Int) (h : 0 < j) (h2 : j < 1073741824) : kDiv (.int i) (.int j) = some (.int (i / j)) := by simp [kDiv, CDiv, h, h2]
theorem kMulS_R (i j : Int) (h : -18446744073709551616 < j) (h2 : j < 18446744073709551616) : kMulS (.int i) (.int j) = some (.int (i * j)) := by
  simp [kMulS, kMul, CMul, h, h2]
theorem kMulS_L (i j : Int) (h : -18446744073709551616 < i) (h2 : i < 18446744073709551616) : kMulS (.int i) (.int j) = some (.int (i * j)) := by
  simp [kMulS, kMul, CMul, h, h2]
theorem kMulS_intT (i j : Int) (h : CMul i j) : kMulS (.int i) (.int j) = some (.int (i * j)) := by
  simp [kMulS, kMul, h]
theorem kPow_18 : kPow (.int 10) (.int 18) = some (.int 1000000000000000000) := rfl
theorem kInt_int (i : Int) : kInt [.int i] = some (.int i) := rfl
theorem kInt_bl (b : Bool) : kInt [.bl b] = some (.int (if b then 1 else 0)) := rfl
theorem kGe_int (i j : Int) : kGe (.int i) (.int j) = some (.bl (decide (j ≤ i))) := rfl
theorem kGt_int (i j : Int) : kGt (.int i) (.int j) = some (.bl (decide (j < i))) := rfl
theorem kLt_int (i j : Int) : kLt (.int i) (.int j) = some (.bl (decide (i < j))) := rfl
theorem kLe_int (i j : Int) : kLe (.int i) (.int j) = some (.bl (decide (i ≤ j))) := rfl
theorem kIs_non (n : Bool) : kIs n .non .non = some (.bl (!n)) := rfl
theorem kIs_int (n : Bool) (i : Int) : kIs n (.int i) .non = some (.bl n) := rfl
theorem kIs_str (n : Bool) (i : Str) : kIs n (.str i) .non = some (.bl n) := rfl
theorem tru_bl (b : Bool) : (D.bl b).tru = some b := rfl
theorem tru_int (b : Int) : (D.int b).tru = some (b != 0) := rfl
theorem tru_lst (o : Bool) (ds : List D) : (D.lst o ds).tru = some (!ds.isEmpty) := rfl
theorem tru_tup (ds : List D) : (D.tup ds).tru = some (!ds.isEmpty) := rfl
theorem kIx_lst (o : Bool) (ds : List D) (n : Nat) (d : D) (h : ds[n]? = some d) (hz : d.fz = true) : kIx (.lst o ds) (.int (n : Nat)) = some d := by
  simp only [kIx, D.items, atI_nat, h, hz, if_true]
theorem kIxP_tup (ds : List D) (n : Nat) : kIxP (.tup ds) (.int (n : Nat)) = ds[n]? := by
  simp only [kIxP, D.items, atI_nat]
theorem kIxP_lst (o : Bool) (ds : List D) (n : Nat) : kIxP (.lst o ds) (.int (n : Nat)) = ds[n]? := by
  simp only [kIxP, D.items, atI_nat]
theorem kIxP_tup0 (d : D) (ds : List D) : kIxP (.tup (d :: ds)) (.int 0) = some d := kIxP_tup _ 0
theorem kIxP_tup1 (c d : D) (ds : List D) : kIxP (.tup (c :: d :: ds)) (.int 1) = some d := kIxP_tup _ 1
theorem kIxP_lst0 (o : Bool) (d : D) (ds : List D) : kIxP (.lst o (d :: ds)) (.int 0) = some d := kIxP_lst _ _ 0
theorem kIxP_lst1 (o : Bool) (c d : D) (ds : List D) : kIxP (.lst o (c :: d :: ds)) (.int 1) = some d := kIxP_lst _ _ 1
theorem kLenP_tup (ds : List D) : kLenP (.tup ds) = some (.int ds.length) := rfl
theorem kLenP_lst (o : Bool) (ds : List D) : kLenP (.lst o ds) = some (.int ds.length) := rfl
theorem kLen_lst (o : Bool) (ds : List D) : kLen [.lst o ds] = some (.int ds.length) := rfl
theorem kLen_tup (ds : List D) : kLen [.tup ds] = some (.int ds.length) := rfl
theorem kList_lst (o : Bool) (ds : List D) (h : fzs ds = true) : kList [.lst o ds] = some (.lst true ds) := by simp [kList, D.items, h]
theorem kApp_lst (xs : List D) (y : D) (h : xs.length < mx) : kApp (.lst true xs) [y] = some (.lst true (xs ++ [y]), .non) := by simp [kApp, h]
theorem kPop_snoc (xs : List D) (y : D) : kPop (.lst true (xs ++ [y])) [] = some (.lst true xs, y) := by
  unfold kPop
  simp
theorem tyD_lst (o : Bool) (ds : List D) : tyD "list" (.lst o ds) = true := rfl
theorem getL_nil (d : D) : getL [] d = some d := rfl
theorem setL_nil (d e : D) : setL [] d e = some e := rfl
theorem datas_ints (l : List Int) : datas (l.map D.int) = some (l.map PyData.int) := by
  induction l with
  | nil => simp [datas]
  | cons i l ih => simp [datas, D.data, ih]
theorem bn_t (b : Bool) : (true != b) = !b := by cases b <;> rfl
theorem bn_f (b : Bool) : (false != b) = b := by cases b <;> rfl
theorem isE_snoc {α : Type} (a : List α) (x : α) : (a ++ [x]).isEmpty = false := by simp
theorem datas_nil : datas [] = some [] := by simp [datas]
theorem datas_intsA (l : List Int) (x : Int) : datas (l.map D.int ++ [.int x]) = some (l.map PyData.int ++ [.int x]) := by
  have := datas_ints (l ++ [x]); simpa using this
theorem md_lo (a j : Int) (h : 0 < j) : (-18446744073709551616 < a % j) = True := eq_true (by have := Int.emod_nonneg a (Int.ne_of_gt h); omega)
theorem md_hi (a j : Int) (h : 0 < j) (h2 : j < 18446744073709551616) : (a % j < 18446744073709551616) = True := eq_true (by have := Int.emod_lt_of_pos a h; omega)
theorem kSl_scr63 (ds : List D) (h : fzs ds = true) (l : ds.length ≤ 63) : kSl none (some 63) (.scr ds) = some (.lst true ds) := by
  have e : cutD ds none (some 63) = ds := by
    unfold cutD
    rw [show (some (63 : Int)) = some ((63 : Nat) : Int) from rfl, sIx_n, HT.sIx_none, Nat.min_eq_right l]
    simp
  simp [kSl, h, e]
theorem fzs_ints (l : List Int) : fzs (l.map D.int) = true := fzs_map fz_int l
theorem rzs_ints (l : List Int) : frzs (l.map D.int) = l.map D.int := frzs_of _ (fzs_ints l)
theorem ks_cm : ((Sum.inr (Str.ofString "cells") : Key) = Sum.inr (Str.ofString "mixed")) = False := eq_false (by decide +kernel)
theorem ks_cd : ((Sum.inr (Str.ofString "cells") : Key) = Sum.inr (Str.ofString "draws")) = False := eq_false (by decide +kernel)
theorem ks_md : ((Sum.inr (Str.ofString "mixed") : Key) = Sum.inr (Str.ofString "draws")) = False := eq_false (by decide +kernel)
def DKK : List Key := [.inr "cells", .inr "mixed", .inr "draws"]
def deckD (c : List D) (m n : Int) : D := .dic true DKK [.lst true c, .int m, .int n]
theorem dk_cells (c : List D) (m n : Int) : kIxP (deckD c m n) (.str "cells") = some (.lst true c) := by simp only [deckD, DKK, kIxP, lookK, if_true]
theorem dk_mixed (c : List D) (m n : Int) : kIxP (deckD c m n) (.str "mixed") = some (.int m) := by simp only [deckD, DKK, kIxP, lookK, if_true, ks_cm, if_false]
theorem dk_draws (c : List D) (m n : Int) : kIxP (deckD c m n) (.str "draws") = some (.int n) := by simp only [deckD, DKK, kIxP, lookK, if_true, ks_cd, ks_md, if_false]
theorem dk_get (c : List D) (m n : Int) : getL [.key (.inr "cells")] (deckD c m n) = some (.lst true c) := by
  simp [getL, stepAt, deckD, DKK, posK]
theorem dk_set (c c' : List D) (m n : Int) : setL [.key (.inr "cells")] (deckD c m n) (.lst true c') = some (deckD c' m n) := by
  simp [setL, stepAt, deckD, DKK, posK, withDs]
theorem dk_ap : apart DKK = true := by decide +kernel
theorem dk_put (c : List D) (m n k : Int) : kSet (deckD c m n) (.str "draws") (.int k) = some (deckD c m k) := by
  have h : apart [(Sum.inr (Str.ofString "cells") : Key), .inr (Str.ofString "mixed"), .inr (Str.ofString "draws")] = true ∧ [(Sum.inr (Str.ofString "cells") : Key), .inr (Str.ofString "mixed"), .inr (Str.ofString "draws")].length < mx := ⟨by decide +kernel, by decide⟩
  simp only [deckD, DKK, kSet, if_pos h, putKD, ks_cd, ks_md, if_false, if_true]
def Dk (b : Nat) (d : D) : Prop := ∃ (c : List Int) (m n : Int), d = deckD (c.map .int) m n ∧ c.length ≤ 64 ∧ 0 ≤ m ∧ m < 2147483648 ∧ 0 ≤ n ∧ n ≤ (b : Int)
theorem Dk.mono {b b' : Nat} {d : D} (h : Dk b d) (l : b ≤ b') : Dk b' d := by
  obtain ⟨c, m, n, h1, h2, h3, h4, h5, h6⟩ := h
  exact ⟨c, m, n, h1, h2, h3, h4, h5, by omega⟩
def Draws (run : List D → CRes) : Prop := ∀ (b : Nat) (d : D) (k : Int), Dk b d → b < 2 ^ 62 → 1 ≤ k → k < 1073741824 → ∃ (v : Int) (d' : D), run [d, .int k] = .ok (.int v) [d'] ∧ 0 ≤ v ∧ v < k ∧ Dk (b + 1) d'
def Picks (run : List D → CRes) : Prop := ∀ (b : Nat) (d : D) (o : Bool) (xs : List D), Dk b d → b < 2 ^ 62 → fzs xs = true → 1 ≤ xs.length → xs.length < 1073741824 → ∃ x ∈ xs, ∃ d' : D, run [d, .lst o xs] = .ok x [d'] ∧ Dk (b + 1) d'
def Decks (run : List D → CRes) : Prop := ∀ ns : List Int, ns.length ≤ 63 → ∃ d' : D, run (scrD ns) = .ok d' [] ∧ Dk 0 d'
def Names (run : List D → CRes) : Prop := ∀ (b : Nat) (d : D), Dk b d → b < 2 ^ 61 → ∃ (s : List Nat) (d' : D), word s ∧ run [d] = .ok (.str (sO s)) [d'] ∧ Dk (b + 9) d'
end Nb
namespace Nb
open PySem PySem.Spec PyProof.Rows L2
theorem treeD_nd (s : List Nat) (ps : List T) : treeD (.nd s ps) = .tup [.str (sO s), .tup (ps.map treeD)] := by rw [treeD, treeDs_map]
theorem docD_nd (s : List Nat) (ps : List T) : docD (.nd s ps) = .ins false 3 FL [.str (sO s), .tup (ps.map docD), .int ((T.nd s ps).dep : Nat), .tup ((T.nd s ps).plc.map plD), .str (sO (T.nd s ps).text)] := by rw [docD, docDs_map]
theorem ld1 (a b c d e : D) : lookD (Str.ofString "name") FL [a, b, c, d, e] = some a := by simp [lookD, FL]
theorem sn1 : (Str.ofString "parts" = Str.ofString "name") = False := eq_false (by decide +kernel)
theorem sn2 : (Str.ofString "name_count" = Str.ofString "name") = False := eq_false (by decide +kernel)
theorem sn3 : (Str.ofString "name_count" = Str.ofString "parts") = False := eq_false (by decide +kernel)
theorem sn4 : (Str.ofString "places" = Str.ofString "name") = False := eq_false (by decide +kernel)
theorem sn5 : (Str.ofString "places" = Str.ofString "parts") = False := eq_false (by decide +kernel)
theorem sn6 : (Str.ofString "places" = Str.ofString "name_count") = False := eq_false (by decide +kernel)
theorem sn7 : (Str.ofString "text_told" = Str.ofString "name") = False := eq_false (by decide +kernel)
theorem sn8 : (Str.ofString "text_told" = Str.ofString "parts") = False := eq_false (by decide +kernel)
theorem sn9 : (Str.ofString "text_told" = Str.ofString "name_count") = False := eq_false (by decide +kernel)
theorem sn10 : (Str.ofString "text_told" = Str.ofString "places") = False := eq_false (by decide +kernel)
theorem ld2 (a b c d e : D) : lookD (Str.ofString "parts") FL [a, b, c, d, e] = some b := by simp only [lookD, FL, sn1, if_false, if_true]
theorem ld3 (a b c d e : D) : lookD (Str.ofString "name_count") FL [a, b, c, d, e] = some c := by simp only [lookD, FL, sn2, sn3, if_false, if_true]
theorem ld4 (a b c d e : D) : lookD (Str.ofString "places") FL [a, b, c, d, e] = some d := by simp only [lookD, FL, sn4, sn5, sn6, if_false, if_true]
theorem ld5 (a b c d e : D) : lookD (Str.ofString "text_told") FL [a, b, c, d, e] = some e := by simp only [lookD, FL, sn7, sn8, sn9, sn10, if_false, if_true]
theorem con0 : [0].contains 0 = true := rfl
theorem con3 : [3].contains 3 = true := rfl
theorem fd_name (t : T) : fldOf [3] (Str.ofString "name") (docD t) = some (.str (sO t.nm)) := by cases t with | nd s ps => rw [docD_nd, kk_fld, con3, if_pos rfl, ld1]; rfl
theorem fd_parts (t : T) : fldOf [3] (Str.ofString "parts") (docD t) = some (.tup (t.pts.map docD)) := by cases t with | nd s ps => rw [docD_nd, kk_fld, con3, if_pos rfl, ld2]; rfl
theorem fd_count (t : T) : fldOf [3] (Str.ofString "name_count") (docD t) = some (.int (t.dep : Nat)) := by cases t with | nd s ps => rw [docD_nd, kk_fld, con3, if_pos rfl, ld3]
theorem fd_places (t : T) : fldOf [3] (Str.ofString "places") (docD t) = some (.tup (t.plc.map plD)) := by cases t with | nd s ps => rw [docD_nd, kk_fld, con3, if_pos rfl, ld4]
theorem fd_text (t : T) : fldOf [3] (Str.ofString "text_told") (docD t) = some (.str (sO t.text)) := by cases t with | nd s ps => rw [docD_nd, kk_fld, con3, if_pos rfl, ld5]
theorem kx_name (t : T) : kIxP (treeD t) (.int 0) = some (.str (sO t.nm)) := by cases t with | nd s ps => rw [treeD_nd, kIxP_tup0]; rfl
theorem kx_parts (t : T) : kIxP (treeD t) (.int 1) = some (.tup (t.pts.map treeD)) := by cases t with | nd s ps => rw [treeD_nd, kIxP_tup1]; rfl
theorem fzs_plDs (l : List (List Nat)) : fzs (l.map plD) = true := fzs_map fz_plD l
theorem rzs_plDs (l : List (List Nat)) : frzs (l.map plD) = l.map plD := frzs_of _ (fzs_plDs l)
theorem fzs_spots (l : List (List Nat × T)) : fzs (l.map spotD) = true := fzs_map fz_spotD l
theorem rzs_spots (l : List (List Nat × T)) : frzs (l.map spotD) = l.map spotD := frzs_of _ (fzs_spots l)
theorem fzs_mtree (l : List T) : fzs (l.map treeD) = true := fzs_map fz_treeD l
theorem rzs_mtree (l : List T) : frzs (l.map treeD) = l.map treeD := frzs_of _ (fzs_mtree l)
theorem fzs_mdoc (l : List T) : fzs (l.map docD) = true := fzs_map fz_docD l
theorem rzs_mdoc (l : List T) : frzs (l.map docD) = l.map docD := frzs_of _ (fzs_mdoc l)
def Good (t : T) : Prop := t.wf ∧ t.dep ≤ 32 ∧ t.size ≤ 1000
theorem Good.sub {s : List Nat} {ps : List T} (h : Good (.nd s ps)) : ∀ p ∈ ps, Good p := fun p hp => by
  obtain ⟨h1, h2, h3⟩ := h
  rw [T.dep] at h2
  rw [T.size] at h3
  exact ⟨(wfs_iff ps).mp h1.2 p hp, by have := deps_mem hp; omega, by have := szs_mem hp; omega⟩
theorem Good.deps {s : List Nat} {ps : List T} (h : Good (.nd s ps)) : deps ps ≤ 31 := by
  have h2 := h.2.1
  rw [T.dep] at h2
  omega
theorem Good.szs {s : List Nat} {ps : List T} (h : Good (.nd s ps)) : szs ps ≤ 999 := by
  have h2 := h.2.2
  rw [T.size] at h2
  omega
def Fine (t : T) : Prop := t.wf ∧ t.size ≤ 1000
theorem Fine.sub {s : List Nat} {ps : List T} (h : Fine (.nd s ps)) : ∀ p ∈ ps, Fine p := fun p hp => by
  obtain ⟨h1, h3⟩ := h
  rw [T.size] at h3
  exact ⟨(wfs_iff ps).mp h1.2 p hp, by have := szs_mem hp; omega⟩
theorem Fine.szs {s : List Nat} {ps : List T} (h : Fine (.nd s ps)) : szs ps ≤ 999 := by
  have h2 := h.2
  rw [T.size] at h2
  omega
def Reads (run : List D → CRes) : Prop := ∀ t : T, Fine t → run [.cls 3, .str (sO t.text)] = .ok (docD t) []
end Nb
set_option maxHeartbeats 2000000
namespace Nb
open PySem PySem.Spec PyProof.Rows L2
def kfRaise1 (c : Nat) (f : Str) (fe : FE)  : D → Ev → Out := fun d ε => if d.fz = true then .exc c [f] [d] ε else .bad
theorem kk_fRaise1 (c : Nat) (f : Str) (fe : FE)  (d : D) (ε : Ev) : kfRaise1 c f fe d ε = (if d.fz = true then .exc c [f] [d] ε else .bad) := rfl
theorem ap_fRaise (c : Nat) (f : Str) (fe : FE) (ε : Ev) : fRaise c f fe ε = ((fe ε).out (kfRaise1 c f fe)) := rfl
def kTry (cs : List Nat) (c0 : Nat) (f : Str) (i j : Nat) (k : List D → Option D) : Out → Out
  | .exc c fs ds ε1 => if cs.contains c = true then (if c = c0 then (if fs = [f] ∧ i < ε1.length ∧ j < ε1.length then (match k ds with
    | some d' => .nx (((ε1.set i .no).set j (.val d')).set i .no)
    | none => .bad) else .bad) else .exc c fs ds ε1) else .bad
  | r => r
theorem ap_fTryX (cs : List Nat) (c0 : Nat) (f : Str) (i j : Nat) (k : List D → Option D) (fb : FS) (ε : Ev) : fTryX cs c0 f i j k fb ε = kTry cs c0 f i j k (fb ε) := by
  unfold fTryX kTry
  cases fb ε <;> rfl
theorem ty_nx (cs : List Nat) (c0 : Nat) (f : Str) (i j : Nat) (k : List D → Option D) (ε : Ev) : kTry cs c0 f i j k (.nx ε) = .nx ε := rfl
theorem ty_rt (cs : List Nat) (c0 : Nat) (f : Str) (i j : Nat) (k : List D → Option D) (d : D) (ε : Ev) : kTry cs c0 f i j k (.rt d ε) = .rt d ε := rfl
end Nb
set_option maxHeartbeats 4000000
namespace Nb
open PySem PySem.Spec PyProof.Rows L2
def kfKeysD1 (f : FE)  : D → Ev → Res (List D) := fun d ε => match d with
  | .dil ks _ => .ok (ks.map keyDD) ε
  | _ => .bad
theorem kk_fKeysD1 (f : FE)  (d : D) (ε : Ev) : kfKeysD1 f d ε = (match d with
  | .dil ks _ => .ok (ks.map keyDD) ε
  | _ => .bad) := rfl
theorem ap_fKeysD (f : FE) (ε : Ev) : fKeysD f ε = ((f ε).bind (kfKeysD1 f)) := rfl
def kfValsD1 (f : FE)  : D → Ev → Res (List D) := fun d ε => match d with
  | .dil _ ds => if fzs ds = true then .ok ds ε else .bad
  | _ => .bad
theorem kk_fValsD1 (f : FE)  (d : D) (ε : Ev) : kfValsD1 f d ε = (match d with
  | .dil _ ds => if fzs ds = true then .ok ds ε else .bad
  | _ => .bad) := rfl
theorem ap_fValsD (f : FE) (ε : Ev) : fValsD f ε = ((f ε).bind (kfValsD1 f)) := rfl
def kfItmsD1 (f : FE)  : D → Ev → Res (List D) := fun d ε => match d with
  | .dil ks ds => if fzs ds = true then .ok (itmD ks ds) ε else .bad
  | _ => .bad
theorem kk_fItmsD1 (f : FE)  (d : D) (ε : Ev) : kfItmsD1 f d ε = (match d with
  | .dil ks ds => if fzs ds = true then .ok (itmD ks ds) ε else .bad
  | _ => .bad) := rfl
theorem ap_fItmsD (f : FE) (ε : Ev) : fItmsD f ε = ((f ε).bind (kfItmsD1 f)) := rfl
def kfZip1 (fs : FA)  : List AD → Ev → Res (List D) := fun as ε => match as with
  | [.v d, .v e] => match d.items, e.items with
    | some xs, some ys => if fzs xs = true ∧ fzs ys = true ∧ d.fz = true ∧ e.fz = true then .ok (zipT xs ys) ε else .bad
    | _, _ => .bad
  | _ => .bad
theorem kk_fZip1 (fs : FA)  (as : List AD) (ε : Ev) : kfZip1 fs as ε = (match as with
  | [.v d, .v e] => match d.items, e.items with
    | some xs, some ys => if fzs xs = true ∧ fzs ys = true ∧ d.fz = true ∧ e.fz = true then .ok (zipT xs ys) ε else .bad
    | _, _ => .bad
  | _ => .bad) := rfl
theorem ap_fZip (fs : FA) (ε : Ev) : fZip fs ε = ((fs ε).bind (kfZip1 fs)) := rfl
def kfLk1 (f : FE)  : D → Ev → Res D := fun d ε => match d with
  | .dic true ks ds => .ok (.dil ks (frzs ds)) ε
  | d => .ok d ε
theorem kk_fLk1 (f : FE)  (d : D) (ε : Ev) : kfLk1 f d ε = (match d with
  | .dic true ks ds => .ok (.dil ks (frzs ds)) ε
  | d => .ok d ε) := rfl
theorem ap_fLk (f : FE) (ε : Ev) : fLk f ε = ((f ε).bind (kfLk1 f)) := rfl
theorem ap_fVarL (i : Nat) (ε : Ev) : fVarL i ε = (match ε[i]? with
  | some (.val (.dic true ks ds)) => .ok (.dil ks (frzs ds)) (ε.set i (.val (.dil ks (frzs ds))))
  | _ => fVar i ε) := rfl
def kfBinPk1 (k : D → D → Option D) (fa : FE) (i : Nat)  : D → Ev → Res D := fun d1 ε => match slotD i ε with
  | some d2 => .of (k d1 d2) ε
  | none => .bad
theorem kk_fBinPk1 (k : D → D → Option D) (fa : FE) (i : Nat)  (d1 : D) (ε : Ev) : kfBinPk1 k fa i d1 ε = (match slotD i ε with
  | some d2 => .of (k d1 d2) ε
  | none => .bad) := rfl
theorem ap_fBinPk (k : D → D → Option D) (fa : FE) (i : Nat) (ε : Ev) : fBinPk k fa i ε = ((fa ε).bind (kfBinPk1 k fa i)) := rfl
theorem ap_fFnPk (k : List D → Option D) (i : Nat) (ε : Ev) : fFnPk k i ε = (match slotD i ε with
  | some d => .of (k [d]) ε
  | none => .bad) := rfl
theorem ap_fListPk (i : Nat) (ε : Ev) : fListPk i ε = fFnPk kList i ε := rfl
def kfListVals1 (f : FE)  : D → Ev → Res D := fun d ε => if d.fz = true then match d with
  | .dic _ _ ds => .ok (.lst true ds) ε
  | .dil _ ds => .ok (.lst true ds) ε
  | _ => .bad else .bad
theorem kk_fListVals1 (f : FE)  (d : D) (ε : Ev) : kfListVals1 f d ε = (if d.fz = true then match d with
  | .dic _ _ ds => .ok (.lst true ds) ε
  | .dil _ ds => .ok (.lst true ds) ε
  | _ => .bad else .bad) := rfl
theorem ap_fListVals (f : FE) (ε : Ev) : fListVals f ε = ((f ε).bind (kfListVals1 f)) := rfl
def kfLenSet1 (f : FE)  : D → Ev → Res D := fun d ε => match d with
  | .lst _ ds => match intsOf ds with
    | some ns => if ns.length < 64 then .ok (.int (PySem.W.ossOf ns).length) ε else .bad
    | none => .bad
  | _ => .bad
theorem kk_fLenSet1 (f : FE)  (d : D) (ε : Ev) : kfLenSet1 f d ε = (match d with
  | .lst _ ds => match intsOf ds with
    | some ns => if ns.length < 64 then .ok (.int (PySem.W.ossOf ns).length) ε else .bad
    | none => .bad
  | _ => .bad) := rfl
theorem ap_fLenSet (f : FE) (ε : Ev) : fLenSet f ε = ((f ε).bind (kfLenSet1 f)) := rfl
def kfPar31 (i j l : Nat) (fs : FA)  : List AD → Ev → Out := fun as ε => match as with
  | [.v d, .v e, .v f] => if i < ε.length ∧ j < ε.length ∧ l < ε.length then .nx (((ε.set i (.val d)).set j (.val e)).set l (.val f)) else .bad
  | _ => .bad
theorem kk_fPar31 (i j l : Nat) (fs : FA)  (as : List AD) (ε : Ev) : kfPar31 i j l fs as ε = (match as with
  | [.v d, .v e, .v f] => if i < ε.length ∧ j < ε.length ∧ l < ε.length then .nx (((ε.set i (.val d)).set j (.val e)).set l (.val f)) else .bad
  | _ => .bad) := rfl
theorem ap_fPar3 (i j l : Nat) (fs : FA) (ε : Ev) : fPar3 i j l fs ε = ((fs ε).out (kfPar31 i j l fs)) := rfl
theorem ap_slotD (i : Nat) (ε : Ev) : slotD i ε = (match ε[i]? with
  | some (.val d) => some d
  | some (.bor d) => some d
  | _ => none) := rfl
end Nb
set_option maxHeartbeats 1000000
namespace Nb
open PySem PySem.Spec PyProof.Rows L2
def kfBinQ1 (k : D → D → Option D) (fa : FE) (q : QD)  : D → Ev → Res D := fun d1 ε => if d1.fz = true then (match q ε with
  | some d2 => .of (k d1 d2) ε
  | none => .bad) else .bad
theorem kk_fBinQ1 (k : D → D → Option D) (fa : FE) (q : QD)  (d1 : D) (ε : Ev) : kfBinQ1 k fa q d1 ε = (if d1.fz = true then (match q ε with
  | some d2 => .of (k d1 d2) ε
  | none => .bad) else .bad) := rfl
theorem ap_fBinQ (k : D → D → Option D) (fa : FE) (q : QD) (ε : Ev) : fBinQ k fa q ε = ((fa ε).bind (kfBinQ1 k fa q)) := rfl
theorem ap_fVarLN (i : Nat) (ε : Ev) : fVarLN i ε = (match ε[i]? with
  | some (.val (.dcn true ks ds)) => (match lockDs ds with
    | some ds' => .ok (.dcn false ks ds') (ε.set i (.val (.dcn false ks ds')))
    | none => .bad)
  | _ => .bad) := rfl
theorem ap_fDicE (q : QD) (ε : Ev) : fDicE q ε = (match q ε with
  | some (.dic _ ks _) => .ok (.bl ks.isEmpty) ε
  | _ => .bad) := rfl
def kmtL1 (k : D → List D → Option D) (d : D) (fs : FA)  : List AD → Ev → Res D := fun as ε => match allV as with
  | some ds => .of (k d ds) ε
  | none => .bad
theorem kk_mtL1 (k : D → List D → Option D) (d : D) (fs : FA)  (as : List AD) (ε : Ev) : kmtL1 k d fs as ε = (match allV as with
  | some ds => .of (k d ds) ε
  | none => .bad) := rfl
def mtL (k : D → List D → Option D) (d : D) (fs : FA) : FE := fun ε => ((fs ε).bind (kmtL1 k d fs))
theorem ap_mtL (k : D → List D → Option D) (d : D) (fs : FA) (ε : Ev) : mtL k d fs ε = ((fs ε).bind (kmtL1 k d fs)) := rfl
def kfMtL1 (k : D → List D → Option D) (f : FE) (fs : FA)  : D → Ev → Res D := fun d ε => if d.fz = true ∧ tyD "list" d = true then mtL k d fs ε else .bad
theorem kk_fMtL1 (k : D → List D → Option D) (f : FE) (fs : FA)  (d : D) (ε : Ev) : kfMtL1 k f fs d ε = (if d.fz = true ∧ tyD "list" d = true then mtL k d fs ε else .bad) := rfl
theorem ap_fMtL (k : D → List D → Option D) (f : FE) (fs : FA) (ε : Ev) : fMtL k f fs ε = ((f ε).bind (kfMtL1 k f fs)) := rfl
theorem ap_gSetU (i : Nat) (qs : QS) (q : QD) (d : D) (ε : Ev) : gSetU i qs q d ε = (match qs ε, q ε, qV i ε with
  | some s, some di, some d0 => (match getL s d0 with
    | some c => (match kSetU c di d with
      | some c' => (match setL s d0 c' with
        | some d0' => some (setS i d0' ε)
        | none => none)
      | none => none)
    | none => none)
  | _, _, _ => none) := rfl
theorem ap_sKeyN (qs : QS) (q : QD) (ε : Ev) : sKeyN qs q ε = (match qs ε, q ε with
  | some s, some (.tup kd) => some (s ++ [.nky kd])
  | _, _ => none) := rfl
theorem ap_qLenN (qa : QD) (ε : Ev) : qLenN qa ε = (match qa ε with
  | some (.dcn o ks ds) => kLenN [.dcn o ks ds]
  | _ => none) := rfl
theorem ap_qArith (f : Int → Int → Int) (qa qb : QD) (ε : Ev) : qArith f qa qb ε = (match qa ε, qb ε with
  | some (.int i), some (.int j) => some (.int (f i j))
  | _, _ => none) := rfl
def kIxU (c k : D) : Option D := if isDn c = true then kIxNP c k else kIxP c k
theorem ap_qIxU (qa qb : QD) (ε : Ev) : qIxU qa qb ε = (match qa ε, qb ε with
  | some c, some k => kIxU c k
  | _, _ => none) := by
  unfold qIxU kIxU
  cases ha : qa ε with
  | none => rfl
  | some c =>
    cases hb : qb ε with
    | none => rfl
    | some k =>
      dsimp only
      unfold qIx
      rw [ha, hb]
end Nb
set_option maxHeartbeats 2000000
namespace Nb
open PySem PySem.Spec PyProof.Rows L2
def Sm (w e : Nat) (d : D) : Prop := ∃ p : PyData, d.data = some p ∧ p.canLay0 = true ∧ p.depth ≤ e ∧ p.weight ≤ w ∧ p.intsShort 13 = true ∧ p.showable = true
def Sms (w e : Nat) (ds : List D) : Prop := ∃ ps : List PyData, datas ds = some ps ∧ PyData.canLayAll0 ps = true ∧ PyData.depthAll ps ≤ e ∧ PyData.weightAll ps ≤ w ∧ PyData.intsShortAll 13 ps = true ∧ PyData.showableAll ps = true
theorem Sm.mono {w e w' e' : Nat} {d : D} (h : Sm w e d) (hw : w ≤ w') (he : e ≤ e') : Sm w' e' d := by
  obtain ⟨p, h1, h2, h3, h4, h5, h6⟩ := h
  exact ⟨p, h1, h2, by omega, by omega, h5, h6⟩
theorem Sms.mono {w e w' e' : Nat} {ds : List D} (h : Sms w e ds) (hw : w ≤ w') (he : e ≤ e') : Sms w' e' ds := by
  obtain ⟨p, h1, h2, h3, h4, h5, h6⟩ := h
  exact ⟨p, h1, h2, by omega, by omega, h5, h6⟩
end Nb
namespace Nb
open PySem PySem.Spec PyProof.Rows L2
def SX (w e : Nat) (d : D) : Prop := ∃ p : PyData, d.dataX = some p ∧ p.leavesShort 13 = true ∧ p.depth ≤ e ∧ p.weight ≤ w ∧ p.showable = true
def SXs (w e : Nat) (ds : List D) : Prop := ∃ ps : List PyData, datasX ds = some ps ∧ PyData.leavesShortAll 13 ps = true ∧ PyData.depthAll ps ≤ e ∧ PyData.weightAll ps ≤ w ∧ PyData.showableAll ps = true
theorem Sm.x {w e : Nat} {d : D} (h : Sm w e d) : SX w e d := by
  obtain ⟨p, h1, h2, h3, h4, h5, h6⟩ := h
  exact ⟨p, data_X _ _ h1, PyData.leavesShort_of_canLay0 13 p h2 h5, h3, h4, h6⟩
theorem SX.mono {w e w' e' : Nat} {d : D} (h : SX w e d) (hw : w ≤ w') (he : e ≤ e') : SX w' e' d := by
  obtain ⟨p, h1, h2, h3, h4, h6⟩ := h
  exact ⟨p, h1, h2, by omega, by omega, h6⟩
theorem SXs.mono {w e w' e' : Nat} {ds : List D} (h : SXs w e ds) (hw : w ≤ w') (he : e ≤ e') : SXs w' e' ds := by
  obtain ⟨p, h1, h2, h3, h4, h6⟩ := h
  exact ⟨p, h1, h2, by omega, by omega, h6⟩
end Nb
set_option maxHeartbeats 1000000
section
open PySem PySem.Spec PyProof.Rows L2 Nb
local macro_rules
  | `(tactic| simp_arith [$xs,*] $[$loc:location]?) => `(tactic| simp -implicitDefEqProofs only [ap_fVar, ap_fMov, ap_fC, kk_fBin2, kk_fBin1, ap_fBin, kk_fIf1, ap_fIf, kk_fAndV1, ap_fAndV, kk_fOrV1, ap_fOrV, kk_fNotV1, ap_fNotV, kk_fNeg1, ap_fNeg, kk_chE1, ap_chE, kk_fChain2, kk_fChain1, ap_fChain, kk_fTup1, ap_fTup, kk_fLst1, ap_fLst, ap_oNone, kk_oSome1, ap_oSome, kk_fSl3, kk_fSl2, kk_fSl1, ap_fSl, kk_fFn1, ap_fFn, kk_mtE1, ap_mtE, kk_fMt1, ap_fMt, kk_fFz1, ap_fFz, kk_Lst, kk_fLc1, ap_fLc, kk_fCall1, ap_fCall, ap_fQ, ap_fTruQ, kk_mvE1, ap_mvE, ap_fMutV, kk_MutP, ap_fMutP, kk_fMake1, ap_fMake, ap_fMakeL, kk_meE1, ap_meE, kk_fMeth1, ap_fMeth, kk_fCMeth1, ap_fCMeth, kk_FA_len1, ap_FA_len, kk_fProp1, ap_fProp, ap_fNil, kk_fRev1, ap_fRev, ap_fDicN, kk_fDic1, ap_fDic, kk_asB1, ap_asB, kk_fTru1, ap_fTru, kk_fNotT1, ap_fNotT, kk_fAndT1, ap_fAndT, kk_fOrT1, ap_fOrT, ap_fYes, ap_aNil, kk_aCons2, kk_aCons1, ap_aCons, kk_abE1, ap_abE, ap_aBor, kk_asE1, ap_asE, kk_aStar1, ap_aStar, kk_aKw2, kk_aKw1, ap_aKw, ap_fNx, ap_fSeq, ap_fBk, ap_fCt, kk_fDo1, ap_fDo, kk_fRt1, ap_fRt, ap_fRtN, kk_fIfS1, ap_fIfS, kk_fAsg1, ap_fAsg, kk_fPar1, ap_fPar, kk_fFor1, ap_fFor, kk_auE1, ap_auE, ap_fAug, kk_fSetI1, ap_fSetI, kk_fSetF1, ap_fSetF, ap_gNm, ap_gsNil, ap_gsCons, ap_gTp, kk_fIts1, ap_fIts, kk_fRng11, ap_fRng1, kk_fRng21, ap_fRng2, kk_fRngD1, ap_fRngD, kk_fChs1, ap_fChs, kk_fEnm1, ap_fEnm, ap_qV, ap_qC, ap_qNeg, ap_qIx, ap_qFld, kk_fld, ap_qLen, ap_sNil, ap_sIx, ap_sKey, ap_sFldx, kk_S2, kk_S1, ap_stp1, kk_T2, kk_T1, ap_stp2, kk_Lp, lg_cons, kk_Wh, wg_succ, b_ok, b_exc, b_bad, o_ok, o_exc, o_bad, n_ok, q_nx, q_bk, q_ct, q_rt, q_exc, l_nx, l_bk, l_ct, l_rt, l_exc, of_some, fg_nil, lg_nil, clr_nil, clr_cons, ap_evl0, ap_evl1, ap_fWh, allV_nil, allV_v, allV_map, allV_app, tk_map, tk_nil, tk_v, tk_f, tk_tv, tk_tb, gv_nil, gv_f, gv_tv, gv_tb, e0_nil, e0_v, e0_t, e0_f, os_nil, os_t, os_f, cr_rt, cr_nx, cr_exc, mx, kIxP_tup0, kIxP_tup1, kIxP_lst0, kIxP_lst1, kLenP_tup, kLenP_lst, kLen_lst, kLen_tup, ld1, ld2, ld3, ld4, ld5, con0, fd_name, fd_parts, fd_count, fd_places, fd_text, kx_name, kx_parts, treeD_nd, docD_nd, fzs_mtree, rzs_mtree, fzs_mdoc, rzs_mdoc, fzs_plDs, rzs_plDs, fzs_spots, rzs_spots, callR, makeR, setS, getL_nil, setL_nil, dk_draws, dk_mixed, dk_cells, dk_put, dk_get, dk_set, md_lo, md_hi, bn_t, bn_f, fzs_ints, rzs_ints, isE_snoc, datas_nil, datas_ints, datas_intsA, List.isEmpty_nil, tyD_lst, kPop_snoc, kApp_lst, fz_non, fz_bl, fz_int, fz_str, fz_ty, fz_cls, fz_tup, fz_scr, fz_lst, fz_dic, fz_ins, fzs_nil, fzs_cons, rz_non, rz_bl, rz_int, rz_str, rz_tup, rz_scr, rz_lst, rz_dic, rz_ins, rzs_nil, rzs_cons, items_tup, items_lst, items_scr, fz_treeD, rz_treeD, fz_docD, rz_docD, fzs_treeDs, fzs_docDs, rzs_treeDs, rzs_docDs, fz_plD, rz_plD, kAdd_int, kSub_int, kMod_int, kMulS_R, kMulS_L, kMulS_intT, kDiv_int, kPow_18, kInt_int, kInt_bl, kGe_int, kGt_int, kLt_int, kLe_int, kEq_int, kEq_bl, kEq_str, kIs_non, kIs_int, kIs_str, tru_bl, tru_int, tru_lst, tru_tup, List.getElem?_cons_zero, List.getElem?_cons_succ, List.getElem?_nil, List.set_cons_zero, List.set_cons_succ, List.getD_cons_zero, List.getD_cons_succ, List.replicate_succ, List.replicate_zero, List.length_cons, List.length_nil, List.length_map, List.length_append, List.length_reverse, Option.map_some, Option.map_none, Option.bind_some, Option.bind_none, List.nil_append, List.cons_append, List.map_cons, List.map_nil, ↓reduceIte, reduceCtorEq, Nat.reduceAdd, Nat.reduceSub, Nat.reduceLT, Nat.reduceLeDiff, Nat.reduceMul, Nat.reduceEqDiff, Int.reduceLT, Int.reduceLE, Int.reduceAdd, Int.reduceSub, Int.reduceNeg, Int.reducePow, Int.reduceMul, Int.reduceToNat, eq_self, and_self, and_true, true_and, if_true, if_false, Bool.false_eq_true, Bool.not_true, Bool.not_false, Bool.and_true, Bool.true_and, Bool.and_self, Bool.or_false, Bool.false_or, bne_self_eq_false, decide_true, decide_false, kk_fKeysD1, ap_fKeysD, kk_fValsD1, ap_fValsD, kk_fItmsD1, ap_fItmsD, kk_fZip1, ap_fZip, kk_fLk1, ap_fLk, ap_fVarL, kk_fBinPk1, ap_fBinPk, ap_fFnPk, ap_fListPk, kk_fListVals1, ap_fListVals, kk_fLenSet1, ap_fLenSet, kk_fPar31, ap_fPar3, ap_slotD, ap_fRaise, kk_fRaise1, ap_fTryX, ty_nx, ty_rt, kk_fBinQ1, ap_fBinQ, ap_fVarLN, ap_fDicE, kk_mtL1, ap_mtL, kk_fMtL1, ap_fMtL, ap_gSetU, ap_sKeyN, ap_qLenN, ap_qArith, ap_qIxU, $xs,*] $[$loc]?)
namespace K01
open PySem PySem.Spec PyProof.Rows L2 Nb
def drawY (x t : Int) : Int := ((x % 2147483629 + 60301 * t * t + 8) * 40692) % 2147483647
def drawZ (x t : Int) : Int := ((drawY x t * drawY x t + 39373 * t + 14) % 2147483587) * 69621 % 2147483563 / 64
theorem draws (r : Runs) : Draws (nextR r).law_draw := by
  intro b d k ⟨c, m, n, hd, hc, hm, hm2, hn, hn2⟩ hb hk hk2
  subst hd
  have hk0 : (0 : Int) < k := by omega
  show ∃ v d', runB 2 5 [true] (fb_law_draw r) [deckD (c.map .int) m n, .int k] = .ok (.int v) [d'] ∧ _
  have e1 : n + 1 < 18446744073709551616 := by omega
  have e2 : -18446744073709551616 < n + 1 := by omega
  have fin : ∀ (v : Int) (c' : List Int), c'.length ≤ 64 → runB 2 5 [true] (fb_law_draw r) [deckD (c.map .int) m n, .int k] = .ok (.int (v % k)) [deckD (c'.map .int) m (n + 1)] →
      ∃ v d', runB 2 5 [true] (fb_law_draw r) [deckD (c.map .int) m n, .int k] = .ok (.int v) [d'] ∧ 0 ≤ v ∧ v < k ∧ Dk (b + 1) d' := fun v c' h1 h2 =>
    ⟨v % k, _, h2, Int.emod_nonneg _ (by omega), Int.emod_lt_of_pos _ hk0, c', m, n + 1, rfl, h1, hm, hm2, by omega, by omega⟩
  rcases List.eq_nil_or_concat c with rfl | ⟨c0, x, rfl⟩ <;> try rw [List.concat_eq_append] at *
  · refine fin (drawZ m (n + 1)) [] (by simp) ?_
    simp_arith [runB, fb_law_draw, drawZ, drawY, e1, e2, hk0, hk2, List.isEmpty_nil]
  · have hl : c0.length < mx := by
      simp at hc
      show c0.length < 100000
      omega
    by_cases hx : (1000000000000000000 : Int) ≤ x
    · refine fin x (c0 ++ [x / k]) (by simpa using hc) ?_
      simp_arith [runB, fb_law_draw, e1, e2, hk0, hk2, hx, hl, List.map_append]
    · refine fin (drawZ (x + m) (n + 1)) c0 (by simp at hc; omega) ?_
      simp_arith [runB, fb_law_draw, drawZ, drawY, e1, e2, hk0, hk2, hx, hl, List.map_append]
end K01
namespace K01
open PySem PySem.Spec PyProof.Rows L2 Nb
theorem picks (r : Runs) (hd : Draws r.law_draw) : Picks (nextR r).law_pick := by
  intro b d o xs h hb hf h1 h2
  obtain ⟨v, d', e, v1, v2, h'⟩ := hd b d xs.length h hb (by omega) (by omega)
  have hn : v.toNat < xs.length := by omega
  have ev : v = ((v.toNat : Nat) : Int) := by omega
  have hx : xs[v.toNat]? = some xs[v.toNat] := List.getElem?_eq_getElem hn
  have hz : (xs[v.toNat]).fz = true := (fzs_iff xs).mp hf _ (List.getElem_mem hn)
  have ek : kIx (.lst false xs) (.int v) = some xs[v.toNat] := by
    have := kIx_lst false xs v.toNat _ hx hz
    rwa [← ev] at this
  refine ⟨xs[v.toNat], List.getElem_mem hn, d', ?_, h'⟩
  show runB 2 2 [true] (fb_law_pick r) [d, .lst o xs] = _
  simp_arith [runB, fb_law_pick, frzs_fz hf, kLenP_lst, e, ek]
theorem decks (r : Runs) : Decks (nextR r).law_deck := by
  intro ns hl
  show ∃ d', runB 1 4 [] (fb_law_deck r) [.scr (ns.map .int)] = .ok d' [] ∧ _
  have e1 := kSl_scr63 (ns.map .int) (fzs_ints ns) (by simpa using hl)
  have e2 := kList_lst true (ns.map .int) (fzs_ints ns)
  have key := forGo_inv (p := gNm 3) (b := fr_law_deck_1 r) (fun _ ε => ∃ (m : Int) (x : SV), ε = [.val (.scr (ns.map .int)), .val (.lst false (ns.map .int)), .val (.int m), x] ∧ 0 ≤ m ∧ m < 2147483587) (ns.map .int) 0 [.val (.scr (ns.map .int)), .val (.lst false (ns.map .int)), .val (.int 1363001), .no] ⟨_, _, rfl, by decide, by decide⟩ (by
    intro i d ε hd ⟨m, x, hε, m1, m2⟩
    subst hε
    obtain ⟨k, _, rfl⟩ := List.mem_map.mp (List.mem_of_getElem? hd)
    refine ⟨[.val (.scr (ns.map .int)), .val (.lst false (ns.map .int)), .val (.int m), .val (.int k)], [.val (.scr (ns.map .int)), .val (.lst false (ns.map .int)), .val (.int ((m * 48271 + k % 2147483629 + 42) % 2147483587)), .val (.int k)], by simp_arith [], by simp_arith [fr_law_deck_1], ⟨_, _, rfl, by omega, by omega⟩⟩)
  obtain ⟨ε', e3, m, x, rfl, m1, m2⟩ := key
  refine ⟨deckD (ns.reverse.map .int) m 0, ?_, ns.reverse, m, 0, rfl, by simp; omega, m1, by omega, by omega, by omega⟩
  have ap : apart [(Sum.inr (Str.ofString "cells") : Key), .inr (Str.ofString "mixed"), .inr (Str.ofString "draws")] = true := dk_ap
  simp_arith [runB, fb_law_deck, fzs_ints, rzs_ints, e1, e2, e3, ap, List.map_reverse]
  rfl
end K01
namespace K01
open PySem PySem.Spec PyProof.Rows L2 Nb
def SY (w e : Nat) (d : D) : Prop := ∃ p : PyData, d.dataX = some p ∧ p.leavesShort 50 = true ∧ p.depth ≤ e ∧ p.weight ≤ w ∧ p.showable = true
def SYs (w e : Nat) (ds : List D) : Prop := ∃ ps : List PyData, datasX ds = some ps ∧ PyData.leavesShortAll 50 ps = true ∧ PyData.depthAll ps ≤ e ∧ PyData.weightAll ps ≤ w ∧ PyData.showableAll ps = true
theorem sys_nil : SYs 0 0 [] := ⟨[], by simp [datasX], by simp [PyData.leavesShortAll], by simp [PyData.depthAll], by simp [PyData.weightAll], by simp [PyData.showableAll]⟩
theorem sys_cons {w e w' e' : Nat} {d : D} {ds : List D} : SY w e d → SYs w' e' ds → SYs (w + 1 + w') (max e e') (d :: ds) := fun ⟨p, h1, h2, h3, h4, h6⟩ ⟨ps, k1, k2, k3, k4, k6⟩ =>
  ⟨p :: ps, by simp only [datasX, h1, k1], by simp only [PyData.leavesShortAll, h2, k2, Bool.and_self], by simp only [PyData.depthAll]; omega, by simp only [PyData.weightAll]; omega, by simp only [PyData.showableAll, h6, k6, Bool.and_self]⟩
theorem sy_tup {w e : Nat} {ds : List D} : SYs w e ds → SY w (e + 1) (.tup ds) := fun ⟨ps, k1, k2, k3, k4, k6⟩ =>
  ⟨.tuple ps, by simp only [D.dataX, k1, Option.map_some], by simp only [PyData.leavesShort, k2], by simp only [PyData.depth]; omega, by simp only [PyData.weight]; omega, by simp only [PyData.showable, k6]⟩
theorem sy_lst {w e : Nat} (o : Bool) {ds : List D} : SYs w e ds → SY w (e + 1) (.lst o ds) := fun ⟨ps, k1, k2, k3, k4, k6⟩ =>
  ⟨.list ps, by simp only [D.dataX, k1, Option.map_some], by simp only [PyData.leavesShort, k2], by simp only [PyData.depth]; omega, by simp only [PyData.weight]; omega, by simp only [PyData.showable, k6]⟩
theorem SY.mono {w e w' e' : Nat} {d : D} (h : SY w e d) (hw : w ≤ w') (he : e ≤ e') : SY w' e' d := by
  obtain ⟨p, h1, h2, h3, h4, h6⟩ := h
  exact ⟨p, h1, h2, by omega, by omega, h6⟩
theorem SYs.mono {w e w' e' : Nat} {ds : List D} (h : SYs w e ds) (hw : w ≤ w') (he : e ≤ e') : SYs w' e' ds := by
  obtain ⟨p, h1, h2, h3, h4, h6⟩ := h
  exact ⟨p, h1, h2, by omega, by omega, h6⟩
theorem sys_all {w e : Nat} : ∀ {ds : List D}, (∀ d ∈ ds, SY w e d) → SYs ((w + 1) * ds.length) e ds
  | [], _ => sys_nil.mono (by omega) (by omega)
  | d :: ds, h => (sys_cons (h d List.mem_cons_self) (sys_all fun x hx => h x (List.mem_cons_of_mem _ hx))).mono (by rw [List.length_cons, Nat.mul_succ]; omega) (by omega)
theorem sy_repr {w e : Nat} {d : D} (h : SY w e d) (hw : w ≤ 100000) (he : e ≤ 100) : ∃ s, kReprX [d] = some (.str s) := by
  obtain ⟨p, h1, h2, h3, h4, h6⟩ := h
  have := PyData.shown_le 50 (by decide) p h2
  refine ⟨p.shown, ?_⟩
  simp only [kReprX, h1]
  rw [if_pos ⟨h6, by omega, by rw [sizeLine_eq]; omega⟩]
def ten39 : Int := 1000000000000000000000000000000000000000
def aaa : Str := (match kMulS (.str "a") (.int 300) with | some (.str s) => s | _ => "")
theorem aaa_eq : kMulS (.str "a") (.int 300) = some (.str aaa) := by rfl
theorem ten_eq : kPow (.int 10) (.int 39) = some (.int ten39) := by
  have h : CPow 10 39 := by decide +kernel
  show (if CPow 10 39 then some (D.int ((10 : Int) ^ (39 : Int).toNat)) else none) = _
  rw [if_pos h]
  have e : ((10 : Int) ^ (39 : Int).toNat) = ten39 := by decide +kernel
  rw [e]
def leaves : List D := [.int 0, .int 1, .int (-1), .bl true, .bl false, .non, .str "", .str "moves", .str aaa, .int ten39, .tup [], .lst false [], .dic false [] [], .tup [.str "a", .int 0, .int 1], .str "above"]
def sxB (w e : Nat) (d : D) : Bool := d.fz && match d.dataX with
  | some p => p.leavesShort 50 && decide (p.depth ≤ e) && decide (p.weight ≤ w) && p.showable
  | none => false
def Gd (w e : Nat) (d : D) : Prop := d.fz = true ∧ SY w e d
theorem sxB_ok {w e : Nat} {d : D} (h : sxB w e d = true) : Gd w e d := by
  unfold sxB at h
  rw [Bool.and_eq_true] at h
  obtain ⟨hz, h⟩ := h
  refine ⟨hz, ?_⟩
  split at h
  · rename_i p e1
    simp only [Bool.and_eq_true, decide_eq_true_eq] at h
    exact ⟨p, e1, h.1.1.1, h.1.1.2, h.1.2, h.2⟩
  · cases h
theorem leaves_all : (leaves.all fun d => sxB 400 1 d) = true := by decide +kernel
theorem leaf_gd {x : D} (h : x ∈ leaves) : Gd 400 1 x := sxB_ok (List.all_eq_true.mp leaves_all x h)
theorem leaves_fz : fzs leaves = true := by decide +kernel
def wv : Nat → Nat
  | 0 => 400
  | k + 1 => 2 * (wv k + 1) + 40
def Values (k : Nat) (run : List D → CRes) : Prop := ∀ (b : Nat) (d : D), Dk b d → b + 4 ^ (k + 1) < 2 ^ 61 → ∃ v d', run [d, .int (k : Nat)] = .ok v [d'] ∧ Gd (wv k) (2 * k + 1) v ∧ Dk (b + 4 ^ (k + 1)) d'
theorem dk_mono {b c : Nat} {d : D} (h : Dk b d) (hc : b ≤ c) : Dk c d := by
  obtain ⟨c', m, n, h1, h2, h3, h4, h5, h6⟩ := h
  exact ⟨c', m, n, h1, h2, h3, h4, h5, by omega⟩
theorem value0 (r : Runs) (hp : Picks r.law_pick) : Values 0 (nextR r).law_value := by
  intro b d h hb
  obtain ⟨x, hx, d', e, h'⟩ := hp b d false leaves h (Nat.lt_of_le_of_lt (Nat.le_add_right b _) (Nat.lt_trans hb (by decide))) leaves_fz (by decide) (by decide)
  refine ⟨x, d', ?_, leaf_gd hx, dk_mono h' (by simp)⟩
  show runB 2 5 [true] (fb_law_value r) [d, .int 0] = _
  rw [leaves] at e
  simp_arith [runB, fb_law_value, aaa_eq, ten_eq, e]
end K01
namespace K01
open PySem PySem.Spec PyProof.Rows L2 Nb
def KeyS (k : Key) : Prop := (keyD k).leavesShort 50 = true ∧ (keyD k).depth = 0 ∧ (keyD k).weight ≤ 10 ∧ (keyD k).showable = true
theorem ks_part : KeyS (.inr "part") := ⟨by decide +kernel, by decide +kernel, by decide +kernel, by decide +kernel⟩
theorem ks_0 : KeyS (.inl 0) := ⟨by decide +kernel, by decide +kernel, by decide +kernel, by decide +kernel⟩
theorem ks_1 : KeyS (.inl 1) := ⟨by decide +kernel, by decide +kernel, by decide +kernel, by decide +kernel⟩
theorem sy_dic0 (o : Bool) : SY 0 1 (.dic o [] []) := ⟨.dict [], by simp [D.dataX, datasX], by simp [PyData.leavesShort, PyData.leavesShortKv], by simp [PyData.depth, PyData.depthKv], by simp [PyData.weight, PyData.weightKv], by simp [PyData.showable, PyData.showableKv]⟩
theorem sy_dic1 (o : Bool) {k : Key} {d : D} {w e : Nat} (hk : KeyS k) : SY w e d → SY (w + 12) (e + 1) (.dic o [k] [d]) := fun ⟨p, h1, h2, h3, h4, h6⟩ => by
  obtain ⟨k1, k2, k3, k4⟩ := hk
  refine ⟨.dict [(keyD k, p)], by simp [D.dataX, datasX, h1], by simp [PyData.leavesShort, PyData.leavesShortKv, h2, k1], ?_, ?_, by simp [PyData.showable, PyData.showableKv, h6, k4]⟩
  · simp only [PyData.depth, PyData.depthKv, k2]; omega
  · simp only [PyData.weight, PyData.weightKv]; omega
theorem sy_dic2 (o : Bool) {k k' : Key} {d d' : D} {w e : Nat} (hk : KeyS k) (hk' : KeyS k') : SY w e d → SY w e d' → SY (2 * w + 24) (e + 1) (.dic o [k, k'] [d, d']) := fun ⟨p, h1, h2, h3, h4, h6⟩ ⟨p', h1', h2', h3', h4', h6'⟩ => by
  obtain ⟨k1, k2, k3, k4⟩ := hk
  obtain ⟨k1', k2', k3', k4'⟩ := hk'
  refine ⟨.dict [(keyD k, p), (keyD k', p')], by simp [D.dataX, datasX, h1, h1'], by simp [PyData.leavesShort, PyData.leavesShortKv, h2, k1, h2', k1'], ?_, ?_, by simp [PyData.showable, PyData.showableKv, h6, k4, h6', k4']⟩
  · simp only [PyData.depth, PyData.depthKv, k2, k2']; omega
  · simp only [PyData.weight, PyData.weightKv]; omega
theorem val_loop (r : Runs) {k : Nat} (hv : Values k r.law_value) {b : Nat} {d : D} (h : Dk b d) (hb : b + 2 * 4 ^ (k + 1) < 2 ^ 61) (n : Nat) (hn : n ≤ 2) :
    ∃ ds d', lpGo [4] (gNm 4) (lc_law_value_1 r) (rngD 0 1 n) [.bor d, .val (.int ((k + 1 : Nat) : Int)), .no, .no, .no] [] = .ok ds [.bor d', .val (.int ((k + 1 : Nat) : Int)), .no, .no, .no] ∧ (∀ x ∈ ds, Gd (wv k) (2 * k + 1) x) ∧ ds.length = n ∧ Dk (b + n * 4 ^ (k + 1)) d' := by
  have K := lpGo_inv (vs := [4]) (p := gNm 4) (st := lc_law_value_1 r) (fun j ε acc => ∃ d', ε = [.bor d', .val (.int ((k + 1 : Nat) : Int)), .no, .no, .no] ∧ (∀ x ∈ acc, Gd (wv k) (2 * k + 1) x) ∧ acc.length = j ∧ Dk (b + j * 4 ^ (k + 1)) d') (rngD 0 1 n) 0 [.bor d, .val (.int ((k + 1 : Nat) : Int)), .no, .no, .no] []
    ⟨d, rfl, (fun x hx => nomatch hx), rfl, by simpa using h⟩ (fun j x ε acc hx ⟨d1, hε, ha, hl, h1⟩ => by
      obtain ⟨hj, rfl⟩ := rng_get hx
      subst hε
      rw [Nat.zero_add] at hl h1
      have hj2 : j * 4 ^ (k + 1) ≤ 2 * 4 ^ (k + 1) := Nat.mul_le_mul (by omega) (Nat.le_refl _)
      have hj3 : j * 4 ^ (k + 1) ≤ 1 * 4 ^ (k + 1) := Nat.mul_le_mul (by omega) (Nat.le_refl _)
      obtain ⟨v, d2, e, g, h2⟩ := hv _ d1 h1 (by omega)
      have ek : ((k + 1 : Nat) : Int) - 1 = (k : Nat) := by omega
      have ez := D.frz_of v g.1
      have el : acc.length < mx := by rw [hl]; show j < 100000; omega
      refine ⟨_, [.bor d2, .val (.int ((k + 1 : Nat) : Int)), .no, .no, .val (.int (0 + (j : Nat) * 1))], acc ++ [v], rfl, ?_, d2, rfl, ?_, by simp [hl], ?_⟩
      · simp_arith [lc_law_value_1, ek, e, ez, el]
      · intro y hy
        rcases List.mem_append.mp hy with hy | hy
        · exact ha y hy
        · rw [List.mem_singleton.mp hy]; exact g
      · rw [Nat.zero_add, Nat.succ_mul, ← Nat.add_assoc]
        exact h2)
  obtain ⟨ε', ds, e, d', rfl, ha, hl, hd⟩ := K
  rw [Nat.zero_add, rng_len] at hl hd
  exact ⟨ds, d', e, ha, hl, hd⟩
end K01
namespace K01
open PySem PySem.Spec PyProof.Rows L2 Nb
theorem enum_dic {ds : List D} (hz : fzs ds = true) (hl : ds.length ≤ 2) {w e : Nat} (he : 0 < e) (hs : ∀ x ∈ ds, SY w e x) : ∃ ks, (∀ o, kDictP [.lst o (enumD 0 ds)] = some (.dic true ks ds)) ∧ SY (2 * w + 24) (e + 1) (.dic false ks ds) := by
  match ds, hz, hl, hs with
  | [], _, _, _ => exact ⟨[], fun o => by rfl, (sy_dic0 false).mono (by omega) (by omega)⟩
  | [x], hz, _, hs =>
    refine ⟨[.inl 0], fun o => ?_, (sy_dic1 false ks_0 (hs x (by simp))).mono (by omega) (by omega)⟩
    have z : fzs [D.tup [.int ((0 : Nat) : Int), x]] = true := by
      have : x.fz = true := by simpa [fzs] using hz
      simp [fzs, D.fz, this]
    show (if fzs [D.tup [.int ((0 : Nat) : Int), x]] = true then _ else none) = _
    rw [if_pos z]
    rfl
  | [x, y], hz, _, hs =>
    refine ⟨[.inl 0, .inl 1], fun o => ?_, (sy_dic2 false ks_0 ks_1 (hs x (by simp)) (hs y (by simp))).mono (by omega) (by omega)⟩
    have z : fzs [D.tup [.int ((0 : Nat) : Int), x], D.tup [.int ((1 : Nat) : Int), y]] = true := by
      have : x.fz = true ∧ y.fz = true := by simpa [fzs] using hz
      simp [fzs, D.fz, this]
    show (if fzs [D.tup [.int ((0 : Nat) : Int), x], D.tup [.int ((1 : Nat) : Int), y]] = true then _ else none) = _
    rw [if_pos z]
    rfl
theorem valueS (r : Runs) {k : Nat} (hd : Draws r.law_draw) (hp : Picks r.law_pick) (hv : Values k r.law_value) : Values (k + 1) (nextR r).law_value := by
  intro b d h hb
  have q4 : 4 ≤ 4 ^ (k + 1) := by
    rw [Nat.pow_succ]
    have : 0 < 4 ^ k := Nat.pow_pos (by decide)
    omega
  have q5 : 4 ^ (k + 1 + 1) = 4 ^ (k + 1) * 4 := Nat.pow_succ ..
  rw [q5] at hb ⊢
  generalize hq : 4 ^ (k + 1) = q at *
  obtain ⟨v, d1, e1, v0, v3, h1⟩ := hd b d 3 h (by omega) (by decide) (by decide)
  have ek : (0 : Int) < ((k + 1 : Nat) : Int) := by omega
  by_cases hv0 : v = 0
  · subst hv0
    obtain ⟨n, d2, e2, n0, n3, h2⟩ := hd _ d1 3 h1 (by omega) (by decide) (by decide)
    obtain ⟨ds, d3, e3, ha, hl, h3⟩ := val_loop r hv h2 (by rw [hq]; omega) n.toNat (by omega)
    rw [hq] at h3
    have hz : fzs ds = true := (fzs_iff ds).mpr fun x hx => (ha x hx).1
    have hf : frzs ds = ds := frzs_fz hz
    have hs : ∀ x ∈ ds, SY (wv k) (2 * k + 1) x := fun x hx => (ha x hx).2
    have hl2 : ds.length ≤ 2 := by omega
    have hlm : ds.length < 64 := by omega
    have hin : Nb.inR n = true := by unfold Nb.inR; simp; omega
    have et : kTuple [.lst false ds] = some (.tup ds) := by
      show (if fzs ds = true then some (D.tup ds) else none) = _
      rw [if_pos hz]
    have b0 : ((0 : Int) == 0) = true := rfl
    obtain ⟨ks, ed, sd⟩ := enum_dic hz hl2 (by omega) hs
    have hm : n.toNat * q ≤ 2 * q := Nat.mul_le_mul (by omega) (Nat.le_refl _)
    have hzf : fzs [.tup ds, .lst false ds, .dic false [.inr "part"] [.lst false ds], .dic false ks ds] = true := by simp [fzs, D.fz, hz]
    obtain ⟨x, hx, d4, e4, h4⟩ := hp _ d3 false _ h3 (by omega) hzf (by simp) (by simp)
    have s1 : SYs (2 * (wv k + 1)) (2 * k + 1) ds := (sys_all hs).mono (by rw [Nat.mul_comm]; exact Nat.mul_le_mul hl2 (Nat.le_refl _)) (Nat.le_refl _)
    have ap : apart [(Sum.inr "part" : Key)] = true := by decide +kernel
    refine ⟨x, d4, ?_, ?_, dk_mono h4 (by omega)⟩
    · show runB 2 5 [true] (fb_law_value r) [d, .int ((k + 1 : Nat) : Int)] = _
      simp_arith [runB, fb_law_value, fListEnm, ek, e1, e2, e3, hin, hz, hf, hlm, ed, ap, et, b0, e4]
    · simp only [List.mem_cons, List.not_mem_nil, or_false] at hx
      rcases hx with rfl | rfl | rfl | rfl
      · exact ⟨by simp [D.fz, hz], (sy_tup s1).mono (by simp only [wv]; omega) (by omega)⟩
      · exact ⟨by simp [D.fz, hz], (sy_lst false s1).mono (by simp only [wv]; omega) (by omega)⟩
      · exact ⟨by simp [fzs, D.fz, hz], (sy_dic1 false ks_part (sy_lst false s1)).mono (by simp only [wv]; omega) (by omega)⟩
      · exact ⟨by simp [D.fz, hz], sd.mono (by simp only [wv]; omega) (by omega)⟩
  · obtain ⟨x, hx, d', e, h'⟩ := hp _ d1 false leaves h1 (by omega) leaves_fz (by decide) (by decide)
    have w0 : ∀ k, 400 ≤ wv k := go
    refine ⟨x, d', ?_, ⟨(leaf_gd hx).1, (leaf_gd hx).2.mono (w0 _) (by omega)⟩, dk_mono h' (by omega)⟩
    show runB 2 5 [true] (fb_law_value r) [d, .int ((k + 1 : Nat) : Int)] = _
    have b1 : (v == (0 : Int)) = false := by simpa using hv0
    rw [leaves] at e
    simp_arith [runB, fb_law_value, aaa_eq, ten_eq, ek, e1, b1, e]
where
  go : ∀ k, 400 ≤ wv k
    | 0 => Nat.le_refl _
    | k + 1 => by
      have := go k
      simp only [wv]; omega
end K01
namespace K01
open PySem PySem.Spec PyProof.Rows L2 Nb
def errD (v : D) : Nat → D
  | 0 => .err 0 ["part"] [v]
  | 1 => .err 1 ["part"] [v]
  | 2 => .err 2 ["part"] [v]
  | 3 => .err 3 ["part"] [v]
  | 4 => .err 4 ["place"] [v]
  | 5 => .err 5 ["place"] [v]
  | 6 => .err 6 ["guard"] [v]
  | 7 => .err 7 ["sign"] [v]
  | 8 => .err 8 [] []
  | 9 => .err 9 [] []
  | 10 => .err 10 [] []
  | _ => .err 11 [] []
def keptD (w : Nat) (v : D) : List D := if w < 8 then [v] else []
def bls (w : Nat) : List D := (List.range 12).map (fun k => .bl (decide (k = w))) ++ [.bl true, .bl true, .bl false, .bl false, .bl false, .bl false, .bl false]
theorem made_ok (r : Runs) (w : Nat) (hw : w < 12) (v : D) (hz : v.fz = true) : (nextR r).law_made [.int (w : Nat), v] = .ok (errD v w) [] := by
  have hf := D.frz_of v hz
  rcases (show w = 0 ∨ w = 1 ∨ w = 2 ∨ w = 3 ∨ w = 4 ∨ w = 5 ∨ w = 6 ∨ w = 7 ∨ w = 8 ∨ w = 9 ∨ w = 10 ∨ w = 11 by omega) with rfl | rfl | rfl | rfl | rfl | rfl | rfl | rfl | rfl | rfl | rfl | rfl
  · show runB 2 2 [] (fb_law_made r) [.int 0, v] = .ok (.err 0 ["part"] [v]) []
    have b0 : ((0 : Int) == 0) = true := by rfl
    have b2 : ((0 : Int) == 2) = false := by rfl
    have b4 : ((0 : Int) == 4) = false := by rfl
    have b6 : ((0 : Int) == 6) = false := by rfl
    simp_arith [runB, fb_law_made, fMkE, fMkE0, hz, hf, b0, b2, b4, b6]
  · show runB 2 2 [] (fb_law_made r) [.int 1, v] = .ok (.err 1 ["part"] [v]) []
    have b0 : ((1 : Int) == 0) = false := by rfl
    have b2 : ((1 : Int) == 2) = false := by rfl
    have b4 : ((1 : Int) == 4) = false := by rfl
    have b6 : ((1 : Int) == 6) = false := by rfl
    simp_arith [runB, fb_law_made, fMkE, fMkE0, hz, hf, b0, b2, b4, b6]
  · show runB 2 2 [] (fb_law_made r) [.int 2, v] = .ok (.err 2 ["part"] [v]) []
    have b0 : ((2 : Int) == 0) = false := by rfl
    have b2 : ((2 : Int) == 2) = true := by rfl
    have b4 : ((2 : Int) == 4) = false := by rfl
    have b6 : ((2 : Int) == 6) = false := by rfl
    simp_arith [runB, fb_law_made, fMkE, fMkE0, hz, hf, b0, b2, b4, b6]
  · show runB 2 2 [] (fb_law_made r) [.int 3, v] = .ok (.err 3 ["part"] [v]) []
    have b0 : ((3 : Int) == 0) = false := by rfl
    have b2 : ((3 : Int) == 2) = false := by rfl
    have b4 : ((3 : Int) == 4) = false := by rfl
    have b6 : ((3 : Int) == 6) = false := by rfl
    simp_arith [runB, fb_law_made, fMkE, fMkE0, hz, hf, b0, b2, b4, b6]
  · show runB 2 2 [] (fb_law_made r) [.int 4, v] = .ok (.err 4 ["place"] [v]) []
    have b0 : ((4 : Int) == 0) = false := by rfl
    have b2 : ((4 : Int) == 2) = false := by rfl
    have b4 : ((4 : Int) == 4) = true := by rfl
    have b6 : ((4 : Int) == 6) = false := by rfl
    simp_arith [runB, fb_law_made, fMkE, fMkE0, hz, hf, b0, b2, b4, b6]
  · show runB 2 2 [] (fb_law_made r) [.int 5, v] = .ok (.err 5 ["place"] [v]) []
    have b0 : ((5 : Int) == 0) = false := by rfl
    have b2 : ((5 : Int) == 2) = false := by rfl
    have b4 : ((5 : Int) == 4) = false := by rfl
    have b6 : ((5 : Int) == 6) = false := by rfl
    simp_arith [runB, fb_law_made, fMkE, fMkE0, hz, hf, b0, b2, b4, b6]
  · show runB 2 2 [] (fb_law_made r) [.int 6, v] = .ok (.err 6 ["guard"] [v]) []
    have b0 : ((6 : Int) == 0) = false := by rfl
    have b2 : ((6 : Int) == 2) = false := by rfl
    have b4 : ((6 : Int) == 4) = false := by rfl
    have b6 : ((6 : Int) == 6) = true := by rfl
    simp_arith [runB, fb_law_made, fMkE, fMkE0, hz, hf, b0, b2, b4, b6]
  · show runB 2 2 [] (fb_law_made r) [.int 7, v] = .ok (.err 7 ["sign"] [v]) []
    have b0 : ((7 : Int) == 0) = false := by rfl
    have b2 : ((7 : Int) == 2) = false := by rfl
    have b4 : ((7 : Int) == 4) = false := by rfl
    have b6 : ((7 : Int) == 6) = false := by rfl
    simp_arith [runB, fb_law_made, fMkE, fMkE0, hz, hf, b0, b2, b4, b6]
  · show runB 2 2 [] (fb_law_made r) [.int 8, v] = .ok (.err 8 [] []) []
    have b0 : ((8 : Int) == 0) = false := by rfl
    have b2 : ((8 : Int) == 2) = false := by rfl
    have b4 : ((8 : Int) == 4) = false := by rfl
    have b6 : ((8 : Int) == 6) = false := by rfl
    have kx : kIx (.lst true [.err 8 [] [], .err 9 [] [], .err 10 [] [], .err 11 [] []]) (.int 0) = some (.err 8 [] []) := by rfl
    simp_arith [runB, fb_law_made, fMkE, fMkE0, hz, hf, b0, b2, b4, b6, kx]
  · show runB 2 2 [] (fb_law_made r) [.int 9, v] = .ok (.err 9 [] []) []
    have b0 : ((9 : Int) == 0) = false := by rfl
    have b2 : ((9 : Int) == 2) = false := by rfl
    have b4 : ((9 : Int) == 4) = false := by rfl
    have b6 : ((9 : Int) == 6) = false := by rfl
    have kx : kIx (.lst true [.err 8 [] [], .err 9 [] [], .err 10 [] [], .err 11 [] []]) (.int 1) = some (.err 9 [] []) := by rfl
    simp_arith [runB, fb_law_made, fMkE, fMkE0, hz, hf, b0, b2, b4, b6, kx]
  · show runB 2 2 [] (fb_law_made r) [.int 10, v] = .ok (.err 10 [] []) []
    have b0 : ((10 : Int) == 0) = false := by rfl
    have b2 : ((10 : Int) == 2) = false := by rfl
    have b4 : ((10 : Int) == 4) = false := by rfl
    have b6 : ((10 : Int) == 6) = false := by rfl
    have kx : kIx (.lst true [.err 8 [] [], .err 9 [] [], .err 10 [] [], .err 11 [] []]) (.int 2) = some (.err 10 [] []) := by rfl
    simp_arith [runB, fb_law_made, fMkE, fMkE0, hz, hf, b0, b2, b4, b6, kx]
  · show runB 2 2 [] (fb_law_made r) [.int 11, v] = .ok (.err 11 [] []) []
    have b0 : ((11 : Int) == 0) = false := by rfl
    have b2 : ((11 : Int) == 2) = false := by rfl
    have b4 : ((11 : Int) == 4) = false := by rfl
    have b6 : ((11 : Int) == 6) = false := by rfl
    have kx : kIx (.lst true [.err 8 [] [], .err 9 [] [], .err 10 [] [], .err 11 [] []]) (.int 3) = some (.err 11 [] []) := by rfl
    simp_arith [runB, fb_law_made, fMkE, fMkE0, hz, hf, b0, b2, b4, b6, kx]
theorem by_name_ok (r : Runs) (w : Nat) (hw : w < 12) (v : D) (hz : v.fz = true) : (nextR r).law_by_name [.int (w : Nat), v] = .ok (errD v w) [] := by
  have hf := D.frz_of v hz
  rcases (show w = 0 ∨ w = 1 ∨ w = 2 ∨ w = 3 ∨ w = 4 ∨ w = 5 ∨ w = 6 ∨ w = 7 ∨ w = 8 ∨ w = 9 ∨ w = 10 ∨ w = 11 by omega) with rfl | rfl | rfl | rfl | rfl | rfl | rfl | rfl | rfl | rfl | rfl | rfl
  · show runB 2 2 [] (fb_law_by_name r) [.int 0, v] = .ok (.err 0 ["part"] [v]) []
    have b0 : ((0 : Int) == 0) = true := by rfl
    have b2 : ((0 : Int) == 2) = false := by rfl
    have b4 : ((0 : Int) == 4) = false := by rfl
    have b6 : ((0 : Int) == 6) = false := by rfl
    simp_arith [runB, fb_law_by_name, fMkE, fMkE0, hz, hf, b0, b2, b4, b6]
  · show runB 2 2 [] (fb_law_by_name r) [.int 1, v] = .ok (.err 1 ["part"] [v]) []
    have b0 : ((1 : Int) == 0) = false := by rfl
    have b2 : ((1 : Int) == 2) = false := by rfl
    have b4 : ((1 : Int) == 4) = false := by rfl
    have b6 : ((1 : Int) == 6) = false := by rfl
    simp_arith [runB, fb_law_by_name, fMkE, fMkE0, hz, hf, b0, b2, b4, b6]
  · show runB 2 2 [] (fb_law_by_name r) [.int 2, v] = .ok (.err 2 ["part"] [v]) []
    have b0 : ((2 : Int) == 0) = false := by rfl
    have b2 : ((2 : Int) == 2) = true := by rfl
    have b4 : ((2 : Int) == 4) = false := by rfl
    have b6 : ((2 : Int) == 6) = false := by rfl
    simp_arith [runB, fb_law_by_name, fMkE, fMkE0, hz, hf, b0, b2, b4, b6]
  · show runB 2 2 [] (fb_law_by_name r) [.int 3, v] = .ok (.err 3 ["part"] [v]) []
    have b0 : ((3 : Int) == 0) = false := by rfl
    have b2 : ((3 : Int) == 2) = false := by rfl
    have b4 : ((3 : Int) == 4) = false := by rfl
    have b6 : ((3 : Int) == 6) = false := by rfl
    simp_arith [runB, fb_law_by_name, fMkE, fMkE0, hz, hf, b0, b2, b4, b6]
  · show runB 2 2 [] (fb_law_by_name r) [.int 4, v] = .ok (.err 4 ["place"] [v]) []
    have b0 : ((4 : Int) == 0) = false := by rfl
    have b2 : ((4 : Int) == 2) = false := by rfl
    have b4 : ((4 : Int) == 4) = true := by rfl
    have b6 : ((4 : Int) == 6) = false := by rfl
    simp_arith [runB, fb_law_by_name, fMkE, fMkE0, hz, hf, b0, b2, b4, b6]
  · show runB 2 2 [] (fb_law_by_name r) [.int 5, v] = .ok (.err 5 ["place"] [v]) []
    have b0 : ((5 : Int) == 0) = false := by rfl
    have b2 : ((5 : Int) == 2) = false := by rfl
    have b4 : ((5 : Int) == 4) = false := by rfl
    have b6 : ((5 : Int) == 6) = false := by rfl
    simp_arith [runB, fb_law_by_name, fMkE, fMkE0, hz, hf, b0, b2, b4, b6]
  · show runB 2 2 [] (fb_law_by_name r) [.int 6, v] = .ok (.err 6 ["guard"] [v]) []
    have b0 : ((6 : Int) == 0) = false := by rfl
    have b2 : ((6 : Int) == 2) = false := by rfl
    have b4 : ((6 : Int) == 4) = false := by rfl
    have b6 : ((6 : Int) == 6) = true := by rfl
    simp_arith [runB, fb_law_by_name, fMkE, fMkE0, hz, hf, b0, b2, b4, b6]
  · show runB 2 2 [] (fb_law_by_name r) [.int 7, v] = .ok (.err 7 ["sign"] [v]) []
    have b0 : ((7 : Int) == 0) = false := by rfl
    have b2 : ((7 : Int) == 2) = false := by rfl
    have b4 : ((7 : Int) == 4) = false := by rfl
    have b6 : ((7 : Int) == 6) = false := by rfl
    simp_arith [runB, fb_law_by_name, fMkE, fMkE0, hz, hf, b0, b2, b4, b6]
  · show runB 2 2 [] (fb_law_by_name r) [.int 8, v] = .ok (.err 8 [] []) []
    have b0 : ((8 : Int) == 0) = false := by rfl
    have b2 : ((8 : Int) == 2) = false := by rfl
    have b4 : ((8 : Int) == 4) = false := by rfl
    have b6 : ((8 : Int) == 6) = false := by rfl
    have kx : kIx (.lst true [.err 8 [] [], .err 9 [] [], .err 10 [] [], .err 11 [] []]) (.int 0) = some (.err 8 [] []) := by rfl
    simp_arith [runB, fb_law_by_name, fMkE, fMkE0, hz, hf, b0, b2, b4, b6, kx]
  · show runB 2 2 [] (fb_law_by_name r) [.int 9, v] = .ok (.err 9 [] []) []
    have b0 : ((9 : Int) == 0) = false := by rfl
    have b2 : ((9 : Int) == 2) = false := by rfl
    have b4 : ((9 : Int) == 4) = false := by rfl
    have b6 : ((9 : Int) == 6) = false := by rfl
    have kx : kIx (.lst true [.err 8 [] [], .err 9 [] [], .err 10 [] [], .err 11 [] []]) (.int 1) = some (.err 9 [] []) := by rfl
    simp_arith [runB, fb_law_by_name, fMkE, fMkE0, hz, hf, b0, b2, b4, b6, kx]
  · show runB 2 2 [] (fb_law_by_name r) [.int 10, v] = .ok (.err 10 [] []) []
    have b0 : ((10 : Int) == 0) = false := by rfl
    have b2 : ((10 : Int) == 2) = false := by rfl
    have b4 : ((10 : Int) == 4) = false := by rfl
    have b6 : ((10 : Int) == 6) = false := by rfl
    have kx : kIx (.lst true [.err 8 [] [], .err 9 [] [], .err 10 [] [], .err 11 [] []]) (.int 2) = some (.err 10 [] []) := by rfl
    simp_arith [runB, fb_law_by_name, fMkE, fMkE0, hz, hf, b0, b2, b4, b6, kx]
  · show runB 2 2 [] (fb_law_by_name r) [.int 11, v] = .ok (.err 11 [] []) []
    have b0 : ((11 : Int) == 0) = false := by rfl
    have b2 : ((11 : Int) == 2) = false := by rfl
    have b4 : ((11 : Int) == 4) = false := by rfl
    have b6 : ((11 : Int) == 6) = false := by rfl
    have kx : kIx (.lst true [.err 8 [] [], .err 9 [] [], .err 10 [] [], .err 11 [] []]) (.int 3) = some (.err 11 [] []) := by rfl
    simp_arith [runB, fb_law_by_name, fMkE, fMkE0, hz, hf, b0, b2, b4, b6, kx]
theorem kept_ok (r : Runs) (w : Nat) (hw : w < 12) (v : D) (hz : v.fz = true) : (nextR r).law_kept [.int (w : Nat), errD v w] = .ok (.lst true (keptD w v)) [] := by
  have hf := D.frz_of v hz
  rcases (show w = 0 ∨ w = 1 ∨ w = 2 ∨ w = 3 ∨ w = 4 ∨ w = 5 ∨ w = 6 ∨ w = 7 ∨ w = 8 ∨ w = 9 ∨ w = 10 ∨ w = 11 by omega) with rfl | rfl | rfl | rfl | rfl | rfl | rfl | rfl | rfl | rfl | rfl | rfl
  · show runB 2 2 [] (fb_law_kept r) [.int 0, .err 0 ["part"] [v]] = .ok (.lst true [v]) []
    have b6 : ((0 : Int) == 6) = false := by rfl
    have b7 : ((0 : Int) == 7) = false := by rfl
    have fe : D.fz (.err 0 ["part"] [v]) = true := by simp [D.fz, fzs, hz]
    have re : D.frz (.err 0 ["part"] [v]) = .err 0 ["part"] [v] := D.frz_of _ fe
    have cc : List.contains [0, 1, 2, 3] 0 = true := by decide
    simp_arith [runB, fb_law_kept, fXe, fe, re, hz, hf, b6, b7, cc]
  · show runB 2 2 [] (fb_law_kept r) [.int 1, .err 1 ["part"] [v]] = .ok (.lst true [v]) []
    have b6 : ((1 : Int) == 6) = false := by rfl
    have b7 : ((1 : Int) == 7) = false := by rfl
    have fe : D.fz (.err 1 ["part"] [v]) = true := by simp [D.fz, fzs, hz]
    have re : D.frz (.err 1 ["part"] [v]) = .err 1 ["part"] [v] := D.frz_of _ fe
    have cc : List.contains [0, 1, 2, 3] 1 = true := by decide
    simp_arith [runB, fb_law_kept, fXe, fe, re, hz, hf, b6, b7, cc]
  · show runB 2 2 [] (fb_law_kept r) [.int 2, .err 2 ["part"] [v]] = .ok (.lst true [v]) []
    have b6 : ((2 : Int) == 6) = false := by rfl
    have b7 : ((2 : Int) == 7) = false := by rfl
    have fe : D.fz (.err 2 ["part"] [v]) = true := by simp [D.fz, fzs, hz]
    have re : D.frz (.err 2 ["part"] [v]) = .err 2 ["part"] [v] := D.frz_of _ fe
    have cc : List.contains [0, 1, 2, 3] 2 = true := by decide
    simp_arith [runB, fb_law_kept, fXe, fe, re, hz, hf, b6, b7, cc]
  · show runB 2 2 [] (fb_law_kept r) [.int 3, .err 3 ["part"] [v]] = .ok (.lst true [v]) []
    have b6 : ((3 : Int) == 6) = false := by rfl
    have b7 : ((3 : Int) == 7) = false := by rfl
    have fe : D.fz (.err 3 ["part"] [v]) = true := by simp [D.fz, fzs, hz]
    have re : D.frz (.err 3 ["part"] [v]) = .err 3 ["part"] [v] := D.frz_of _ fe
    have cc : List.contains [0, 1, 2, 3] 3 = true := by decide
    simp_arith [runB, fb_law_kept, fXe, fe, re, hz, hf, b6, b7, cc]
  · show runB 2 2 [] (fb_law_kept r) [.int 4, .err 4 ["place"] [v]] = .ok (.lst true [v]) []
    have b6 : ((4 : Int) == 6) = false := by rfl
    have b7 : ((4 : Int) == 7) = false := by rfl
    have fe : D.fz (.err 4 ["place"] [v]) = true := by simp [D.fz, fzs, hz]
    have re : D.frz (.err 4 ["place"] [v]) = .err 4 ["place"] [v] := D.frz_of _ fe
    have cc : List.contains [4, 5] 4 = true := by decide
    simp_arith [runB, fb_law_kept, fXe, fe, re, hz, hf, b6, b7, cc]
  · show runB 2 2 [] (fb_law_kept r) [.int 5, .err 5 ["place"] [v]] = .ok (.lst true [v]) []
    have b6 : ((5 : Int) == 6) = false := by rfl
    have b7 : ((5 : Int) == 7) = false := by rfl
    have fe : D.fz (.err 5 ["place"] [v]) = true := by simp [D.fz, fzs, hz]
    have re : D.frz (.err 5 ["place"] [v]) = .err 5 ["place"] [v] := D.frz_of _ fe
    have cc : List.contains [4, 5] 5 = true := by decide
    simp_arith [runB, fb_law_kept, fXe, fe, re, hz, hf, b6, b7, cc]
  · show runB 2 2 [] (fb_law_kept r) [.int 6, .err 6 ["guard"] [v]] = .ok (.lst true [v]) []
    have b6 : ((6 : Int) == 6) = true := by rfl
    have b7 : ((6 : Int) == 7) = false := by rfl
    have fe : D.fz (.err 6 ["guard"] [v]) = true := by simp [D.fz, fzs, hz]
    have re : D.frz (.err 6 ["guard"] [v]) = .err 6 ["guard"] [v] := D.frz_of _ fe
    have cc : List.contains [6] 6 = true := by decide
    simp_arith [runB, fb_law_kept, fXe, fe, re, hz, hf, b6, b7, cc]
  · show runB 2 2 [] (fb_law_kept r) [.int 7, .err 7 ["sign"] [v]] = .ok (.lst true [v]) []
    have b6 : ((7 : Int) == 6) = false := by rfl
    have b7 : ((7 : Int) == 7) = true := by rfl
    have fe : D.fz (.err 7 ["sign"] [v]) = true := by simp [D.fz, fzs, hz]
    have re : D.frz (.err 7 ["sign"] [v]) = .err 7 ["sign"] [v] := D.frz_of _ fe
    have cc : List.contains [7] 7 = true := by decide
    simp_arith [runB, fb_law_kept, fXe, fe, re, hz, hf, b6, b7, cc]
  · show runB 2 2 [] (fb_law_kept r) [.int 8, .err 8 [] []] = .ok (.lst true []) []
    have b6 : ((8 : Int) == 6) = false := by rfl
    have b7 : ((8 : Int) == 7) = false := by rfl
    have fe : D.fz (.err 8 [] []) = true := by simp [D.fz, fzs, hz]
    have re : D.frz (.err 8 [] []) = .err 8 [] [] := D.frz_of _ fe
    simp_arith [runB, fb_law_kept, fXe, fe, re, hz, hf, b6, b7]
  · show runB 2 2 [] (fb_law_kept r) [.int 9, .err 9 [] []] = .ok (.lst true []) []
    have b6 : ((9 : Int) == 6) = false := by rfl
    have b7 : ((9 : Int) == 7) = false := by rfl
    have fe : D.fz (.err 9 [] []) = true := by simp [D.fz, fzs, hz]
    have re : D.frz (.err 9 [] []) = .err 9 [] [] := D.frz_of _ fe
    simp_arith [runB, fb_law_kept, fXe, fe, re, hz, hf, b6, b7]
  · show runB 2 2 [] (fb_law_kept r) [.int 10, .err 10 [] []] = .ok (.lst true []) []
    have b6 : ((10 : Int) == 6) = false := by rfl
    have b7 : ((10 : Int) == 7) = false := by rfl
    have fe : D.fz (.err 10 [] []) = true := by simp [D.fz, fzs, hz]
    have re : D.frz (.err 10 [] []) = .err 10 [] [] := D.frz_of _ fe
    simp_arith [runB, fb_law_kept, fXe, fe, re, hz, hf, b6, b7]
  · show runB 2 2 [] (fb_law_kept r) [.int 11, .err 11 [] []] = .ok (.lst true []) []
    have b6 : ((11 : Int) == 6) = false := by rfl
    have b7 : ((11 : Int) == 7) = false := by rfl
    have fe : D.fz (.err 11 [] []) = true := by simp [D.fz, fzs, hz]
    have re : D.frz (.err 11 [] []) = .err 11 [] [] := D.frz_of _ fe
    simp_arith [runB, fb_law_kept, fXe, fe, re, hz, hf, b6, b7]
end K01
namespace K01
open PySem PySem.Spec PyProof.Rows L2 Nb
theorem cls_0 (r : Runs) (fs : List Str) (ds : List D) (hz : fzs ds = true) : runB 1 3 [] (fb_law_classes r) [.err 0 fs ds] = .ok (.lst true (bls 0)) [] := by
  have fe : D.fz (.err 0 fs ds) = true := by rw [D.fz]; exact hz
  have re : D.frz (.err 0 fs ds) = .err 0 fs ds := D.frz_of _ fe
  have h0 : kIsE [0, 1, 2, 3, 4, 5, 6, 7, 8, 9, 10, 11, 12] TAB [.err 0 fs ds, .cls 0] = some (.bl true) := by rfl
  have h1 : kIsE [0, 1, 2, 3, 4, 5, 6, 7, 8, 9, 10, 11, 12] TAB [.err 0 fs ds, .cls 1] = some (.bl false) := by rfl
  have h2 : kIsE [0, 1, 2, 3, 4, 5, 6, 7, 8, 9, 10, 11, 12] TAB [.err 0 fs ds, .cls 2] = some (.bl false) := by rfl
  have h3 : kIsE [0, 1, 2, 3, 4, 5, 6, 7, 8, 9, 10, 11, 12] TAB [.err 0 fs ds, .cls 3] = some (.bl false) := by rfl
  have h4 : kIsE [0, 1, 2, 3, 4, 5, 6, 7, 8, 9, 10, 11, 12] TAB [.err 0 fs ds, .cls 4] = some (.bl false) := by rfl
  have h5 : kIsE [0, 1, 2, 3, 4, 5, 6, 7, 8, 9, 10, 11, 12] TAB [.err 0 fs ds, .cls 5] = some (.bl false) := by rfl
  have h6 : kIsE [0, 1, 2, 3, 4, 5, 6, 7, 8, 9, 10, 11, 12] TAB [.err 0 fs ds, .cls 6] = some (.bl false) := by rfl
  have h7 : kIsE [0, 1, 2, 3, 4, 5, 6, 7, 8, 9, 10, 11, 12] TAB [.err 0 fs ds, .cls 7] = some (.bl false) := by rfl
  have h8 : kIsE [0, 1, 2, 3, 4, 5, 6, 7, 8, 9, 10, 11, 12] TAB [.err 0 fs ds, .cls 8] = some (.bl false) := by rfl
  have h9 : kIsE [0, 1, 2, 3, 4, 5, 6, 7, 8, 9, 10, 11, 12] TAB [.err 0 fs ds, .cls 9] = some (.bl false) := by rfl
  have h10 : kIsE [0, 1, 2, 3, 4, 5, 6, 7, 8, 9, 10, 11, 12] TAB [.err 0 fs ds, .cls 10] = some (.bl false) := by rfl
  have h11 : kIsE [0, 1, 2, 3, 4, 5, 6, 7, 8, 9, 10, 11, 12] TAB [.err 0 fs ds, .cls 11] = some (.bl false) := by rfl
  have h12 : kIsE [0, 1, 2, 3, 4, 5, 6, 7, 8, 9, 10, 11, 12] TAB [.err 0 fs ds, .cls 12] = some (.bl true) := by rfl
  have h13 : kIsE [0, 1, 2, 3, 4, 5, 6, 7, 8, 9, 10, 11, 12] TAB [.err 0 fs ds, .ty "Exception"] = some (.bl true) := by rfl
  have h14 : kIsE [0, 1, 2, 3, 4, 5, 6, 7, 8, 9, 10, 11, 12] TAB [.err 0 fs ds, .ty "ValueError"] = some (.bl false) := by rfl
  have h15 : kIsE [0, 1, 2, 3, 4, 5, 6, 7, 8, 9, 10, 11, 12] TAB [.err 0 fs ds, .ty "TypeError"] = some (.bl false) := by rfl
  have h16 : kIsE [0, 1, 2, 3, 4, 5, 6, 7, 8, 9, 10, 11, 12] TAB [.err 0 fs ds, .ty "LookupError"] = some (.bl false) := by rfl
  have h17 : kIsE [0, 1, 2, 3, 4, 5, 6, 7, 8, 9, 10, 11, 12] TAB [.err 0 fs ds, .ty "ArithmeticError"] = some (.bl false) := by rfl
  have h18 : kIsE [0, 1, 2, 3, 4, 5, 6, 7, 8, 9, 10, 11, 12] TAB [.err 0 fs ds, .ty "RuntimeError"] = some (.bl false) := by rfl
  have a0 : kAdd (.lst false [.bl true, .bl false, .bl false]) (.lst true [.bl false, .bl false, .bl false]) = some (.lst true [.bl true, .bl false, .bl false, .bl false, .bl false, .bl false]) := by rfl
  have a1 : kAdd (.lst false [.bl true, .bl false, .bl false, .bl false, .bl false, .bl false]) (.lst true [.bl false, .bl false, .bl false]) = some (.lst true [.bl true, .bl false, .bl false, .bl false, .bl false, .bl false, .bl false, .bl false, .bl false]) := by rfl
  have a2 : kAdd (.lst false [.bl true, .bl false, .bl false, .bl false, .bl false, .bl false, .bl false, .bl false, .bl false]) (.lst true [.bl false, .bl false, .bl false]) = some (.lst true [.bl true, .bl false, .bl false, .bl false, .bl false, .bl false, .bl false, .bl false, .bl false, .bl false, .bl false, .bl false]) := by rfl
  have a3 : kAdd (.lst false [.bl true, .bl false, .bl false, .bl false, .bl false, .bl false, .bl false, .bl false, .bl false, .bl false, .bl false, .bl false]) (.lst true [.bl true, .bl true]) = some (.lst true [.bl true, .bl false, .bl false, .bl false, .bl false, .bl false, .bl false, .bl false, .bl false, .bl false, .bl false, .bl false, .bl true, .bl true]) := by rfl
  have a4 : kAdd (.lst false [.bl true, .bl false, .bl false, .bl false, .bl false, .bl false, .bl false, .bl false, .bl false, .bl false, .bl false, .bl false, .bl true, .bl true]) (.lst false [.bl false, .bl false, .bl false]) = some (.lst true [.bl true, .bl false, .bl false, .bl false, .bl false, .bl false, .bl false, .bl false, .bl false, .bl false, .bl false, .bl false, .bl true, .bl true, .bl false, .bl false, .bl false]) := by rfl
  have a5 : kAdd (.lst true [.bl true, .bl false, .bl false, .bl false, .bl false, .bl false, .bl false, .bl false, .bl false, .bl false, .bl false, .bl false, .bl true, .bl true, .bl false, .bl false, .bl false]) (.lst true [.bl false, .bl false]) = some (.lst true [.bl true, .bl false, .bl false, .bl false, .bl false, .bl false, .bl false, .bl false, .bl false, .bl false, .bl false, .bl false, .bl true, .bl true, .bl false, .bl false, .bl false, .bl false, .bl false]) := by rfl
  show _ = CRes.ok (.lst true [.bl true, .bl false, .bl false, .bl false, .bl false, .bl false, .bl false, .bl false, .bl false, .bl false, .bl false, .bl false, .bl true, .bl true, .bl false, .bl false, .bl false, .bl false, .bl false]) []
  simp_arith [runB, fb_law_classes, fe, re, h0, h1, h2, h3, h4, h5, h6, h7, h8, h9, h10, h11, h12, h13, h14, h15, h16, h17, h18, a0, a1, a2, a3, a4, a5]
theorem cls_1 (r : Runs) (fs : List Str) (ds : List D) (hz : fzs ds = true) : runB 1 3 [] (fb_law_classes r) [.err 1 fs ds] = .ok (.lst true (bls 1)) [] := by
  have fe : D.fz (.err 1 fs ds) = true := by rw [D.fz]; exact hz
  have re : D.frz (.err 1 fs ds) = .err 1 fs ds := D.frz_of _ fe
  have h0 : kIsE [0, 1, 2, 3, 4, 5, 6, 7, 8, 9, 10, 11, 12] TAB [.err 1 fs ds, .cls 0] = some (.bl false) := by rfl
  have h1 : kIsE [0, 1, 2, 3, 4, 5, 6, 7, 8, 9, 10, 11, 12] TAB [.err 1 fs ds, .cls 1] = some (.bl true) := by rfl
  have h2 : kIsE [0, 1, 2, 3, 4, 5, 6, 7, 8, 9, 10, 11, 12] TAB [.err 1 fs ds, .cls 2] = some (.bl false) := by rfl
  have h3 : kIsE [0, 1, 2, 3, 4, 5, 6, 7, 8, 9, 10, 11, 12] TAB [.err 1 fs ds, .cls 3] = some (.bl false) := by rfl
  have h4 : kIsE [0, 1, 2, 3, 4, 5, 6, 7, 8, 9, 10, 11, 12] TAB [.err 1 fs ds, .cls 4] = some (.bl false) := by rfl
  have h5 : kIsE [0, 1, 2, 3, 4, 5, 6, 7, 8, 9, 10, 11, 12] TAB [.err 1 fs ds, .cls 5] = some (.bl false) := by rfl
  have h6 : kIsE [0, 1, 2, 3, 4, 5, 6, 7, 8, 9, 10, 11, 12] TAB [.err 1 fs ds, .cls 6] = some (.bl false) := by rfl
  have h7 : kIsE [0, 1, 2, 3, 4, 5, 6, 7, 8, 9, 10, 11, 12] TAB [.err 1 fs ds, .cls 7] = some (.bl false) := by rfl
  have h8 : kIsE [0, 1, 2, 3, 4, 5, 6, 7, 8, 9, 10, 11, 12] TAB [.err 1 fs ds, .cls 8] = some (.bl false) := by rfl
  have h9 : kIsE [0, 1, 2, 3, 4, 5, 6, 7, 8, 9, 10, 11, 12] TAB [.err 1 fs ds, .cls 9] = some (.bl false) := by rfl
  have h10 : kIsE [0, 1, 2, 3, 4, 5, 6, 7, 8, 9, 10, 11, 12] TAB [.err 1 fs ds, .cls 10] = some (.bl false) := by rfl
  have h11 : kIsE [0, 1, 2, 3, 4, 5, 6, 7, 8, 9, 10, 11, 12] TAB [.err 1 fs ds, .cls 11] = some (.bl false) := by rfl
  have h12 : kIsE [0, 1, 2, 3, 4, 5, 6, 7, 8, 9, 10, 11, 12] TAB [.err 1 fs ds, .cls 12] = some (.bl true) := by rfl
  have h13 : kIsE [0, 1, 2, 3, 4, 5, 6, 7, 8, 9, 10, 11, 12] TAB [.err 1 fs ds, .ty "Exception"] = some (.bl true) := by rfl
  have h14 : kIsE [0, 1, 2, 3, 4, 5, 6, 7, 8, 9, 10, 11, 12] TAB [.err 1 fs ds, .ty "ValueError"] = some (.bl false) := by rfl
  have h15 : kIsE [0, 1, 2, 3, 4, 5, 6, 7, 8, 9, 10, 11, 12] TAB [.err 1 fs ds, .ty "TypeError"] = some (.bl false) := by rfl
  have h16 : kIsE [0, 1, 2, 3, 4, 5, 6, 7, 8, 9, 10, 11, 12] TAB [.err 1 fs ds, .ty "LookupError"] = some (.bl false) := by rfl
  have h17 : kIsE [0, 1, 2, 3, 4, 5, 6, 7, 8, 9, 10, 11, 12] TAB [.err 1 fs ds, .ty "ArithmeticError"] = some (.bl false) := by rfl
  have h18 : kIsE [0, 1, 2, 3, 4, 5, 6, 7, 8, 9, 10, 11, 12] TAB [.err 1 fs ds, .ty "RuntimeError"] = some (.bl false) := by rfl
  have a0 : kAdd (.lst false [.bl false, .bl true, .bl false]) (.lst true [.bl false, .bl false, .bl false]) = some (.lst true [.bl false, .bl true, .bl false, .bl false, .bl false, .bl false]) := by rfl
  have a1 : kAdd (.lst false [.bl false, .bl true, .bl false, .bl false, .bl false, .bl false]) (.lst true [.bl false, .bl false, .bl false]) = some (.lst true [.bl false, .bl true, .bl false, .bl false, .bl false, .bl false, .bl false, .bl false, .bl false]) := by rfl
  have a2 : kAdd (.lst false [.bl false, .bl true, .bl false, .bl false, .bl false, .bl false, .bl false, .bl false, .bl false]) (.lst true [.bl false, .bl false, .bl false]) = some (.lst true [.bl false, .bl true, .bl false, .bl false, .bl false, .bl false, .bl false, .bl false, .bl false, .bl false, .bl false, .bl false]) := by rfl
  have a3 : kAdd (.lst false [.bl false, .bl true, .bl false, .bl false, .bl false, .bl false, .bl false, .bl false, .bl false, .bl false, .bl false, .bl false]) (.lst true [.bl true, .bl true]) = some (.lst true [.bl false, .bl true, .bl false, .bl false, .bl false, .bl false, .bl false, .bl false, .bl false, .bl false, .bl false, .bl false, .bl true, .bl true]) := by rfl
  have a4 : kAdd (.lst false [.bl false, .bl true, .bl false, .bl false, .bl false, .bl false, .bl false, .bl false, .bl false, .bl false, .bl false, .bl false, .bl true, .bl true]) (.lst false [.bl false, .bl false, .bl false]) = some (.lst true [.bl false, .bl true, .bl false, .bl false, .bl false, .bl false, .bl false, .bl false, .bl false, .bl false, .bl false, .bl false, .bl true, .bl true, .bl false, .bl false, .bl false]) := by rfl
  have a5 : kAdd (.lst true [.bl false, .bl true, .bl false, .bl false, .bl false, .bl false, .bl false, .bl false, .bl false, .bl false, .bl false, .bl false, .bl true, .bl true, .bl false, .bl false, .bl false]) (.lst true [.bl false, .bl false]) = some (.lst true [.bl false, .bl true, .bl false, .bl false, .bl false, .bl false, .bl false, .bl false, .bl false, .bl false, .bl false, .bl false, .bl true, .bl true, .bl false, .bl false, .bl false, .bl false, .bl false]) := by rfl
  show _ = CRes.ok (.lst true [.bl false, .bl true, .bl false, .bl false, .bl false, .bl false, .bl false, .bl false, .bl false, .bl false, .bl false, .bl false, .bl true, .bl true, .bl false, .bl false, .bl false, .bl false, .bl false]) []
  simp_arith [runB, fb_law_classes, fe, re, h0, h1, h2, h3, h4, h5, h6, h7, h8, h9, h10, h11, h12, h13, h14, h15, h16, h17, h18, a0, a1, a2, a3, a4, a5]
theorem cls_2 (r : Runs) (fs : List Str) (ds : List D) (hz : fzs ds = true) : runB 1 3 [] (fb_law_classes r) [.err 2 fs ds] = .ok (.lst true (bls 2)) [] := by
  have fe : D.fz (.err 2 fs ds) = true := by rw [D.fz]; exact hz
  have re : D.frz (.err 2 fs ds) = .err 2 fs ds := D.frz_of _ fe
  have h0 : kIsE [0, 1, 2, 3, 4, 5, 6, 7, 8, 9, 10, 11, 12] TAB [.err 2 fs ds, .cls 0] = some (.bl false) := by rfl
  have h1 : kIsE [0, 1, 2, 3, 4, 5, 6, 7, 8, 9, 10, 11, 12] TAB [.err 2 fs ds, .cls 1] = some (.bl false) := by rfl
  have h2 : kIsE [0, 1, 2, 3, 4, 5, 6, 7, 8, 9, 10, 11, 12] TAB [.err 2 fs ds, .cls 2] = some (.bl true) := by rfl
  have h3 : kIsE [0, 1, 2, 3, 4, 5, 6, 7, 8, 9, 10, 11, 12] TAB [.err 2 fs ds, .cls 3] = some (.bl false) := by rfl
  have h4 : kIsE [0, 1, 2, 3, 4, 5, 6, 7, 8, 9, 10, 11, 12] TAB [.err 2 fs ds, .cls 4] = some (.bl false) := by rfl
  have h5 : kIsE [0, 1, 2, 3, 4, 5, 6, 7, 8, 9, 10, 11, 12] TAB [.err 2 fs ds, .cls 5] = some (.bl false) := by rfl
  have h6 : kIsE [0, 1, 2, 3, 4, 5, 6, 7, 8, 9, 10, 11, 12] TAB [.err 2 fs ds, .cls 6] = some (.bl false) := by rfl
  have h7 : kIsE [0, 1, 2, 3, 4, 5, 6, 7, 8, 9, 10, 11, 12] TAB [.err 2 fs ds, .cls 7] = some (.bl false) := by rfl
  have h8 : kIsE [0, 1, 2, 3, 4, 5, 6, 7, 8, 9, 10, 11, 12] TAB [.err 2 fs ds, .cls 8] = some (.bl false) := by rfl
  have h9 : kIsE [0, 1, 2, 3, 4, 5, 6, 7, 8, 9, 10, 11, 12] TAB [.err 2 fs ds, .cls 9] = some (.bl false) := by rfl
  have h10 : kIsE [0, 1, 2, 3, 4, 5, 6, 7, 8, 9, 10, 11, 12] TAB [.err 2 fs ds, .cls 10] = some (.bl false) := by rfl
  have h11 : kIsE [0, 1, 2, 3, 4, 5, 6, 7, 8, 9, 10, 11, 12] TAB [.err 2 fs ds, .cls 11] = some (.bl false) := by rfl
  have h12 : kIsE [0, 1, 2, 3, 4, 5, 6, 7, 8, 9, 10, 11, 12] TAB [.err 2 fs ds, .cls 12] = some (.bl true) := by rfl
  have h13 : kIsE [0, 1, 2, 3, 4, 5, 6, 7, 8, 9, 10, 11, 12] TAB [.err 2 fs ds, .ty "Exception"] = some (.bl true) := by rfl
  have h14 : kIsE [0, 1, 2, 3, 4, 5, 6, 7, 8, 9, 10, 11, 12] TAB [.err 2 fs ds, .ty "ValueError"] = some (.bl false) := by rfl
  have h15 : kIsE [0, 1, 2, 3, 4, 5, 6, 7, 8, 9, 10, 11, 12] TAB [.err 2 fs ds, .ty "TypeError"] = some (.bl false) := by rfl
  have h16 : kIsE [0, 1, 2, 3, 4, 5, 6, 7, 8, 9, 10, 11, 12] TAB [.err 2 fs ds, .ty "LookupError"] = some (.bl false) := by rfl
  have h17 : kIsE [0, 1, 2, 3, 4, 5, 6, 7, 8, 9, 10, 11, 12] TAB [.err 2 fs ds, .ty "ArithmeticError"] = some (.bl false) := by rfl
  have h18 : kIsE [0, 1, 2, 3, 4, 5, 6, 7, 8, 9, 10, 11, 12] TAB [.err 2 fs ds, .ty "RuntimeError"] = some (.bl false) := by rfl
  have a0 : kAdd (.lst false [.bl false, .bl false, .bl true]) (.lst true [.bl false, .bl false, .bl false]) = some (.lst true [.bl false, .bl false, .bl true, .bl false, .bl false, .bl false]) := by rfl
  have a1 : kAdd (.lst false [.bl false, .bl false, .bl true, .bl false, .bl false, .bl false]) (.lst true [.bl false, .bl false, .bl false]) = some (.lst true [.bl false, .bl false, .bl true, .bl false, .bl false, .bl false, .bl false, .bl false, .bl false]) := by rfl
  have a2 : kAdd (.lst false [.bl false, .bl false, .bl true, .bl false, .bl false, .bl false, .bl false, .bl false, .bl false]) (.lst true [.bl false, .bl false, .bl false]) = some (.lst true [.bl false, .bl false, .bl true, .bl false, .bl false, .bl false, .bl false, .bl false, .bl false, .bl false, .bl false, .bl false]) := by rfl
  have a3 : kAdd (.lst false [.bl false, .bl false, .bl true, .bl false, .bl false, .bl false, .bl false, .bl false, .bl false, .bl false, .bl false, .bl false]) (.lst true [.bl true, .bl true]) = some (.lst true [.bl false, .bl false, .bl true, .bl false, .bl false, .bl false, .bl false, .bl false, .bl false, .bl false, .bl false, .bl false, .bl true, .bl true]) := by rfl
  have a4 : kAdd (.lst false [.bl false, .bl false, .bl true, .bl false, .bl false, .bl false, .bl false, .bl false, .bl false, .bl false, .bl false, .bl false, .bl true, .bl true]) (.lst false [.bl false, .bl false, .bl false]) = some (.lst true [.bl false, .bl false, .bl true, .bl false, .bl false, .bl false, .bl false, .bl false, .bl false, .bl false, .bl false, .bl false, .bl true, .bl true, .bl false, .bl false, .bl false]) := by rfl
  have a5 : kAdd (.lst true [.bl false, .bl false, .bl true, .bl false, .bl false, .bl false, .bl false, .bl false, .bl false, .bl false, .bl false, .bl false, .bl true, .bl true, .bl false, .bl false, .bl false]) (.lst true [.bl false, .bl false]) = some (.lst true [.bl false, .bl false, .bl true, .bl false, .bl false, .bl false, .bl false, .bl false, .bl false, .bl false, .bl false, .bl false, .bl true, .bl true, .bl false, .bl false, .bl false, .bl false, .bl false]) := by rfl
  show _ = CRes.ok (.lst true [.bl false, .bl false, .bl true, .bl false, .bl false, .bl false, .bl false, .bl false, .bl false, .bl false, .bl false, .bl false, .bl true, .bl true, .bl false, .bl false, .bl false, .bl false, .bl false]) []
  simp_arith [runB, fb_law_classes, fe, re, h0, h1, h2, h3, h4, h5, h6, h7, h8, h9, h10, h11, h12, h13, h14, h15, h16, h17, h18, a0, a1, a2, a3, a4, a5]
theorem cls_3 (r : Runs) (fs : List Str) (ds : List D) (hz : fzs ds = true) : runB 1 3 [] (fb_law_classes r) [.err 3 fs ds] = .ok (.lst true (bls 3)) [] := by
  have fe : D.fz (.err 3 fs ds) = true := by rw [D.fz]; exact hz
  have re : D.frz (.err 3 fs ds) = .err 3 fs ds := D.frz_of _ fe
  have h0 : kIsE [0, 1, 2, 3, 4, 5, 6, 7, 8, 9, 10, 11, 12] TAB [.err 3 fs ds, .cls 0] = some (.bl false) := by rfl
  have h1 : kIsE [0, 1, 2, 3, 4, 5, 6, 7, 8, 9, 10, 11, 12] TAB [.err 3 fs ds, .cls 1] = some (.bl false) := by rfl
  have h2 : kIsE [0, 1, 2, 3, 4, 5, 6, 7, 8, 9, 10, 11, 12] TAB [.err 3 fs ds, .cls 2] = some (.bl false) := by rfl
  have h3 : kIsE [0, 1, 2, 3, 4, 5, 6, 7, 8, 9, 10, 11, 12] TAB [.err 3 fs ds, .cls 3] = some (.bl true) := by rfl
  have h4 : kIsE [0, 1, 2, 3, 4, 5, 6, 7, 8, 9, 10, 11, 12] TAB [.err 3 fs ds, .cls 4] = some (.bl false) := by rfl
  have h5 : kIsE [0, 1, 2, 3, 4, 5, 6, 7, 8, 9, 10, 11, 12] TAB [.err 3 fs ds, .cls 5] = some (.bl false) := by rfl
  have h6 : kIsE [0, 1, 2, 3, 4, 5, 6, 7, 8, 9, 10, 11, 12] TAB [.err 3 fs ds, .cls 6] = some (.bl false) := by rfl
  have h7 : kIsE [0, 1, 2, 3, 4, 5, 6, 7, 8, 9, 10, 11, 12] TAB [.err 3 fs ds, .cls 7] = some (.bl false) := by rfl
  have h8 : kIsE [0, 1, 2, 3, 4, 5, 6, 7, 8, 9, 10, 11, 12] TAB [.err 3 fs ds, .cls 8] = some (.bl false) := by rfl
  have h9 : kIsE [0, 1, 2, 3, 4, 5, 6, 7, 8, 9, 10, 11, 12] TAB [.err 3 fs ds, .cls 9] = some (.bl false) := by rfl
  have h10 : kIsE [0, 1, 2, 3, 4, 5, 6, 7, 8, 9, 10, 11, 12] TAB [.err 3 fs ds, .cls 10] = some (.bl false) := by rfl
  have h11 : kIsE [0, 1, 2, 3, 4, 5, 6, 7, 8, 9, 10, 11, 12] TAB [.err 3 fs ds, .cls 11] = some (.bl false) := by rfl
  have h12 : kIsE [0, 1, 2, 3, 4, 5, 6, 7, 8, 9, 10, 11, 12] TAB [.err 3 fs ds, .cls 12] = some (.bl true) := by rfl
  have h13 : kIsE [0, 1, 2, 3, 4, 5, 6, 7, 8, 9, 10, 11, 12] TAB [.err 3 fs ds, .ty "Exception"] = some (.bl true) := by rfl
  have h14 : kIsE [0, 1, 2, 3, 4, 5, 6, 7, 8, 9, 10, 11, 12] TAB [.err 3 fs ds, .ty "ValueError"] = some (.bl false) := by rfl
  have h15 : kIsE [0, 1, 2, 3, 4, 5, 6, 7, 8, 9, 10, 11, 12] TAB [.err 3 fs ds, .ty "TypeError"] = some (.bl false) := by rfl
  have h16 : kIsE [0, 1, 2, 3, 4, 5, 6, 7, 8, 9, 10, 11, 12] TAB [.err 3 fs ds, .ty "LookupError"] = some (.bl false) := by rfl
  have h17 : kIsE [0, 1, 2, 3, 4, 5, 6, 7, 8, 9, 10, 11, 12] TAB [.err 3 fs ds, .ty "ArithmeticError"] = some (.bl false) := by rfl
  have h18 : kIsE [0, 1, 2, 3, 4, 5, 6, 7, 8, 9, 10, 11, 12] TAB [.err 3 fs ds, .ty "RuntimeError"] = some (.bl false) := by rfl
  have a0 : kAdd (.lst false [.bl false, .bl false, .bl false]) (.lst true [.bl true, .bl false, .bl false]) = some (.lst true [.bl false, .bl false, .bl false, .bl true, .bl false, .bl false]) := by rfl
  have a1 : kAdd (.lst false [.bl false, .bl false, .bl false, .bl true, .bl false, .bl false]) (.lst true [.bl false, .bl false, .bl false]) = some (.lst true [.bl false, .bl false, .bl false, .bl true, .bl false, .bl false, .bl false, .bl false, .bl false]) := by rfl
  have a2 : kAdd (.lst false [.bl false, .bl false, .bl false, .bl true, .bl false, .bl false, .bl false, .bl false, .bl false]) (.lst true [.bl false, .bl false, .bl false]) = some (.lst true [.bl false, .bl false, .bl false, .bl true, .bl false, .bl false, .bl false, .bl false, .bl false, .bl false, .bl false, .bl false]) := by rfl
  have a3 : kAdd (.lst false [.bl false, .bl false, .bl false, .bl true, .bl false, .bl false, .bl false, .bl false, .bl false, .bl false, .bl false, .bl false]) (.lst true [.bl true, .bl true]) = some (.lst true [.bl false, .bl false, .bl false, .bl true, .bl false, .bl false, .bl false, .bl false, .bl false, .bl false, .bl false, .bl false, .bl true, .bl true]) := by rfl
  have a4 : kAdd (.lst false [.bl false, .bl false, .bl false, .bl true, .bl false, .bl false, .bl false, .bl false, .bl false, .bl false, .bl false, .bl false, .bl true, .bl true]) (.lst false [.bl false, .bl false, .bl false]) = some (.lst true [.bl false, .bl false, .bl false, .bl true, .bl false, .bl false, .bl false, .bl false, .bl false, .bl false, .bl false, .bl false, .bl true, .bl true, .bl false, .bl false, .bl false]) := by rfl
  have a5 : kAdd (.lst true [.bl false, .bl false, .bl false, .bl true, .bl false, .bl false, .bl false, .bl false, .bl false, .bl false, .bl false, .bl false, .bl true, .bl true, .bl false, .bl false, .bl false]) (.lst true [.bl false, .bl false]) = some (.lst true [.bl false, .bl false, .bl false, .bl true, .bl false, .bl false, .bl false, .bl false, .bl false, .bl false, .bl false, .bl false, .bl true, .bl true, .bl false, .bl false, .bl false, .bl false, .bl false]) := by rfl
  show _ = CRes.ok (.lst true [.bl false, .bl false, .bl false, .bl true, .bl false, .bl false, .bl false, .bl false, .bl false, .bl false, .bl false, .bl false, .bl true, .bl true, .bl false, .bl false, .bl false, .bl false, .bl false]) []
  simp_arith [runB, fb_law_classes, fe, re, h0, h1, h2, h3, h4, h5, h6, h7, h8, h9, h10, h11, h12, h13, h14, h15, h16, h17, h18, a0, a1, a2, a3, a4, a5]
theorem cls_4 (r : Runs) (fs : List Str) (ds : List D) (hz : fzs ds = true) : runB 1 3 [] (fb_law_classes r) [.err 4 fs ds] = .ok (.lst true (bls 4)) [] := by
  have fe : D.fz (.err 4 fs ds) = true := by rw [D.fz]; exact hz
  have re : D.frz (.err 4 fs ds) = .err 4 fs ds := D.frz_of _ fe
  have h0 : kIsE [0, 1, 2, 3, 4, 5, 6, 7, 8, 9, 10, 11, 12] TAB [.err 4 fs ds, .cls 0] = some (.bl false) := by rfl
  have h1 : kIsE [0, 1, 2, 3, 4, 5, 6, 7, 8, 9, 10, 11, 12] TAB [.err 4 fs ds, .cls 1] = some (.bl false) := by rfl
  have h2 : kIsE [0, 1, 2, 3, 4, 5, 6, 7, 8, 9, 10, 11, 12] TAB [.err 4 fs ds, .cls 2] = some (.bl false) := by rfl
  have h3 : kIsE [0, 1, 2, 3, 4, 5, 6, 7, 8, 9, 10, 11, 12] TAB [.err 4 fs ds, .cls 3] = some (.bl false) := by rfl
  have h4 : kIsE [0, 1, 2, 3, 4, 5, 6, 7, 8, 9, 10, 11, 12] TAB [.err 4 fs ds, .cls 4] = some (.bl true) := by rfl
  have h5 : kIsE [0, 1, 2, 3, 4, 5, 6, 7, 8, 9, 10, 11, 12] TAB [.err 4 fs ds, .cls 5] = some (.bl false) := by rfl
  have h6 : kIsE [0, 1, 2, 3, 4, 5, 6, 7, 8, 9, 10, 11, 12] TAB [.err 4 fs ds, .cls 6] = some (.bl false) := by rfl
  have h7 : kIsE [0, 1, 2, 3, 4, 5, 6, 7, 8, 9, 10, 11, 12] TAB [.err 4 fs ds, .cls 7] = some (.bl false) := by rfl
  have h8 : kIsE [0, 1, 2, 3, 4, 5, 6, 7, 8, 9, 10, 11, 12] TAB [.err 4 fs ds, .cls 8] = some (.bl false) := by rfl
  have h9 : kIsE [0, 1, 2, 3, 4, 5, 6, 7, 8, 9, 10, 11, 12] TAB [.err 4 fs ds, .cls 9] = some (.bl false) := by rfl
  have h10 : kIsE [0, 1, 2, 3, 4, 5, 6, 7, 8, 9, 10, 11, 12] TAB [.err 4 fs ds, .cls 10] = some (.bl false) := by rfl
  have h11 : kIsE [0, 1, 2, 3, 4, 5, 6, 7, 8, 9, 10, 11, 12] TAB [.err 4 fs ds, .cls 11] = some (.bl false) := by rfl
  have h12 : kIsE [0, 1, 2, 3, 4, 5, 6, 7, 8, 9, 10, 11, 12] TAB [.err 4 fs ds, .cls 12] = some (.bl true) := by rfl
  have h13 : kIsE [0, 1, 2, 3, 4, 5, 6, 7, 8, 9, 10, 11, 12] TAB [.err 4 fs ds, .ty "Exception"] = some (.bl true) := by rfl
  have h14 : kIsE [0, 1, 2, 3, 4, 5, 6, 7, 8, 9, 10, 11, 12] TAB [.err 4 fs ds, .ty "ValueError"] = some (.bl false) := by rfl
  have h15 : kIsE [0, 1, 2, 3, 4, 5, 6, 7, 8, 9, 10, 11, 12] TAB [.err 4 fs ds, .ty "TypeError"] = some (.bl false) := by rfl
  have h16 : kIsE [0, 1, 2, 3, 4, 5, 6, 7, 8, 9, 10, 11, 12] TAB [.err 4 fs ds, .ty "LookupError"] = some (.bl false) := by rfl
  have h17 : kIsE [0, 1, 2, 3, 4, 5, 6, 7, 8, 9, 10, 11, 12] TAB [.err 4 fs ds, .ty "ArithmeticError"] = some (.bl false) := by rfl
  have h18 : kIsE [0, 1, 2, 3, 4, 5, 6, 7, 8, 9, 10, 11, 12] TAB [.err 4 fs ds, .ty "RuntimeError"] = some (.bl false) := by rfl
  have a0 : kAdd (.lst false [.bl false, .bl false, .bl false]) (.lst true [.bl false, .bl true, .bl false]) = some (.lst true [.bl false, .bl false, .bl false, .bl false, .bl true, .bl false]) := by rfl
  have a1 : kAdd (.lst false [.bl false, .bl false, .bl false, .bl false, .bl true, .bl false]) (.lst true [.bl false, .bl false, .bl false]) = some (.lst true [.bl false, .bl false, .bl false, .bl false, .bl true, .bl false, .bl false, .bl false, .bl false]) := by rfl
  have a2 : kAdd (.lst false [.bl false, .bl false, .bl false, .bl false, .bl true, .bl false, .bl false, .bl false, .bl false]) (.lst true [.bl false, .bl false, .bl false]) = some (.lst true [.bl false, .bl false, .bl false, .bl false, .bl true, .bl false, .bl false, .bl false, .bl false, .bl false, .bl false, .bl false]) := by rfl
  have a3 : kAdd (.lst false [.bl false, .bl false, .bl false, .bl false, .bl true, .bl false, .bl false, .bl false, .bl false, .bl false, .bl false, .bl false]) (.lst true [.bl true, .bl true]) = some (.lst true [.bl false, .bl false, .bl false, .bl false, .bl true, .bl false, .bl false, .bl false, .bl false, .bl false, .bl false, .bl false, .bl true, .bl true]) := by rfl
  have a4 : kAdd (.lst false [.bl false, .bl false, .bl false, .bl false, .bl true, .bl false, .bl false, .bl false, .bl false, .bl false, .bl false, .bl false, .bl true, .bl true]) (.lst false [.bl false, .bl false, .bl false]) = some (.lst true [.bl false, .bl false, .bl false, .bl false, .bl true, .bl false, .bl false, .bl false, .bl false, .bl false, .bl false, .bl false, .bl true, .bl true, .bl false, .bl false, .bl false]) := by rfl
  have a5 : kAdd (.lst true [.bl false, .bl false, .bl false, .bl false, .bl true, .bl false, .bl false, .bl false, .bl false, .bl false, .bl false, .bl false, .bl true, .bl true, .bl false, .bl false, .bl false]) (.lst true [.bl false, .bl false]) = some (.lst true [.bl false, .bl false, .bl false, .bl false, .bl true, .bl false, .bl false, .bl false, .bl false, .bl false, .bl false, .bl false, .bl true, .bl true, .bl false, .bl false, .bl false, .bl false, .bl false]) := by rfl
  show _ = CRes.ok (.lst true [.bl false, .bl false, .bl false, .bl false, .bl true, .bl false, .bl false, .bl false, .bl false, .bl false, .bl false, .bl false, .bl true, .bl true, .bl false, .bl false, .bl false, .bl false, .bl false]) []
  simp_arith [runB, fb_law_classes, fe, re, h0, h1, h2, h3, h4, h5, h6, h7, h8, h9, h10, h11, h12, h13, h14, h15, h16, h17, h18, a0, a1, a2, a3, a4, a5]
theorem cls_5 (r : Runs) (fs : List Str) (ds : List D) (hz : fzs ds = true) : runB 1 3 [] (fb_law_classes r) [.err 5 fs ds] = .ok (.lst true (bls 5)) [] := by
  have fe : D.fz (.err 5 fs ds) = true := by rw [D.fz]; exact hz
  have re : D.frz (.err 5 fs ds) = .err 5 fs ds := D.frz_of _ fe
  have h0 : kIsE [0, 1, 2, 3, 4, 5, 6, 7, 8, 9, 10, 11, 12] TAB [.err 5 fs ds, .cls 0] = some (.bl false) := by rfl
  have h1 : kIsE [0, 1, 2, 3, 4, 5, 6, 7, 8, 9, 10, 11, 12] TAB [.err 5 fs ds, .cls 1] = some (.bl false) := by rfl
  have h2 : kIsE [0, 1, 2, 3, 4, 5, 6, 7, 8, 9, 10, 11, 12] TAB [.err 5 fs ds, .cls 2] = some (.bl false) := by rfl
  have h3 : kIsE [0, 1, 2, 3, 4, 5, 6, 7, 8, 9, 10, 11, 12] TAB [.err 5 fs ds, .cls 3] = some (.bl false) := by rfl
  have h4 : kIsE [0, 1, 2, 3, 4, 5, 6, 7, 8, 9, 10, 11, 12] TAB [.err 5 fs ds, .cls 4] = some (.bl false) := by rfl
  have h5 : kIsE [0, 1, 2, 3, 4, 5, 6, 7, 8, 9, 10, 11, 12] TAB [.err 5 fs ds, .cls 5] = some (.bl true) := by rfl
  have h6 : kIsE [0, 1, 2, 3, 4, 5, 6, 7, 8, 9, 10, 11, 12] TAB [.err 5 fs ds, .cls 6] = some (.bl false) := by rfl
  have h7 : kIsE [0, 1, 2, 3, 4, 5, 6, 7, 8, 9, 10, 11, 12] TAB [.err 5 fs ds, .cls 7] = some (.bl false) := by rfl
  have h8 : kIsE [0, 1, 2, 3, 4, 5, 6, 7, 8, 9, 10, 11, 12] TAB [.err 5 fs ds, .cls 8] = some (.bl false) := by rfl
  have h9 : kIsE [0, 1, 2, 3, 4, 5, 6, 7, 8, 9, 10, 11, 12] TAB [.err 5 fs ds, .cls 9] = some (.bl false) := by rfl
  have h10 : kIsE [0, 1, 2, 3, 4, 5, 6, 7, 8, 9, 10, 11, 12] TAB [.err 5 fs ds, .cls 10] = some (.bl false) := by rfl
  have h11 : kIsE [0, 1, 2, 3, 4, 5, 6, 7, 8, 9, 10, 11, 12] TAB [.err 5 fs ds, .cls 11] = some (.bl false) := by rfl
  have h12 : kIsE [0, 1, 2, 3, 4, 5, 6, 7, 8, 9, 10, 11, 12] TAB [.err 5 fs ds, .cls 12] = some (.bl true) := by rfl
  have h13 : kIsE [0, 1, 2, 3, 4, 5, 6, 7, 8, 9, 10, 11, 12] TAB [.err 5 fs ds, .ty "Exception"] = some (.bl true) := by rfl
  have h14 : kIsE [0, 1, 2, 3, 4, 5, 6, 7, 8, 9, 10, 11, 12] TAB [.err 5 fs ds, .ty "ValueError"] = some (.bl false) := by rfl
  have h15 : kIsE [0, 1, 2, 3, 4, 5, 6, 7, 8, 9, 10, 11, 12] TAB [.err 5 fs ds, .ty "TypeError"] = some (.bl false) := by rfl
  have h16 : kIsE [0, 1, 2, 3, 4, 5, 6, 7, 8, 9, 10, 11, 12] TAB [.err 5 fs ds, .ty "LookupError"] = some (.bl false) := by rfl
  have h17 : kIsE [0, 1, 2, 3, 4, 5, 6, 7, 8, 9, 10, 11, 12] TAB [.err 5 fs ds, .ty "ArithmeticError"] = some (.bl false) := by rfl
  have h18 : kIsE [0, 1, 2, 3, 4, 5, 6, 7, 8, 9, 10, 11, 12] TAB [.err 5 fs ds, .ty "RuntimeError"] = some (.bl false) := by rfl
  have a0 : kAdd (.lst false [.bl false, .bl false, .bl false]) (.lst true [.bl false, .bl false, .bl true]) = some (.lst true [.bl false, .bl false, .bl false, .bl false, .bl false, .bl true]) := by rfl
  have a1 : kAdd (.lst false [.bl false, .bl false, .bl false, .bl false, .bl false, .bl true]) (.lst true [.bl false, .bl false, .bl false]) = some (.lst true [.bl false, .bl false, .bl false, .bl false, .bl false, .bl true, .bl false, .bl false, .bl false]) := by rfl
  have a2 : kAdd (.lst false [.bl false, .bl false, .bl false, .bl false, .bl false, .bl true, .bl false, .bl false, .bl false]) (.lst true [.bl false, .bl false, .bl false]) = some (.lst true [.bl false, .bl false, .bl false, .bl false, .bl false, .bl true, .bl false, .bl false, .bl false, .bl false, .bl false, .bl false]) := by rfl
  have a3 : kAdd (.lst false [.bl false, .bl false, .bl false, .bl false, .bl false, .bl true, .bl false, .bl false, .bl false, .bl false, .bl false, .bl false]) (.lst true [.bl true, .bl true]) = some (.lst true [.bl false, .bl false, .bl false, .bl false, .bl false, .bl true, .bl false, .bl false, .bl false, .bl false, .bl false, .bl false, .bl true, .bl true]) := by rfl
  have a4 : kAdd (.lst false [.bl false, .bl false, .bl false, .bl false, .bl false, .bl true, .bl false, .bl false, .bl false, .bl false, .bl false, .bl false, .bl true, .bl true]) (.lst false [.bl false, .bl false, .bl false]) = some (.lst true [.bl false, .bl false, .bl false, .bl false, .bl false, .bl true, .bl false, .bl false, .bl false, .bl false, .bl false, .bl false, .bl true, .bl true, .bl false, .bl false, .bl false]) := by rfl
  have a5 : kAdd (.lst true [.bl false, .bl false, .bl false, .bl false, .bl false, .bl true, .bl false, .bl false, .bl false, .bl false, .bl false, .bl false, .bl true, .bl true, .bl false, .bl false, .bl false]) (.lst true [.bl false, .bl false]) = some (.lst true [.bl false, .bl false, .bl false, .bl false, .bl false, .bl true, .bl false, .bl false, .bl false, .bl false, .bl false, .bl false, .bl true, .bl true, .bl false, .bl false, .bl false, .bl false, .bl false]) := by rfl
  show _ = CRes.ok (.lst true [.bl false, .bl false, .bl false, .bl false, .bl false, .bl true, .bl false, .bl false, .bl false, .bl false, .bl false, .bl false, .bl true, .bl true, .bl false, .bl false, .bl false, .bl false, .bl false]) []
  simp_arith [runB, fb_law_classes, fe, re, h0, h1, h2, h3, h4, h5, h6, h7, h8, h9, h10, h11, h12, h13, h14, h15, h16, h17, h18, a0, a1, a2, a3, a4, a5]
theorem cls_6 (r : Runs) (fs : List Str) (ds : List D) (hz : fzs ds = true) : runB 1 3 [] (fb_law_classes r) [.err 6 fs ds] = .ok (.lst true (bls 6)) [] := by
  have fe : D.fz (.err 6 fs ds) = true := by rw [D.fz]; exact hz
  have re : D.frz (.err 6 fs ds) = .err 6 fs ds := D.frz_of _ fe
  have h0 : kIsE [0, 1, 2, 3, 4, 5, 6, 7, 8, 9, 10, 11, 12] TAB [.err 6 fs ds, .cls 0] = some (.bl false) := by rfl
  have h1 : kIsE [0, 1, 2, 3, 4, 5, 6, 7, 8, 9, 10, 11, 12] TAB [.err 6 fs ds, .cls 1] = some (.bl false) := by rfl
  have h2 : kIsE [0, 1, 2, 3, 4, 5, 6, 7, 8, 9, 10, 11, 12] TAB [.err 6 fs ds, .cls 2] = some (.bl false) := by rfl
  have h3 : kIsE [0, 1, 2, 3, 4, 5, 6, 7, 8, 9, 10, 11, 12] TAB [.err 6 fs ds, .cls 3] = some (.bl false) := by rfl
  have h4 : kIsE [0, 1, 2, 3, 4, 5, 6, 7, 8, 9, 10, 11, 12] TAB [.err 6 fs ds, .cls 4] = some (.bl false) := by rfl
  have h5 : kIsE [0, 1, 2, 3, 4, 5, 6, 7, 8, 9, 10, 11, 12] TAB [.err 6 fs ds, .cls 5] = some (.bl false) := by rfl
  have h6 : kIsE [0, 1, 2, 3, 4, 5, 6, 7, 8, 9, 10, 11, 12] TAB [.err 6 fs ds, .cls 6] = some (.bl true) := by rfl
  have h7 : kIsE [0, 1, 2, 3, 4, 5, 6, 7, 8, 9, 10, 11, 12] TAB [.err 6 fs ds, .cls 7] = some (.bl false) := by rfl
  have h8 : kIsE [0, 1, 2, 3, 4, 5, 6, 7, 8, 9, 10, 11, 12] TAB [.err 6 fs ds, .cls 8] = some (.bl false) := by rfl
  have h9 : kIsE [0, 1, 2, 3, 4, 5, 6, 7, 8, 9, 10, 11, 12] TAB [.err 6 fs ds, .cls 9] = some (.bl false) := by rfl
  have h10 : kIsE [0, 1, 2, 3, 4, 5, 6, 7, 8, 9, 10, 11, 12] TAB [.err 6 fs ds, .cls 10] = some (.bl false) := by rfl
  have h11 : kIsE [0, 1, 2, 3, 4, 5, 6, 7, 8, 9, 10, 11, 12] TAB [.err 6 fs ds, .cls 11] = some (.bl false) := by rfl
  have h12 : kIsE [0, 1, 2, 3, 4, 5, 6, 7, 8, 9, 10, 11, 12] TAB [.err 6 fs ds, .cls 12] = some (.bl true) := by rfl
  have h13 : kIsE [0, 1, 2, 3, 4, 5, 6, 7, 8, 9, 10, 11, 12] TAB [.err 6 fs ds, .ty "Exception"] = some (.bl true) := by rfl
  have h14 : kIsE [0, 1, 2, 3, 4, 5, 6, 7, 8, 9, 10, 11, 12] TAB [.err 6 fs ds, .ty "ValueError"] = some (.bl false) := by rfl
  have h15 : kIsE [0, 1, 2, 3, 4, 5, 6, 7, 8, 9, 10, 11, 12] TAB [.err 6 fs ds, .ty "TypeError"] = some (.bl false) := by rfl
  have h16 : kIsE [0, 1, 2, 3, 4, 5, 6, 7, 8, 9, 10, 11, 12] TAB [.err 6 fs ds, .ty "LookupError"] = some (.bl false) := by rfl
  have h17 : kIsE [0, 1, 2, 3, 4, 5, 6, 7, 8, 9, 10, 11, 12] TAB [.err 6 fs ds, .ty "ArithmeticError"] = some (.bl false) := by rfl
  have h18 : kIsE [0, 1, 2, 3, 4, 5, 6, 7, 8, 9, 10, 11, 12] TAB [.err 6 fs ds, .ty "RuntimeError"] = some (.bl false) := by rfl
  have a0 : kAdd (.lst false [.bl false, .bl false, .bl false]) (.lst true [.bl false, .bl false, .bl false]) = some (.lst true [.bl false, .bl false, .bl false, .bl false, .bl false, .bl false]) := by rfl
  have a1 : kAdd (.lst false [.bl false, .bl false, .bl false, .bl false, .bl false, .bl false]) (.lst true [.bl true, .bl false, .bl false]) = some (.lst true [.bl false, .bl false, .bl false, .bl false, .bl false, .bl false, .bl true, .bl false, .bl false]) := by rfl
  have a2 : kAdd (.lst false [.bl false, .bl false, .bl false, .bl false, .bl false, .bl false, .bl true, .bl false, .bl false]) (.lst true [.bl false, .bl false, .bl false]) = some (.lst true [.bl false, .bl false, .bl false, .bl false, .bl false, .bl false, .bl true, .bl false, .bl false, .bl false, .bl false, .bl false]) := by rfl
  have a3 : kAdd (.lst false [.bl false, .bl false, .bl false, .bl false, .bl false, .bl false, .bl true, .bl false, .bl false, .bl false, .bl false, .bl false]) (.lst true [.bl true, .bl true]) = some (.lst true [.bl false, .bl false, .bl false, .bl false, .bl false, .bl false, .bl true, .bl false, .bl false, .bl false, .bl false, .bl false, .bl true, .bl true]) := by rfl
  have a4 : kAdd (.lst false [.bl false, .bl false, .bl false, .bl false, .bl false, .bl false, .bl true, .bl false, .bl false, .bl false, .bl false, .bl false, .bl true, .bl true]) (.lst false [.bl false, .bl false, .bl false]) = some (.lst true [.bl false, .bl false, .bl false, .bl false, .bl false, .bl false, .bl true, .bl false, .bl false, .bl false, .bl false, .bl false, .bl true, .bl true, .bl false, .bl false, .bl false]) := by rfl
  have a5 : kAdd (.lst true [.bl false, .bl false, .bl false, .bl false, .bl false, .bl false, .bl true, .bl false, .bl false, .bl false, .bl false, .bl false, .bl true, .bl true, .bl false, .bl false, .bl false]) (.lst true [.bl false, .bl false]) = some (.lst true [.bl false, .bl false, .bl false, .bl false, .bl false, .bl false, .bl true, .bl false, .bl false, .bl false, .bl false, .bl false, .bl true, .bl true, .bl false, .bl false, .bl false, .bl false, .bl false]) := by rfl
  show _ = CRes.ok (.lst true [.bl false, .bl false, .bl false, .bl false, .bl false, .bl false, .bl true, .bl false, .bl false, .bl false, .bl false, .bl false, .bl true, .bl true, .bl false, .bl false, .bl false, .bl false, .bl false]) []
  simp_arith [runB, fb_law_classes, fe, re, h0, h1, h2, h3, h4, h5, h6, h7, h8, h9, h10, h11, h12, h13, h14, h15, h16, h17, h18, a0, a1, a2, a3, a4, a5]
theorem cls_7 (r : Runs) (fs : List Str) (ds : List D) (hz : fzs ds = true) : runB 1 3 [] (fb_law_classes r) [.err 7 fs ds] = .ok (.lst true (bls 7)) [] := by
  have fe : D.fz (.err 7 fs ds) = true := by rw [D.fz]; exact hz
  have re : D.frz (.err 7 fs ds) = .err 7 fs ds := D.frz_of _ fe
  have h0 : kIsE [0, 1, 2, 3, 4, 5, 6, 7, 8, 9, 10, 11, 12] TAB [.err 7 fs ds, .cls 0] = some (.bl false) := by rfl
  have h1 : kIsE [0, 1, 2, 3, 4, 5, 6, 7, 8, 9, 10, 11, 12] TAB [.err 7 fs ds, .cls 1] = some (.bl false) := by rfl
  have h2 : kIsE [0, 1, 2, 3, 4, 5, 6, 7, 8, 9, 10, 11, 12] TAB [.err 7 fs ds, .cls 2] = some (.bl false) := by rfl
  have h3 : kIsE [0, 1, 2, 3, 4, 5, 6, 7, 8, 9, 10, 11, 12] TAB [.err 7 fs ds, .cls 3] = some (.bl false) := by rfl
  have h4 : kIsE [0, 1, 2, 3, 4, 5, 6, 7, 8, 9, 10, 11, 12] TAB [.err 7 fs ds, .cls 4] = some (.bl false) := by rfl
  have h5 : kIsE [0, 1, 2, 3, 4, 5, 6, 7, 8, 9, 10, 11, 12] TAB [.err 7 fs ds, .cls 5] = some (.bl false) := by rfl
  have h6 : kIsE [0, 1, 2, 3, 4, 5, 6, 7, 8, 9, 10, 11, 12] TAB [.err 7 fs ds, .cls 6] = some (.bl false) := by rfl
  have h7 : kIsE [0, 1, 2, 3, 4, 5, 6, 7, 8, 9, 10, 11, 12] TAB [.err 7 fs ds, .cls 7] = some (.bl true) := by rfl
  have h8 : kIsE [0, 1, 2, 3, 4, 5, 6, 7, 8, 9, 10, 11, 12] TAB [.err 7 fs ds, .cls 8] = some (.bl false) := by rfl
  have h9 : kIsE [0, 1, 2, 3, 4, 5, 6, 7, 8, 9, 10, 11, 12] TAB [.err 7 fs ds, .cls 9] = some (.bl false) := by rfl
  have h10 : kIsE [0, 1, 2, 3, 4, 5, 6, 7, 8, 9, 10, 11, 12] TAB [.err 7 fs ds, .cls 10] = some (.bl false) := by rfl
  have h11 : kIsE [0, 1, 2, 3, 4, 5, 6, 7, 8, 9, 10, 11, 12] TAB [.err 7 fs ds, .cls 11] = some (.bl false) := by rfl
  have h12 : kIsE [0, 1, 2, 3, 4, 5, 6, 7, 8, 9, 10, 11, 12] TAB [.err 7 fs ds, .cls 12] = some (.bl true) := by rfl
  have h13 : kIsE [0, 1, 2, 3, 4, 5, 6, 7, 8, 9, 10, 11, 12] TAB [.err 7 fs ds, .ty "Exception"] = some (.bl true) := by rfl
  have h14 : kIsE [0, 1, 2, 3, 4, 5, 6, 7, 8, 9, 10, 11, 12] TAB [.err 7 fs ds, .ty "ValueError"] = some (.bl false) := by rfl
  have h15 : kIsE [0, 1, 2, 3, 4, 5, 6, 7, 8, 9, 10, 11, 12] TAB [.err 7 fs ds, .ty "TypeError"] = some (.bl false) := by rfl
  have h16 : kIsE [0, 1, 2, 3, 4, 5, 6, 7, 8, 9, 10, 11, 12] TAB [.err 7 fs ds, .ty "LookupError"] = some (.bl false) := by rfl
  have h17 : kIsE [0, 1, 2, 3, 4, 5, 6, 7, 8, 9, 10, 11, 12] TAB [.err 7 fs ds, .ty "ArithmeticError"] = some (.bl false) := by rfl
  have h18 : kIsE [0, 1, 2, 3, 4, 5, 6, 7, 8, 9, 10, 11, 12] TAB [.err 7 fs ds, .ty "RuntimeError"] = some (.bl false) := by rfl
  have a0 : kAdd (.lst false [.bl false, .bl false, .bl false]) (.lst true [.bl false, .bl false, .bl false]) = some (.lst true [.bl false, .bl false, .bl false, .bl false, .bl false, .bl false]) := by rfl
  have a1 : kAdd (.lst false [.bl false, .bl false, .bl false, .bl false, .bl false, .bl false]) (.lst true [.bl false, .bl true, .bl false]) = some (.lst true [.bl false, .bl false, .bl false, .bl false, .bl false, .bl false, .bl false, .bl true, .bl false]) := by rfl
  have a2 : kAdd (.lst false [.bl false, .bl false, .bl false, .bl false, .bl false, .bl false, .bl false, .bl true, .bl false]) (.lst true [.bl false, .bl false, .bl false]) = some (.lst true [.bl false, .bl false, .bl false, .bl false, .bl false, .bl false, .bl false, .bl true, .bl false, .bl false, .bl false, .bl false]) := by rfl
  have a3 : kAdd (.lst false [.bl false, .bl false, .bl false, .bl false, .bl false, .bl false, .bl false, .bl true, .bl false, .bl false, .bl false, .bl false]) (.lst true [.bl true, .bl true]) = some (.lst true [.bl false, .bl false, .bl false, .bl false, .bl false, .bl false, .bl false, .bl true, .bl false, .bl false, .bl false, .bl false, .bl true, .bl true]) := by rfl
  have a4 : kAdd (.lst false [.bl false, .bl false, .bl false, .bl false, .bl false, .bl false, .bl false, .bl true, .bl false, .bl false, .bl false, .bl false, .bl true, .bl true]) (.lst false [.bl false, .bl false, .bl false]) = some (.lst true [.bl false, .bl false, .bl false, .bl false, .bl false, .bl false, .bl false, .bl true, .bl false, .bl false, .bl false, .bl false, .bl true, .bl true, .bl false, .bl false, .bl false]) := by rfl
  have a5 : kAdd (.lst true [.bl false, .bl false, .bl false, .bl false, .bl false, .bl false, .bl false, .bl true, .bl false, .bl false, .bl false, .bl false, .bl true, .bl true, .bl false, .bl false, .bl false]) (.lst true [.bl false, .bl false]) = some (.lst true [.bl false, .bl false, .bl false, .bl false, .bl false, .bl false, .bl false, .bl true, .bl false, .bl false, .bl false, .bl false, .bl true, .bl true, .bl false, .bl false, .bl false, .bl false, .bl false]) := by rfl
  show _ = CRes.ok (.lst true [.bl false, .bl false, .bl false, .bl false, .bl false, .bl false, .bl false, .bl true, .bl false, .bl false, .bl false, .bl false, .bl true, .bl true, .bl false, .bl false, .bl false, .bl false, .bl false]) []
  simp_arith [runB, fb_law_classes, fe, re, h0, h1, h2, h3, h4, h5, h6, h7, h8, h9, h10, h11, h12, h13, h14, h15, h16, h17, h18, a0, a1, a2, a3, a4, a5]
theorem cls_8 (r : Runs) (fs : List Str) (ds : List D) (hz : fzs ds = true) : runB 1 3 [] (fb_law_classes r) [.err 8 fs ds] = .ok (.lst true (bls 8)) [] := by
  have fe : D.fz (.err 8 fs ds) = true := by rw [D.fz]; exact hz
  have re : D.frz (.err 8 fs ds) = .err 8 fs ds := D.frz_of _ fe
  have h0 : kIsE [0, 1, 2, 3, 4, 5, 6, 7, 8, 9, 10, 11, 12] TAB [.err 8 fs ds, .cls 0] = some (.bl false) := by rfl
  have h1 : kIsE [0, 1, 2, 3, 4, 5, 6, 7, 8, 9, 10, 11, 12] TAB [.err 8 fs ds, .cls 1] = some (.bl false) := by rfl
  have h2 : kIsE [0, 1, 2, 3, 4, 5, 6, 7, 8, 9, 10, 11, 12] TAB [.err 8 fs ds, .cls 2] = some (.bl false) := by rfl
  have h3 : kIsE [0, 1, 2, 3, 4, 5, 6, 7, 8, 9, 10, 11, 12] TAB [.err 8 fs ds, .cls 3] = some (.bl false) := by rfl
  have h4 : kIsE [0, 1, 2, 3, 4, 5, 6, 7, 8, 9, 10, 11, 12] TAB [.err 8 fs ds, .cls 4] = some (.bl false) := by rfl
  have h5 : kIsE [0, 1, 2, 3, 4, 5, 6, 7, 8, 9, 10, 11, 12] TAB [.err 8 fs ds, .cls 5] = some (.bl false) := by rfl
  have h6 : kIsE [0, 1, 2, 3, 4, 5, 6, 7, 8, 9, 10, 11, 12] TAB [.err 8 fs ds, .cls 6] = some (.bl false) := by rfl
  have h7 : kIsE [0, 1, 2, 3, 4, 5, 6, 7, 8, 9, 10, 11, 12] TAB [.err 8 fs ds, .cls 7] = some (.bl false) := by rfl
  have h8 : kIsE [0, 1, 2, 3, 4, 5, 6, 7, 8, 9, 10, 11, 12] TAB [.err 8 fs ds, .cls 8] = some (.bl true) := by rfl
  have h9 : kIsE [0, 1, 2, 3, 4, 5, 6, 7, 8, 9, 10, 11, 12] TAB [.err 8 fs ds, .cls 9] = some (.bl false) := by rfl
  have h10 : kIsE [0, 1, 2, 3, 4, 5, 6, 7, 8, 9, 10, 11, 12] TAB [.err 8 fs ds, .cls 10] = some (.bl false) := by rfl
  have h11 : kIsE [0, 1, 2, 3, 4, 5, 6, 7, 8, 9, 10, 11, 12] TAB [.err 8 fs ds, .cls 11] = some (.bl false) := by rfl
  have h12 : kIsE [0, 1, 2, 3, 4, 5, 6, 7, 8, 9, 10, 11, 12] TAB [.err 8 fs ds, .cls 12] = some (.bl true) := by rfl
  have h13 : kIsE [0, 1, 2, 3, 4, 5, 6, 7, 8, 9, 10, 11, 12] TAB [.err 8 fs ds, .ty "Exception"] = some (.bl true) := by rfl
  have h14 : kIsE [0, 1, 2, 3, 4, 5, 6, 7, 8, 9, 10, 11, 12] TAB [.err 8 fs ds, .ty "ValueError"] = some (.bl false) := by rfl
  have h15 : kIsE [0, 1, 2, 3, 4, 5, 6, 7, 8, 9, 10, 11, 12] TAB [.err 8 fs ds, .ty "TypeError"] = some (.bl false) := by rfl
  have h16 : kIsE [0, 1, 2, 3, 4, 5, 6, 7, 8, 9, 10, 11, 12] TAB [.err 8 fs ds, .ty "LookupError"] = some (.bl false) := by rfl
  have h17 : kIsE [0, 1, 2, 3, 4, 5, 6, 7, 8, 9, 10, 11, 12] TAB [.err 8 fs ds, .ty "ArithmeticError"] = some (.bl false) := by rfl
  have h18 : kIsE [0, 1, 2, 3, 4, 5, 6, 7, 8, 9, 10, 11, 12] TAB [.err 8 fs ds, .ty "RuntimeError"] = some (.bl false) := by rfl
  have a0 : kAdd (.lst false [.bl false, .bl false, .bl false]) (.lst true [.bl false, .bl false, .bl false]) = some (.lst true [.bl false, .bl false, .bl false, .bl false, .bl false, .bl false]) := by rfl
  have a1 : kAdd (.lst false [.bl false, .bl false, .bl false, .bl false, .bl false, .bl false]) (.lst true [.bl false, .bl false, .bl true]) = some (.lst true [.bl false, .bl false, .bl false, .bl false, .bl false, .bl false, .bl false, .bl false, .bl true]) := by rfl
  have a2 : kAdd (.lst false [.bl false, .bl false, .bl false, .bl false, .bl false, .bl false, .bl false, .bl false, .bl true]) (.lst true [.bl false, .bl false, .bl false]) = some (.lst true [.bl false, .bl false, .bl false, .bl false, .bl false, .bl false, .bl false, .bl false, .bl true, .bl false, .bl false, .bl false]) := by rfl
  have a3 : kAdd (.lst false [.bl false, .bl false, .bl false, .bl false, .bl false, .bl false, .bl false, .bl false, .bl true, .bl false, .bl false, .bl false]) (.lst true [.bl true, .bl true]) = some (.lst true [.bl false, .bl false, .bl false, .bl false, .bl false, .bl false, .bl false, .bl false, .bl true, .bl false, .bl false, .bl false, .bl true, .bl true]) := by rfl
  have a4 : kAdd (.lst false [.bl false, .bl false, .bl false, .bl false, .bl false, .bl false, .bl false, .bl false, .bl true, .bl false, .bl false, .bl false, .bl true, .bl true]) (.lst false [.bl false, .bl false, .bl false]) = some (.lst true [.bl false, .bl false, .bl false, .bl false, .bl false, .bl false, .bl false, .bl false, .bl true, .bl false, .bl false, .bl false, .bl true, .bl true, .bl false, .bl false, .bl false]) := by rfl
  have a5 : kAdd (.lst true [.bl false, .bl false, .bl false, .bl false, .bl false, .bl false, .bl false, .bl false, .bl true, .bl false, .bl false, .bl false, .bl true, .bl true, .bl false, .bl false, .bl false]) (.lst true [.bl false, .bl false]) = some (.lst true [.bl false, .bl false, .bl false, .bl false, .bl false, .bl false, .bl false, .bl false, .bl true, .bl false, .bl false, .bl false, .bl true, .bl true, .bl false, .bl false, .bl false, .bl false, .bl false]) := by rfl
  show _ = CRes.ok (.lst true [.bl false, .bl false, .bl false, .bl false, .bl false, .bl false, .bl false, .bl false, .bl true, .bl false, .bl false, .bl false, .bl true, .bl true, .bl false, .bl false, .bl false, .bl false, .bl false]) []
  simp_arith [runB, fb_law_classes, fe, re, h0, h1, h2, h3, h4, h5, h6, h7, h8, h9, h10, h11, h12, h13, h14, h15, h16, h17, h18, a0, a1, a2, a3, a4, a5]
theorem cls_9 (r : Runs) (fs : List Str) (ds : List D) (hz : fzs ds = true) : runB 1 3 [] (fb_law_classes r) [.err 9 fs ds] = .ok (.lst true (bls 9)) [] := by
  have fe : D.fz (.err 9 fs ds) = true := by rw [D.fz]; exact hz
  have re : D.frz (.err 9 fs ds) = .err 9 fs ds := D.frz_of _ fe
  have h0 : kIsE [0, 1, 2, 3, 4, 5, 6, 7, 8, 9, 10, 11, 12] TAB [.err 9 fs ds, .cls 0] = some (.bl false) := by rfl
  have h1 : kIsE [0, 1, 2, 3, 4, 5, 6, 7, 8, 9, 10, 11, 12] TAB [.err 9 fs ds, .cls 1] = some (.bl false) := by rfl
  have h2 : kIsE [0, 1, 2, 3, 4, 5, 6, 7, 8, 9, 10, 11, 12] TAB [.err 9 fs ds, .cls 2] = some (.bl false) := by rfl
  have h3 : kIsE [0, 1, 2, 3, 4, 5, 6, 7, 8, 9, 10, 11, 12] TAB [.err 9 fs ds, .cls 3] = some (.bl false) := by rfl
  have h4 : kIsE [0, 1, 2, 3, 4, 5, 6, 7, 8, 9, 10, 11, 12] TAB [.err 9 fs ds, .cls 4] = some (.bl false) := by rfl
  have h5 : kIsE [0, 1, 2, 3, 4, 5, 6, 7, 8, 9, 10, 11, 12] TAB [.err 9 fs ds, .cls 5] = some (.bl false) := by rfl
  have h6 : kIsE [0, 1, 2, 3, 4, 5, 6, 7, 8, 9, 10, 11, 12] TAB [.err 9 fs ds, .cls 6] = some (.bl false) := by rfl
  have h7 : kIsE [0, 1, 2, 3, 4, 5, 6, 7, 8, 9, 10, 11, 12] TAB [.err 9 fs ds, .cls 7] = some (.bl false) := by rfl
  have h8 : kIsE [0, 1, 2, 3, 4, 5, 6, 7, 8, 9, 10, 11, 12] TAB [.err 9 fs ds, .cls 8] = some (.bl false) := by rfl
  have h9 : kIsE [0, 1, 2, 3, 4, 5, 6, 7, 8, 9, 10, 11, 12] TAB [.err 9 fs ds, .cls 9] = some (.bl true) := by rfl
  have h10 : kIsE [0, 1, 2, 3, 4, 5, 6, 7, 8, 9, 10, 11, 12] TAB [.err 9 fs ds, .cls 10] = some (.bl false) := by rfl
  have h11 : kIsE [0, 1, 2, 3, 4, 5, 6, 7, 8, 9, 10, 11, 12] TAB [.err 9 fs ds, .cls 11] = some (.bl false) := by rfl
  have h12 : kIsE [0, 1, 2, 3, 4, 5, 6, 7, 8, 9, 10, 11, 12] TAB [.err 9 fs ds, .cls 12] = some (.bl true) := by rfl
  have h13 : kIsE [0, 1, 2, 3, 4, 5, 6, 7, 8, 9, 10, 11, 12] TAB [.err 9 fs ds, .ty "Exception"] = some (.bl true) := by rfl
  have h14 : kIsE [0, 1, 2, 3, 4, 5, 6, 7, 8, 9, 10, 11, 12] TAB [.err 9 fs ds, .ty "ValueError"] = some (.bl false) := by rfl
  have h15 : kIsE [0, 1, 2, 3, 4, 5, 6, 7, 8, 9, 10, 11, 12] TAB [.err 9 fs ds, .ty "TypeError"] = some (.bl false) := by rfl
  have h16 : kIsE [0, 1, 2, 3, 4, 5, 6, 7, 8, 9, 10, 11, 12] TAB [.err 9 fs ds, .ty "LookupError"] = some (.bl false) := by rfl
  have h17 : kIsE [0, 1, 2, 3, 4, 5, 6, 7, 8, 9, 10, 11, 12] TAB [.err 9 fs ds, .ty "ArithmeticError"] = some (.bl false) := by rfl
  have h18 : kIsE [0, 1, 2, 3, 4, 5, 6, 7, 8, 9, 10, 11, 12] TAB [.err 9 fs ds, .ty "RuntimeError"] = some (.bl false) := by rfl
  have a0 : kAdd (.lst false [.bl false, .bl false, .bl false]) (.lst true [.bl false, .bl false, .bl false]) = some (.lst true [.bl false, .bl false, .bl false, .bl false, .bl false, .bl false]) := by rfl
  have a1 : kAdd (.lst false [.bl false, .bl false, .bl false, .bl false, .bl false, .bl false]) (.lst true [.bl false, .bl false, .bl false]) = some (.lst true [.bl false, .bl false, .bl false, .bl false, .bl false, .bl false, .bl false, .bl false, .bl false]) := by rfl
  have a2 : kAdd (.lst false [.bl false, .bl false, .bl false, .bl false, .bl false, .bl false, .bl false, .bl false, .bl false]) (.lst true [.bl true, .bl false, .bl false]) = some (.lst true [.bl false, .bl false, .bl false, .bl false, .bl false, .bl false, .bl false, .bl false, .bl false, .bl true, .bl false, .bl false]) := by rfl
  have a3 : kAdd (.lst false [.bl false, .bl false, .bl false, .bl false, .bl false, .bl false, .bl false, .bl false, .bl false, .bl true, .bl false, .bl false]) (.lst true [.bl true, .bl true]) = some (.lst true [.bl false, .bl false, .bl false, .bl false, .bl false, .bl false, .bl false, .bl false, .bl false, .bl true, .bl false, .bl false, .bl true, .bl true]) := by rfl
  have a4 : kAdd (.lst false [.bl false, .bl false, .bl false, .bl false, .bl false, .bl false, .bl false, .bl false, .bl false, .bl true, .bl false, .bl false, .bl true, .bl true]) (.lst false [.bl false, .bl false, .bl false]) = some (.lst true [.bl false, .bl false, .bl false, .bl false, .bl false, .bl false, .bl false, .bl false, .bl false, .bl true, .bl false, .bl false, .bl true, .bl true, .bl false, .bl false, .bl false]) := by rfl
  have a5 : kAdd (.lst true [.bl false, .bl false, .bl false, .bl false, .bl false, .bl false, .bl false, .bl false, .bl false, .bl true, .bl false, .bl false, .bl true, .bl true, .bl false, .bl false, .bl false]) (.lst true [.bl false, .bl false]) = some (.lst true [.bl false, .bl false, .bl false, .bl false, .bl false, .bl false, .bl false, .bl false, .bl false, .bl true, .bl false, .bl false, .bl true, .bl true, .bl false, .bl false, .bl false, .bl false, .bl false]) := by rfl
  show _ = CRes.ok (.lst true [.bl false, .bl false, .bl false, .bl false, .bl false, .bl false, .bl false, .bl false, .bl false, .bl true, .bl false, .bl false, .bl true, .bl true, .bl false, .bl false, .bl false, .bl false, .bl false]) []
  simp_arith [runB, fb_law_classes, fe, re, h0, h1, h2, h3, h4, h5, h6, h7, h8, h9, h10, h11, h12, h13, h14, h15, h16, h17, h18, a0, a1, a2, a3, a4, a5]
theorem cls_10 (r : Runs) (fs : List Str) (ds : List D) (hz : fzs ds = true) : runB 1 3 [] (fb_law_classes r) [.err 10 fs ds] = .ok (.lst true (bls 10)) [] := by
  have fe : D.fz (.err 10 fs ds) = true := by rw [D.fz]; exact hz
  have re : D.frz (.err 10 fs ds) = .err 10 fs ds := D.frz_of _ fe
  have h0 : kIsE [0, 1, 2, 3, 4, 5, 6, 7, 8, 9, 10, 11, 12] TAB [.err 10 fs ds, .cls 0] = some (.bl false) := by rfl
  have h1 : kIsE [0, 1, 2, 3, 4, 5, 6, 7, 8, 9, 10, 11, 12] TAB [.err 10 fs ds, .cls 1] = some (.bl false) := by rfl
  have h2 : kIsE [0, 1, 2, 3, 4, 5, 6, 7, 8, 9, 10, 11, 12] TAB [.err 10 fs ds, .cls 2] = some (.bl false) := by rfl
  have h3 : kIsE [0, 1, 2, 3, 4, 5, 6, 7, 8, 9, 10, 11, 12] TAB [.err 10 fs ds, .cls 3] = some (.bl false) := by rfl
  have h4 : kIsE [0, 1, 2, 3, 4, 5, 6, 7, 8, 9, 10, 11, 12] TAB [.err 10 fs ds, .cls 4] = some (.bl false) := by rfl
  have h5 : kIsE [0, 1, 2, 3, 4, 5, 6, 7, 8, 9, 10, 11, 12] TAB [.err 10 fs ds, .cls 5] = some (.bl false) := by rfl
  have h6 : kIsE [0, 1, 2, 3, 4, 5, 6, 7, 8, 9, 10, 11, 12] TAB [.err 10 fs ds, .cls 6] = some (.bl false) := by rfl
  have h7 : kIsE [0, 1, 2, 3, 4, 5, 6, 7, 8, 9, 10, 11, 12] TAB [.err 10 fs ds, .cls 7] = some (.bl false) := by rfl
  have h8 : kIsE [0, 1, 2, 3, 4, 5, 6, 7, 8, 9, 10, 11, 12] TAB [.err 10 fs ds, .cls 8] = some (.bl false) := by rfl
  have h9 : kIsE [0, 1, 2, 3, 4, 5, 6, 7, 8, 9, 10, 11, 12] TAB [.err 10 fs ds, .cls 9] = some (.bl false) := by rfl
  have h10 : kIsE [0, 1, 2, 3, 4, 5, 6, 7, 8, 9, 10, 11, 12] TAB [.err 10 fs ds, .cls 10] = some (.bl true) := by rfl
  have h11 : kIsE [0, 1, 2, 3, 4, 5, 6, 7, 8, 9, 10, 11, 12] TAB [.err 10 fs ds, .cls 11] = some (.bl false) := by rfl
  have h12 : kIsE [0, 1, 2, 3, 4, 5, 6, 7, 8, 9, 10, 11, 12] TAB [.err 10 fs ds, .cls 12] = some (.bl true) := by rfl
  have h13 : kIsE [0, 1, 2, 3, 4, 5, 6, 7, 8, 9, 10, 11, 12] TAB [.err 10 fs ds, .ty "Exception"] = some (.bl true) := by rfl
  have h14 : kIsE [0, 1, 2, 3, 4, 5, 6, 7, 8, 9, 10, 11, 12] TAB [.err 10 fs ds, .ty "ValueError"] = some (.bl false) := by rfl
  have h15 : kIsE [0, 1, 2, 3, 4, 5, 6, 7, 8, 9, 10, 11, 12] TAB [.err 10 fs ds, .ty "TypeError"] = some (.bl false) := by rfl
  have h16 : kIsE [0, 1, 2, 3, 4, 5, 6, 7, 8, 9, 10, 11, 12] TAB [.err 10 fs ds, .ty "LookupError"] = some (.bl false) := by rfl
  have h17 : kIsE [0, 1, 2, 3, 4, 5, 6, 7, 8, 9, 10, 11, 12] TAB [.err 10 fs ds, .ty "ArithmeticError"] = some (.bl false) := by rfl
  have h18 : kIsE [0, 1, 2, 3, 4, 5, 6, 7, 8, 9, 10, 11, 12] TAB [.err 10 fs ds, .ty "RuntimeError"] = some (.bl false) := by rfl
  have a0 : kAdd (.lst false [.bl false, .bl false, .bl false]) (.lst true [.bl false, .bl false, .bl false]) = some (.lst true [.bl false, .bl false, .bl false, .bl false, .bl false, .bl false]) := by rfl
  have a1 : kAdd (.lst false [.bl false, .bl false, .bl false, .bl false, .bl false, .bl false]) (.lst true [.bl false, .bl false, .bl false]) = some (.lst true [.bl false, .bl false, .bl false, .bl false, .bl false, .bl false, .bl false, .bl false, .bl false]) := by rfl
  have a2 : kAdd (.lst false [.bl false, .bl false, .bl false, .bl false, .bl false, .bl false, .bl false, .bl false, .bl false]) (.lst true [.bl false, .bl true, .bl false]) = some (.lst true [.bl false, .bl false, .bl false, .bl false, .bl false, .bl false, .bl false, .bl false, .bl false, .bl false, .bl true, .bl false]) := by rfl
  have a3 : kAdd (.lst false [.bl false, .bl false, .bl false, .bl false, .bl false, .bl false, .bl false, .bl false, .bl false, .bl false, .bl true, .bl false]) (.lst true [.bl true, .bl true]) = some (.lst true [.bl false, .bl false, .bl false, .bl false, .bl false, .bl false, .bl false, .bl false, .bl false, .bl false, .bl true, .bl false, .bl true, .bl true]) := by rfl
  have a4 : kAdd (.lst false [.bl false, .bl false, .bl false, .bl false, .bl false, .bl false, .bl false, .bl false, .bl false, .bl false, .bl true, .bl false, .bl true, .bl true]) (.lst false [.bl false, .bl false, .bl false]) = some (.lst true [.bl false, .bl false, .bl false, .bl false, .bl false, .bl false, .bl false, .bl false, .bl false, .bl false, .bl true, .bl false, .bl true, .bl true, .bl false, .bl false, .bl false]) := by rfl
  have a5 : kAdd (.lst true [.bl false, .bl false, .bl false, .bl false, .bl false, .bl false, .bl false, .bl false, .bl false, .bl false, .bl true, .bl false, .bl true, .bl true, .bl false, .bl false, .bl false]) (.lst true [.bl false, .bl false]) = some (.lst true [.bl false, .bl false, .bl false, .bl false, .bl false, .bl false, .bl false, .bl false, .bl false, .bl false, .bl true, .bl false, .bl true, .bl true, .bl false, .bl false, .bl false, .bl false, .bl false]) := by rfl
  show _ = CRes.ok (.lst true [.bl false, .bl false, .bl false, .bl false, .bl false, .bl false, .bl false, .bl false, .bl false, .bl false, .bl true, .bl false, .bl true, .bl true, .bl false, .bl false, .bl false, .bl false, .bl false]) []
  simp_arith [runB, fb_law_classes, fe, re, h0, h1, h2, h3, h4, h5, h6, h7, h8, h9, h10, h11, h12, h13, h14, h15, h16, h17, h18, a0, a1, a2, a3, a4, a5]
theorem cls_11 (r : Runs) (fs : List Str) (ds : List D) (hz : fzs ds = true) : runB 1 3 [] (fb_law_classes r) [.err 11 fs ds] = .ok (.lst true (bls 11)) [] := by
  have fe : D.fz (.err 11 fs ds) = true := by rw [D.fz]; exact hz
  have re : D.frz (.err 11 fs ds) = .err 11 fs ds := D.frz_of _ fe
  have h0 : kIsE [0, 1, 2, 3, 4, 5, 6, 7, 8, 9, 10, 11, 12] TAB [.err 11 fs ds, .cls 0] = some (.bl false) := by rfl
  have h1 : kIsE [0, 1, 2, 3, 4, 5, 6, 7, 8, 9, 10, 11, 12] TAB [.err 11 fs ds, .cls 1] = some (.bl false) := by rfl
  have h2 : kIsE [0, 1, 2, 3, 4, 5, 6, 7, 8, 9, 10, 11, 12] TAB [.err 11 fs ds, .cls 2] = some (.bl false) := by rfl
  have h3 : kIsE [0, 1, 2, 3, 4, 5, 6, 7, 8, 9, 10, 11, 12] TAB [.err 11 fs ds, .cls 3] = some (.bl false) := by rfl
  have h4 : kIsE [0, 1, 2, 3, 4, 5, 6, 7, 8, 9, 10, 11, 12] TAB [.err 11 fs ds, .cls 4] = some (.bl false) := by rfl
  have h5 : kIsE [0, 1, 2, 3, 4, 5, 6, 7, 8, 9, 10, 11, 12] TAB [.err 11 fs ds, .cls 5] = some (.bl false) := by rfl
  have h6 : kIsE [0, 1, 2, 3, 4, 5, 6, 7, 8, 9, 10, 11, 12] TAB [.err 11 fs ds, .cls 6] = some (.bl false) := by rfl
  have h7 : kIsE [0, 1, 2, 3, 4, 5, 6, 7, 8, 9, 10, 11, 12] TAB [.err 11 fs ds, .cls 7] = some (.bl false) := by rfl
  have h8 : kIsE [0, 1, 2, 3, 4, 5, 6, 7, 8, 9, 10, 11, 12] TAB [.err 11 fs ds, .cls 8] = some (.bl false) := by rfl
  have h9 : kIsE [0, 1, 2, 3, 4, 5, 6, 7, 8, 9, 10, 11, 12] TAB [.err 11 fs ds, .cls 9] = some (.bl false) := by rfl
  have h10 : kIsE [0, 1, 2, 3, 4, 5, 6, 7, 8, 9, 10, 11, 12] TAB [.err 11 fs ds, .cls 10] = some (.bl false) := by rfl
  have h11 : kIsE [0, 1, 2, 3, 4, 5, 6, 7, 8, 9, 10, 11, 12] TAB [.err 11 fs ds, .cls 11] = some (.bl true) := by rfl
  have h12 : kIsE [0, 1, 2, 3, 4, 5, 6, 7, 8, 9, 10, 11, 12] TAB [.err 11 fs ds, .cls 12] = some (.bl true) := by rfl
  have h13 : kIsE [0, 1, 2, 3, 4, 5, 6, 7, 8, 9, 10, 11, 12] TAB [.err 11 fs ds, .ty "Exception"] = some (.bl true) := by rfl
  have h14 : kIsE [0, 1, 2, 3, 4, 5, 6, 7, 8, 9, 10, 11, 12] TAB [.err 11 fs ds, .ty "ValueError"] = some (.bl false) := by rfl
  have h15 : kIsE [0, 1, 2, 3, 4, 5, 6, 7, 8, 9, 10, 11, 12] TAB [.err 11 fs ds, .ty "TypeError"] = some (.bl false) := by rfl
  have h16 : kIsE [0, 1, 2, 3, 4, 5, 6, 7, 8, 9, 10, 11, 12] TAB [.err 11 fs ds, .ty "LookupError"] = some (.bl false) := by rfl
  have h17 : kIsE [0, 1, 2, 3, 4, 5, 6, 7, 8, 9, 10, 11, 12] TAB [.err 11 fs ds, .ty "ArithmeticError"] = some (.bl false) := by rfl
  have h18 : kIsE [0, 1, 2, 3, 4, 5, 6, 7, 8, 9, 10, 11, 12] TAB [.err 11 fs ds, .ty "RuntimeError"] = some (.bl false) := by rfl
  have a0 : kAdd (.lst false [.bl false, .bl false, .bl false]) (.lst true [.bl false, .bl false, .bl false]) = some (.lst true [.bl false, .bl false, .bl false, .bl false, .bl false, .bl false]) := by rfl
  have a1 : kAdd (.lst false [.bl false, .bl false, .bl false, .bl false, .bl false, .bl false]) (.lst true [.bl false, .bl false, .bl false]) = some (.lst true [.bl false, .bl false, .bl false, .bl false, .bl false, .bl false, .bl false, .bl false, .bl false]) := by rfl
  have a2 : kAdd (.lst false [.bl false, .bl false, .bl false, .bl false, .bl false, .bl false, .bl false, .bl false, .bl false]) (.lst true [.bl false, .bl false, .bl true]) = some (.lst true [.bl false, .bl false, .bl false, .bl false, .bl false, .bl false, .bl false, .bl false, .bl false, .bl false, .bl false, .bl true]) := by rfl
  have a3 : kAdd (.lst false [.bl false, .bl false, .bl false, .bl false, .bl false, .bl false, .bl false, .bl false, .bl false, .bl false, .bl false, .bl true]) (.lst true [.bl true, .bl true]) = some (.lst true [.bl false, .bl false, .bl false, .bl false, .bl false, .bl false, .bl false, .bl false, .bl false, .bl false, .bl false, .bl true, .bl true, .bl true]) := by rfl
  have a4 : kAdd (.lst false [.bl false, .bl false, .bl false, .bl false, .bl false, .bl false, .bl false, .bl false, .bl false, .bl false, .bl false, .bl true, .bl true, .bl true]) (.lst false [.bl false, .bl false, .bl false]) = some (.lst true [.bl false, .bl false, .bl false, .bl false, .bl false, .bl false, .bl false, .bl false, .bl false, .bl false, .bl false, .bl true, .bl true, .bl true, .bl false, .bl false, .bl false]) := by rfl
  have a5 : kAdd (.lst true [.bl false, .bl false, .bl false, .bl false, .bl false, .bl false, .bl false, .bl false, .bl false, .bl false, .bl false, .bl true, .bl true, .bl true, .bl false, .bl false, .bl false]) (.lst true [.bl false, .bl false]) = some (.lst true [.bl false, .bl false, .bl false, .bl false, .bl false, .bl false, .bl false, .bl false, .bl false, .bl false, .bl false, .bl true, .bl true, .bl true, .bl false, .bl false, .bl false, .bl false, .bl false]) := by rfl
  show _ = CRes.ok (.lst true [.bl false, .bl false, .bl false, .bl false, .bl false, .bl false, .bl false, .bl false, .bl false, .bl false, .bl false, .bl true, .bl true, .bl true, .bl false, .bl false, .bl false, .bl false, .bl false]) []
  simp_arith [runB, fb_law_classes, fe, re, h0, h1, h2, h3, h4, h5, h6, h7, h8, h9, h10, h11, h12, h13, h14, h15, h16, h17, h18, a0, a1, a2, a3, a4, a5]
theorem classes_ok (r : Runs) (w : Nat) (hw : w < 12) (v : D) (hz : v.fz = true) : (nextR r).law_classes [errD v w] = .ok (.lst true (bls w)) [] := by
  have h1 : fzs [v] = true := by rw [fzs, fzs, hz]; rfl
  have h0 : fzs [] = true := rfl
  rcases (show w = 0 ∨ w = 1 ∨ w = 2 ∨ w = 3 ∨ w = 4 ∨ w = 5 ∨ w = 6 ∨ w = 7 ∨ w = 8 ∨ w = 9 ∨ w = 10 ∨ w = 11 by omega) with rfl | rfl | rfl | rfl | rfl | rfl | rfl | rfl | rfl | rfl | rfl | rfl
  · exact cls_0 r ["part"] [v] h1
  · exact cls_1 r ["part"] [v] h1
  · exact cls_2 r ["part"] [v] h1
  · exact cls_3 r ["part"] [v] h1
  · exact cls_4 r ["place"] [v] h1
  · exact cls_5 r ["place"] [v] h1
  · exact cls_6 r ["guard"] [v] h1
  · exact cls_7 r ["sign"] [v] h1
  · exact cls_8 r [] [] h0
  · exact cls_9 r [] [] h0
  · exact cls_10 r [] [] h0
  · exact cls_11 r [] [] h0
end K01
namespace K01
open PySem PySem.Spec PyProof.Rows L2 Nb
def KeptS (run : List D → CRes) : Prop := ∀ (w : Nat) (v : D), w < 12 → v.fz = true → run [.int (w : Nat), errD v w] = .ok (.lst true (keptD w v)) []
def ClsS (run : List D → CRes) : Prop := ∀ (w : Nat) (v : D), w < 12 → v.fz = true → run [errD v w] = .ok (.lst true (bls w)) []
def MadeS (run : List D → CRes) : Prop := ∀ (w : Nat) (v : D), w < 12 → v.fz = true → run [.int (w : Nat), v] = .ok (errD v w) []
def DueS (run : List D → CRes) : Prop := ∀ w : Nat, w < 12 → run [.int (w : Nat)] = .ok (.lst true (bls w)) []
def ThrownS (run : List D → CRes) : Prop := ∀ (w : Nat) (v : D), w < 12 → v.fz = true → run [.int (w : Nat), v] = .ok (.lst true [.lst true (keptD w v), .lst true (bls w)]) []
theorem keptS (r : Runs) : KeptS (nextR r).law_kept := fun w v hw hz => kept_ok r w hw v hz
theorem clsS (r : Runs) : ClsS (nextR r).law_classes := fun w v hw hz => classes_ok r w hw v hz
theorem madeS (r : Runs) : MadeS (nextR r).law_made := fun w v hw hz => made_ok r w hw v hz
theorem by_nameS (r : Runs) : MadeS (nextR r).law_by_name := fun w v hw hz => by_name_ok r w hw v hz
theorem dueS (r : Runs) : DueS (nextR r).law_classes_due := by
  intro w hw
  rcases (show w = 0 ∨ w = 1 ∨ w = 2 ∨ w = 3 ∨ w = 4 ∨ w = 5 ∨ w = 6 ∨ w = 7 ∨ w = 8 ∨ w = 9 ∨ w = 10 ∨ w = 11 by omega) with rfl | rfl | rfl | rfl | rfl | rfl | rfl | rfl | rfl | rfl | rfl | rfl <;> rfl
theorem thrownS (r : Runs) (hk : KeptS r.law_kept) (hc : ClsS r.law_classes) : ThrownS (nextR r).law_thrown := by
  intro w v hw hz
  have hf := D.frz_of v hz
  have k1 := hk w v hw hz
  have c1 := hc w v hw hz
  generalize hK : keptD w v = K at k1 ⊢
  generalize hB : bls w = B at c1 ⊢
  clear hK hB
  rcases (show w = 0 ∨ w = 1 ∨ w = 2 ∨ w = 3 ∨ w = 4 ∨ w = 5 ∨ w = 6 ∨ w = 7 ∨ w = 8 ∨ w = 9 ∨ w = 10 ∨ w = 11 by omega) with rfl | rfl | rfl | rfl | rfl | rfl | rfl | rfl | rfl | rfl | rfl | rfl
  · replace k1 : r.law_kept [.int 0, .err 0 ["part"] [v]] = .ok (.lst true K) [] := k1
    replace c1 : r.law_classes [.err 0 ["part"] [v]] = .ok (.lst true B) [] := c1
    show runB 2 4 [] (fb_law_thrown r) [.int 0, v] = .ok (.lst true [.lst true K, .lst true B]) []
    have b0 : ((0 : Int) == 0) = true := by rfl
    have b1 : ((0 : Int) == 1) = false := by rfl
    have b2 : ((0 : Int) == 2) = false := by rfl
    have b3 : ((0 : Int) == 3) = false := by rfl
    have b4 : ((0 : Int) == 4) = false := by rfl
    have b5 : ((0 : Int) == 5) = false := by rfl
    have b6 : ((0 : Int) == 6) = false := by rfl
    have b7 : ((0 : Int) == 7) = false := by rfl
    have b8 : ((0 : Int) == 8) = false := by rfl
    have b9 : ((0 : Int) == 9) = false := by rfl
    have b10 : ((0 : Int) == 10) = false := by rfl
    have cc : List.contains [0, 1, 2, 3, 4, 5, 6, 7, 8, 9, 10, 11] 0 = true := by decide
    have fe : D.fz (.err 0 ["part"] [v]) = true := by simp [D.fz, fzs, hz]
    have re : D.frz (.err 0 ["part"] [v]) = .err 0 ["part"] [v] := D.frz_of _ fe
    simp_arith [runB, fb_law_thrown, fTryN, fRaise, fRaise0, fe, re, hz, hf, cc, k1, c1, b0, b1, b2, b3, b4, b5, b6, b7, b8, b9, b10]
  · replace k1 : r.law_kept [.int 1, .err 1 ["part"] [v]] = .ok (.lst true K) [] := k1
    replace c1 : r.law_classes [.err 1 ["part"] [v]] = .ok (.lst true B) [] := c1
    show runB 2 4 [] (fb_law_thrown r) [.int 1, v] = .ok (.lst true [.lst true K, .lst true B]) []
    have b0 : ((1 : Int) == 0) = false := by rfl
    have b1 : ((1 : Int) == 1) = true := by rfl
    have b2 : ((1 : Int) == 2) = false := by rfl
    have b3 : ((1 : Int) == 3) = false := by rfl
    have b4 : ((1 : Int) == 4) = false := by rfl
    have b5 : ((1 : Int) == 5) = false := by rfl
    have b6 : ((1 : Int) == 6) = false := by rfl
    have b7 : ((1 : Int) == 7) = false := by rfl
    have b8 : ((1 : Int) == 8) = false := by rfl
    have b9 : ((1 : Int) == 9) = false := by rfl
    have b10 : ((1 : Int) == 10) = false := by rfl
    have cc : List.contains [0, 1, 2, 3, 4, 5, 6, 7, 8, 9, 10, 11] 1 = true := by decide
    have fe : D.fz (.err 1 ["part"] [v]) = true := by simp [D.fz, fzs, hz]
    have re : D.frz (.err 1 ["part"] [v]) = .err 1 ["part"] [v] := D.frz_of _ fe
    simp_arith [runB, fb_law_thrown, fTryN, fRaise, fRaise0, fe, re, hz, hf, cc, k1, c1, b0, b1, b2, b3, b4, b5, b6, b7, b8, b9, b10]
  · replace k1 : r.law_kept [.int 2, .err 2 ["part"] [v]] = .ok (.lst true K) [] := k1
    replace c1 : r.law_classes [.err 2 ["part"] [v]] = .ok (.lst true B) [] := c1
    show runB 2 4 [] (fb_law_thrown r) [.int 2, v] = .ok (.lst true [.lst true K, .lst true B]) []
    have b0 : ((2 : Int) == 0) = false := by rfl
    have b1 : ((2 : Int) == 1) = false := by rfl
    have b2 : ((2 : Int) == 2) = true := by rfl
    have b3 : ((2 : Int) == 3) = false := by rfl
    have b4 : ((2 : Int) == 4) = false := by rfl
    have b5 : ((2 : Int) == 5) = false := by rfl
    have b6 : ((2 : Int) == 6) = false := by rfl
    have b7 : ((2 : Int) == 7) = false := by rfl
    have b8 : ((2 : Int) == 8) = false := by rfl
    have b9 : ((2 : Int) == 9) = false := by rfl
    have b10 : ((2 : Int) == 10) = false := by rfl
    have cc : List.contains [0, 1, 2, 3, 4, 5, 6, 7, 8, 9, 10, 11] 2 = true := by decide
    have fe : D.fz (.err 2 ["part"] [v]) = true := by simp [D.fz, fzs, hz]
    have re : D.frz (.err 2 ["part"] [v]) = .err 2 ["part"] [v] := D.frz_of _ fe
    simp_arith [runB, fb_law_thrown, fTryN, fRaise, fRaise0, fe, re, hz, hf, cc, k1, c1, b0, b1, b2, b3, b4, b5, b6, b7, b8, b9, b10]
  · replace k1 : r.law_kept [.int 3, .err 3 ["part"] [v]] = .ok (.lst true K) [] := k1
    replace c1 : r.law_classes [.err 3 ["part"] [v]] = .ok (.lst true B) [] := c1
    show runB 2 4 [] (fb_law_thrown r) [.int 3, v] = .ok (.lst true [.lst true K, .lst true B]) []
    have b0 : ((3 : Int) == 0) = false := by rfl
    have b1 : ((3 : Int) == 1) = false := by rfl
    have b2 : ((3 : Int) == 2) = false := by rfl
    have b3 : ((3 : Int) == 3) = true := by rfl
    have b4 : ((3 : Int) == 4) = false := by rfl
    have b5 : ((3 : Int) == 5) = false := by rfl
    have b6 : ((3 : Int) == 6) = false := by rfl
    have b7 : ((3 : Int) == 7) = false := by rfl
    have b8 : ((3 : Int) == 8) = false := by rfl
    have b9 : ((3 : Int) == 9) = false := by rfl
    have b10 : ((3 : Int) == 10) = false := by rfl
    have cc : List.contains [0, 1, 2, 3, 4, 5, 6, 7, 8, 9, 10, 11] 3 = true := by decide
    have fe : D.fz (.err 3 ["part"] [v]) = true := by simp [D.fz, fzs, hz]
    have re : D.frz (.err 3 ["part"] [v]) = .err 3 ["part"] [v] := D.frz_of _ fe
    simp_arith [runB, fb_law_thrown, fTryN, fRaise, fRaise0, fe, re, hz, hf, cc, k1, c1, b0, b1, b2, b3, b4, b5, b6, b7, b8, b9, b10]
  · replace k1 : r.law_kept [.int 4, .err 4 ["place"] [v]] = .ok (.lst true K) [] := k1
    replace c1 : r.law_classes [.err 4 ["place"] [v]] = .ok (.lst true B) [] := c1
    show runB 2 4 [] (fb_law_thrown r) [.int 4, v] = .ok (.lst true [.lst true K, .lst true B]) []
    have b0 : ((4 : Int) == 0) = false := by rfl
    have b1 : ((4 : Int) == 1) = false := by rfl
    have b2 : ((4 : Int) == 2) = false := by rfl
    have b3 : ((4 : Int) == 3) = false := by rfl
    have b4 : ((4 : Int) == 4) = true := by rfl
    have b5 : ((4 : Int) == 5) = false := by rfl
    have b6 : ((4 : Int) == 6) = false := by rfl
    have b7 : ((4 : Int) == 7) = false := by rfl
    have b8 : ((4 : Int) == 8) = false := by rfl
    have b9 : ((4 : Int) == 9) = false := by rfl
    have b10 : ((4 : Int) == 10) = false := by rfl
    have cc : List.contains [0, 1, 2, 3, 4, 5, 6, 7, 8, 9, 10, 11] 4 = true := by decide
    have fe : D.fz (.err 4 ["place"] [v]) = true := by simp [D.fz, fzs, hz]
    have re : D.frz (.err 4 ["place"] [v]) = .err 4 ["place"] [v] := D.frz_of _ fe
    simp_arith [runB, fb_law_thrown, fTryN, fRaise, fRaise0, fe, re, hz, hf, cc, k1, c1, b0, b1, b2, b3, b4, b5, b6, b7, b8, b9, b10]
  · replace k1 : r.law_kept [.int 5, .err 5 ["place"] [v]] = .ok (.lst true K) [] := k1
    replace c1 : r.law_classes [.err 5 ["place"] [v]] = .ok (.lst true B) [] := c1
    show runB 2 4 [] (fb_law_thrown r) [.int 5, v] = .ok (.lst true [.lst true K, .lst true B]) []
    have b0 : ((5 : Int) == 0) = false := by rfl
    have b1 : ((5 : Int) == 1) = false := by rfl
    have b2 : ((5 : Int) == 2) = false := by rfl
    have b3 : ((5 : Int) == 3) = false := by rfl
    have b4 : ((5 : Int) == 4) = false := by rfl
    have b5 : ((5 : Int) == 5) = true := by rfl
    have b6 : ((5 : Int) == 6) = false := by rfl
    have b7 : ((5 : Int) == 7) = false := by rfl
    have b8 : ((5 : Int) == 8) = false := by rfl
    have b9 : ((5 : Int) == 9) = false := by rfl
    have b10 : ((5 : Int) == 10) = false := by rfl
    have cc : List.contains [0, 1, 2, 3, 4, 5, 6, 7, 8, 9, 10, 11] 5 = true := by decide
    have fe : D.fz (.err 5 ["place"] [v]) = true := by simp [D.fz, fzs, hz]
    have re : D.frz (.err 5 ["place"] [v]) = .err 5 ["place"] [v] := D.frz_of _ fe
    simp_arith [runB, fb_law_thrown, fTryN, fRaise, fRaise0, fe, re, hz, hf, cc, k1, c1, b0, b1, b2, b3, b4, b5, b6, b7, b8, b9, b10]
  · replace k1 : r.law_kept [.int 6, .err 6 ["guard"] [v]] = .ok (.lst true K) [] := k1
    replace c1 : r.law_classes [.err 6 ["guard"] [v]] = .ok (.lst true B) [] := c1
    show runB 2 4 [] (fb_law_thrown r) [.int 6, v] = .ok (.lst true [.lst true K, .lst true B]) []
    have b0 : ((6 : Int) == 0) = false := by rfl
    have b1 : ((6 : Int) == 1) = false := by rfl
    have b2 : ((6 : Int) == 2) = false := by rfl
    have b3 : ((6 : Int) == 3) = false := by rfl
    have b4 : ((6 : Int) == 4) = false := by rfl
    have b5 : ((6 : Int) == 5) = false := by rfl
    have b6 : ((6 : Int) == 6) = true := by rfl
    have b7 : ((6 : Int) == 7) = false := by rfl
    have b8 : ((6 : Int) == 8) = false := by rfl
    have b9 : ((6 : Int) == 9) = false := by rfl
    have b10 : ((6 : Int) == 10) = false := by rfl
    have cc : List.contains [0, 1, 2, 3, 4, 5, 6, 7, 8, 9, 10, 11] 6 = true := by decide
    have fe : D.fz (.err 6 ["guard"] [v]) = true := by simp [D.fz, fzs, hz]
    have re : D.frz (.err 6 ["guard"] [v]) = .err 6 ["guard"] [v] := D.frz_of _ fe
    simp_arith [runB, fb_law_thrown, fTryN, fRaise, fRaise0, fe, re, hz, hf, cc, k1, c1, b0, b1, b2, b3, b4, b5, b6, b7, b8, b9, b10]
  · replace k1 : r.law_kept [.int 7, .err 7 ["sign"] [v]] = .ok (.lst true K) [] := k1
    replace c1 : r.law_classes [.err 7 ["sign"] [v]] = .ok (.lst true B) [] := c1
    show runB 2 4 [] (fb_law_thrown r) [.int 7, v] = .ok (.lst true [.lst true K, .lst true B]) []
    have b0 : ((7 : Int) == 0) = false := by rfl
    have b1 : ((7 : Int) == 1) = false := by rfl
    have b2 : ((7 : Int) == 2) = false := by rfl
    have b3 : ((7 : Int) == 3) = false := by rfl
    have b4 : ((7 : Int) == 4) = false := by rfl
    have b5 : ((7 : Int) == 5) = false := by rfl
    have b6 : ((7 : Int) == 6) = false := by rfl
    have b7 : ((7 : Int) == 7) = true := by rfl
    have b8 : ((7 : Int) == 8) = false := by rfl
    have b9 : ((7 : Int) == 9) = false := by rfl
    have b10 : ((7 : Int) == 10) = false := by rfl
    have cc : List.contains [0, 1, 2, 3, 4, 5, 6, 7, 8, 9, 10, 11] 7 = true := by decide
    have fe : D.fz (.err 7 ["sign"] [v]) = true := by simp [D.fz, fzs, hz]
    have re : D.frz (.err 7 ["sign"] [v]) = .err 7 ["sign"] [v] := D.frz_of _ fe
    simp_arith [runB, fb_law_thrown, fTryN, fRaise, fRaise0, fe, re, hz, hf, cc, k1, c1, b0, b1, b2, b3, b4, b5, b6, b7, b8, b9, b10]
  · replace k1 : r.law_kept [.int 8, .err 8 [] []] = .ok (.lst true K) [] := k1
    replace c1 : r.law_classes [.err 8 [] []] = .ok (.lst true B) [] := c1
    show runB 2 4 [] (fb_law_thrown r) [.int 8, v] = .ok (.lst true [.lst true K, .lst true B]) []
    have b0 : ((8 : Int) == 0) = false := by rfl
    have b1 : ((8 : Int) == 1) = false := by rfl
    have b2 : ((8 : Int) == 2) = false := by rfl
    have b3 : ((8 : Int) == 3) = false := by rfl
    have b4 : ((8 : Int) == 4) = false := by rfl
    have b5 : ((8 : Int) == 5) = false := by rfl
    have b6 : ((8 : Int) == 6) = false := by rfl
    have b7 : ((8 : Int) == 7) = false := by rfl
    have b8 : ((8 : Int) == 8) = true := by rfl
    have b9 : ((8 : Int) == 9) = false := by rfl
    have b10 : ((8 : Int) == 10) = false := by rfl
    have cc : List.contains [0, 1, 2, 3, 4, 5, 6, 7, 8, 9, 10, 11] 8 = true := by decide
    have fe : D.fz (.err 8 [] []) = true := by simp [D.fz, fzs, hz]
    have re : D.frz (.err 8 [] []) = .err 8 [] [] := D.frz_of _ fe
    simp_arith [runB, fb_law_thrown, fTryN, fRaise, fRaise0, fe, re, hz, hf, cc, k1, c1, b0, b1, b2, b3, b4, b5, b6, b7, b8, b9, b10]
  · replace k1 : r.law_kept [.int 9, .err 9 [] []] = .ok (.lst true K) [] := k1
    replace c1 : r.law_classes [.err 9 [] []] = .ok (.lst true B) [] := c1
    show runB 2 4 [] (fb_law_thrown r) [.int 9, v] = .ok (.lst true [.lst true K, .lst true B]) []
    have b0 : ((9 : Int) == 0) = false := by rfl
    have b1 : ((9 : Int) == 1) = false := by rfl
    have b2 : ((9 : Int) == 2) = false := by rfl
    have b3 : ((9 : Int) == 3) = false := by rfl
    have b4 : ((9 : Int) == 4) = false := by rfl
    have b5 : ((9 : Int) == 5) = false := by rfl
    have b6 : ((9 : Int) == 6) = false := by rfl
    have b7 : ((9 : Int) == 7) = false := by rfl
    have b8 : ((9 : Int) == 8) = false := by rfl
    have b9 : ((9 : Int) == 9) = true := by rfl
    have b10 : ((9 : Int) == 10) = false := by rfl
    have cc : List.contains [0, 1, 2, 3, 4, 5, 6, 7, 8, 9, 10, 11] 9 = true := by decide
    have fe : D.fz (.err 9 [] []) = true := by simp [D.fz, fzs, hz]
    have re : D.frz (.err 9 [] []) = .err 9 [] [] := D.frz_of _ fe
    simp_arith [runB, fb_law_thrown, fTryN, fRaise, fRaise0, fe, re, hz, hf, cc, k1, c1, b0, b1, b2, b3, b4, b5, b6, b7, b8, b9, b10]
  · replace k1 : r.law_kept [.int 10, .err 10 [] []] = .ok (.lst true K) [] := k1
    replace c1 : r.law_classes [.err 10 [] []] = .ok (.lst true B) [] := c1
    show runB 2 4 [] (fb_law_thrown r) [.int 10, v] = .ok (.lst true [.lst true K, .lst true B]) []
    have b0 : ((10 : Int) == 0) = false := by rfl
    have b1 : ((10 : Int) == 1) = false := by rfl
    have b2 : ((10 : Int) == 2) = false := by rfl
    have b3 : ((10 : Int) == 3) = false := by rfl
    have b4 : ((10 : Int) == 4) = false := by rfl
    have b5 : ((10 : Int) == 5) = false := by rfl
    have b6 : ((10 : Int) == 6) = false := by rfl
    have b7 : ((10 : Int) == 7) = false := by rfl
    have b8 : ((10 : Int) == 8) = false := by rfl
    have b9 : ((10 : Int) == 9) = false := by rfl
    have b10 : ((10 : Int) == 10) = true := by rfl
    have cc : List.contains [0, 1, 2, 3, 4, 5, 6, 7, 8, 9, 10, 11] 10 = true := by decide
    have fe : D.fz (.err 10 [] []) = true := by simp [D.fz, fzs, hz]
    have re : D.frz (.err 10 [] []) = .err 10 [] [] := D.frz_of _ fe
    simp_arith [runB, fb_law_thrown, fTryN, fRaise, fRaise0, fe, re, hz, hf, cc, k1, c1, b0, b1, b2, b3, b4, b5, b6, b7, b8, b9, b10]
  · replace k1 : r.law_kept [.int 11, .err 11 [] []] = .ok (.lst true K) [] := k1
    replace c1 : r.law_classes [.err 11 [] []] = .ok (.lst true B) [] := c1
    show runB 2 4 [] (fb_law_thrown r) [.int 11, v] = .ok (.lst true [.lst true K, .lst true B]) []
    have b0 : ((11 : Int) == 0) = false := by rfl
    have b1 : ((11 : Int) == 1) = false := by rfl
    have b2 : ((11 : Int) == 2) = false := by rfl
    have b3 : ((11 : Int) == 3) = false := by rfl
    have b4 : ((11 : Int) == 4) = false := by rfl
    have b5 : ((11 : Int) == 5) = false := by rfl
    have b6 : ((11 : Int) == 6) = false := by rfl
    have b7 : ((11 : Int) == 7) = false := by rfl
    have b8 : ((11 : Int) == 8) = false := by rfl
    have b9 : ((11 : Int) == 9) = false := by rfl
    have b10 : ((11 : Int) == 10) = false := by rfl
    have cc : List.contains [0, 1, 2, 3, 4, 5, 6, 7, 8, 9, 10, 11] 11 = true := by decide
    have fe : D.fz (.err 11 [] []) = true := by simp [D.fz, fzs, hz]
    have re : D.frz (.err 11 [] []) = .err 11 [] [] := D.frz_of _ fe
    simp_arith [runB, fb_law_thrown, fTryN, fRaise, fRaise0, fe, re, hz, hf, cc, k1, c1, b0, b1, b2, b3, b4, b5, b6, b7, b8, b9, b10]
end K01
namespace K01
open PySem PySem.Spec PyProof.Rows L2 Nb
def RightS (run : List D → CRes) : Prop := ∀ (b w : Nat) (d : D), Dk b d → w < 12 → b + 512 < 2 ^ 61 → ∃ d', run [d, .int (w : Nat)] = .ok (.bl true) [d'] ∧ Dk (b + 512) d'
theorem bls_eq (w : Nat) (hw : w < 12) : kEq true (.lst true (bls w)) (.lst true (bls w)) = some (.bl false) := by
  rcases (show w = 0 ∨ w = 1 ∨ w = 2 ∨ w = 3 ∨ w = 4 ∨ w = 5 ∨ w = 6 ∨ w = 7 ∨ w = 8 ∨ w = 9 ∨ w = 10 ∨ w = 11 by omega) with rfl | rfl | rfl | rfl | rfl | rfl | rfl | rfl | rfl | rfl | rfl | rfl <;> rfl
theorem errD_fz (v : D) (w : Nat) (hz : v.fz = true) : (errD v w).fz = true := by
  unfold errD
  split <;> simp [D.fz, fzs, hz]
theorem kept_gd {w e k : Nat} {v : D} (h : SY w e v) : SYs (w + 1) e (keptD k v) := by
  unfold keptD
  split
  · exact (sys_cons h sys_nil).mono (by omega) (by omega)
  · exact sys_nil.mono (by omega) (by omega)
theorem bl_gd (w : Nat) : SYs 100 0 (bls w) := by
  refine (sys_all (w := 0) (e := 0) (ds := bls w) fun d hd => ?_).mono (by show (0 + 1) * 19 ≤ 100; decide) (by omega)
  unfold bls at hd
  have bl : ∀ b, SY 0 0 (.bl b) := fun b => ⟨.bool b, rfl, by simp [PyData.leavesShort], by simp [PyData.depth], by simp [PyData.weight], by simp [PyData.showable]⟩
  rcases List.mem_append.mp hd with h | h
  · obtain ⟨k, _, rfl⟩ := List.mem_map.mp h
    exact bl _
  · simp only [List.mem_cons, List.not_mem_nil, or_false] at h
    rcases h with rfl | rfl | rfl | rfl | rfl | rfl | rfl <;> exact bl _
theorem repr_own (o p : Bool) (ds : List D) : kReprX [.lst o ds] = kReprX [.lst p ds] := by simp only [kReprX, D.dataX]
theorem repr_in (o p : Bool) (ds es : List D) : kReprX [.lst true [.lst o ds, .lst true es]] = kReprX [.lst true [.lst p ds, .lst true es]] := by simp only [kReprX, D.dataX, datasX]
theorem sl_one (w : Nat) (v : D) (hz : v.fz = true) (h : w < 8) : kSl none (some 1) (.lst false [v]) = some (.lst true (keptD w v)) := by
  have z : fzs [v] = true := by rw [fzs, fzs, hz]; rfl
  show (if fzs [v] = true then some (D.lst true (cutD [v] none (some 1))) else none) = _
  rw [if_pos z, keptD, if_pos h]
  rfl
theorem sl_none (w : Nat) (v : D) (hz : v.fz = true) (h : ¬ w < 8) : kSl none (some 0) (.lst false [v]) = some (.lst true (keptD w v)) := by
  have z : fzs [v] = true := by rw [fzs, fzs, hz]; rfl
  show (if fzs [v] = true then some (D.lst true (cutD [v] none (some 0))) else none) = _
  rw [if_pos z, keptD, if_neg h]
  rfl
theorem rightS (r : Runs) (hv : Values 3 r.law_value) (hm : MadeS r.law_made) (hn : MadeS r.law_by_name) (hk : KeptS r.law_kept) (hc : ClsS r.law_classes) (hd : DueS r.law_classes_due) (ht : ThrownS r.law_thrown) : RightS (nextR r).law_right := by
  intro b w d h hw hb
  have q : (4 : Nat) ^ (3 + 1) = 256 := by decide
  obtain ⟨v1, d1, e1, g1, h1⟩ := hv b d h (by rw [q]; omega)
  obtain ⟨v2, d2, e2, g2, h2⟩ := hv _ d1 h1 (by rw [q]; omega)
  replace e1 : r.law_value [d, .int 3] = .ok v1 [d1] := e1
  replace e2 : r.law_value [d1, .int 3] = .ok v2 [d2] := e2
  rw [q] at h1 h2
  have W : wv 3 ≤ 4000 := by decide
  have f1 := D.frz_of v1 g1.1
  have f2 := D.frz_of v2 g2.1
  obtain ⟨z1, s1⟩ := g1
  obtain ⟨z2, s2⟩ := g2
  have s1 := s1.mono W (Nat.le_refl _)
  have s2 := s2.mono W (Nat.le_refl _)
  obtain ⟨t0, r0⟩ := sy_repr (sy_lst true (sys_cons s1 (sys_cons s2 sys_nil))) (by omega) (by omega)
  obtain ⟨t1, r1⟩ := sy_repr (sy_lst true (kept_gd (k := w) s1)) (by omega) (by omega)
  obtain ⟨t2, r2⟩ := sy_repr (sy_lst true (kept_gd (k := w) s2)) (by omega) (by omega)
  obtain ⟨t3, r3⟩ := sy_repr (sy_lst true (sys_cons (sy_lst true (kept_gd (k := w) s1)) (sys_cons (sy_lst true (bl_gd w)) sys_nil))) (by omega) (by omega)
  have r1f : kReprX [.lst false (keptD w v1)] = some (.str t1) := by rw [← r1]; exact repr_own _ _ _
  have r3f : kReprX [.lst true [.lst false (keptD w v1), .lst true (bls w)]] = some (.str t3) := by rw [← r3]; exact repr_in _ _ _ _
  have m1 := hm w v1 hw z1
  have m2 := hm w v2 hw z2
  have n1 := hn w v1 hw z1
  have k1 := hk w v1 hw z1
  have k2 := hk w v2 hw z2
  have c1 := hc w v1 hw z1
  have d0 := hd w hw
  have th := ht w v1 hw z1
  have be := bls_eq w hw
  have ez1 := errD_fz v1 w z1
  have ez2 := errD_fz v2 w z2
  have ef1 := D.frz_of _ ez1
  have ef2 := D.frz_of _ ez2
  have kz : fzs (keptD w v1) = true := by unfold keptD; split <;> simp [fzs, z1]
  have kf : frzs (keptD w v1) = keptD w v1 := frzs_fz kz
  have eqs : ∀ t, kEq true (.str t) (.str t) = some (.bl false) := fun t => by rw [kEq_strs]; simp
  have eqt : ∀ t, kEq false (.str t) (.str t) = some (.bl true) := fun t => by rw [kEq_strs]; simp
  refine ⟨d2, ?_, dk_mono h2 (by omega)⟩
  show runB 2 8 [true] (fb_law_right r) [d, .int (w : Nat)] = _
  have key : ∃ (c : Bool) (i : Int), decide ((w : Int) < 8) = c ∧ (if c = true then (1 : Int) else 0) = i ∧ kSl none (some i) (.lst false [v1]) = some (.lst true (keptD w v1)) ∧ kSl none (some i) (.lst false [v2]) = some (.lst true (keptD w v2)) := by
    by_cases h8 : w < 8
    · exact ⟨true, 1, by simp; omega, rfl, sl_one w v1 z1 h8, sl_one w v2 z2 h8⟩
    · exact ⟨false, 0, by simp; omega, rfl, sl_none w v1 z1 h8, sl_none w v2 z2 h8⟩
  obtain ⟨cc, ii, hcc, hii, S1, S2⟩ := key
  have kl : kLt (.int (w : Int)) (.int 8) = some (.bl cc) := by rw [← hcc]; rfl
  have ki : kInt [.bl cc] = some (.int ii) := by rw [← hii]; rfl
  generalize errD v1 w = E1 at *
  generalize errD v2 w = E2 at *
  generalize keptD w v1 = K1 at *
  generalize keptD w v2 = K2 at *
  generalize bls w = B at *
  simp_arith [-kLt_int, -kInt_bl, runB, fb_law_right, fr_law_right_1, fg_cons, kl, ki, S1, S2, e1, e2, z1, z2, f1, f2, r0, r1, r2, r3, r1f, r3f, m1, m2, n1, k1, k2, c1, d0, th, be, ez1, ez2, ef1, ef2, kz, kf, eqs, eqt]
end K01
namespace K01
open PySem PySem.Spec PyProof.Rows L2 Nb
def BaseS (run : List D → CRes) : Prop := ∀ v : D, v.fz = true → run [v] = .ok (.bl true) []
theorem baseS (r : Runs) : BaseS (nextR r).law_base_right := by
  intro v hz
  have hf := D.frz_of v hz
  have h1 : kIsE [0, 1, 2, 3, 4, 5, 6, 7, 8, 9, 10, 11, 12] TAB [.err 12 [] [], .ty "Exception"] = some (.bl true) := by rfl
  have h2 : kIsE [0, 1, 2, 3, 4, 5, 6, 7, 8, 9, 10, 11, 12] TAB [.err 12 [] [], .cls 0] = some (.bl false) := by rfl
  have fe : D.fz (.err 12 [] []) = true := by rfl
  have re : D.frz (.err 12 [] []) = .err 12 [] [] := D.frz_of _ fe
  have eq : kEq false (.lst true []) (.lst true []) = some (.bl true) := by rfl
  show runB 1 3 [] (fb_law_base_right r) [v] = _
  simp_arith [runB, fb_law_base_right, lc_law_base_right_1, fMkE0, fMkB, lg_cons, hz, hf, h1, h2, fe, re, eq]
structure LawHyp (r : Runs) : Prop where
  dk : Decks r.law_deck
  va : Values 2 r.law_value
  ba : BaseS r.law_base_right
  ri : RightS r.law_right
theorem law_ok (r : Runs) (H : LawHyp r) (ns : List Int) (hl : ns.length ≤ 63) : (nextR r).law (scrD ns) = .ok (.bl true) [] := by
  obtain ⟨d0, e0, k0⟩ := H.dk ns hl
  obtain ⟨v, d1, e1, g1, k1⟩ := H.va 0 d0 k0 (by decide)
  replace e1 : r.law_value [d0, .int 2] = .ok v [d1] := e1
  have e2 := H.ba v g1.1
  have z1 := g1.1
  have f1 := D.frz_of v z1
  have q : (4 : Nat) ^ (2 + 1) = 64 := by decide
  rw [q] at k1
  have K := lpGo_inv (vs := [2]) (p := gNm 2) (st := lc_law_1 r) (fun j ε acc => ∃ d', ε = [.val (.scr (ns.map .int)), .val d', .no] ∧ acc = [] ∧ Dk (64 + j * 512) d') (rngD 0 1 12) 0 [.val (.scr (ns.map .int)), .val d1, .no] []
    ⟨d1, rfl, rfl, dk_mono k1 (by omega)⟩ (fun j x ε acc hx ⟨d2, hε, ha, h2⟩ => by
      obtain ⟨hj, rfl⟩ := rng_get hx
      subst hε ha
      rw [Nat.zero_add] at h2
      obtain ⟨d3, e3, h3⟩ := H.ri _ j d2 h2 hj (by omega)
      have ej : (0 : Int) + (j : Nat) * 1 = (j : Nat) := by omega
      rw [ej]
      refine ⟨[.val (.scr (ns.map .int)), .val d2, .val (.int (j : Nat))], [.val (.scr (ns.map .int)), .val d3, .val (.int (j : Nat))], [], rfl, ?_, d3, rfl, rfl, dk_mono h3 (by omega)⟩
      simp_arith [lc_law_1, e3])
  obtain ⟨ε', acc, e4, d', rfl, rfl, _⟩ := K
  have eq : kEq false (.lst true []) (.lst true []) = some (.bl true) := by rfl
  have hin : Nb.inR 12 = true := by rfl
  replace e4 : lpGo [2] (gNm 2) (lc_law_1 r) (rngD 0 1 12) [.val (.scr (ns.map .int)), .val d1, .no] [] = .ok [] [.val (.scr (ns.map .int)), .val d', .no] := e4
  have t12 : (12 : Int).toNat = 12 := by rfl
  replace e0 : r.law_deck [.scr (ns.map .int)] = .ok d0 [] := e0
  show runB 1 3 [] (fb_law r) [.scr (ns.map .int)] = _
  simp_arith [runB, fb_law, fzs_ints, rzs_ints, e0, e1, e2, z1, f1, hin, t12, e4, eq]
end K01
namespace K01
open PySem PySem.Spec PyProof.Rows L2 Nb
theorem picks_at (n : Nat) : Picks (runs (n + 2)).law_pick := picks (runs (n + 1)) (draws (runs n))
theorem val0_at (n : Nat) : Values 0 (runs (n + 3)).law_value := value0 (runs (n + 2)) (picks_at n)
theorem val1_at (n : Nat) : Values 1 (runs (n + 4)).law_value := valueS (runs (n + 3)) (draws (runs (n + 2))) (picks_at (n + 1)) (val0_at n)
theorem val2_at (n : Nat) : Values 2 (runs (n + 5)).law_value := valueS (runs (n + 4)) (draws (runs (n + 3))) (picks_at (n + 2)) (val1_at n)
theorem val3_at (n : Nat) : Values 3 (runs (n + 6)).law_value := valueS (runs (n + 5)) (draws (runs (n + 4))) (picks_at (n + 3)) (val2_at n)
theorem right_at (n : Nat) : RightS (runs (n + 7)).law_right :=
  rightS (runs (n + 6)) (val3_at n) (madeS (runs (n + 5))) (by_nameS (runs (n + 5))) (keptS (runs (n + 5))) (clsS (runs (n + 5))) (dueS (runs (n + 5))) (thrownS (runs (n + 5)) (keptS (runs (n + 4))) (clsS (runs (n + 4))))
theorem hyp_at (n : Nat) : LawHyp (runs (n + 7)) where
  dk := decks (runs (n + 6))
  va := val2_at (n + 2)
  ba := baseS (runs (n + 6))
  ri := right_at n
theorem pure (n : Nat) (ns : List Int) (hl : ns.length ≤ 63) : (runs (n + 8)).law (scrD ns) = .ok (.bl true) [] := law_ok (runs (n + 7)) (hyp_at n) ns hl
end K01
end
set_option maxHeartbeats 0
open PySem PySem.W PySem.Calls PyProof.Rows
theorem PySem.Challenge.cw_namesabove_k01_errors_of_any_value_holds : PySem.Challenge.rw_namesabove_k01_errors_of_any_value.Holds := by
  refine K01.holds_of fun w mg fa h K KX G c hmg => ?_
  have md := K01.md_of (P := PySem.Challenge.rw_namesabove_k01_errors_of_any_value.prog) KX G (by rfl) c
  have wd := K01.wd_of KX G c.x
  have e := hmg.symm.trans wd.gl_law
  cases e
  exact ⟨_, fun H a ns hl hS => Nb.spD_law (g := ⟨K, K01.clK K, w⟩) (K01.pure 1 ns hl) hS, fun base _ _ => (K01.fs_all (P := PySem.Challenge.rw_namesabove_k01_errors_of_any_value.prog) (w := w) (base := base) md wd 9).law⟩
