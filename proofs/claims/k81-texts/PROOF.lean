import PyProof.Rows.All
import KE.KDictKeyed
import KE.KeyNested
import Wide.All
import OpenK.AllK
import Wide.FinOn
import HandS.ForExc
import HandS.Comp
import HandS.Dict
import HandS.Iter
import HandS.Text
import HandS.TupAny
import HandS.IsInst
import HandS.Wide
import HandS.TryMany
import HandS.HeadHook2
import HandS.ExcCtx
import HandS.TryOnly
import HandS.ExcOwn
import HandS.CallSlots
import HandS.EndBits
import HandS.Defaults
import HandS.TupMul
import PyProof.Rows.IntBool
import HandS.TupLe
import KE.DataCmp
import HandS.WordsDict
import KE.SortData
import HandS.SortInts
import HandS.TupLen
import KE.DataMinMax
import HandS.SortKw
import PyProof.ReprReads
import PyProof.ReprBulk
import PyProof.FitsInt
import KE.GoesMore
import HandS.Flow
import HandS.Zip
import HandS.Conv
import HandS.Style
import HandS.TupSets
import HandS.DictTup
import KE.KDictLaws
import HandS.ExcIs
import HandS.HeadHook1
import KE.KDictDisplayH
import KE.DataFind
import KE.DatumIndex
import KE.KDictSum
import HandS.FStr
import HandS.StrMore
import HandS.Replace
import HandS.HotCalls
import PyProof.ExcBaseAll.ValueError
import HandS.Head2
import HandS.HeadEnd
import KE.KStateDown
import PySem.Challenge.RW_signbench_k81_texts_written_and_read
set_option Elab.async false
set_option linter.all false
set_option maxRecDepth 100000
set_option maxHeartbeats 4000000
namespace S
open PySem PySem.Spec L2
open PyProof.Rows hiding St
/-! ## data: tuples by value, lists and dicts and instances by address; lst is told data alone -/
structure Kt where
  K : PySem.W.Frag
  P : Program
  w : World
instance : CoeOut Kt PySem.W.Frag := ⟨Kt.K⟩
abbrev kt (X : Cx) : Kt := ⟨X.K, X.prog, X.w⟩
inductive D where
  | non | bl (b : Bool) | int (i : Int) | str (x : Str) | tup (xs : List D) | lst (xs : List D) | ref (a : Addr) | ty (n : String) | fn (x : Str) | rl (xs : List D)
/-- a list that never changes -/
def KL (K : Kt) (a : Addr) (xs : List V) : Prop := ∃ (o : Obj) (its : Array Value) (n : Nat), K.K.lookup a = some o ∧ o.cls = .type "list" ∧ o.dict = none ∧ o.data = .seq its n ∧ its.size ≤ sizeLine ∧ Vals xs its.toList
def Sq0 (K : Kt) (H : Hp) (a : Addr) (vs : List V) : Prop := (∃ o, H a = some (.frz o (.lst vs))) ∨ KL K a vs
theorem Sq0.sq {K : Kt} {H : Hp} {a : Addr} {vs : List V} (h : Sq0 K H a vs) : SqL K H a vs := by
  rcases h with ⟨o, h⟩ | h
  · exact .inl (.inr ⟨o, h⟩)
  · exact .inr h
mutual
inductive Rp (K : Kt) (H : Hp) : D → V → Prop
  | non : Rp K H .non .non
  | bl (b : Bool) : Rp K H (.bl b) (.bl b)
  | int (i : Int) : Rp K H (.int i) (.int i)
  | str (x : Str) : Rp K H (.str x) (.str x)
  | ref (a : Addr) : Rp K H (.ref a) (.ref a)
  | ty (n : String) : Rp K H (.ty n) (.ty n)
  | fn (x : Str) : Rp K H (.fn x) (.ref (He.ga K x))
  | tup {xs : List D} {vs : List V} {a : Addr} : SqT K H a vs → Rps K H xs vs → Rp K H (.tup xs) (.ref a)
  | rl {xs : List D} {vs : List V} {a : Addr} : Sq0 K H a vs → Rps K H xs vs → Rp K H (.rl xs) (.ref a)
inductive Rps (K : Kt) (H : Hp) : List D → List V → Prop
  | nil : Rps K H [] []
  | cons {x : D} {v : V} {xs : List D} {vs : List V} : Rp K H x v → Rps K H xs vs → Rps K H (x :: xs) (v :: vs)
end
structure Tm (K : Kt) (H H' : Hp) : Prop where
  t : ∀ a vs, SqT K H a vs → SqT K H' a vs
  l : ∀ a vs, Sq0 K H a vs → Sq0 K H' a vs
theorem Tm.refl {K : Kt} {H : Hp} : Tm K H H := ⟨fun _ _ h => h, fun _ _ h => h⟩
theorem Tm.trans {K : Kt} {H H1 H2 : Hp} (a : Tm K H H1) (b : Tm K H1 H2) : Tm K H H2 := ⟨fun x vs h => b.t x vs (a.t x vs h), fun x vs h => b.l x vs (a.l x vs h)⟩
section
variable {K : Kt} {H H' : Hp}
mutual
theorem Rp.mono (t : Tm K H H') : ∀ {d : D} {v : V}, Rp K H d v → Rp K H' d v
  | _, _, .non => .non
  | _, _, .bl b => .bl b
  | _, _, .int i => .int i
  | _, _, .str x => .str x
  | _, _, .ref a => .ref a
  | _, _, .ty n => .ty n
  | _, _, .fn x => .fn x
  | _, _, .tup h r => .tup (t.t _ _ h) (Rps.mono t r)
  | _, _, .rl h r => .rl (t.l _ _ h) (Rps.mono t r)
theorem Rps.mono (t : Tm K H H') : ∀ {ds : List D} {vs : List V}, Rps K H ds vs → Rps K H' ds vs
  | _, _, .nil => .nil
  | _, _, .cons h r => .cons (Rp.mono t h) (Rps.mono t r)
end
theorem Rps.length : ∀ {ds : List D} {vs : List V}, Rps K H ds vs → ds.length = vs.length
  | _, _, .nil => rfl
  | _, _, .cons _ r => by simp [Rps.length r]
theorem Rps.get : ∀ {ds : List D} {vs : List V} {i : Nat} {d : D}, Rps K H ds vs → ds[i]? = some d → ∃ v, vs[i]? = some v ∧ Rp K H d v
  | _, _, _, _, .nil, e => by simp at e
  | _, _, 0, _, .cons h _, e => by simp at e; subst e; exact ⟨_, rfl, h⟩
  | _, _, i + 1, _, .cons _ r, e => by
    obtain ⟨v, h1, h2⟩ := Rps.get (i := i) r (by simpa using e)
    exact ⟨v, by simpa using h1, h2⟩
theorem Rps.append : ∀ {ds es : List D} {vs us : List V}, Rps K H ds vs → Rps K H es us → Rps K H (ds ++ es) (vs ++ us)
  | _, _, _, _, .nil, s => s
  | _, _, _, _, .cons h r, s => .cons h (Rps.append r s)
theorem Rps.take : ∀ {ds : List D} {vs : List V} (n : Nat), Rps K H ds vs → Rps K H (ds.take n) (vs.take n)
  | _, _, 0, _ => by simpa using Rps.nil
  | _, _, _ + 1, .nil => by simpa using Rps.nil
  | _, _, n + 1, .cons h r => by simpa using Rps.cons h (Rps.take n r)
theorem Rps.drop : ∀ {ds : List D} {vs : List V} (n : Nat), Rps K H ds vs → Rps K H (ds.drop n) (vs.drop n)
  | _, _, 0, r => by simpa using r
  | _, _, _ + 1, .nil => by simpa using Rps.nil
  | _, _, n + 1, .cons _ r => by simpa using Rps.drop n r
theorem Rps.reverse : ∀ {ds : List D} {vs : List V}, Rps K H ds vs → Rps K H ds.reverse vs.reverse
  | _, _, .nil => by simpa using Rps.nil
  | _, _, .cons h r => by simpa using Rps.append (Rps.reverse r) (.cons h .nil)
theorem Rps.set {x : D} {v : V} (q : Rp K H x v) : ∀ {ds : List D} {vs : List V} (n : Nat), Rps K H ds vs → Rps K H (ds.set n x) (vs.set n v)
  | _, _, 0, .nil => by simpa using Rps.nil
  | _, _, _ + 1, .nil => by simpa using Rps.nil
  | _, _, 0, .cons _ r => by simpa using Rps.cons q r
  | _, _, n + 1, .cons h r => by simpa using Rps.cons h (Rps.set q n r)
end
/-! ## the heap of what may change -/
def attrs0 : List Str := ["by_keys", "starts", "known", "costs", "last_number", "open_letters", "kept_answers", "far_field", "far_spot", "early", "told_words", "above", "deeds_done", "last_under", "at_node"]
def attrs1 : List Str := ["table", "words_here", "rates", "field", "ahead", "typed", "wait", "wished", "which", "way", "spot", "learning", "since", "places", "house", "tree", "stands", "sent"]
def attrs2 : List Str := ["table_rows", "desk_book", "desk_rates", "desk_field", "desk_commits", "the_bench"]
def attrs : List Str := attrs0 ++ (attrs1 ++ attrs2)
def clsName : Nat → Str
  | 0 => "KeyReader" | 1 => "Book" | 2 => "Near" | 3 => "Far" | 4 => "Tree" | 5 => "House" | 6 => "Stand" | 7 => "Bench" | _ => "Desk"
inductive GO where
  | lst (xs : List D) | rol (xs : List D) | dic (kvs : List (D × D)) | dit (kvs : List (D × D)) (ep : Nat) | dik (kvs : List (Int × D)) (ep : Nat) | obj (c : Nat) (fs : Nat → Option D)
abbrev Hd := Addr → Option GO
def st (G : Hd) (a : Addr) (o : GO) : Hd := fun b => if b = a then some o else G b
@[simp] theorem st_same {G : Hd} {a : Addr} {o : GO} : st G a o a = some o := by simp [st]
theorem st_ne {G : Hd} {a b : Addr} {o : GO} (h : b ≠ a) : st G a o b = G b := by simp [st, h]
@[simp] theorem st_st {G : Hd} {a : Addr} {o u : GO} : st (st G a o) a u = st G a u := by funext b; unfold st; split <;> rfl
/-- keys by value: numbers and texts -/
def keyD : Key → D
  | .inl i => .int i
  | .inr x => .str x
inductive KvR (K : Kt) (H : Hp) : List (D × D) → List (Key × V) → Prop
  | nil : KvR K H [] []
  | cons {k : Key} {d : D} {v : V} {r : List (D × D)} {s : List (Key × V)} : Rp K H d v → KvR K H r s → KvR K H ((keyD k, d) :: r) ((k, v) :: s)
/-! keys that are tuples -/
mutual
def keyN : D → Option NestedKey
  | .non => some .none
  | .bl b => some (.num (if b = true then 1 else 0))
  | .int i => some (.num i)
  | .str x => some (.text x)
  | .tup xs => match keysN xs with
    | some ks => some (.tup ks)
    | none => none
  | _ => none
def keysN : List D → Option (List NestedKey)
  | [] => some []
  | x :: xs => match keyN x, keysN xs with
    | some k, some ks => some (k :: ks)
    | _, _ => none
end
inductive DitR (K : Kt) (H : Hp) : List (D × D) → List (NestedKey × Addr × Value) → Prop
  | nil : DitR K H [] []
  | cons {kd : List D} {nk : NestedKey} {ad : Addr} {d : D} {v : V} {u : Value} {r : List (D × D)} {s : List (NestedKey × Addr × Value)} : keyN (.tup kd) = some nk → nk.depth ≤ 8 → Rp K H (.tup kd) (.ref ad) → Rp K H d v → RelV v u → DitR K H r s → DitR K H ((.tup kd, d) :: r) ((nk, ad, u) :: s)
/-- a dict whose keys are tuples, by its entries -/
def DitP (P : Program) (w : World) (a : Addr) (xs : List (NestedKey × Addr × Value)) (ep : Nat) (h : Heap) : Prop :=
  xs.length ≤ sizeLine ∧ (a == sysModules) = false ∧ (xs.map (·.1)).Nodup ∧ ∃ o es, h.get? a = some o ∧ o.ExactDict ∧ o.data = .dict es ep ∧ es.toList = xs.map (entryOfKey (nestedKind P w))
def DitO (P : Program) (w : World) (a : Addr) (xs : List (NestedKey × Addr × Value)) (ep : Nat) : HO := .ext (DitP P w a xs ep)
/-! dicts whose keys are whole numbers -/
inductive DikR (K : Kt) (H : Hp) : List (Int × D) → List (Int × Value) → Prop
  | nil : DikR K H [] []
  | cons {i : Int} {d : D} {v : V} {u : Value} {r : List (Int × D)} {s : List (Int × Value)} : Rp K H d v → RelV v u → DikR K H r s → DikR K H ((i, d) :: r) ((i, u) :: s)
def DikP (P : Program) (w : World) (a : Addr) (xs : List (Int × Value)) (ep : Nat) (h : Heap) : Prop :=
  xs.length ≤ sizeLine ∧ (a == sysModules) = false ∧ ∃ o es, h.get? a = some o ∧ o.ExactDict ∧ o.data = .dict es ep ∧ KeysOf (intKind P w) es ∧ Pairs (intKind P w) es.toList xs ∧ (xs.map (·.1)).Nodup
def DikO (P : Program) (w : World) (a : Addr) (xs : List (Int × Value)) (ep : Nat) : HO := .ext (DikP P w a xs ep)
def RpO (K : Kt) (H : Hp) : Option D → Option V → Prop
  | some d, some v => Rp K H d v
  | none, none => True
  | _, _ => False
/-- what stands at an address, told in V -/
def GOk (K : Kt) (H : Hp) (a : Addr) : GO → Prop
  | .lst xs => ∃ vs, H a = some (.lst vs) ∧ Rps K H xs vs
  | .rol xs => ∃ o vs, H a = some (.frz o (.lst vs)) ∧ Rps K H xs vs
  | .dic kvs => ∃ vs, H a = some (.dK vs) ∧ KvR K H kvs vs
  | .dit kvs ep => ∃ xs, H a = some (DitO K.P K.w a xs ep) ∧ DitR K H kvs xs
  | .dik kvs ep => ∃ xs, H a = some (DikO K.P K.w a xs ep) ∧ DikR K H kvs xs
  | .obj c fs => ∃ dx fv, H a = some (.ins (He.ga K (clsName c)) dx fv) ∧ (fv.map (·.1)).Nodup ∧ (∀ f ∈ fv.map (·.1), f ∈ attrs) ∧ ∀ (i : Nat) f, attrs[i]? = some f → RpO K H (fs i) (fv.lookup f)
def GR (K : Kt) (G : Hd) (H : Hp) : Prop := ∀ a o, G a = some o → GOk K H a o
abbrev Sd := List (Option D)
structure SR (K : Kt) (H : Hp) (σd : Sd) (σ : St) : Prop where
  len : σd.length = σ.length
  at_ : ∀ (i : Nat) (d : D), σd[i]? = some (some d) → ∃ v, σ[i]? = some (some v) ∧ Rp K H d v
theorem SR.mono {K : Kt} {H H' : Hp} {σd : Sd} {σ : St} (t : Tm K H H') (s : SR K H σd σ) : SR K H' σd σ := ⟨s.len, fun i d e => let ⟨v, h1, h2⟩ := s.at_ i d e; ⟨v, h1, h2.mono t⟩⟩
theorem SR.set {K : Kt} {H : Hp} {σd : Sd} {σ : St} (s : SR K H σd σ) (i : Nat) {d : D} {v : V} (r : Rp K H d v) : SR K H (σd.set i (some d)) (σ.set i (some v)) := by
  refine ⟨by simp [s.len], fun j e h => ?_⟩
  by_cases hj : i = j
  · subst hj
    have hl : i < σd.length := by
      have := (List.getElem?_eq_some_iff.mp h).1
      simpa using this
    rw [List.getElem?_set_self hl] at h
    cases h
    exact ⟨v, by rw [List.getElem?_set_self (by rw [← s.len]; exact hl)], r⟩
  · rw [List.getElem?_set_ne hj] at h ⊢
    exact s.at_ j e h
/-! ## readings -/
abbrev Qd := D → Hd → Prop
abbrev Wx := Nat → D → Sd → Hd → Prop
abbrev W0 : Wx := fun _ _ _ _ => False
abbrev TEd := Wx → Sd → Hd → Qd → Prop
abbrev TTd := Wx → Sd → Hd → (Bool → Hd → Prop) → Prop
abbrev TAd := Wx → Sd → Hd → (List D → Hd → Prop) → Prop
structure En where
  nx : Sd → Hd → Prop
  rt : D → Hd → Prop
  bk : Sd → Hd → Prop := fun _ _ => False
  ct : Sd → Hd → Prop := fun _ _ => False
abbrev TSd := Wx → En → Sd → Hd → Prop
/-- exceptions by number -/
def excNames : List Str := ["BenchError", "NoWord", "Twice", "TooMany", "Missing", "NoPlace", "NoChoice", "NoMark", "Marked", "Barred", "TooLong", "NoStanding", "NoDeed", "Full", "NoNode", "NoText", "Nothing", "NoWish", "Fight", "NoCutting", "Waits", "NoTurn", "NoTable", "NoSaying"]
def excN (i : Nat) : Str := excNames.getD i "BenchError"
/-- an exception's class and what it bears (Fight alone bears something) -/
def ExR (K : Kt) (H : Hp) (i : Nat) (d : D) (cls : Value) (od : Option Addr) : Prop :=
  cls = .ref (He.ga K (excN i)) ∧ ((i ≠ 18 ∧ od = none ∧ d = .non) ∨ (i = 18 ∧ ∃ a v, od = some a ∧ H a = some (.xd [("other", v)]) ∧ Rp K H d v))
def CQ (K : Kt) (H : Hp) (Q : VK) (q : Qd) : Prop := ∀ v d H' G', Tm K H H' → GR K G' H' → Rp K H' d v → q d G' → Q v H'
def CB (K : Kt) (H : Hp) (Q : Bool → Hp → Prop) (q : Bool → Hd → Prop) : Prop := ∀ b H' G', Tm K H H' → GR K G' H' → q b G' → Q b H'
def CA (K : Kt) (H : Hp) (Q : List V → Hp → Prop) (q : List D → Hd → Prop) : Prop := ∀ vs ds H' G', Tm K H H' → GR K G' H' → Rps K H' ds vs → q ds G' → Q vs H'
def CW (K : Kt) (W : WX) (H : Hp) (w : Wx) : Prop := ∀ i d σd σ G H' cls od, Tm K H H' → SR K H' σd σ → GR K G H' → ExR K H' i d cls od → w i d σd G → W cls od σ H'
/-- all slots but these stand -/
def Ag (sl : List Nat) (σ σ' : St) : Prop := σ'.length = σ.length ∧ ∀ j, j ∉ sl → σ'[j]? = σ[j]?
def CG (K : Kt) (H : Hp) (sl : List Nat) (σ : St) (Q : St → Hp → Prop) (q : Sd → Hd → Prop) : Prop := ∀ σd' σ' H' G', Tm K H H' → Ag sl σ σ' → SR K H' σd' σ' → GR K G' H' → q σd' G' → Q σ' H'
structure Cl (K : Kt) (H : Hp) (E : Ends) (e : En) : Prop where
  nx : ∀ σd σ H' G', Tm K H H' → SR K H' σd σ → GR K G' H' → e.nx σd G' → E.nx σ H'
  rt : ∀ v d H' G', Tm K H H' → GR K G' H' → Rp K H' d v → e.rt d G' → E.rt v H'
  bk : ∀ σd σ H' G', Tm K H H' → SR K H' σd σ → GR K G' H' → e.bk σd G' → E.bk σ H'
  ct : ∀ σd σ H' G', Tm K H H' → SR K H' σd σ → GR K G' H' → e.ct σd G' → E.ct σ H'
section
variable {K : Kt} {H H' : Hp}
theorem Cl.mono {E : Ends} {e : En} (t : Tm K H H') (c : Cl K H E e) : Cl K H' E e :=
  ⟨fun a b x y m => c.nx a b x y (t.trans m), fun a b x y m => c.rt a b x y (t.trans m), fun a b x y m => c.bk a b x y (t.trans m), fun a b x y m => c.ct a b x y (t.trans m)⟩
theorem CQ.mono {Q : VK} {q : Qd} (t : Tm K H H') (c : CQ K H Q q) : CQ K H' Q q := fun a b x y m => c a b x y (t.trans m)
theorem CA.mono {Q : List V → Hp → Prop} {q : List D → Hd → Prop} (t : Tm K H H') (c : CA K H Q q) : CA K H' Q q := fun a b x y m => c a b x y (t.trans m)
theorem CW.mono {W : WX} {w : Wx} (t : Tm K H H') (c : CW K W H w) : CW K W H' w := fun a b x y z u v p m => c a b x y z u v p (t.trans m)
theorem Ag.refl {sl : List Nat} {σ : St} : Ag sl σ σ := ⟨rfl, fun _ _ => rfl⟩
theorem Ag.trans {sl sl' : List Nat} {σ σ1 σ2 : St} (a : Ag sl σ σ1) (b : Ag sl' σ1 σ2) : Ag (sl ++ sl') σ σ2 :=
  ⟨b.1.trans a.1, fun j h => (b.2 j fun x => h (List.mem_append_right _ x)).trans (a.2 j fun x => h (List.mem_append_left _ x))⟩
theorem Ag.set {σ : St} {i : Nat} {v : Option V} : Ag [i] σ (σ.set i v) := ⟨by simp, fun j h => by rw [List.getElem?_set_ne (fun e => h (by simp [e]))]⟩
end
def liftE (K : Kt) (W : WX) (t : TEd) : TE := fun σ H Q => ∃ σd G q w, SR K H σd σ ∧ GR K G H ∧ t w σd G q ∧ CQ K H Q q ∧ CW K W H w
def liftT (K : Kt) (W : WX) (t : TTd) : TT := fun σ H Q => ∃ σd G q w, SR K H σd σ ∧ GR K G H ∧ t w σd G q ∧ CB K H Q q ∧ CW K W H w
def liftA (K : Kt) (W : WX) (t : TAd) : TA := fun σ H Q => ∃ σd G q w, SR K H σd σ ∧ GR K G H ∧ t w σd G q ∧ CA K H Q q ∧ CW K W H w
def liftS (K : Kt) (W : WX) (t : TSd) : TS := fun E σ H => ∃ σd G e w, SR K H σd σ ∧ GR K G H ∧ t w e σd G ∧ Cl K H E e ∧ CW K W H w
abbrev TGd := Wx → D → Sd → Hd → (Sd → Hd → Prop) → Prop
abbrev TGsd := Wx → List D → Sd → Hd → (Sd → Hd → Prop) → Prop
def liftG (K : Kt) (W : WX) (sl : List Nat) (t : TGd) : TG := fun v σ H Q => ∃ d σd G q w, Rp K H d v ∧ SR K H σd σ ∧ GR K G H ∧ t w d σd G q ∧ CG K H sl σ Q q ∧ CW K W H w
def liftGs (K : Kt) (W : WX) (sl : List Nat) (t : TGsd) : TGs := fun vs σ H Q => ∃ ds σd G q w, Rps K H ds vs ∧ SR K H σd σ ∧ GR K G H ∧ t w ds σd G q ∧ CG K H sl σ Q q ∧ CW K W H w
def DE (X : Cx) (e : Expr) (t : TEd) : Prop := ∀ W, L2N.Takes X W → PE X e (liftE (kt X) W t)
def DT (X : Cx) (e : Expr) (t : TTd) : Prop := ∀ W, L2N.Takes X W → PT X e (liftT (kt X) W t)
def DW (X : Cx) (e : Expr) (t : TTd) : Prop := ∀ W, L2N.Takes X W → PW X e (liftT (kt X) W t)
def DA (X : Cx) (es : List Expr) (t : TAd) : Prop := ∀ W, L2N.Takes X W → PA X es (liftA (kt X) W t)
def DS (X : Cx) (s : Stmt) (t : TSd) : Prop := ∀ W, L2N.Takes X W → PS X s (liftS (kt X) W t)
def DSs (X : Cx) (s : List Stmt) (t : TSd) : Prop := ∀ W, L2N.Takes X W → PSs X s (liftS (kt X) W t)
def DG (X : Cx) (e : Expr) (sl : List Nat) (t : TGd) : Prop := ∀ W, L2N.Takes X W → PG X e (liftG (kt X) W sl t)
def DGs (X : Cx) (es : List Expr) (sl : List Nat) (t : TGsd) : Prop := ∀ W, L2N.Takes X W → PGs X es (liftGs (kt X) W sl t)
section
variable {X : Cx}
theorem PEi {e : Expr} {t t' : TE} (h : PE X e t) (i : ∀ σ H Q, t' σ H Q → t σ H Q) : PE X e t' := ⟨fun pins s σ H Q I q => h.run pins s σ H Q I (i _ _ _ q)⟩
theorem PTi {e : Expr} {t t' : TT} (h : PT X e t) (i : ∀ σ H Q, t' σ H Q → t σ H Q) : PT X e t' := ⟨fun pins s σ H Q I q => h.run pins s σ H Q I (i _ _ _ q)⟩
theorem PWi {e : Expr} {t t' : TT} (h : PW X e t) (i : ∀ σ H Q, t' σ H Q → t σ H Q) : PW X e t' := ⟨fun wh pins s σ H Q I q => h.run wh pins s σ H Q I (i _ _ _ q)⟩
theorem PAi {e : List Expr} {t t' : TA} (h : PA X e t) (i : ∀ σ H Q, t' σ H Q → t σ H Q) : PA X e t' := ⟨fun pos pins s σ H Q I q => h.run pos pins s σ H Q I (i _ _ _ q)⟩
theorem PSi {e : Stmt} {t t' : TS} (h : PS X e t) (i : ∀ D σ H, t' D σ H → t D σ H) : PS X e t' := ⟨fun pins s σ H D I q => h.run pins s σ H D I (i _ _ _ q)⟩
theorem PSsi {e : List Stmt} {t t' : TS} (h : PSs X e t) (i : ∀ D σ H, t' D σ H → t D σ H) : PSs X e t' := ⟨fun pins s σ H D I q => h.run pins s σ H D I (i _ _ _ q)⟩
theorem PGi {e : Expr} {t t' : TG} (h : PG X e t) (i : ∀ v σ H Q, t' v σ H Q → t v σ H Q) : PG X e t' := ⟨fun pins s σ H v u Q I r q => h.run pins s σ H v u Q I r (i _ _ _ _ q)⟩
theorem PGsi {e : List Expr} {t t' : TGs} (h : PGs X e t) (i : ∀ v σ H Q, t' v σ H Q → t v σ H Q) : PGs X e t' := ⟨fun pins s σ H v u Q I r q => h.run pins s σ H v u Q I r (i _ _ _ _ q)⟩
/-! ## expressions -/
variable {a b c e : Expr} {es : List Expr} {ta tb tc te : TEd} {tA tB tC' : TTd} {tes : TAd} {pos : Pos}
def dVar (i : Nat) : TEd := fun _ σ G Q => ∃ d, σ[i]? = some (some d) ∧ Q d G
def dC (d : D) : TEd := fun _ _ G Q => Q d G
theorem de_var {i : Nat} {x : Str} (hN : X.N[i]? = some x) (hv : Vis X.env.scope x) (hd : (x == ("__debug__" : Str)) = false) (hcd : (x == ("__classdict__" : Str)) = false) : DE X (.Name x pos) (dVar i) := fun W tk =>
  PEi (pe_var hN hv hd hcd) fun σ H Q ⟨σd, G, q, w, sr, gr, ⟨d, e, h⟩, cl, _⟩ => let ⟨v, hv, rv⟩ := sr.at_ i d e; ⟨v, hv, cl v d H G Tm.refl gr rv h⟩
theorem de_c {v : V} {d : D} (h : PE X e (tC v)) (r : ∀ H, Rp (kt X) H d v) : DE X e (dC d) := fun W tk =>
  PEi h fun σ H Q ⟨σd, G, q, w, sr, gr, h, cl, _⟩ => cl v d H G Tm.refl gr (r H) h
def dOp (r : D → D → Hd → Qd → Prop) (ta tb : TEd) : TEd := fun w σ G Q => ta w σ G fun x G1 => tb w σ G1 fun y G2 => r x y G2 Q
def lift2 (K : Kt) (r : D → D → Hd → Qd → Prop) : R2 := fun x y H Q => ∃ dx dy G q, Rp K H dx x ∧ Rp K H dy y ∧ GR K G H ∧ r dx dy G q ∧ CQ K H Q q
theorem op_read {K : Kt} {W : WX} {r : D → D → Hd → Qd → Prop} (σ : St) (H : Hp) (Q : VK) (h : liftE K W (dOp r ta tb) σ H Q) : tOp (lift2 K r) (liftE K W ta) (liftE K W tb) σ H Q := by
  obtain ⟨σd, G, q, w, sr, gr, h, cl, cw⟩ := h
  refine ⟨σd, G, _, w, sr, gr, h, fun v d H1 G1 t1 gr1 r1 h1 => ?_, cw⟩
  refine ⟨σd, G1, _, w, sr.mono t1, gr1, h1, fun v2 d2 H2 G2 t2 gr2 r2 h2 => ?_, cw.mono t1⟩
  exact ⟨d, d2, G2, q, r1.mono t2, r2, gr2, h2, cl.mono (t1.trans t2)⟩
def OpD (X : Cx) (f : Value → Value → Sem Value) (r : D → D → Hd → Qd → Prop) : Prop := OpR X f (lift2 (kt X) r)
theorem de_op {op : Operator} {r : D → D → Hd → Qd → Prop} (ho : OpD X (binaryOp op) r) (ha : DE X a ta) (hb : DE X b tb) : DE X (.BinOp a op b pos) (dOp r ta tb) := fun W tk =>
  PEi (pe_op ho (ha W tk) (hb W tk)) op_read
theorem de_cmp {op : CmpOp} {r : D → D → Hd → Qd → Prop} (ho : OpD X (compareOp op) r) (ha : DE X a ta) (hb : DE X b tb) (hm : behindInMarks op b = false) : DE X (.Compare a [op] [b] pos) (dOp r ta tb) := fun W tk =>
  PEi (pe_cmpR ho (ha W tk) (hb W tk) hm) op_read
def dUn (r : D → Hd → Qd → Prop) (ta : TEd) : TEd := fun w σ G Q => ta w σ G fun x G1 => r x G1 Q
def lift1 (K : Kt) (r : D → Hd → Qd → Prop) : V → Hp → VK → Prop := fun x H Q => ∃ dx G q, Rp K H dx x ∧ GR K G H ∧ r dx G q ∧ CQ K H Q q
theorem un_read {K : Kt} {W : WX} {r : D → Hd → Qd → Prop} (σ : St) (H : Hp) (Q : VK) (h : liftE K W (dUn r ta) σ H Q) : liftE K W ta σ H fun x H1 => lift1 K r x H1 Q := by
  obtain ⟨σd, G, q, w, sr, gr, h, cl, cw⟩ := h
  exact ⟨σd, G, _, w, sr, gr, h, fun v d H1 G1 t1 gr1 r1 h1 => ⟨d, G1, q, r1, gr1, h1, cl.mono t1⟩, cw⟩
theorem de_un {op : UnaryOp} {r : D → Hd → Qd → Prop} (ho : UnR X (unaryOp op) (lift1 (kt X) r)) (ha : DE X a ta) : DE X (.UnaryOp op a pos) (dUn r ta) := fun W tk =>
  PEi (pe_un ho (ha W tk)) un_read
def dB (t : TEd) : TTd := fun w σ G Q => t w σ G fun d G1 => ∃ k, d = .bl k ∧ Q k G1
theorem Rp.bl_inv {K : Kt} {H : Hp} {k : Bool} {v : V} (h : Rp K H (.bl k) v) : v = .bl k := by cases h; rfl
theorem Rp.int_inv {K : Kt} {H : Hp} {k : Int} {v : V} (h : Rp K H (.int k) v) : v = .int k := by cases h; rfl
theorem Rp.str_inv {K : Kt} {H : Hp} {k : Str} {v : V} (h : Rp K H (.str k) v) : v = .str k := by cases h; rfl
theorem Rp.non_inv {K : Kt} {H : Hp} {v : V} (h : Rp K H .non v) : v = .non := by cases h; rfl
theorem Rp.ref_inv {K : Kt} {H : Hp} {k : Addr} {v : V} (h : Rp K H (.ref k) v) : v = .ref k := by cases h; rfl
theorem Rp.tup_inv {K : Kt} {H : Hp} {xs : List D} {v : V} (h : Rp K H (.tup xs) v) : ∃ a vs, v = .ref a ∧ SqT K H a vs ∧ Rps K H xs vs := by cases h; exact ⟨_, _, rfl, by assumption, by assumption⟩
theorem Rp.rl_inv {K : Kt} {H : Hp} {xs : List D} {v : V} (h : Rp K H (.rl xs) v) : ∃ a vs, v = .ref a ∧ Sq0 K H a vs ∧ Rps K H xs vs := by cases h; exact ⟨_, _, rfl, by assumption, by assumption⟩
theorem test_read {K : Kt} {W : WX} {t : TEd} (σ : St) (H : Hp) (Q : Bool → Hp → Prop) (h : liftT K W (dB t) σ H Q) : liftE K W t σ H fun x H' => ∃ k, x = .bl k ∧ Q k H' := by
  obtain ⟨σd, G, q, w, sr, gr, h, cl, cw⟩ := h
  exact ⟨σd, G, _, w, sr, gr, h, fun v d H1 G1 t1 gr1 r1 ⟨k, e, h1⟩ => ⟨k, by subst e; exact r1.bl_inv, cl k H1 G1 t1 gr1 h1⟩, cw⟩
theorem dt_cmp {op : CmpOp} {r : D → D → Hd → Qd → Prop} (ho : OpD X (compareOp op) r) (ha : DE X a ta) (hb : DE X b tb) (hm : behindInMarks op b = false) : DT X (.Compare a [op] [b] pos) (dB (dOp r ta tb)) := fun W tk =>
  PTi (pt_cmpR ho (ha W tk) (hb W tk) hm) fun _ _ _ h => op_read _ _ _ (test_read _ _ _ h)
theorem dt_val {e : Expr} {t : TEd} (h : DE X e t) (he : ∀ whole, isTrue e X.env whole = (do let v ← whole; standAt e.pos; holding [v] (truthy v))) : DT X e (dB t) := fun W tk =>
  PTi (pt_val (h W tk) he) test_read
/-- two ways by a truth -/
def Br (c : Bool) (A B : Prop) : Prop := (c = true → A) ∧ (c = false → B)
@[simp] theorem Br_true {A B : Prop} : Br true A B = A := by simp [Br]
@[simp] theorem Br_false {A B : Prop} : Br false A B = B := by simp [Br]
theorem Br.ite {c : Bool} {A B A' B' : Prop} (h : Br c A B) (f : A → A') (g : B → B') : if c = true then A' else B' := by
  cases c with
  | true => rw [if_pos rfl]; exact f (h.1 rfl)
  | false => rw [if_neg (by decide)]; exact g (h.2 rfl)
def dChain (r r' : D → D → Hd → Qd → Prop) (ta tb tc : TEd) : TEd := fun w σ G Q => ta w σ G fun x G1 => tb w σ G1 fun y G2 => r x y G2 fun z G3 => ∃ k, z = .bl k ∧ Br k (tc w σ G3 fun u G4 => r' y u G4 Q) (Q (.bl false) G3)
theorem chain_read {K : Kt} {W : WX} {r r' : D → D → Hd → Qd → Prop} (σ : St) (H : Hp) (Q : VK) (h : liftE K W (dChain r r' ta tb tc) σ H Q) : tChain (lift2 K r) (lift2 K r') (liftE K W ta) (liftE K W tb) (liftE K W tc) σ H Q := by
  obtain ⟨σd, G, q, w, sr, gr, h, cl, cw⟩ := h
  refine ⟨σd, G, _, w, sr, gr, h, fun v d H1 G1 t1 gr1 r1 h1 => ?_, cw⟩
  refine ⟨σd, G1, _, w, sr.mono t1, gr1, h1, fun v2 d2 H2 G2 t2 gr2 r2 h2 => ?_, cw.mono t1⟩
  refine ⟨d, d2, G2, _, r1.mono t2, r2, gr2, h2, fun v3 d3 H3 G3 t3 gr3 r3 ⟨k, e, h3⟩ => ?_⟩
  subst e
  refine ⟨k, r3.bl_inv, h3.ite (fun h3 => ?_) fun h3 => cl _ _ _ _ ((t1.trans t2).trans t3) gr3 (.bl _) h3⟩
  refine ⟨σd, G3, _, w, sr.mono ((t1.trans t2).trans t3), gr3, h3, fun v4 d4 H4 G4 t4 gr4 r4 h4 => ?_, cw.mono ((t1.trans t2).trans t3)⟩
  exact ⟨d2, d4, G4, q, r2.mono (t3.trans t4), r4, gr4, h4, cl.mono (((t1.trans t2).trans t3).trans t4)⟩
theorem de_chain {op op' : CmpOp} {r r' : D → D → Hd → Qd → Prop} (ho : OpD X (compareOp op) r) (ho' : OpD X (compareOp op') r') (ha : DE X a ta) (hb : DE X b tb) (hc : DE X c tc) (hm : lastMarks [op, op'] [b, c] = false) :
    DE X (.Compare a [op, op'] [b, c] pos) (dChain r r' ta tb tc) := fun W tk => PEi (pe_chain ho ho' (ha W tk) (hb W tk) (hc W tk) hm) chain_read
theorem dt_chain {op op' : CmpOp} {r r' : D → D → Hd → Qd → Prop} (ho : OpD X (compareOp op) r) (ho' : OpD X (compareOp op') r') (ha : DE X a ta) (hb : DE X b tb) (hc : DE X c tc) (hm : lastMarks [op, op'] [b, c] = false) :
    DT X (.Compare a [op, op'] [b, c] pos) (dB (dChain r r' ta tb tc)) := fun W tk => PTi (pt_chain ho ho' (ha W tk) (hb W tk) (hc W tk) hm) fun _ _ _ h => chain_read _ _ _ (test_read _ _ _ h)
/-! tests -/
def dAnd (t u : TTd) : TTd := fun w σ G Q => t w σ G fun k G1 => Br k (u w σ G1 Q) (Q false G1)
def dOr (t u : TTd) : TTd := fun w σ G Q => t w σ G fun k G1 => Br k (Q true G1) (u w σ G1 Q)
def dNot (t : TTd) : TTd := fun w σ G Q => t w σ G fun k G1 => Q (!k) G1
theorem CB.mono {K : Kt} {H H' : Hp} {Q : Bool → Hp → Prop} {q : Bool → Hd → Prop} (t : Tm K H H') (c : CB K H Q q) : CB K H' Q q := fun a b x m => c a b x (t.trans m)
theorem dw_and1 (ha : DT X a tA) : DW X (.BoolOp .And [a] pos) tA := fun W tk => pw_and1 (ha W tk)
theorem dw_or1 (ha : DT X a tA) : DW X (.BoolOp .Or [a] pos) tA := fun W tk => pw_or1 (ha W tk)
theorem dw_and {rest : List Expr} (ha : DT X a tA) (hb : DW X (.BoolOp .And (b :: rest) pos) tB) : DW X (.BoolOp .And (a :: b :: rest) pos) (dAnd tA tB) := fun W tk =>
  PWi (pw_and (ha W tk) (hb W tk)) fun σ H Q ⟨σd, G, q, w, sr, gr, h, cl, cw⟩ => ⟨σd, G, _, w, sr, gr, h, fun k H1 G1 t1 gr1 h1 =>
    h1.ite (fun h2 => ⟨σd, G1, q, w, sr.mono t1, gr1, h2, cl.mono t1, cw.mono t1⟩) fun h2 => cl _ _ _ t1 gr1 h2, cw⟩
theorem dw_or {rest : List Expr} (ha : DT X a tA) (hb : DW X (.BoolOp .Or (b :: rest) pos) tB) : DW X (.BoolOp .Or (a :: b :: rest) pos) (dOr tA tB) := fun W tk =>
  PWi (pw_or (ha W tk) (hb W tk)) fun σ H Q ⟨σd, G, q, w, sr, gr, h, cl, cw⟩ => ⟨σd, G, _, w, sr, gr, h, fun k H1 G1 t1 gr1 h1 =>
    h1.ite (fun h2 => cl _ _ _ t1 gr1 h2) fun h2 => ⟨σd, G1, q, w, sr.mono t1, gr1, h2, cl.mono t1, cw.mono t1⟩, cw⟩
theorem dw_pt (h : DW X e tA) : DT X e tA := fun W tk => (h W tk).pt
theorem dt_not (ha : DT X a tA) : DT X (.UnaryOp .Not a pos) (dNot tA) := fun W tk =>
  PTi (pt_not (ha W tk)) fun σ H Q ⟨σd, G, q, w, sr, gr, h, cl, cw⟩ => ⟨σd, G, _, w, sr, gr, h, fun k H1 G1 t1 gr1 h1 => cl _ _ _ t1 gr1 h1, cw⟩
/-! truths as values -/
def dAndV (ta tb : TEd) : TEd := fun w σ G Q => ta w σ G fun x G1 => ∃ k, x = .bl k ∧ Br k (tb w σ G1 Q) (Q (.bl false) G1)
def dOrV (ta tb : TEd) : TEd := fun w σ G Q => ta w σ G fun x G1 => ∃ k, x = .bl k ∧ Br k (Q (.bl true) G1) (tb w σ G1 Q)
def dNotV (ta : TEd) : TEd := fun w σ G Q => ta w σ G fun x G1 => ∃ k, x = .bl k ∧ Q (.bl (!k)) G1
theorem de_one {op} (h : DE X a ta) : DE X (.BoolOp op [a] pos) ta := fun W tk => pe_one (h W tk)
theorem de_and {rest : List Expr} (ha : DE X a ta) (hb : DE X (.BoolOp .And (b :: rest) pos) tb) : DE X (.BoolOp .And (a :: b :: rest) pos) (dAndV ta tb) := fun W tk =>
  PEi (pe_and (ha W tk) (hb W tk)) fun σ H Q ⟨σd, G, q, w, sr, gr, h, cl, cw⟩ => ⟨σd, G, _, w, sr, gr, h, fun v d H1 G1 t1 gr1 r1 ⟨k, e, h1⟩ => by
    subst e
    exact ⟨k, r1.bl_inv, h1.ite (fun h2 => ⟨σd, G1, q, w, sr.mono t1, gr1, h2, cl.mono t1, cw.mono t1⟩) fun h2 => cl _ _ _ _ t1 gr1 (.bl _) h2⟩, cw⟩
theorem de_or {rest : List Expr} (ha : DE X a ta) (hb : DE X (.BoolOp .Or (b :: rest) pos) tb) : DE X (.BoolOp .Or (a :: b :: rest) pos) (dOrV ta tb) := fun W tk =>
  PEi (pe_or (ha W tk) (hb W tk)) fun σ H Q ⟨σd, G, q, w, sr, gr, h, cl, cw⟩ => ⟨σd, G, _, w, sr, gr, h, fun v d H1 G1 t1 gr1 r1 ⟨k, e, h1⟩ => by
    subst e
    exact ⟨k, r1.bl_inv, h1.ite (fun h2 => cl _ _ _ _ t1 gr1 (.bl _) h2) fun h2 => ⟨σd, G1, q, w, sr.mono t1, gr1, h2, cl.mono t1, cw.mono t1⟩⟩, cw⟩
theorem de_not (ha : DE X a ta) : DE X (.UnaryOp .Not a pos) (dNotV ta) := fun W tk =>
  PEi (pe_not (ha W tk)) fun σ H Q ⟨σd, G, q, w, sr, gr, h, cl, cw⟩ => ⟨σd, G, _, w, sr, gr, h, fun v d H1 G1 t1 gr1 r1 ⟨k, e, h1⟩ => by
    subst e
    exact ⟨k, r1.bl_inv, cl _ _ _ _ t1 gr1 (.bl _) h1⟩, cw⟩
def dIfE (t : TTd) (ta tb : TEd) : TEd := fun w σ G Q => t w σ G fun k G1 => Br k (ta w σ G1 Q) (tb w σ G1 Q)
theorem de_ifExp (hc : DT X c tA) (ha : DE X a ta) (hb : DE X b tb) : DE X (.IfExp c a b pos) (dIfE tA ta tb) := fun W tk =>
  PEi (pe_ifExp (hc W tk) (ha W tk) (hb W tk)) fun σ H Q ⟨σd, G, q, w, sr, gr, h, cl, cw⟩ => ⟨σd, G, _, w, sr, gr, h, fun k H1 G1 t1 gr1 h1 =>
    h1.ite (fun h2 => ⟨σd, G1, q, w, sr.mono t1, gr1, h2, cl.mono t1, cw.mono t1⟩) fun h2 => ⟨σd, G1, q, w, sr.mono t1, gr1, h2, cl.mono t1, cw.mono t1⟩, cw⟩
/-! ## arguments, displays -/
def dNil : TAd := fun _ _ G Q => Q [] G
def dCons (te : TEd) (t : TAd) : TAd := fun w σ G Q => te w σ G fun x G1 => t w σ G1 fun xs G2 => Q (x :: xs) G2
def plainE : Expr → Bool
  | .Starred .. => false
  | .ListComp .. => false
  | .SetComp .. => false
  | .DictComp .. => false
  | .Slice .. => false
  | _ => true
def unstarE : Expr → Bool
  | .Starred .. => false
  | _ => true
theorem star_ok {env : Env} (h : unstarE e = true) : starEach (e :: es) env = (false, eval e env) :: starEach es env := by
  cases e <;> first | rfl | cases h
theorem da_nil : DA X [] dNil := fun W tk => PAi pa_nil fun σ H Q ⟨σd, G, q, w, sr, gr, h, cl, cw⟩ => cl _ _ _ _ Tm.refl gr .nil h
theorem da_cons (ha : DE X e te) (hr : DA X es tes) (hs : unstarE e = true) : DA X (e :: es) (dCons te tes) := fun W tk =>
  PAi (pa_cons (ha W tk) (hr W tk) (star_ok hs)) fun σ H Q ⟨σd, G, q, w, sr, gr, h, cl, cw⟩ => ⟨σd, G, _, w, sr, gr, h, fun v d H1 G1 t1 gr1 r1 h1 =>
    ⟨σd, G1, _, w, sr.mono t1, gr1, h1, fun vs ds H2 G2 t2 gr2 r2 h2 => cl _ _ _ _ (t1.trans t2) gr2 (.cons (r1.mono t2) r2) h2, cw.mono t1⟩, cw⟩
end
end S
set_option Elab.async false
set_option linter.all false
set_option maxRecDepth 100000
set_option maxHeartbeats 4000000
namespace S
open PySem PySem.Spec L2
open PyProof.Rows hiding St
/-! ## the heap in V and in D -/
section
variable {K : Kt} {H H' : Hp} {G : Hd} {a p : Addr}
def Solid : HO → Prop
  | .tup _ => True
  | .frz _ _ => True
  | _ => False
theorem Tm.put {o : HO} (h : ∀ u, H a = some u → ¬ Solid u) : Tm K H (upd H a o) where
  t := fun b vs q => by
    rcases q with q | q
    · refine .inl ?_
      rcases q with q | ⟨ob, q⟩
      · exact .inl (by rw [upd_ne (fun e : b = a => h (.tup vs) (e ▸ q) trivial)]; exact q)
      · exact .inr ⟨ob, by rw [upd_ne (fun e : b = a => h (.frz ob (.tup vs)) (e ▸ q) trivial)]; exact q⟩
    · exact .inr q
  l := fun b vs q => by
    rcases q with ⟨ob, q⟩ | q
    · exact .inl ⟨ob, by rw [upd_ne (fun e : b = a => h (.frz ob (.lst vs)) (e ▸ q) trivial)]; exact q⟩
    · exact .inr q
theorem Tm.new {o : HO} (h : H p = none) : Tm K H (upd H p o) := Tm.put fun u q => by rw [h] at q; cases q
theorem KvR.mono (t : Tm K H H') : ∀ {r : List (D × D)} {s : List (Key × V)}, KvR K H r s → KvR K H' r s
  | _, _, .nil => .nil
  | _, _, .cons h q => .cons (h.mono t) (KvR.mono t q)
theorem DitR.mono (t : Tm K H H') : ∀ {r : List (D × D)} {s : List (NestedKey × Addr × Value)}, DitR K H r s → DitR K H' r s
  | _, _, .nil => .nil
  | _, _, .cons h1 h2 h3 h4 h5 q => .cons h1 h2 (h3.mono t) (h4.mono t) h5 (DitR.mono t q)
theorem DikR.mono (t : Tm K H H') : ∀ {r : List (Int × D)} {s : List (Int × Value)}, DikR K H r s → DikR K H' r s
  | _, _, .nil => .nil
  | _, _, .cons h1 h2 q => .cons (h1.mono t) h2 (DikR.mono t q)
theorem RpO.mono (t : Tm K H H') : ∀ {x : Option D} {y : Option V}, RpO K H x y → RpO K H' x y
  | some _, some _, h => Rp.mono t h
  | none, none, _ => trivial
  | some _, none, h => False.elim h
  | none, some _, h => False.elim h
theorem GOk.mono {o : GO} (t : Tm K H H') (h : H' a = H a) (g : GOk K H a o) : GOk K H' a o := by
  cases o with
  | lst xs => obtain ⟨vs, e, r⟩ := g; exact ⟨vs, h.trans e, r.mono t⟩
  | rol xs => obtain ⟨o, vs, e, r⟩ := g; exact ⟨o, vs, h.trans e, r.mono t⟩
  | dic xs => obtain ⟨vs, e, r⟩ := g; exact ⟨vs, h.trans e, r.mono t⟩
  | dit xs ep => obtain ⟨vs, e, r⟩ := g; exact ⟨vs, h.trans e, r.mono t⟩
  | dik xs ep => obtain ⟨vs, e, r⟩ := g; exact ⟨vs, h.trans e, r.mono t⟩
  | obj c fs => obtain ⟨dx, fv, e, n, s, r⟩ := g; exact ⟨dx, fv, h.trans e, n, s, fun i f q => (r i f q).mono t⟩
theorem GOk.there {o : GO} (g : GOk K H a o) : H a ≠ none := by
  cases o with
  | lst xs => obtain ⟨vs, e, r⟩ := g; rw [e]; simp
  | rol xs => obtain ⟨o, vs, e, r⟩ := g; rw [e]; simp
  | dic xs => obtain ⟨vs, e, r⟩ := g; rw [e]; simp
  | dit xs ep => obtain ⟨vs, e, r⟩ := g; rw [e]; simp
  | dik xs ep => obtain ⟨vs, e, r⟩ := g; rw [e]; simp
  | obj c fs => obtain ⟨dx, fv, e, n, s, r⟩ := g; rw [e]; simp
theorem GR.free (g : GR K G H) (h : H p = none) : G p = none := by
  cases q : G p with
  | none => rfl
  | some o => exact absurd h (g p o q).there
/-- an object that G doesn't tell may come -/
theorem GR.keep {o : HO} (g : GR K G H) (h : H p = none) : GR K G (upd H p o) := fun b u q =>
  (g b u q).mono (Tm.new h) (upd_ne fun e => (g b u q).there (e ▸ h))
theorem GR.new {o : HO} {u : GO} (g : GR K G H) (h : H p = none) (k : GOk K (upd H p o) p u) : GR K (st G p u) (upd H p o) := fun b v q => by
  by_cases e : b = p
  · subst e; rw [st_same] at q; cases q; exact k
  · rw [st_ne e] at q; exact g.keep h b v q
theorem GR.set {o : HO} {u : GO} (g : GR K G H) (t : Tm K H (upd H a o)) (k : GOk K (upd H a o) a u) : GR K (st G a u) (upd H a o) := fun b v q => by
  by_cases e : b = a
  · subst e; rw [st_same] at q; cases q; exact k
  · rw [st_ne e] at q; exact (g b v q).mono t (upd_ne e)
theorem GR.lst {xs : List D} (g : GR K G H) (h : G a = some (.lst xs)) : ∃ vs, H a = some (.lst vs) ∧ Rps K H xs vs := g a _ h
theorem Tm.lst {vs vs' : List V} (h : H a = some (.lst vs)) : Tm K H (upd H a (.lst vs')) := Tm.put fun u q => by rw [h] at q; cases q; exact fun z => z
end
section
variable {X : Cx} {a b c e : Expr} {es : List Expr} {ta tb tc te : TEd} {tA tB : TTd} {tes : TAd} {pos : Pos}
/-! ## displays -/
def dTup (t : TAd) : TEd := fun w σ G Q => t w σ G fun xs G1 => xs.length ≤ sizeLine ∧ Q (.tup xs) G1
def dLst (t : TAd) : TEd := fun w σ G Q => t w σ G fun xs G1 => xs.length ≤ sizeLine ∧ ∀ p, G1 p = none → Q (.ref p) (st G1 p (.lst xs))
theorem de_tup {x1} (h : DA X es tes) : DE X (.Tuple es x1 pos) (dTup tes) := fun W tk =>
  PEi (pe_tup (h W tk)) fun σ H Q ⟨σd, G, q, w, sr, gr, h, cl, cw⟩ => ⟨σd, G, _, w, sr, gr, h, fun vs ds H1 G1 t1 gr1 r1 ⟨hl, h1⟩ =>
    ⟨by rw [← r1.length]; exact hl, fun p hp => cl _ _ _ _ (t1.trans (Tm.new hp)) (gr1.keep hp) (.tup (.inl (.inl upd_same)) (r1.mono (Tm.new hp))) h1⟩, cw⟩
theorem de_lst (h : DA X es tes) : DE X (.List es pos) (dLst tes) := fun W tk =>
  PEi (pe_lst (h W tk)) fun σ H Q ⟨σd, G, q, w, sr, gr, h, cl, cw⟩ => ⟨σd, G, _, w, sr, gr, h, fun vs ds H1 G1 t1 gr1 r1 ⟨hl, h1⟩ =>
    ⟨by rw [← r1.length]; exact hl, fun p hp => cl _ _ _ _ (t1.trans (Tm.new hp)) (gr1.new (u := .lst ds) hp ⟨_, upd_same, r1.mono (Tm.new hp)⟩) (.ref p) (h1 p (gr1.free hp))⟩, cw⟩
/-! ## statements -/
variable {s : Stmt} {ss : List Stmt} {t u : TSd}
def dNext : TSd := fun _ E σ G => E.nx σ G
def dSeq (t u : TSd) : TSd := fun w E σ G => t w { E with nx := u w E } σ G
theorem ds_nil : DSs X [] dNext := fun W tk => PSsi pss_nil fun E σ H ⟨σd, G, e, w, sr, gr, h, cl, cw⟩ => cl.nx _ _ _ _ Tm.refl sr gr h
theorem ds_cons (h1 : DS X s t) (h2 : DSs X ss u) : DSs X (s :: ss) (dSeq t u) := fun W tk =>
  PSsi (pss_cons (h1 W tk) (h2 W tk)) fun E σ H ⟨σd, G, e, w, sr, gr, h, cl, cw⟩ => ⟨σd, G, _, w, sr, gr, h,
    ⟨fun σ1 σ2 H1 G1 t1 sr1 gr1 h1 => ⟨σ1, G1, e, w, sr1, gr1, h1, cl.mono t1, cw.mono t1⟩, cl.rt, cl.bk, cl.ct⟩, cw⟩
theorem ds_one (h1 : DS X s t) : DSs X [s] t := fun W tk => pss_one (h1 W tk)
def dBreak : TSd := fun _ E σ G => E.bk σ G
def dCont : TSd := fun _ E σ G => E.ct σ G
theorem ds_pass : DS X (.Pass pos) dNext := fun W tk => PSi ps_pass fun E σ H ⟨σd, G, e, w, sr, gr, h, cl, cw⟩ => cl.nx _ _ _ _ Tm.refl sr gr h
theorem ds_break : DS X (.Break pos) dBreak := fun W tk => PSi ps_break fun E σ H ⟨σd, G, e, w, sr, gr, h, cl, cw⟩ => cl.bk _ _ _ _ Tm.refl sr gr h
theorem ds_continue : DS X (.Continue pos) dCont := fun W tk => PSi ps_continue fun E σ H ⟨σd, G, e, w, sr, gr, h, cl, cw⟩ => cl.ct _ _ _ _ Tm.refl sr gr h
def dDrop (te : TEd) : TSd := fun w E σ G => te w σ G fun _ G1 => E.nx σ G1
def dRet (te : TEd) : TSd := fun w E σ G => te w σ G E.rt
def dRetN : TSd := fun _ E _ G => E.rt .non G
theorem swaps_ok {env : Env} {tg : Option Expr} {n : Nat} (h : plainE e = true) : swapsWith e tg n env = pure false := by
  cases e <;> first | rfl | cases h
theorem ds_expr (he : DE X e te) (h : plainE e = true) : DS X (.Expr e pos) (dDrop te) := fun W tk =>
  PSi (ps_expr (he W tk) (swaps_ok h)) fun E σ H ⟨σd, G, e, w, sr, gr, h, cl, cw⟩ => ⟨σd, G, _, w, sr, gr, h, fun v d H1 G1 t1 gr1 r1 h1 => cl.nx _ _ _ _ t1 (sr.mono t1) gr1 h1, cw⟩
theorem ds_ret (he : DE X e te) : DS X (.Return (some e) pos) (dRet te) := fun W tk =>
  PSi (ps_ret (he W tk)) fun E σ H ⟨σd, G, e, w, sr, gr, h, cl, cw⟩ => ⟨σd, G, _, w, sr, gr, h, cl.rt, cw⟩
theorem ds_retN : DS X (.Return none pos) dRetN := fun W tk => PSi ps_retN fun E σ H ⟨σd, G, e, w, sr, gr, h, cl, cw⟩ => cl.rt _ _ _ _ Tm.refl gr .non h
def dIf (c : TTd) (t u : TSd) : TSd := fun w E σ G => c w σ G fun k G1 => Br k (t w E σ G1) (u w E σ G1)
theorem ds_if {A B : List Stmt} (hc : DT X c tA) (ha : DSs X A t) (hb : DSs X B u) : DS X (.If c A B pos) (dIf tA t u) := fun W tk =>
  PSi (ps_if (hc W tk) (ha W tk) (hb W tk)) fun E σ H ⟨σd, G, e, w, sr, gr, h, cl, cw⟩ => ⟨σd, G, _, w, sr, gr, h, fun k H1 G1 t1 gr1 h1 =>
    h1.ite (fun h2 => ⟨σd, G1, e, w, sr.mono t1, gr1, h2, cl.mono t1, cw.mono t1⟩) fun h2 => ⟨σd, G1, e, w, sr.mono t1, gr1, h2, cl.mono t1, cw.mono t1⟩, cw⟩
/-! targets -/
def dgName (i : Nat) : TGd := fun _ d σ G Q => Q (σ.set i (some d)) G
theorem dg_name {i : Nat} {x : Str} (hN : X.N.Nodup) (hi : X.N[i]? = some x) (hx : Loc X.env.scope x) (hf : X.fn x = true ∨ X.env.scope.names.lookup x = some .local) : DG X (.Name x pos) [i] (dgName i) := fun W tk =>
  PGi (pg_name hN hi hx hf) fun v σ H Q ⟨d, σd, G, q, w, r, sr, gr, h, cl, cw⟩ => cl _ _ _ _ Tm.refl Ag.set (sr.set i r) gr h
def dgNil : TGsd := fun _ ds σ G Q => match ds with
  | [] => Q σ G
  | _ => False
def dgCons (t : TGd) (u : TGsd) : TGsd := fun w ds σ G Q => match ds with
  | d :: r => t w d σ G fun σ1 G1 => u w r σ1 G1 Q
  | [] => False
theorem dgs_nil : DGs X [] [] dgNil := fun W tk => PGsi pgs_nil fun vs σ H Q ⟨ds, σd, G, q, w, r, sr, gr, h, cl, cw⟩ => by
  cases r with
  | nil => exact ⟨rfl, cl _ _ _ _ Tm.refl Ag.refl sr gr h⟩
  | cons _ _ => exact False.elim h
theorem CG.weak {K : Kt} {H : Hp} {sl sl' : List Nat} {σ : St} {Q : St → Hp → Prop} {q : Sd → Hd → Prop} (h : ∀ j, j ∈ sl' → j ∈ sl) (c : CG K H sl σ Q q) : CG K H sl' σ Q q :=
  fun a b x y m n => c a b x y m ⟨n.1, fun j hj => n.2 j fun z => hj (h j z)⟩
theorem dgs_cons {sl sl' : List Nat} {tg : TGd} {us : TGsd} (h1 : DG X e sl tg) (h2 : DGs X es sl' us) (hs : (assignEach (e :: es) X.env).map (·.2) = assign e X.env :: (assignEach es X.env).map (·.2)) : DGs X (e :: es) (sl ++ sl') (dgCons tg us) := fun W tk =>
  PGsi (pgs_cons (h1 W tk) (h2 W tk) hs) fun vs σ H Q ⟨ds, σd, G, q, w, r, sr, gr, h, cl, cw⟩ => by
    cases r with
    | nil => exact False.elim h
    | cons r0 r => exact ⟨_, _, rfl, _, σd, G, _, w, r0, sr, gr, h, fun σ1 σ2 H1 G1 t1 ag sr1 gr1 h1 => ⟨_, σ1, G1, q, w, r.mono t1, sr1, gr1, h1,
        fun σ3 σ4 H2 G2 t2 ag2 sr2 gr2 h2 => cl _ _ _ _ (t1.trans t2) (ag.trans ag2) sr2 gr2 h2, cw.mono t1⟩, cw⟩
def dgTup (n : Nat) (t : TGsd) : TGd := fun w d σ G Q => match d with
  | .tup xs => xs.length = n ∧ t w xs σ G Q
  | .ref a => ∃ xs, (G a = some (.lst xs) ∨ G a = some (.rol xs)) ∧ xs.length = n ∧ t w xs σ G Q
  | _ => False
/-- a, b, .. = a tuple or a list of that length -/
theorem pg_tl {X : Cx} {pos : Pos} {es : List Expr} {k : Nat} {t : TGs} {n : Nat} (hc : X.calm = true) (h : PGs X es t) (hn : (assignEach es X.env).length = n) (hst : (assignEach es X.env).findIdx? (·.1) = none) : PG X (.Tuple es k pos) (fun v σ H Q => gTup X.K n t v σ H Q ∨ gLst X.K n t v σ H Q) :=
  ⟨fun pins s σ H v u Q I r hw => hw.elim (fun q => (pg_tup hc h hn hst).run pins s σ H v u Q I r q) fun q => (pg_lst hc h hn hst).run pins s σ H v u Q I r q⟩
theorem dg_tup {k n : Nat} {sl : List Nat} {us : TGsd} (hc : X.calm = true) (h : DGs X es sl us) (hn : (assignEach es X.env).length = n) (hst : (assignEach es X.env).findIdx? (·.1) = none) : DG X (.Tuple es k pos) sl (dgTup n us) := fun W tk =>
  PGi (pg_tl hc (h W tk) hn hst) fun v σ H Q ⟨d, σd, G, q, w, r, sr, gr, h, cl, cw⟩ => by
    cases d with
    | tup xs =>
      obtain ⟨a, vs, rfl, sq, rs⟩ := r.tup_inv
      exact .inl ⟨a, vs, rfl, sq, by rw [← rs.length]; exact h.1, xs, σd, G, q, w, rs, sr, gr, h.2, cl, cw⟩
    | ref a =>
      cases r
      obtain ⟨xs, e, hl, h⟩ := h
      rcases e with e | e
      · obtain ⟨vs, hv, rs⟩ := gr _ _ e
        exact .inr ⟨a, vs, rfl, .inl (.inl hv), by rw [← rs.length]; exact hl, xs, σd, G, q, w, rs, sr, gr, h, cl, cw⟩
      · obtain ⟨o, vs, hv, rs⟩ := gr _ _ e
        exact .inr ⟨a, vs, rfl, .inl (.inr ⟨o, hv⟩), by rw [← rs.length]; exact hl, xs, σd, G, q, w, rs, sr, gr, h, cl, cw⟩
    | _ => exact False.elim h
/-- o[i] = v, by values -/
def lift3 (K : Kt) (r : D → D → D → Hd → (Hd → Prop) → Prop) : TSet := fun o i v H Q => ∃ d1 d2 d3 G q, Rp K H d1 o ∧ Rp K H d2 i ∧ Rp K H d3 v ∧ GR K G H ∧ r d1 d2 d3 G q ∧ ∀ H' G', Tm K H H' → GR K G' H' → q G' → Q H'
def dgSub (to ti : TEd) (r : D → D → D → Hd → (Hd → Prop) → Prop) : TGd := fun w v σ G Q => to w σ G fun o G1 => ti w σ G1 fun i G2 => r o i v G2 fun G3 => Q σ G3
def dAsg (te : TEd) (g : TGd) : TSd := fun w E σ G => te w σ G fun x G1 => g w x σ G1 E.nx
theorem ds_set {i : Nat} {x : Str} {pos' : Pos} (hN : X.N.Nodup) (hi : X.N[i]? = some x) (hx : Loc X.env.scope x) (hf : X.fn x = true ∨ X.env.scope.names.lookup x = some .local) (he : DE X e te) (hs : swapsWith e (some (.Name x pos')) pos.line X.env = pure false) :
    DS X (.Assign [.Name x pos'] e pos) (dAsg te (dgName i)) := fun W tk =>
  PSi (ps_set hN hi hx (he W tk) hs hf) fun E σ H ⟨σd, G, e, w, sr, gr, h, cl, cw⟩ => ⟨σd, G, _, w, sr, gr, h, fun v d H1 G1 t1 gr1 r1 h1 => cl.nx _ _ _ _ t1 ((sr.mono t1).set i r1) gr1 h1, cw⟩
theorem ds_asg {tg : Expr} {sl : List Nat} {g : TGd} (he : DE X e te) (hg : DG X tg sl g) (hs : swapsWithSole [tg] e pos.line X.env = pure false) (hw : swappedStores [tg] e X.env = pure none)
    (h1 : (assignEach [tg] X.env).map (·.2) = [assign tg X.env]) : DS X (.Assign [tg] e pos) (dAsg te g) := fun W tk =>
  PSi (ps_asg (he W tk) (hg W tk) hs hw h1) fun E σ H ⟨σd, G, e, w, sr, gr, h, cl, cw⟩ => ⟨σd, G, _, w, sr, gr, h, fun v d H1 G1 t1 gr1 r1 h1 =>
    ⟨d, σd, G1, _, w, r1, sr.mono t1, gr1, h1, fun σ1 σ2 H2 G2 t2 ag sr2 gr2 h2 => cl.nx _ _ _ _ (t1.trans t2) sr2 gr2 h2, cw.mono t1⟩, cw⟩
/-- two local names at once -/
def dPar (i j : Nat) (t : TAd) : TSd := fun w E σ G => t w σ G fun ds G1 => match ds with
  | [x, y] => E.nx ((σ.set i (some x)).set j (some y)) G1
  | _ => False
theorem ds_par {i j : Nat} {x y : Str} {px py pt : Pos} {kt k2 pt2} (hc : X.calm = true) (hN : X.N.Nodup) (hi : X.N[i]? = some x) (hj : X.N[j]? = some y) (hij : i ≠ j)
    (hx : X.env.scope.names.lookup x = some .local) (hy : X.env.scope.names.lookup y = some .local) (ha : DA X [a, b] tes)
    (hw : swappedStores [.Tuple [.Name x px, .Name y py] kt pt] (.Tuple [a, b] k2 pt2) X.env = pure (some [x, y])) :
    DS X (.Assign [.Tuple [.Name x px, .Name y py] kt pt] (.Tuple [a, b] k2 pt2) pos) (dPar i j tes) := fun W tk =>
  PSi (ps_par hc hN hi hj hij hx hy (ha W tk) hw) fun E σ H ⟨σd, G, e, w, sr, gr, h, cl, cw⟩ => ⟨σd, G, _, w, sr, gr, h, fun vs ds H1 G1 t1 gr1 r1 h1 => by
    cases r1 with
    | nil => exact False.elim h1
    | cons r1 rs =>
      cases rs with
      | nil => exact False.elim h1
      | cons r2 rs =>
        cases rs with
        | cons _ _ => exact False.elim h1
        | nil => exact ⟨_, _, rfl, cl.nx _ _ _ _ t1 (((sr.mono t1).set i r1).set j r2) gr1 h1⟩, cw⟩
/-! in place -/
def dAug (i : Nat) (te : TEd) (r : D → D → Hd → Qd → Prop) : TSd := fun w E σ G => ∃ x, σ[i]? = some (some x) ∧ te w σ G fun y G1 => r x y G1 fun z G2 => E.nx (σ.set i (some z)) G2
theorem ds_aug {i : Nat} {x : Str} {op : Operator} {r : D → D → Hd → Qd → Prop} {pos' : Pos} (hN : X.N.Nodup) (hi : X.N[i]? = some x) (hx : Loc X.env.scope x) (hf : X.fn x = true ∨ X.env.scope.names.lookup x = some .local) (he : DE X e te) (ho : PIp X op (lift2 (kt X) r)) :
    DS X (.AugAssign (.Name x pos') op e pos) (dAug i te r) := fun W tk =>
  PSi (ps_aug hN hi hx (he W tk) ho hf) fun E σ H ⟨σd, G, e, w, sr, gr, ⟨d, ed, h⟩, cl, cw⟩ => by
    obtain ⟨v, ev, rv⟩ := sr.at_ i d ed
    exact ⟨v, ev, σd, G, _, w, sr, gr, h, fun v2 d2 H1 G1 t1 gr1 r1 h1 => ⟨d, d2, G1, _, rv.mono t1, r1, gr1, h1, fun v3 d3 H2 G2 t2 gr2 r2 h2 => cl.nx _ _ _ _ (t1.trans t2) ((sr.mono (t1.trans t2)).set i r2) gr2 h2⟩, cw⟩
end
end S
set_option Elab.async false
set_option linter.all false
set_option maxRecDepth 100000
set_option maxHeartbeats 4000000
namespace S
open PySem PySem.Spec L2
open PyProof.Rows hiding St
/-! ## promises that hold where no guard runs (so that what repr tells is known) -/
structure Rm (k : Nat) (A : Around) : Prop where
  r : Room k A
  g : A.guards = some []
theorem Rm.mono {j k : Nat} {A : Around} (h : Rm k A) (l : j ≤ k) : Rm j A := ⟨h.r.mono l, h.g⟩
theorem Rm.deeper {k : Nat} {A : Around} (h : Rm (k + 1) A) (env : Env) : Rm k (A.deeper env) := ⟨h.r.deeper env, h.g⟩
theorem Rm.make {k : Nat} {A : Around} (h : Rm (k + 1) A) (C : Addr) (us : List Value) (kw : List (Str × Value)) : Rm k (A.under (.builtin "type.__call__" ⟨.ref C :: us, kw⟩)) :=
  ⟨h.r.make C us kw, by have := h.g; simp [Around.under, Code.guards, Code.isGuard, guardIds, pushGuards, this]⟩
/-- a def's promise -/
structure FnG (P : Program) (w : World) (K : PySem.W.Frag) (mg : Str → Option Value) (base : Heap) (CX : CXT) (k : Nat) (f : Addr) (fd : FuncData) (ps : List Str) (sp : Sp) : Prop where
  len : ∀ vs H Q E, sp vs H Q E → vs.length = ps.length
  run : ∀ (A : Around) (fr : List Env) (s : Shared) (H : Hp) (as : Args) (us : List Value) (vs : List V) (Q : VK) (E : XK), Rm k A →
    Env0 P w K mg base A fr s H → BindsTo s fd as (ps.zip us) → Vals vs us → sp vs H Q E → codeAny (model P w) A (.call (.ref f) as) (CR CX fr P w H s Q E) s
section
variable {P : Program} {w : World} {K : PySem.W.Frag} {mg : Str → Option Value} {base : Heap} {CX : CXT} {f : Addr} {fd : FuncData} {ps : List Str} {sp : Sp}
theorem FnG.mono {j k : Nat} (F : FnG P w K mg base CX j f fd ps sp) (l : j ≤ k) : FnG P w K mg base CX k f fd ps sp :=
  ⟨F.len, fun A fr s H as us vs Q E h => F.run A fr s H as us vs Q E (h.mono l)⟩
theorem funG_ok {x qual : Str} {params : Arguments} {body : List Stmt} {scope : Scope} {dvs : List V} {kws : List (Str × V)} {N : List Str} {k : Nat} (F : FunD K x qual params body scope dvs kws f fd) (S : FnScope N ps scope)
    (len : ∀ vs H Q E, sp vs H Q E → vs.length = ps.length)
    (hb : ∀ (cd : Value) (A : Around) (fr : List Env) (s : Shared) (H : Hp) (vs : List V) (Q : VK) (E : XK), Rm k (A.deeper (envOfC qual scope s.heap.objs.size f cd)) → sp vs H Q E →
      ∃ t, PSs (cxOf CX P w K mg base N qual scope f cd A fr s H E) body t ∧ t { nx := fun _ G => Q .non G, rt := Q } (start N vs) H) : FnG P w K mg base CX (k + 1) f fd ps sp := by
  obtain ⟨oc, od, dV, kV, doc, pm, an, cd, ct, osl, rfl, hf, hcd, -, -⟩ := F.ex
  refine ⟨len, fun A fr s H as us vs Q E rm e0 bi rv hs => ?_⟩
  have ll := len vs H Q E hs
  have kin : K.In s.heap := e0.mod.kin.keeps fun b o q => (e0.bs b o q).1
  have nol : s.heap.NoLimit := e0.mod.nolimit.keeps fun b o q => (e0.bs b o q).1
  have par : ∀ y ∈ ps.zip us, scope.names.lookup y.1 = some .local ∨ (scope.names.lookup y.1 = some .cell ∧ ((cellsFrom (s.heap.objs.size + 1) scope.names []).lookup y.1).isSome = true) := by
    rintro ⟨n, v⟩ my
    exact (S.par n (List.of_mem_zip my).1).imp id fun q => ⟨q, PySem.W.cellsFrom_some _ _ _ (.inl q)⟩
  refine codeAny_call_function rm.r.depth (kin _ _ hf) rfl S.co S.gen rfl (PySem.W.codeRec_of kin hcd) (bi _ _ _ _ (wpAny_newFunctionEnv_cells S.kind par fun env en s1 ic => ?_))
  subst en
  obtain ⟨t, ht, hq⟩ := hb cd A fr s H vs Q E (rm.deeper _) hs
  have I := inv_start (CX := CX) (E := E) (cd := cd) (f := f) (qual := qual) S rm.r.hd e0 ll rv ic
  refine ⟨nol.keeps ic.toInCall.keep, codeAny_func (wpAny_mono (ht.run [] s1 (start N vs) H _ I hq) (fun fl s2 hz => ?_) fun _ _ hz => hz)⟩
  have out : ∀ {σ2 : St} {G : Hp} {v : V} {u : Value}, Inv (cxOf CX P w K mg base N qual scope f cd A fr s H E) [] σ2 G s2 → RelV v u → Q v G → CE fr P w H s Q u s2 :=
    fun J q1 q2 => ⟨_, _, J.os, J.bare, J.base, J.hok, q1, q2⟩
  cases fl with
  | ret u => obtain ⟨v, σ2, G, J, q1, q2⟩ := hz; exact out J q1 q2
  | next => obtain ⟨σ2, G, J, q2⟩ := hz; exact out (v := V.non) (u := Value.none) J rfl q2
  | brk => obtain ⟨_, _, _, q2⟩ := hz; exact q2.elim
  | cont => obtain ⟨_, _, _, q2⟩ := hz; exact q2.elim
end
section
variable {X : Cx} {CX : CXT} {k : Nat} {f : Addr} {fd : FuncData} {ps : List Str} {sp : Sp} {E : St → XK} {x : Str} {p pos : Pos} {e : Expr} {es : List Expr} {t : TA}
theorem run_G {pins : List (Addr × Obj)} {σ : St} {H : Hp} {s : Shared} {Q : VK} {us : List Value} {vs : List V} (F : FnG X.prog X.w X.K X.mg X.base CX k f fd ps sp) (rm : Rm k X.A) (bd : Binds X.K fd ps []) (pa : PassesAt CX X σ (E σ))
    (I : Inv X pins σ H s) (rv : Vals vs us) (q : sp vs H Q (E σ)) : wpAny (model X.prog X.w) X.A (call (.ref f) us) (EP X pins σ Q) X.xe s := by
  have b := bd s us I.kIn (by rw [List.append_nil, ← rv.length]; exact F.len _ _ _ _ q)
  rw [List.append_nil] at b
  refine wpAny_call (codeAny_mono (F.run _ _ _ _ ⟨us, []⟩ us vs Q (E σ) rm I.env0 b rv q) ?_)
  intro r s2 z
  match r, z with
  | .error e, z => exact pa _ _ _ _ _ I z
  | .ok (.ret u), z => exact I.after z
theorem pe_callG (F : FnG X.prog X.w X.K X.mg X.base CX k f fd ps sp) (rm : Rm k X.A) (gl : Gl X x) (hm : X.mg x = some (.ref f)) (hk : PySem.W.keepIn X.K (.ref f) = true) (bd : Binds X.K fd ps []) (pa : ∀ σ, PassesAt CX X σ (E σ))
    (ha : PA X (e :: es) t) (db : (x == ("__debug__" : Str)) = false) (h1 : starEach (e :: es) X.env = (false, eval e X.env) :: starEach es X.env) (h2 : (backTo pos (starEach es X.env)).any (·.1) = false) :
    PE X (.Call (.Name x p) (e :: es) [] pos) (tCallS sp E t) := ⟨fun pins s σ H Q I h => by
  refine wpAny_Call_Name_kw (ld_glob I gl hm (PySem.W.callWith_K (h₀ := X.base) I.ok.mod.kin hk (thn (ha.run pos pins s σ H _ I h) ?_) h1 h2) db)
  rintro us s1 ⟨vs, H1, I1, r, q⟩
  exact ⟨I1.kIn, run_G F rm bd (pa σ) I1 r q⟩⟩
theorem pe_callG0 (F : FnG X.prog X.w X.K X.mg X.base CX k f fd ps sp) (rm : Rm k X.A) (gl : Gl X x) (hm : X.mg x = some (.ref f)) (hk : PySem.W.keepIn X.K (.ref f) = true) (bd : Binds X.K fd ps []) (pa : ∀ σ, PassesAt CX X σ (E σ)) (db : (x == ("__debug__" : Str)) = false) :
    PE X (.Call (.Name x p) [] [] pos) (tCallS sp E tNil) := ⟨fun pins s σ H Q I h => by
  refine wpAny_Call_Name_kw (ld_glob I gl hm ?_ db)
  exact PySem.W.callWith_K0 I.kIn hk (run_G (us := []) F rm bd (pa σ) I .nil h)⟩
end
/-! ## the law's call -/
theorem callerA_rm {k : Nat} (h : Room k callerA) : Rm k callerA := ⟨h, rfl⟩
theorem law_callG {P : Program} {w : World} {K : PySem.W.Frag} {mg mb : Str → Option Value} {CX : CXT} {k : Nat} {fa a : Addr} {fd : FuncData} {x : Str} {sp : Sp} {s : Shared} {vs : List Value} {ns : List Int}
    (kin : K.In s.heap) (hmg : s.heap.Ns mainGlobals mg) (hmb : s.heap.Ns builtinsNs mb) (hbt : ∀ x : Str, x ≠ "__name__" → mb x = bootBuiltins x) (nol : s.heap.NoLimit) (gn : s.gens = #[])
    (ea : s.heap.get? a = some { cls := .type "list", data := .seq vs.toArray }) (is : IntsAre vs ns) (ln : ns.length ≤ sizeLine) (rm : Rm k callerA)
    (F : ∀ base : Heap, K.In base → base.Ns mainGlobals mg → FnG P w K mg base CX k fa fd [x] sp) (bd : ∀ (s : Shared) (u : Value), BindsTo s fd ⟨[u], []⟩ [(x, u)])
    (hs : ∀ H : Hp, Only H → SqL K H a (ns.map V.int) → sp [.ref a] H (fun v _ => v = .bl true) fun _ _ _ => False) (hx : ∀ H e s', CX [] H s (fun _ _ _ => False) e s' → False) :
    codeAny (model P w) callerA (.call (.ref fa) ⟨[.ref a], []⟩) (fun r s' => r = .ok (.ret (.bool true)) ∧ OldK s.heap s'.heap ∧ s'.os = s.os ∧ AllBare s'.gens) s := by
  have vi := vals_ints is
  have vl := is.length
  have go : ∀ H : Hp, Only H → SqL K H a (ns.map V.int) → HOk P w H s.heap → (∀ b, H b ≠ none → b = a ∧ K.lookup a = none) →
      codeAny (model P w) callerA (.call (.ref fa) ⟨[.ref a], []⟩) (fun r s' => r = .ok (.ret (.bool true)) ∧ OldK s.heap s'.heap ∧ s'.os = s.os ∧ AllBare s'.gens) s := by
    intro H on sq hk ob
    have free : ∀ {b : Addr} {o : Obj}, s.heap.get? b = some o → (b = a → K.lookup a ≠ none ∨ ∀ (vs : Array Value) n, o.data ≠ .seq vs n) → H b = none := by
      intro b o e n
      by_cases q : H b = none
      · exact q
      · obtain ⟨rfl, kn⟩ := ob b q
        rcases n rfl with z | z
        · exact absurd kn z
        · rw [ea] at e
          cases e
          exact absurd rfl (z vs.toArray 0)
    have ns_ : ∀ {b : Addr} {m : Str → Option Value}, s.heap.Ns b m → (hidT s.heap H).Ns b m := by
      rintro b m ⟨o, es, ep, e, d, r⟩
      exact ⟨o, es, ep, hidT_get e (free e fun _ => .inr fun vs n q => by rw [d] at q; cases q), d, r⟩
    have kb : K.In (hidT s.heap H) := fun b o e => hidT_get (kin b o e) (free (kin b o e) fun q => .inl fun z => by subst q; rw [z] at e; cases e)
    obtain ⟨mc, c1, c2⟩ := nol
    have e0 : Env0 P w K mg (hidT s.heap H) callerA [] s H :=
      ⟨rfl, ⟨kb, ns_ hmg, ⟨mb, ns_ hmb, hbt⟩, mc, ns_ c1, c2⟩, fun b o e => of_hidT e, Nat.le_of_eq (hidT_size _ _), trivial, fun b z => (by cases (show b ∈ ([] : List Addr) from z)), hk, .of_eq gn⟩
    refine codeAny_mono ((F _ kb (ns_ hmg)).run callerA [] s H ⟨[.ref a], []⟩ [.ref a] [.ref a] _ _ rm e0 (bd s (.ref a)) (.cons rfl .nil) (hs H on sq)) ?_
    intro r s2 z
    match r, z with
    | .error e, z => exact (hx H e s2 z).elim
    | .ok (.ret u), z =>
      obtain ⟨v, H2, z1, z2, un, hk2, z3, z4⟩ := z
      cases (show v = .bl true from z4)
      obtain rfl : u = Value.bool true := z3
      refine ⟨rfl, OldK.of_keep fun b o e => ?_, z1, z2⟩
      cases q : H b with
      | none => exact un.keep b o e q (fun z => by cases (show b ∈ ([] : List Addr) from z)) (by simp)
      | some y =>
        rcases on b with z | ⟨oo, xs, z⟩
        · rw [z] at q; cases q
        · obtain ⟨y1, _⟩ := hk b _ z
          obtain ⟨y2, _⟩ := hk2 b _ (un.frzs b oo _ z)
          rw [y1] at e; cases e
          exact y2
  cases hl : K.lookup a with
  | some o =>
    have e := kin a o hl
    rw [ea] at e
    cases e
    exact go (fun _ => none) (fun _ => .inl rfl) (.inr ⟨_, vs.toArray, _, hl, rfl, rfl, rfl, by rw [List.size_toArray, vl]; exact ln, by simpa using vi⟩) (fun b u z => nomatch (show (none : Option HO) = some u from z)) fun b z => absurd rfl z
  | none =>
    refine go (fun b => if b = a then some (.frz { cls := .type "list", data := .seq vs.toArray } (.lst (ns.map V.int))) else none) (fun b => ?_) (.inl (.inr ⟨_, if_pos rfl⟩)) (fun b u z => ?_) fun b z => ⟨?_, hl⟩
    · exact (Classical.em (b = a)).elim (fun q => .inr ⟨_, _, if_pos q⟩) fun q => .inl (if_neg q)
    · by_cases q : b = a
      · subst q
        cases (if_pos rfl).symm.trans z
        exact ⟨ea, by rw [List.length_map]; exact ln, vs, _, vi, ea⟩
      · cases (if_neg q).symm.trans z
    · exact Classical.byContradiction fun q => z (if_neg q)
end S
set_option Elab.async false
set_option linter.all false
set_option maxRecDepth 100000
set_option maxHeartbeats 4000000
namespace S
open PySem PySem.Spec L2
open PyProof.Rows hiding St
/-! ## loops, comprehensions -/
abbrev TId := Wx → Sd → Hd → (List D → (Hd → Prop) → Hd → Prop) → Prop
def ItOk (K : Kt) (H1 : Hp) (J : It) (xs : List D) (stay : Hd → Prop) : Prop := ∀ i H G, Tm K H1 H → GR K G H → stay G →
  (i < xs.length → J.go i H ∧ ∀ x H', J.yld i H x H' → Tm K H H' ∧ GR K G H' ∧ ∃ d, xs[i]? = some d ∧ Rp K H' d x) ∧ (i = xs.length → J.stop i H)
def liftI (K : Kt) (W : WX) (t : TId) : TI := fun σ H R => ∃ σd G r w, SR K H σd σ ∧ GR K G H ∧ t w σd G r ∧
  (∀ J xs stay H1 G1, Tm K H H1 → GR K G1 H1 → ItOk K H1 J xs stay → r xs stay G1 → R J H1) ∧ CW K W H w
def DI (X : Cx) (tg e : Expr) (t : TId) : Prop := ∀ W, L2N.Takes X W → PI X tg e (liftI (kt X) W t)
def dFor (it : TId) (g : TGd) (body : TSd) : TSd := fun w E σ G => it w σ G fun xs stay G1 => ∃ Iv : Nat → Sd → Hd → Prop, Iv 0 σ G1 ∧ (∀ i σ G, Iv i σ G → stay G) ∧
  (∀ i x σ G, xs[i]? = some x → Iv i σ G → g w x σ G fun σ1 G2 => body w { nx := Iv (i + 1), rt := E.rt, bk := E.nx, ct := Iv (i + 1) } σ1 G2) ∧ ∀ σ G, Iv xs.length σ G → E.nx σ G
def wipeD (σ : Sd) : List Nat → Sd
  | [] => σ
  | v :: vs => (wipeD σ vs).set v none
def dLc (it : TId) (g : TGd) (tt : TTd) (te : TEd) (vs : List Nat) : TEd := fun w σ G Q => it w σ G fun xs stay G1 => ∀ p, G1 p = none → ∃ Iv : Nat → Hd → Prop, Iv 0 (st G1 p (.lst [])) ∧ (∀ i G, Iv i G → stay G) ∧
  (∀ i x G, xs[i]? = some x → Iv i G → g W0 x (wipeD σ vs) G fun σ2 G2 => tt W0 σ2 G2 fun k G3 => Br k (te W0 σ2 G3 fun y G4 => ∃ acc, G4 p = some (.lst acc) ∧ acc.length < sizeLine ∧ Iv (i + 1) (st G4 p (.lst (acc ++ [y])))) (Iv (i + 1) G3)) ∧
  ∀ G, Iv xs.length G → Q (.ref p) G
def dYes : TTd := fun _ _ G Q => Q true G
def dWhile (c : TTd) (body : TSd) : TSd := fun w E σ G => ∃ Iv : Nat → Sd → Hd → Prop, (∃ m, Iv m σ G) ∧ ∀ m σ G, Iv m σ G →
  c w σ G fun k G1 => Br k (∃ N : Sd → Hd → Prop, (∀ σ G, N σ G → ∃ m', m' < m ∧ Iv m' σ G) ∧ body w { nx := N, rt := E.rt, bk := E.nx, ct := N } σ G1) (E.nx σ G1)
theorem wipe_get (σ : St) : ∀ (vs : List Nat) (j : Nat), (wipe σ vs)[j]? = if j ∈ vs ∧ j < σ.length then some none else σ[j]?
  | [], j => by simp [wipe]
  | v :: vs, j => by
    have ih := wipe_get σ vs j
    have hl : (wipe σ vs).length = σ.length := wipe_length σ vs
    show ((wipe σ vs).set v none)[j]? = _
    by_cases hj : v = j
    · subst hj
      by_cases hb : v < σ.length
      · rw [List.getElem?_set_self (by rw [hl]; exact hb)]; simp [hb]
      · rw [List.getElem?_eq_none (by simp [hl]; omega), List.getElem?_eq_none (by omega)]; simp [hb]
    · rw [List.getElem?_set_ne hj, ih]
      have : j ≠ v := fun e => hj e.symm
      simp [this]
theorem SR.wipe {K : Kt} {H : Hp} {σd : Sd} {σ : St} (s : SR K H σd σ) : ∀ vs : List Nat, SR K H (wipeD σd vs) (wipe σ vs)
  | [] => s
  | v :: vs => by
    have ih := SR.wipe s vs
    refine ⟨by simp [wipeD, L2.wipe, ih.len], fun j d h => ?_⟩
    have h' : ((wipeD σd vs).set v none)[j]? = some (some d) := h
    show ∃ u, ((L2.wipe σ vs).set v none)[j]? = some (some u) ∧ _
    by_cases hj : v = j
    · subst hj
      have hl := (List.getElem?_eq_some_iff.mp h').1
      rw [List.getElem?_set_self (by simpa using hl)] at h'
      cases h'
    · rw [List.getElem?_set_ne hj] at h' ⊢
      exact ih.at_ j d h'
theorem Ag.wipe {sl vs : List Nat} {σ σ2 : St} (hs : ∀ j, j ∈ sl → j ∈ vs) (a : Ag sl (L2.wipe σ vs) σ2) : L2.wipe σ2 vs = L2.wipe σ vs := by
  have hl : σ2.length = σ.length := a.1.trans (wipe_length σ vs)
  refine List.ext_getElem? fun j => ?_
  rw [wipe_get, wipe_get]
  by_cases h : j ∈ vs ∧ j < σ.length
  · rw [if_pos h, if_pos ⟨h.1, by rw [hl]; exact h.2⟩]
  · rw [if_neg h, if_neg (by rw [hl]; exact h)]
    by_cases hj : j ∈ vs
    · have hn : ¬ j < σ.length := fun q => h ⟨hj, q⟩
      rw [List.getElem?_eq_none (by omega), List.getElem?_eq_none (by omega)]
    · rw [a.2 j fun z => hj (hs j z), wipe_get, if_neg h]
section
variable {X : Cx} {iter e : Expr} {body : List Stmt} {it : TId} {sl : List Nat} {g : TGd} {tb : TSd} {tg : Expr} {tt : TTd} {te : TEd} {pos : Pos}
theorem ds_for (hp : PassesOwn (model X.prog X.w) X.A X.env X.xe) (hc : X.calm = true) (hi : DI X tg iter it) (hg : DG X tg sl g) (hb : DSs X body tb) (hs : ∀ x, foldedSetIterable iter X.env x = pure x) : DS X (.For tg iter body [] pos) (dFor it g tb) := fun W tk =>
  PSi (ps_for hp hc (hi W tk) (hg W tk) (hb W tk) hs) fun E σ H ⟨σd, G, e, w, sr, gr, h, cl, cw⟩ => by
    refine ⟨σd, G, _, w, sr, gr, h, fun J xs stay H1 G1 t1 gr1 ok ⟨Iv, h0, hst, hturn, hend⟩ => ?_, cw⟩
    refine ⟨fun i m σ' H' => m = xs.length - i ∧ i ≤ xs.length ∧ ∃ σd' G', Tm (kt X) H1 H' ∧ SR (kt X) H' σd' σ' ∧ GR (kt X) G' H' ∧ Iv i σd' G', ⟨_, rfl, Nat.zero_le _, σd, G1, Tm.refl, sr.mono t1, gr1, h0⟩, ?_⟩
    rintro i m σ' H' ⟨rfl, hi, σd', G', t2, sr2, gr2, iv⟩
    obtain ⟨o1, o2⟩ := ok i H' G' t2 gr2 (hst _ _ _ iv)
    by_cases hlt : i < xs.length
    · obtain ⟨go, y⟩ := o1 hlt
      refine .inr ⟨go, fun σ'' H'' => i + 1 ≤ xs.length ∧ ∃ σd'' G'', Tm (kt X) H1 H'' ∧ SR (kt X) H'' σd'' σ'' ∧ GR (kt X) G'' H'' ∧ Iv (i + 1) σd'' G'', fun σ'' H'' ⟨_, z⟩ => ⟨xs.length - (i + 1), by omega, rfl, hlt, z⟩, fun x H2 yx => ?_⟩
      obtain ⟨t3, gr3, d, ed, rd⟩ := y x H2 yx
      have t13 : Tm (kt X) H H2 := (t1.trans t2).trans t3
      refine ⟨d, σd', G', _, w, rd, sr2.mono t3, gr3, hturn i d σd' G' ed iv, fun σ3d σ3 H3 G3 t4 ag sr4 gr4 h4 => ⟨σ3d, G3, _, w, sr4, gr4, h4, ?_, cw.mono (t13.trans t4)⟩, cw.mono t13⟩
      have t5 : Tm (kt X) H1 H3 := t2.trans (t3.trans t4)
      exact ⟨fun a b H5 G5 m5 s5 g5 q => ⟨hlt, a, G5, t5.trans m5, s5, g5, q⟩, fun v d H5 G5 m5 => cl.rt v d H5 G5 ((t13.trans t4).trans m5),
        fun a b H5 G5 m5 => cl.nx a b H5 G5 ((t13.trans t4).trans m5), fun a b H5 G5 m5 s5 g5 q => ⟨hlt, a, G5, t5.trans m5, s5, g5, q⟩⟩
    · have e1 : i = xs.length := by omega
      subst e1
      exact .inl ⟨o2 rfl, cl.nx _ _ _ _ (t1.trans t2) sr2 gr2 (hend _ _ iv)⟩
theorem ds_while {c : Expr} {tc : TTd} (hp : PassesOwn (model X.prog X.w) X.A X.env X.xe) (hc : DT X c tc) (hb : DSs X body tb) : DS X (.While c body [] pos) (dWhile tc tb) := fun W tk =>
  PSi (ps_while hp (hc W tk) (hb W tk)) fun E σ H ⟨σd, G, e, w, sr, gr, ⟨Iv, ⟨m0, h0⟩, hturn⟩, cl, cw⟩ => by
    refine ⟨fun m σ' H' => ∃ σd' G', Tm (kt X) H H' ∧ SR (kt X) H' σd' σ' ∧ GR (kt X) G' H' ∧ Iv m σd' G', ⟨m0, σd, G, Tm.refl, sr, gr, h0⟩, ?_⟩
    rintro m σ' H' ⟨σd', G', t1, sr1, gr1, iv⟩
    refine ⟨σd', G', _, w, sr1, gr1, hturn m σd' G' iv, fun k H2 G2 t2 gr2 h2 => h2.ite (fun ⟨N, hN, hbody⟩ => ?_) fun h3 => cl.nx _ _ _ _ (t1.trans t2) (sr1.mono t2) gr2 h3, cw.mono t1⟩
    have t12 := t1.trans t2
    refine ⟨fun σ3 H3 => ∃ σd3 G3, Tm (kt X) H H3 ∧ SR (kt X) H3 σd3 σ3 ∧ GR (kt X) G3 H3 ∧ N σd3 G3, fun σ3 H3 ⟨σd3, G3, t3, sr3, gr3, n3⟩ => let ⟨m', hm, hv⟩ := hN _ _ n3; ⟨m', hm, σd3, G3, t3, sr3, gr3, hv⟩, ?_⟩
    exact ⟨σd', G2, _, w, sr1.mono t2, gr2, hbody, ⟨fun a b H5 G5 m5 s5 g5 q => ⟨a, G5, t12.trans m5, s5, g5, q⟩, fun v d H5 G5 m5 => cl.rt v d H5 G5 (t12.trans m5), fun a b H5 G5 m5 => cl.nx a b H5 G5 (t12.trans m5),
      fun a b H5 G5 m5 s5 g5 q => ⟨a, G5, t12.trans m5, s5, g5, q⟩⟩, cw.mono t12⟩
abbrev Blk (X : Cx) (scope : Scope) (s : Shared) (H : Hp) (C : Addr) (cl : List (Str × Addr)) (fp : List Addr) : Cx := X.blk s H scope (compEnvC scope cl C X.env) fp
theorem blk_takes {scope : Scope} {s : Shared} {H : Hp} {C : Addr} {cl : List (Str × Addr)} {fp : List Addr} : L2N.Takes (Blk X scope s H C cl fp) fun _ _ _ _ => False := fun _ _ ⟨_, _, _, _, _, _, _, _, _, _, _, _, _, _, _, _, z⟩ => z.elim
theorem cw0 {K : Kt} {H : Hp} : CW K (fun _ _ _ _ => False) H W0 := fun _ _ _ _ _ _ _ _ _ _ _ _ h => h
theorem lc_read {K : Kt} {W : WX} {vs : List Nat} (hsl : ∀ j, j ∈ sl → j ∈ vs) (σ : St) (H : Hp) (Q : VK) (h : liftE K W (dLc it g tt te vs) σ H Q) :
    tLc (liftI K W it) (liftG K (fun _ _ _ _ => False) sl g) (liftT K (fun _ _ _ _ => False) tt) (liftE K (fun _ _ _ _ => False) te) vs σ H Q := by
  obtain ⟨σd, G, q, w, sr, gr, h, cl, cw⟩ := h
  refine ⟨σd, G, _, w, sr, gr, h, fun J xs stay H1 G1 t1 gr1 ok hp => ?_, cw⟩
  intro p hp0
  obtain ⟨Iv, h0, hst, hturn, hend⟩ := hp p (gr1.free hp0)
  have tn : Tm K H1 (upd H1 p (.lst [])) := Tm.new hp0
  refine ⟨fun i m H' => m = xs.length - i ∧ i ≤ xs.length ∧ ∃ G', Tm K H1 H' ∧ GR K G' H' ∧ Iv i G', ⟨_, rfl, Nat.zero_le _, _, tn, gr1.new (u := .lst []) hp0 ⟨_, upd_same, .nil⟩, h0⟩, ?_⟩
  rintro i m H' ⟨rfl, hi, G', t2, gr2, iv⟩
  obtain ⟨o1, o2⟩ := ok i H' G' t2 gr2 (hst _ _ iv)
  by_cases hlt : i < xs.length
  · obtain ⟨go, y⟩ := o1 hlt
    refine .inr ⟨go, fun H'' => i + 1 ≤ xs.length ∧ ∃ G'', Tm K H1 H'' ∧ GR K G'' H'' ∧ Iv (i + 1) G'', fun H'' ⟨_, z⟩ => ⟨xs.length - (i + 1), by omega, rfl, hlt, z⟩, fun x H2 yx => ?_⟩
    obtain ⟨t3, gr3, d, ed, rd⟩ := y x H2 yx
    have s0 : SR K H2 (wipeD σd vs) (wipe σ vs) := (sr.mono ((t1.trans t2).trans t3)).wipe vs
    refine ⟨d, wipeD σd vs, G', _, W0, rd, s0, gr3, hturn i d G' ed iv, fun σ3d σ3 H3 G3 t4 ag sr4 gr4 h4 => ⟨ag.wipe hsl, ?_⟩, cw0⟩
    refine ⟨σ3d, G3, _, W0, sr4, gr4, h4, fun k H4 G4 t5 gr5 h5 => h5.ite (fun h6 => ?_) fun h6 => ⟨hlt, G4, t2.trans (t3.trans (t4.trans t5)), gr5, h6⟩, cw0⟩
    refine ⟨σ3d, G4, _, W0, sr4.mono t5, gr5, h6, fun v y H5 G5 t6 gr6 r6 ⟨acc, ea, hl, h7⟩ => ?_, cw0⟩
    obtain ⟨us, eu, ru⟩ := gr6.lst ea
    have tw : Tm K H5 (upd H5 p (.lst (us ++ [v]))) := Tm.lst eu
    exact ⟨us, eu, by rw [← ru.length]; exact hl, hlt, _, t2.trans (t3.trans (t4.trans (t5.trans (t6.trans tw)))), gr6.set (u := .lst (acc ++ [y])) tw ⟨_, upd_same, (ru.mono tw).append (.cons (r6.mono tw) .nil)⟩, h7⟩
  · have e1 : i = xs.length := by omega
    subst e1
    exact .inl ⟨o2 rfl, cl _ _ _ _ (t1.trans t2) gr2 (.ref p) (hend _ iv)⟩
theorem pts_of {ifs : List Expr} (h : (ifs = [] ∧ tt = dYes) ∨ ∃ c, ifs = [c] ∧ DT X c tt) (W : WX) (tk : L2N.Takes X W) : PTs X ifs (liftT (kt X) W tt) := by
  rcases h with ⟨rfl, rfl⟩ | ⟨c, rfl, h⟩
  · exact ⟨fun pins s σ H Q I ⟨σd, G, q, w, sr, gr, h, cl, cw⟩ => pts_nil.run pins s σ H Q I (cl _ _ _ Tm.refl gr h)⟩
  · exact pts_one (h W tk)
theorem de_lc {elt : Expr} {ifs : List Expr} {scope : Scope} {own : List (Str × Nat)} (hc : X.calm = true) (hN : X.N.Nodup) (hi : DI X tg iter it) (ok : BlkOk X.N X.env.scope scope own) (hsl : ∀ j, j ∈ sl → j ∈ own.map (·.2))
    (hg : ∀ s H C cl fp, DG (Blk X scope s H C cl fp) tg sl g) (ht : ∀ s H C cl fp, (ifs = [] ∧ tt = dYes) ∨ ∃ c, ifs = [c] ∧ DT (Blk X scope s H C cl fp) c tt) (he : ∀ s H C cl fp, DE (Blk X scope s H C cl fp) elt te)
    (hs : ∀ x, foldedSetIterable iter X.env x = pure x) : DE X (.ListComp elt [⟨tg, iter, ifs, 0⟩] scope pos) (dLc it g tt te (own.map (·.2))) := fun W tk =>
  PEi (pe_lc hc hN (hi W tk) ok (fun s H C cl fp => hg s H C cl fp _ blk_takes) (fun s H C cl fp => pts_of (ht s H C cl fp) _ blk_takes) (fun s H C cl fp => he s H C cl fp _ blk_takes) hs) (lc_read hsl)
theorem ds_setLc {i : Nat} {y : Str} {py spos : Pos} {elt : Expr} {ifs : List Expr} {scope : Scope} {own : List (Str × Nat)} (hc : X.calm = true) (hN : X.N.Nodup) (hy : X.N[i]? = some y) (hyl : X.env.scope.names.lookup y = some .local)
    (hsw : swapsWith (.ListComp elt [⟨tg, iter, ifs, 0⟩] scope pos) (some (.Name y py)) spos.line X.env = pure true) (hi : DI X tg iter it) (ok : BlkOk X.N X.env.scope scope own) (hsl : ∀ j, j ∈ sl → j ∈ own.map (·.2))
    (hg : ∀ s H C cl fp, DG (Blk X scope s H C cl fp) tg sl g) (ht : ∀ s H C cl fp, (ifs = [] ∧ tt = dYes) ∨ ∃ c, ifs = [c] ∧ DT (Blk X scope s H C cl fp) c tt) (he : ∀ s H C cl fp, DE (Blk X scope s H C cl fp) elt te)
    (hs : ∀ x, foldedSetIterable iter X.env x = pure x) : DS X (.Assign [.Name y py] (.ListComp elt [⟨tg, iter, ifs, 0⟩] scope pos) spos) (dAsg (dLc it g tt te (own.map (·.2))) (dgName i)) := fun W tk =>
  PSi (ps_setLc hc hN hy hyl hsw (hi W tk) ok (fun s H C cl fp => hg s H C cl fp _ blk_takes) (fun s H C cl fp => pts_of (ht s H C cl fp) _ blk_takes) (fun s H C cl fp => he s H C cl fp _ blk_takes) hs) fun E σ H ⟨σd, G, e, w, sr, gr, h, cl, cw⟩ =>
    lc_read hsl _ _ _ ⟨σd, G, _, w, sr, gr, h, fun v d H1 G1 t1 gr1 r1 h1 => cl.nx _ _ _ _ t1 ((sr.mono t1).set i r1) gr1 h1, cw⟩
end
/-! ## calls -/
abbrev DSp := List D → Hd → Qd → (Nat → D → Hd → Prop) → Prop
def liftSp (K : Kt) (sp : DSp) : Sp := fun vs H Q E => ∃ ds G q x, Rps K H ds vs ∧ GR K G H ∧ sp ds G q x ∧ CQ K H Q q ∧ ∀ i d G' H' cls od, Tm K H H' → GR K G' H' → ExR K H' i d cls od → x i d G' → E cls od H'
structure Cal (X : Cx) (name : Str) (sp : DSp) : Prop where
  ex : ∃ f fd ps k, FnG X.prog X.w (kt X) X.mg X.base (L2N.CX X.prog X.w) k f fd ps (liftSp (kt X) sp) ∧ Rm k X.A ∧ X.mg name = some (.ref f) ∧ PySem.W.keepIn X.K (.ref f) = true ∧ Binds (kt X) fd ps []
def dCall (sp : DSp) (t : TAd) : TEd := fun w σ G Q => t w σ G fun ds G1 => sp ds G1 Q fun i d G2 => w i d σ G2
section
variable {X : Cx} {e o : Expr} {es : List Expr} {te : TEd} {tes : TAd} {pos p apos : Pos} {sp : DSp} {x m : Str}
theorem plain_ok {env : Env} : ∀ {es : List Expr}, es.all unstarE = true → (backTo pos (starEach es env)).any (·.1) = false
  | [], _ => rfl
  | e :: es, h => by
    simp only [List.all_cons, Bool.and_eq_true] at h
    rw [star_ok h.1]
    have ih := plain_ok (env := env) h.2
    simpa [backTo] using ih
theorem de_call (c : Cal X x sp) (hg : Gl X x) (hd : (x == ("__debug__" : Str)) = false) (ha : DA X (e :: es) tes) (hs : (e :: es).all unstarE = true) : DE X (.Call (.Name x p) (e :: es) [] pos) (dCall sp tes) := fun W tk => by
  obtain ⟨f, fd, ps, k, F, hr, hm, hk, hb⟩ := c.ex
  simp only [List.all_cons, Bool.and_eq_true] at hs
  refine PEi (pe_callG F hr hg hm hk hb (fun σ => L2N.passAt tk σ) (ha W tk) hd (star_ok hs.1) (plain_ok hs.2)) fun σ H Q ⟨σd, G, q, w, sr, gr, h, cl, cw⟩ => ?_
  exact ⟨σd, G, _, w, sr, gr, h, fun vs ds H1 G1 t1 gr1 r1 h1 => ⟨ds, G1, q, _, r1, gr1, h1, cl.mono t1, fun i d G' H' cls od t2 gr2 ex h2 => cw i d σd σ G' H' cls od (t1.trans t2) (sr.mono (t1.trans t2)) gr2 ex h2⟩, cw⟩
theorem de_call0 (c : Cal X x sp) (hg : Gl X x) (hd : (x == ("__debug__" : Str)) = false) : DE X (.Call (.Name x p) [] [] pos) (dCall sp dNil) := fun W tk => by
  obtain ⟨f, fd, ps, k, F, hr, hm, hk, hb⟩ := c.ex
  refine PEi (pe_callG0 F hr hg hm hk hb (fun σ => L2N.passAt tk σ) hd) fun σ H Q ⟨σd, G, q, w, sr, gr, h, cl, cw⟩ => ?_
  exact ⟨[], G, q, _, .nil, gr, h, cl, fun i d G' H' cls od t2 gr2 ex h2 => cw i d σd σ G' H' cls od t2 (sr.mono t2) gr2 ex h2⟩
end
end S
set_option Elab.async false
set_option linter.all false
set_option maxRecDepth 100000
set_option maxHeartbeats 4000000
namespace S
open PySem PySem.Spec L2
open PyProof.Rows hiding St
/-! ## dicts whose keys are tuples -/
section
variable {X : Cx} {pins : List (Addr × Obj)} {σ : St} {H : Hp} {s : Shared}
mutual
theorem nest_of (I : L2.Inv X pins σ H s) : ∀ {d : D} {v : V} {u : Value} {nk : NestedKey}, keyN d = some nk → Rp (kt X) H d v → RelV v u → NestedIs s.heap nk u
  | .non, _, _, _, e, r, q => by cases e; cases r; cases q; exact .none
  | .bl b, _, _, _, e, r, q => by cases e; cases r; cases q; exact .bool rfl
  | .int i, _, _, _, e, r, q => by cases e; cases r; obtain ⟨t, rfl⟩ := q; exact .int _ _
  | .str x, _, _, _, e, r, q => by cases e; cases r; obtain ⟨t, rfl⟩ := q; exact .text _ _
  | .tup xs, _, _, _, e, r, q => by
    simp only [keyN] at e
    split at e
    · rename_i ks ek
      cases e
      obtain ⟨a, vs, rfl, sa, ra⟩ := r.tup_inv
      cases q
      obtain ⟨its, rv, ⟨⟨oc, od, dt, sl⟩, h1, h2, n, h3⟩, _⟩ := I.tuple sa
      simp only at h2 h3
      exact .tup h1 h2 h3 (nests_of I ek ra (by simpa using rv))
    · cases e
  | .lst _, _, _, _, e, _, _ => by cases e
  | .ref _, _, _, _, e, _, _ => by cases e
  | .ty _, _, _, _, e, _, _ => by cases e
  | .fn _, _, _, _, e, _, _ => by cases e
  | .rl _, _, _, _, e, _, _ => by cases e
theorem nests_of (I : L2.Inv X pins σ H s) : ∀ {ds : List D} {vs : List V} {us : List Value} {ks : List NestedKey}, keysN ds = some ks → Rps (kt X) H ds vs → Vals vs us → NestedAll s.heap ks us
  | [], _, _, _, e, r, q => by cases e; cases r; cases q; exact .nil
  | d :: ds, _, _, _, e, r, q => by
    simp only [keysN] at e
    split at e
    · rename_i k ks e1 e2
      cases e
      cases r with
      | cons r rs =>
        cases q with
        | cons q qs => exact .cons (nest_of I e1 r q) (nests_of I e2 rs qs)
    · cases e
end
theorem dit_len : ∀ {kvs : List (D × D)} {xs : List (NestedKey × Addr × Value)}, DitR (kt X) H kvs xs → kvs.length = xs.length
  | _, _, .nil => rfl
  | _, _, .cons _ _ _ _ _ q => by simp [dit_len q]
theorem dit_is (I : L2.Inv X pins σ H s) : ∀ {kvs : List (D × D)} {xs : List (NestedKey × Addr × Value)}, DitR (kt X) H kvs xs → ∀ x ∈ xs, (nestedKind X.prog X.w).is s.heap x.1 x.2.1
  | _, _, .nil, _, h => by cases h
  | _, _, .cons h1 h2 h3 _ _ q, x, h => by
    rcases List.mem_cons.mp h with rfl | h
    · exact ⟨nest_of I h1 h3 rfl, h2⟩
    · exact dit_is I q x h
theorem dit_of (I : L2.Inv X pins σ H s) {a : Addr} {kvs : List (D × D)} {xs : List (NestedKey × Addr × Value)} {ep : Nat} (e : H a = some (DitO X.prog X.w a xs ep)) (r : DitR (kt X) H kvs xs) :
    s.heap.DictOfH (nestedKind X.prog X.w) a xs ∧ xs.length ≤ sizeLine ∧ (a == sysModules) = false := by
  obtain ⟨⟨l, hs, nd, o, es, h1, h2, h3, h4⟩, _⟩ := I.hok a _ e
  exact ⟨⟨o, es, ep, h1, h2, h3, h4, dit_is I r, nd⟩, l, hs⟩
end
/-- what stands in it at a key -/
def sameK (a b : D) : Bool := decide (keyN a = keyN b)
def valT (kvs : List (D × D)) (k : D) : Option D := (kvs.find? fun kv => sameK kv.1 k).map (·.2)
def putT (kvs : List (D × D)) (k v : D) : List (D × D) := if (valT kvs k).isSome then kvs.map (fun kv => if sameK kv.1 k then (kv.1, v) else kv) else kvs ++ [(k, v)]
def kdep (d : D) : Nat := match keyN d with
  | some k => k.depth
  | none => 9
def keyOk (k : D) : Prop := kdep k ≤ 8
theorem keyOk_ok {k : D} (h : keyOk k) : ∃ nk, keyN k = some nk ∧ nk.depth ≤ 8 := by
  unfold keyOk kdep at h
  split at h
  · rename_i nk e; exact ⟨nk, e, h⟩
  · omega
section
variable {K : Kt} {H : Hp}
theorem DitR.val {k : D} {nk : NestedKey} (hk : keyN k = some nk) : ∀ {kvs : List (D × D)} {xs : List (NestedKey × Addr × Value)}, DitR K H kvs xs → (∀ d, valT kvs k = some d → ∃ p v, atKey xs nk = some p ∧ Rp K H d v ∧ RelV v p.2) ∧ (valT kvs k = none → atKey xs nk = none)
  | _, _, .nil => ⟨fun d h => (by cases h), fun _ => rfl⟩
  | _, _, @DitR.cons _ _ kd nk' ad d v u r s h1 h2 h3 h4 h5 q => by
    obtain ⟨i1, i2⟩ := DitR.val hk q
    by_cases e : nk' = nk
    · have es : sameK (.tup kd) k = true := by unfold sameK; rw [h1, hk, e]; simp
      refine ⟨fun d' hd => ?_, fun hd => ?_⟩
      · simp [valT, List.find?_cons, es] at hd
        subst hd
        exact ⟨(ad, u), v, by simp [atKey, List.find?_cons, e], h4, h5⟩
      · simp [valT, List.find?_cons, es] at hd
    · have es : sameK (.tup kd) k = false := by unfold sameK; rw [h1, hk]; simp [e]
      refine ⟨fun d' hd => ?_, fun hd => ?_⟩
      · have hd : valT r k = some d' := by simpa [valT, List.find?_cons, es] using hd
        obtain ⟨p, v, e1, e2⟩ := i1 d' hd
        exact ⟨p, v, by simpa [atKey, List.find?_cons, e] using e1, e2⟩
      · have hd : valT r k = none := by simpa [valT, List.find?_cons, es] using hd
        simpa [atKey, List.find?_cons, e] using i2 hd
theorem DitR.isS {k : D} {nk : NestedKey} (hk : keyN k = some nk) {kvs : List (D × D)} {xs : List (NestedKey × Addr × Value)} (r : DitR K H kvs xs) : (valT kvs k).isSome = (atKey xs nk).isSome := by
  obtain ⟨i1, i2⟩ := r.val hk
  cases e : valT kvs k with
  | none => rw [i2 e]; rfl
  | some d => obtain ⟨p, v, e1, _⟩ := i1 d e; rw [e1]; rfl
theorem DitR.repl {k d : D} {v : V} {u : Value} {nk : NestedKey} (hk : keyN k = some nk) (hd : Rp K H d v) (hv : RelV v u) : ∀ {kvs : List (D × D)} {xs : List (NestedKey × Addr × Value)}, DitR K H kvs xs → DitR K H (kvs.map fun kv => if sameK kv.1 k then (kv.1, d) else kv) (xs.map (putAt nk u))
  | _, _, .nil => .nil
  | _, _, @DitR.cons _ _ kd nk' ad d' v' u' r s h1 h2 h3 h4 h5 q => by
    have ih := DitR.repl hk hd hv q
    by_cases e : nk' = nk
    · have es : sameK (.tup kd) k = true := by unfold sameK; rw [h1, hk, e]; simp
      have e2 : putAt nk u (nk', ad, u') = (nk', ad, u) := by simp [putAt, e]
      rw [List.map_cons, List.map_cons, e2]
      simp only [es, if_true]
      exact .cons h1 h2 h3 hd hv ih
    · have es : sameK (.tup kd) k = false := by unfold sameK; rw [h1, hk]; simp [e]
      have e2 : putAt nk u (nk', ad, u') = (nk', ad, u') := by simp [putAt, e]
      rw [List.map_cons, List.map_cons, e2]
      simp only [es, Bool.false_eq_true, if_false]
      exact .cons h1 h2 h3 h4 h5 ih
theorem DitR.snoc {kd : List D} {d : D} {v : V} {u : Value} {ad : Addr} {nk : NestedKey} (hk : keyN (.tup kd) = some nk) (hdp : nk.depth ≤ 8) (hr : Rp K H (.tup kd) (.ref ad)) (hd : Rp K H d v) (hv : RelV v u) : ∀ {kvs : List (D × D)} {xs : List (NestedKey × Addr × Value)}, DitR K H kvs xs → DitR K H (kvs ++ [(.tup kd, d)]) (xs ++ [(nk, ad, u)])
  | _, _, .nil => .cons hk hdp hr hd hv .nil
  | _, _, .cons h1 h2 h3 h4 h5 q => .cons h1 h2 h3 h4 h5 (DitR.snoc hk hdp hr hd hv q)
theorem DitR.put {kd : List D} {d : D} {v : V} {u : Value} {ad : Addr} {nk : NestedKey} {kvs : List (D × D)} {xs : List (NestedKey × Addr × Value)} (r : DitR K H kvs xs) (hk : keyN (.tup kd) = some nk) (hdp : nk.depth ≤ 8) (hr : Rp K H (.tup kd) (.ref ad)) (hd : Rp K H d v) (hv : RelV v u) :
    DitR K H (putT kvs (.tup kd) d) (storedH xs nk ad u) := by
  unfold putT storedH
  rw [r.isS hk]
  split
  · exact r.repl hk hd hv
  · exact r.snoc hk hdp hr hd hv
end
theorem putT_len {kvs : List (D × D)} {k v : D} : (putT kvs k v).length ≤ kvs.length + 1 := by
  unfold putT; split
  · simp
  · simp
section
variable {X : Cx} {pos : Pos}
def dDnew : TEd := fun _ _ G Q => ∀ p, G p = none → Q (.ref p) (st G p (.dit [] 0))
theorem ditO_new {P : Program} {w : World} {H : Hp} (h : Heap) (hb : sysModules < h.objs.size) : ObjOk P w H (h.push { cls := .type "dict", data := .dict #[] }) h.objs.size (DitO P w h.objs.size [] 0) := by
  refine ⟨⟨Nat.zero_le _, beq_eq_false_iff_ne.mpr (Ne.symm (Nat.ne_of_lt hb)), List.nodup_nil, _, #[], Heap.get?_push_size _ rfl, ⟨rfl, rfl, rfl⟩, rfl, rfl⟩, ⟨_, Heap.get?_push_size _ rfl⟩, ?_⟩
  rintro h1 h2 ⟨l, hs, nd, o, es, e1, r⟩ k
  exact ⟨l, hs, nd, o, es, k o e1, r⟩
theorem pe_dnewD : PE X (.Dict [] [] pos) (fun _ H Q => ∀ p, H p = none → Q (.ref p) (upd H p (DitO X.prog X.w p [] 0))) := ⟨fun pins s σ H Q I h =>
  wpAny_Dict_empty ⟨.ref s.heap.objs.size, _, I.laid (a := s.heap.objs.size) (o := DitO X.prog X.w s.heap.objs.size [] 0) (t' := s.toks) (fun _ _ q => Heap.get?_push_of_some _ q) (Nat.le_refl _) (ditO_new s.heap I.big), rfl, h _ (I.hok.fresh (Nat.le_refl _))⟩⟩
theorem de_dnew : DE X (.Dict [] [] pos) dDnew := fun W tk => PEi pe_dnewD fun σ H Q ⟨σd, G, q, w, sr, gr, h, cl, cw⟩ p hp =>
  cl _ _ _ _ (Tm.new hp) (gr.new (u := .dit [] 0) hp ⟨[], upd_same, .nil⟩) (.ref p) (h p (gr.free hp))
/-! d[k] -/
theorem ix_dit (hu : X.A.units + 9 < cLine) {value slice : Expr} {pins : List (Addr × Obj)} {s : Shared} {σ : St} {H : Hp} {a : Addr} {kd : List D} {y : V} {u : Value} {G : Hd} {kvs : List (D × D)} {ep : Nat} {d : D} {q : Qd} {Q : VK} (I : L2.Inv X pins σ H s) (ry : RelV y u) (r2 : Rp (kt X) H (.tup kd) y)
    (gr : GR (kt X) G H) (e : G a = some (.dit kvs ep)) (ko : keyOk (.tup kd)) (hv : valT kvs (.tup kd) = some d) (h : q d G) (cl : CQ (kt X) H Q q) (hs : subscripted slice false (.ref a) u = operate [.ref a, u] (getItem (.ref a) u)) :
    wpAny (model X.prog X.w) X.A (subscriptTail value slice (.ref a) u) (EP X pins σ Q) X.xe s := by
  obtain ⟨xs, ha, r⟩ := gr _ _ e
  obtain ⟨dd, hl, hs0⟩ := dit_of I ha r
  obtain ⟨nk, hk, hdp⟩ := keyOk_ok ko
  obtain ⟨b, vs, rfl, sb, rb⟩ := r2.tup_inv
  cases (show u = Value.ref b from ry)
  obtain ⟨p, v, hp, rv, rel⟩ := (r.val hk).1 d hv
  have hT : s.TypeIs (.ref a) "dict" := dd.typeIs
  unfold subscriptTail
  refine wpAny_bind ?_
  rw [getitemInPython_of_ne hT.not_modules]
  refine wpAny_bind (wpAny_specialOf hT PySem.F.slot_dict_getitem.lookup ?_)
  have get : wpAny (model X.prog X.w) X.A (getItem (.ref a) (.ref b)) (EP X pins σ Q) X.xe s :=
    wpAny_getItem_heap (knd := nestedKind X.prog X.w) (k := nk) (by show X.A.units + 1 + 8 < cLine; omega) ⟨nest_of I hk r2 rfl, hdp⟩ dd hp ⟨v, H, I.tok _, rel, cl _ _ _ _ Tm.refl gr rv h⟩
  have fin : wpAny (model X.prog X.w) X.A (subscripted slice false (.ref a) (.ref b)) (fun r s₃ => wpAny (model X.prog X.w) X.A (letTemporaryGo value (.ref a) r >>= fun _ => pure r) (EP X pins σ Q) X.xe s₃) X.xe s := by
    rw [hs]
    exact wpAny_operating (wpAny_mono get (fun r s₃ h₃ => wpAny_bind (wpAny_letTemporaryGo (wpAny_pure h₃))) fun _ _ x => x)
  first
    | exact wpAny_pure (wpAny_bind fin)
    | exact wpAny_bind (wpAny_pure (wpAny_bind fin))
    | exact wpAny_bind fin
end
section
variable {X : Cx}
/-- d[k] = v -/
theorem set_dit (hu : X.A.units + 9 < cLine) {pins : List (Addr × Obj)} {s : Shared} {σ : St} {H : Hp} {a : Addr} {kd : List D} {y vv : V} {u u2 : Value} {G : Hd} {kvs : List (D × D)} {ep : Nat} {d : D} {q : Hd → Prop} {Q : Hp → Prop} (I : L2.Inv X pins σ H s) (ry : RelV y u) (rv : RelV vv u2)
    (r2 : Rp (kt X) H (.tup kd) y) (r3 : Rp (kt X) H d vv) (gr : GR (kt X) G H) (e : G a = some (.dit kvs ep)) (ko : keyOk (.tup kd)) (hl : kvs.length < sizeLine) (h : ∀ ep', q (st G a (.dit (putT kvs (.tup kd) d) ep')))
    (cl : ∀ H' G', Tm (kt X) H H' → GR (kt X) G' H' → q G' → Q H') : wpAny (model X.prog X.w) X.A (setItem (.ref a) u u2) (fun _ s' => ∃ H', L2.Inv X pins σ H' s' ∧ Q H') X.xe s := by
  obtain ⟨xs, ha, r⟩ := gr _ _ e
  obtain ⟨dd, hz, hs0⟩ := dit_of I ha r
  obtain ⟨nk, hk, hdp⟩ := keyOk_ok ko
  obtain ⟨b, vs, rfl, sb, rb⟩ := r2.tup_inv
  cases (show u = Value.ref b from ry)
  have el := dit_len r
  refine wpAny_setItem_heap (knd := nestedKind X.prog X.w) (hsz := hz) (k := nk) (by show X.A.units + 1 + 8 < cLine; omega) ⟨nest_of I hk r2 rfl, hdp⟩ dd fun h' dd' hs => ?_
  obtain ⟨o, es, ep', h1, h2, h3, h4, h5, h6⟩ := dd'
  have rp := r.put (ad := b) hk hdp r2 r3 rv
  have hl2 : (storedH xs nk b u2).length ≤ sizeLine := by rw [← dit_len rp]; have := putT_len (kvs := kvs) (k := .tup kd) (v := d); omega
  have t : Tm (kt X) H (upd H a (DitO X.prog X.w a (storedH xs nk b u2) ep')) := Tm.put fun u q => by rw [ha] at q; cases q; exact fun z => z
  refine ⟨upd H a (DitO X.prog X.w a (storedH xs nk b u2) ep'), d_write I (by rw [ha]; exact True.intro) hs ⟨o, h1⟩ ⟨⟨hl2, hs0, h6, o, es, h1, h2, h3, h4⟩, ⟨o, h1⟩, ?_⟩, cl _ _ t (gr.set (u := .dit (putT kvs (.tup kd) d) ep') t ⟨_, upd_same, rp.mono t⟩) (h ep')⟩
  rintro g1 g2 ⟨l, hs, nd, o, es, e1, r⟩ k
  exact ⟨l, hs, nd, o, es, k o e1, r⟩
end
end S
set_option Elab.async false
set_option linter.all false
set_option maxRecDepth 100000
set_option maxHeartbeats 4000000
namespace S
open PySem PySem.Spec L2
open PyProof.Rows hiding St
/-! ## an empty tuple, repeated -/
theorem tuple_mulE (l : Addr) (items : Array Value) (n : Nat) (dd : Option Addr) (sl : Array (Option Value)) (x : Int) (u : Tok) (c0 : (decide (x < -(2 ^ 63)) || decide (x ≥ 2 ^ 63)) = false) (c1 : (items.isEmpty || x == 1) = true) :
    Meets (Builtin.«tuple.__mul__» ⟨[.ref l, .int x u], []⟩) (fun _ R s => s.heap.get? l = some { cls := .type "tuple", dict := dd, data := .seq items n, slots := sl } ∧
      R (.ok (.ret (Value.ref l))) s) :=
  .of_wp fun prog w A R s h => by
    obtain ⟨hp, g, d, tk, os⟩ := s
    obtain ⟨hl, h⟩ := h
    have f1 := AutoSeq1.idx_int
    wp_walk using wpAny_loadPart' hl
    repeat (first
      | (refine wpAny_ite_false (decide_eq_false (by rw [c0]; exact Bool.false_ne_true)) ?_; wp_walk using wpAny_loadPart' hl)
      | (refine wpAny_ite_true (decide_eq_true (by rw [c1])) ?_; wp_walk using wpAny_loadPart' hl))
    exact ⟨_, rfl, h⟩
section
variable {X : Cx}
theorem op_repE : OpR X (binaryOp .Mult) (fun x y H Q => ∃ l k, x = .ref l ∧ y = .int k ∧ SqT X.K H l [] ∧ 2 ≤ k ∧ k ≤ 1000 ∧ Q (.ref l) H) := by
  intro pins s σ H x y v u Q I rx ry h
  obtain ⟨l, k, rfl, rfl, hT, h1, h2, q⟩ := h
  cases rx
  obtain ⟨t, rfl⟩ := ry
  obtain ⟨its, r, ⟨⟨cls, dd, data, sl⟩, ho, hc, n, hd⟩, hs⟩ := I.tuple hT
  simp only at hc hd
  subst hc hd
  cases r
  have c0 : (decide (k < -(2 ^ 63)) || decide (k ≥ 2 ^ 63)) = false := by
    rw [decide_eq_false (by omega), decide_eq_false (by omega)] <;> rfl
  refine wpAny_binaryOp_repeat_ref (T := "tuple") (U := "int") (by decide) ⟨_, ho, rfl⟩ (fun s' => typeIs_int s' k t) noFill_tuple_mul F.fills_int_mul F.slot_int_rmul repeat_tuple F.slot_int_index.lookup
    (call_meets F.slot_int_rmul (typeIs_int s k t) F.entry_int_rmul (F.args_int_rmul_2 _ _) (int_rmul_tuple k t l #[] n dd sl)
      ⟨ho, rfl, ⟨_, ho, rfl⟩, call_meets F.slot_tuple_mul ⟨_, ho, rfl⟩ F.entry_tuple_mul (F.args_tuple_mul_2 _ _) (tuple_mulE l #[] n dd sl k t c0 rfl) ⟨ho, ?_⟩⟩)
  exact ⟨.ref l, H, I, rfl, q⟩
end
end S
set_option Elab.async false
set_option linter.all false
set_option maxRecDepth 100000
set_option maxHeartbeats 4000000
namespace S
open PySem PySem.Spec L2
open PyProof.Rows hiding St
/-! ## told data: lists by value -/
mutual
inductive Dd (G : Hd) : D → D → Prop
  | non : Dd G .non .non
  | bl (b : Bool) : Dd G (.bl b) (.bl b)
  | int (i : Int) : Dd G (.int i) (.int i)
  | str (x : Str) : Dd G (.str x) (.str x)
  | tup {xs ds : List D} : Dds G xs ds → Dd G (.tup xs) (.tup ds)
  | lst {a : Addr} {xs ds : List D} : G a = some (.lst xs) → Dds G xs ds → Dd G (.ref a) (.lst ds)
  | rol {a : Addr} {xs ds : List D} : G a = some (.rol xs) → Dds G xs ds → Dd G (.ref a) (.lst ds)
inductive Dds (G : Hd) : List D → List D → Prop
  | nil : Dds G [] []
  | cons {x d : D} {xs ds : List D} : Dd G x d → Dds G xs ds → Dds G (x :: xs) (d :: ds)
end
mutual
def toPy : D → PyData
  | .non => .none
  | .bl b => .bool b
  | .int i => .int i
  | .str x => .str x
  | .tup xs => .tuple (toPys xs)
  | .lst xs => .list (toPys xs)
  | .ref _ => .none
  | .ty _ => .none
  | .fn _ => .none
  | .rl _ => .none
def toPys : List D → List PyData
  | [] => []
  | x :: xs => toPy x :: toPys xs
end
mutual
/-- == of told data -/
def eqB : D → D → Bool
  | .non, .non => true
  | .bl a, .bl b => a == b
  | .bl a, .int j => (if a then 1 else 0) == j
  | .int i, .bl b => i == (if b then 1 else 0)
  | .int i, .int j => i == j
  | .str x, .str y => x == y
  | .lst xs, .lst ys => eqBs xs ys
  | .tup xs, .tup ys => eqBs xs ys
  | _, _ => false
def eqBs : List D → List D → Bool
  | [], [] => true
  | x :: xs, y :: ys => eqB x y && eqBs xs ys
  | _, _ => false
end
mutual
/-- told data alone, of texts with signs that are some -/
def okD : D → Bool
  | .non => true
  | .bl _ => true
  | .int _ => true
  | .str x => PySem.PyData.strOk x
  | .tup xs => okDs xs
  | .lst xs => okDs xs
  | _ => false
def okDs : List D → Bool
  | [] => true
  | x :: xs => okD x && okDs xs
end
mutual
def dep : D → Nat
  | .tup xs => deps xs + 1
  | .lst xs => deps xs + 1
  | _ => 0
def deps : List D → Nat
  | [] => 0
  | x :: xs => max (dep x) (deps xs)
end
mutual
theorem py_depth : ∀ d : D, (toPy d).depth ≤ dep d
  | .non => Nat.le_refl _
  | .bl _ => Nat.le_refl _
  | .int _ => Nat.le_refl _
  | .str _ => Nat.le_refl _
  | .tup xs => by simp only [toPy, dep, PyData.depth]; exact Nat.succ_le_succ (pys_depth xs)
  | .lst xs => by simp only [toPy, dep, PyData.depth]; exact Nat.succ_le_succ (pys_depth xs)
  | .ref _ => Nat.le_refl _
  | .ty _ => Nat.le_refl _
  | .fn _ => Nat.le_refl _
  | .rl _ => Nat.le_refl _
theorem pys_depth : ∀ ds : List D, PyData.depthAll (toPys ds) ≤ deps ds
  | [] => Nat.le_refl _
  | x :: xs => by
    have h1 := py_depth x
    have h2 := pys_depth xs
    simp only [toPys, deps, PyData.depthAll]; omega
end
mutual
theorem py_lay : ∀ d : D, okD d = true → (toPy d).canLay0 = true
  | .non, _ => rfl
  | .bl _, _ => rfl
  | .int _, _ => rfl
  | .str _, h => h
  | .tup xs, h => by simp only [toPy, PyData.canLay0]; exact pys_lay xs h
  | .lst xs, h => by simp only [toPy, PyData.canLay0]; exact pys_lay xs h
theorem pys_lay : ∀ ds : List D, okDs ds = true → PyData.canLayAll0 (toPys ds) = true
  | [], _ => rfl
  | x :: xs, h => by
    simp only [okDs, Bool.and_eq_true] at h
    simp only [toPys, PyData.canLayAll0, Bool.and_eq_true]
    exact ⟨py_lay x h.1, pys_lay xs h.2⟩
end
mutual
theorem py_eqv : ∀ x y : D, okD x = true → okD y = true → PyData.eqv (toPy x) (toPy y) = eqB x y
  | .non, y, _, hy => by cases y <;> first | rfl | cases hy
  | .bl _, y, _, hy => by cases y <;> first | rfl | cases hy
  | .int _, y, _, hy => by cases y <;> first | rfl | cases hy
  | .str _, y, _, hy => by cases y <;> first | rfl | cases hy
  | .tup xs, y, hx, hy => by
    cases y with
    | tup ys => simp only [toPy, PyData.eqv, eqB]; exact pys_eqv xs ys hx hy
    | _ => first | rfl | cases hy
  | .lst xs, y, hx, hy => by
    cases y with
    | lst ys => simp only [toPy, PyData.eqv, eqB]; exact pys_eqv xs ys hx hy
    | _ => first | rfl | cases hy
theorem pys_eqv : ∀ xs ys : List D, okDs xs = true → okDs ys = true → PyData.eqvAll (toPys xs) (toPys ys) = eqBs xs ys
  | [], [], _, _ => rfl
  | [], _ :: _, _, _ => rfl
  | _ :: _, [], _, _ => rfl
  | x :: xs, y :: ys, hx, hy => by
    simp only [okDs, Bool.and_eq_true] at hx hy
    simp only [toPys, PyData.eqvAll, eqBs, py_eqv x y hx.1 hy.1, pys_eqv xs ys hx.2 hy.2]
end
def sh (d : D) : Prop := okD d = true ∧ dep d ≤ 64
theorem sh_py {d : D} (h : sh d) : SeqAt.shaped (toPy d) = true := by
  unfold SeqAt.shaped
  rw [Bool.and_eq_true]
  exact ⟨py_lay d h.1, decide_eq_true (Nat.le_trans (py_depth d) h.2)⟩
section
variable {K : Kt} {H : Hp} {G : Hd}
mutual
theorem Dd.dp (g : GR K G H) : ∀ {x d : D} {v : V}, Dd G x d → Rp K H x v → Dp K H v (toPy d)
  | _, _, _, .non, .non => .non
  | _, _, _, .bl b, .bl _ => .bl b
  | _, _, _, .int i, .int _ => .int i
  | _, _, _, .str x, .str _ => .str x
  | _, _, _, .tup h, .tup q r => .tup q (Dds.dp g h r)
  | _, _, _, .lst e h, r => by
    cases r
    obtain ⟨vs, hv, r⟩ := g _ _ e
    exact .lst (.inl (.inl hv)) (Dds.dp g h r)
  | _, _, _, .rol e h, r => by
    cases r
    obtain ⟨o, vs, hv, r⟩ := g _ _ e
    exact .lst (.inl (.inr ⟨o, hv⟩)) (Dds.dp g h r)
theorem Dds.dp (g : GR K G H) : ∀ {xs ds : List D} {vs : List V}, Dds G xs ds → Rps K H xs vs → DpAll K H vs (toPys ds)
  | _, _, _, .nil, .nil => .nil
  | _, _, _, .cons h hs, .cons r rs => .cons (Dd.dp g h r) (Dds.dp g hs rs)
end
end
def seqG (G : Hd) (a : Addr) (xs : List D) : Prop := G a = some (.lst xs) ∨ G a = some (.rol xs)
def eqR (neg : Bool) : D → D → Hd → Qd → Prop := fun x y G Q => ∃ d e, Dd G x d ∧ Dd G y e ∧ sh d ∧ sh e ∧ Q (.bl (neg ^^ eqB d e)) G
section
variable {X : Cx}
theorem od_eq (hu : X.A.units + 64 < cLine) : OpD X (compareOp .Eq) (eqR false) := by
  intro pins s σ H x y v u Q I rx ry ⟨dx, dy, G, q, r1, r2, gr, ⟨d, e, h1, h2, s1, s2, h⟩, cl⟩
  refine op_eqD hu pins s σ H x y v u Q I rx ry ⟨toPy d, toPy e, h1.dp gr r1, h2.dp gr r2, sh_py s1, sh_py s2, ?_⟩
  rw [py_eqv d e s1.1 s2.1]
  exact cl _ _ _ _ Tm.refl gr (.bl _) (by simpa using h)
theorem od_ne (hu : X.A.units + 64 < cLine) : OpD X (compareOp .NotEq) (eqR true) := by
  intro pins s σ H x y v u Q I rx ry ⟨dx, dy, G, q, r1, r2, gr, ⟨d, e, h1, h2, s1, s2, h⟩, cl⟩
  refine op_neD hu pins s σ H x y v u Q I rx ry ⟨toPy d, toPy e, h1.dp gr r1, h2.dp gr r2, sh_py s1, sh_py s2, ?_⟩
  rw [py_eqv d e s1.1 s2.1]
  exact cl _ _ _ _ Tm.refl gr (.bl _) (by simpa using h)
/-! ## operators by values -/
abbrev R2d := D → D → Hd → Qd → Prop
def addD : R2d := fun x y G Q => match x, y with
  | .int i, .int j => Q (.int (i + j)) G
  | .str x, .str y => x.length + y.length ≤ sizeLine ∧ Q (.str (x ++ y)) G
  | .tup xs, .tup ys => xs.length + ys.length ≤ sizeLine ∧ Q (.tup (xs ++ ys)) G
  | .bl b, .int j => Q (.int ((if b = true then (1 : Int) else 0) + j)) G
  | .ref a, .ref b => ∃ xs, G a = some (.lst xs) ∧ ∃ ys, G b = some (.lst ys) ∧ xs.length + ys.length ≤ sizeLine ∧ ∀ p, G p = none → Q (.ref p) (st G p (.lst (xs ++ ys)))
  | _, _ => False
theorem od_add : OpD X (binaryOp .Add) addD := by
  intro pins s σ H x y v u Q I rx ry ⟨dx, dy, G, q, r1, r2, gr, h, cl⟩
  unfold addD at h
  split at h
  · cases r1; cases r2; exact op_add pins s σ H _ _ v u Q I rx ry ⟨_, _, rfl, rfl, cl _ _ _ _ Tm.refl gr (.int _) h⟩
  · cases r1; cases r2; exact op_add_str pins s σ H _ _ v u Q I rx ry ⟨_, _, rfl, rfl, h.1, cl _ _ _ _ Tm.refl gr (.str _) h.2⟩
  · rename_i xs ys
    obtain ⟨a, vs, rfl, sa, ra⟩ := r1.tup_inv
    obtain ⟨b, us, rfl, sb, rb⟩ := r2.tup_inv
    have e1 := ra.length
    have e2 := rb.length
    refine op_catA pins s σ H _ _ v u Q I rx ry ⟨a, b, vs, us, rfl, rfl, sa, sb, by rw [← e1, ← e2]; exact h.1, fun hx => ?_, fun hx hy => ?_, fun hx hy p hp => ?_⟩
    · subst hx
      cases ra
      exact cl _ _ _ _ Tm.refl gr (.tup sb rb) h.2
    · subst hy
      cases rb
      have q2 := h.2
      rw [List.append_nil] at q2
      exact cl _ _ _ _ Tm.refl gr (.tup sa ra) q2
    · have t := Tm.new (K := (kt X)) (o := .tup (vs ++ us)) hp
      exact cl _ _ _ _ t (gr.keep hp) (.tup (.inl (.inl upd_same)) ((ra.mono t).append (rb.mono t))) h.2
  · cases r1; cases r2
    obtain ⟨t, rfl⟩ := ry
    cases rx
    exact PySem.IntBool.add_bool_int ⟨.int _, H, I.tok _, ⟨_, rfl⟩, cl _ _ _ _ Tm.refl gr (.int _) h⟩
  · rename_i a b
    obtain ⟨xs, ea, ys, eb, hl, h⟩ := h
    cases r1; cases r2
    obtain ⟨vs, ha, ra⟩ := gr.lst ea
    obtain ⟨us, hb, rb⟩ := gr.lst eb
    refine op_cat pins s σ H _ _ v u Q I rx ry ⟨a, b, vs, us, rfl, rfl, ha, hb, by rw [← ra.length, ← rb.length]; exact hl, fun p hp => ?_⟩
    have t := Tm.new (K := (kt X)) (o := .lst (vs ++ us)) hp
    exact cl _ _ _ _ t (gr.new (u := .lst (xs ++ ys)) hp ⟨_, upd_same, (ra.mono t).append (rb.mono t)⟩) (.ref p) (h p (gr.free hp))
  · exact h.elim
def intD (C : Int → Int → Prop) (f : Int → Int → D) : R2d := fun x y G Q => match x, y with
  | .int i, .int j => C i j ∧ Q (f i j) G
  | _, _ => False
theorem od_int {f : Value → Value → Sem Value} {C : Int → Int → Prop} {k : Int → Int → V} {kd : Int → Int → D} (h0 : OpR X f (rI C k)) (hk : ∀ H i j, Rp (kt X) H (kd i j) (k i j)) : OpD X f (intD C kd) := by
  intro pins s σ H x y v u Q I rx ry ⟨dx, dy, G, q, r1, r2, gr, h, cl⟩
  unfold intD at h
  split at h
  · cases r1; cases r2; exact h0 pins s σ H _ _ v u Q I rx ry ⟨_, _, rfl, rfl, h.1, cl _ _ _ _ Tm.refl gr (hk _ _ _) h.2⟩
  · exact h.elim
theorem od_int0 {f : Value → Value → Sem Value} {k : Int → Int → V} {kd : Int → Int → D} (h0 : OpR X f (rI0 k)) (hk : ∀ H i j, Rp (kt X) H (kd i j) (k i j)) : OpD X f (intD (fun _ _ => True) kd) := by
  intro pins s σ H x y v u Q I rx ry ⟨dx, dy, G, q, r1, r2, gr, h, cl⟩
  unfold intD at h
  split at h
  · cases r1; cases r2; exact h0 pins s σ H _ _ v u Q I rx ry ⟨_, _, rfl, rfl, cl _ _ _ _ Tm.refl gr (hk _ _ _) h.2⟩
  · exact h.elim
def subD : R2d := intD (fun _ _ => True) fun i j => .int (i - j)
def modD : R2d := intD (fun _ j => 0 < j) fun i j => .int (i % j)
def divD : R2d := intD CDivW fun i j => .int (i / j)
def powD : R2d := intD CPow fun i j => .int (i ^ j.toNat)
def ltD : R2d := fun x y G Q => match x, y with
  | .tup xs, .tup ys => ∃ ds es, Dds G xs ds ∧ Dds G ys es ∧ PySem.W.alike (toPy (.tup ds)) (toPy (.tup es)) = true ∧ dep (.tup ds) ≤ 50 ∧ Q (.bl (PySem.W.dataLt (toPy (.tup ds)) (toPy (.tup es)))) G
  | x, y => intD (fun _ _ => True) (fun i j => .bl (decide (i < j))) x y G Q
def leD : R2d := intD (fun _ _ => True) fun i j => .bl (decide (i ≤ j))
def gtD : R2d := intD (fun _ _ => True) fun i j => .bl (decide (j < i))
def geD : R2d := intD (fun _ _ => True) fun i j => .bl (decide (j ≤ i))
theorem od_sub : OpD X (binaryOp .Sub) subD := od_int0 op_sub fun _ _ _ => .int _
theorem od_mod : OpD X (binaryOp .Mod) modD := od_int op_mod fun _ _ _ => .int _
theorem od_div : OpD X (binaryOp .FloorDiv) divD := od_int op_fdivW fun _ _ _ => .int _
theorem od_pow : OpD X (binaryOp .Pow) powD := od_int op_pow fun _ _ _ => .int _
theorem od_ltI : OpD X (compareOp .Lt) (intD (fun _ _ => True) fun i j => .bl (decide (i < j))) := od_int0 op_lt fun _ _ _ => .bl _
theorem od_lt (hu2 : X.A.units + 65 < cLine) : OpD X (compareOp .Lt) ltD := by
  intro pins s σ H x y v u Q I rx ry ⟨dx, dy, G, q, r1, r2, gr, h, cl⟩
  unfold ltD at h
  split at h
  · obtain ⟨ds, es, h1, h2, ha, hd, h⟩ := h
    obtain ⟨as, q1⟩ := Dp.reads I _ x v ((Dd.tup h1).dp gr r1) rx
    obtain ⟨bs, q2⟩ := Dp.reads I _ y u ((Dd.tup h2).dp gr r2) ry
    have h3 := py_depth (.tup ds)
    exact PySem.W.lt_data q1 q2 ha (by intro z; cases z) (by omega) ⟨.bl _, H, I, rfl, cl _ _ _ _ Tm.refl gr (.bl _) h⟩
  · exact od_ltI pins s σ H x y v u Q I rx ry ⟨_, _, G, q, r1, r2, gr, h, cl⟩
theorem od_le : OpD X (compareOp .LtE) leD := od_int0 op_le fun _ _ _ => .bl _
theorem od_gt : OpD X (compareOp .Gt) gtD := od_int0 op_gt fun _ _ _ => .bl _
theorem od_ge : OpD X (compareOp .GtE) geD := od_int0 op_ge fun _ _ _ => .bl _
def repD (xs : List D) (k : Nat) : List D := (List.replicate k xs).flatten
theorem Rps.rep {K : Kt} {H : Hp} {xs : List D} {vs : List V} (r : Rps K H xs vs) : ∀ k : Nat, Rps K H (repD xs k) (List.replicate k vs).flatten
  | 0 => .nil
  | k + 1 => by
    unfold repD
    rw [List.replicate_succ, List.replicate_succ, List.flatten_cons, List.flatten_cons]
    exact r.append (Rps.rep r k)
def mulD : R2d := fun x y G Q => match x, y with
  | .int i, .int j => CMulW i j ∧ Q (.int (i * j)) G
  | .ref a, .int k => ∃ xs, G a = some (.lst xs) ∧ (-(2 ^ 63) ≤ k ∧ k < 2 ^ 63 ∧ xs.length * k.toNat ≤ sizeLine) ∧ ∀ p, G p = none → Q (.ref p) (st G p (.lst (repD xs k.toNat)))
  | .tup xs, .int k => ((xs ≠ [] ∨ xs = []) ∧ 2 ≤ k ∧ k ≤ 1000 ∧ xs.length ≤ 1000) ∧ Q (.tup (repD xs k.toNat)) G
  | .str z, .int k => MulOk z k ∧ Q (.str (Txt.mul z k)) G
  | _, _ => False
theorem od_mul : OpD X (binaryOp .Mult) mulD := by
  intro pins s σ H x y v u Q I rx ry ⟨dx, dy, G, q, r1, r2, gr, h, cl⟩
  unfold mulD at h
  split at h
  · cases r1; cases r2; exact op_mulW pins s σ H _ _ v u Q I rx ry ⟨_, _, rfl, rfl, h.1, cl _ _ _ _ Tm.refl gr (.int _) h.2⟩
  · rename_i l k
    obtain ⟨xs, e, ⟨h1, h2, h3⟩, h⟩ := h
    cases r1; cases r2
    obtain ⟨vs, ha, ra⟩ := gr.lst e
    refine op_rep pins s σ H _ _ v u Q I rx ry ⟨_, _, vs, rfl, rfl, ha, h1, h2, by rw [← ra.length]; exact h3, fun p hp => ?_⟩
    have t := Tm.new (K := (kt X)) (o := .lst (List.replicate k.toNat vs).flatten) hp
    exact cl _ _ _ _ t (gr.new (u := .lst _) hp ⟨_, upd_same, (ra.mono t).rep _⟩) (.ref p) (h p (gr.free hp))
  · rename_i xs k
    obtain ⟨⟨h1, h2, h3, h4⟩, h⟩ := h
    obtain ⟨a, vs, rfl, sa, ra⟩ := r1.tup_inv
    cases r2
    have el := ra.length
    rcases h1 with h1 | h1
    rotate_left
    · subst h1
      cases ra
      have er : repD [] k.toNat = [] := by
        unfold repD
        rw [List.flatten_eq_nil_iff]
        intro l hl
        exact List.eq_of_mem_replicate hl
      rw [er] at h
      exact op_repE pins s σ H _ _ v u Q I rx ry ⟨a, k, rfl, rfl, sa, h2, h3, cl _ _ _ _ Tm.refl gr (.tup sa .nil) h⟩
    refine op_repT pins s σ H _ _ v u Q I rx ry ⟨a, _, vs, rfl, rfl, sa, fun e => h1 (by rw [e] at el; exact List.eq_nil_of_length_eq_zero (by simpa using el)), h2, h3, by rw [← el]; exact h4, fun p hp => ?_⟩
    have t := Tm.new (K := (kt X)) (o := .tup (List.replicate k.toNat vs).flatten) hp
    exact cl _ _ _ _ t (gr.keep hp) (.tup (.inl (.inl upd_same)) ((ra.mono t).rep _)) h
  · cases r1; cases r2
    obtain ⟨t1, rfl⟩ := rx
    obtain ⟨t2, rfl⟩ := ry
    exact SB.mul h.1 fun t' k => ⟨.str _, H, I.tok _, ⟨_, rfl⟩, cl _ _ _ _ Tm.refl gr (.str _) h.2⟩
  · exact h.elim
/-- a written dict's value by a text -/
def dicGet : List (D × D) → Str → Option D
  | [], _ => none
  | (.str y, d) :: r, s => if y = s then some d else dicGet r s
  | _ :: r, s => dicGet r s
theorem kvr_get {K : Kt} {H : Hp} {s : Str} : ∀ {kvs : List (D × D)} {vs : List (Key × V)}, KvR K H kvs vs → (dicGet kvs s = none ∧ valV vs (.inr s) = none) ∨ ∃ d v, dicGet kvs s = some d ∧ valV vs (.inr s) = some v ∧ Rp K H d v
  | _, _, .nil => .inl ⟨rfl, rfl⟩
  | _, _, .cons (k := .inl i) h r => by
    have q := kvr_get (s := s) r
    rw [valV_neg (by intro z; cases z)]
    exact q
  | _, _, .cons (k := .inr y) (d := d) (v := v) (r := kr) h r => by
    have q := kvr_get (s := s) r
    have e0 : dicGet ((keyD (.inr y), d) :: kr) s = if y = s then some d else dicGet kr s := rfl
    rw [e0]
    by_cases e : y = s
    · subst e
      rw [if_pos rfl]
      exact .inr ⟨_, _, rfl, valV_pos rfl, h⟩
    · rw [if_neg e, valV_neg (by intro z; cases z; exact e rfl)]
      exact q
/-- in, of told data: a tuple's or a list's items; a text's parts -/
def inK (neg : Bool) (x : D) (a : Addr) (G : Hd) (Q : Qd) : Prop := match x with
  | .tup ks => ∃ kvs ep, G a = some (.dit kvs ep) ∧ keyOk (.tup ks) ∧ Q (.bl (neg ^^ (valT kvs (.tup ks)).isSome)) G
  | .str s => ∃ kvs, G a = some (.dic kvs) ∧ Q (.bl (neg ^^ (dicGet kvs s).isSome)) G
  | _ => False
def inD (neg : Bool) : R2d := fun x y G Q => match y with
  | .tup ys => ∃ d es, Dd G x d ∧ Dds G ys es ∧ sh d ∧ sh (.tup es) ∧ Q (.bl (neg ^^ es.any fun z => eqB z d)) G
  | .ref a => (∃ ys, seqG G a ys ∧ ∃ d es, Dd G x d ∧ Dds G ys es ∧ sh d ∧ sh (.lst es) ∧ Q (.bl (neg ^^ es.any fun z => eqB z d)) G) ∨ inK neg x a G Q
  | .str z => ∃ c : Nat, x = .str ⟨#[c]⟩ ∧ Q (.bl (neg ^^ decide (c ∈ z.cps.toList))) G
  | _ => False
theorem any_py {d : D} (hd : okD d = true) : ∀ {es : List D}, okDs es = true → ((toPys es).any fun z => PyData.eqv z (toPy d)) = es.any fun z => eqB z d
  | [], _ => rfl
  | e :: es, h => by
    simp only [okDs, Bool.and_eq_true] at h
    simp only [toPys, List.any_cons, py_eqv e d h.1 hd, any_py hd h.2]
theorem xor_t {b : Bool} : (true ^^ b) = !b := by cases b <;> rfl
theorem od_inB (neg : Bool) (hu : X.A.units + 64 < cLine) (hu2 : X.A.units + 65 < cLine) : OpD X (compareOp (if neg then .NotIn else .In)) (inD neg) := by
  intro pins s σ H x y v u Q I rx ry ⟨dx, dy, G, q, r1, r2, gr, h, cl⟩
  unfold inD at h
  split at h
  · obtain ⟨d, es, h1, h2, s1, s2, h⟩ := h
    obtain ⟨as, q1⟩ := Dp.reads I _ x v (h1.dp gr r1) rx
    have hy : Dp (kt X) H y (.tuple (toPys es)) := (Dd.tup h2).dp gr r2
    obtain ⟨bs, q2⟩ := Dp.reads I _ y u hy ry
    have hxs : PyData.canLayAll0 (toPys es) = true := SeqAt.canLay_of_shaped (sh_py s2)
    have hr : X.A.units + 1 + min (PyData.depthAll (toPys es)) (toPy d).depth < cLine := room_in_shaped (sh_py s1) hu2
    rw [← any_py s1.1 s2.1] at h
    cases neg with
    | false => exact SeqAt.in_tuple_reads q2 q1 hxs (SeqAt.canLay_of_shaped (sh_py s1)) hr ⟨.bl _, H, I, rfl, cl _ _ _ _ Tm.refl gr (.bl _) (by simpa using h)⟩
    | true => exact SeqAt.notIn_tuple_reads q2 q1 hxs (SeqAt.canLay_of_shaped (sh_py s1)) hr ⟨.bl _, H, I, rfl, cl _ _ _ _ Tm.refl gr (.bl _) (by rw [xor_t] at h; exact h)⟩
  · rcases h with h | h
    rotate_left
    · unfold inK at h
      split at h
      · obtain ⟨kvs, ep, eg, ko, h⟩ := h
        cases r2
        obtain ⟨xs, ha, rxs⟩ := gr _ _ eg
        obtain ⟨dd, hz, hs0⟩ := dit_of I ha rxs
        obtain ⟨nk, hk, hdp⟩ := keyOk_ok ko
        have kn := nest_of I hk r1 rx
        obtain ⟨b, ws, rfl, sb, rb⟩ := r1.tup_inv
        cases (show v = Value.ref b from rx)
        cases (show u = Value.ref _ from ry)
        rw [rxs.isS hk] at h
        have ev : (valueAt (pairsH xs) nk).isSome = (atKey xs nk).isSome := by rw [valueAt_pairsH, Option.isSome_map]
        cases neg with
        | false => exact in_keyed (knd := nestedKind X.prog X.w) (k := nk) (by show X.A.units + 1 + 8 < cLine; omega) ⟨kn, hdp⟩ hs0 ⟨xs, dd, rfl⟩ ⟨.bl _, H, I.tok _, rfl, cl _ _ _ _ Tm.refl gr (.bl _) (by rw [ev]; simpa using h)⟩
        | true => exact notIn_keyed (knd := nestedKind X.prog X.w) (k := nk) (by show X.A.units + 1 + 8 < cLine; omega) ⟨kn, hdp⟩ hs0 ⟨xs, dd, rfl⟩ ⟨.bl _, H, I.tok _, rfl, cl _ _ _ _ Tm.refl gr (.bl _) (by rw [ev]; rw [xor_t] at h; exact h)⟩
      · obtain ⟨kvs, eg, h⟩ := h
        rename_i sx
        cases r1; cases r2
        obtain ⟨vs, hv, rv⟩ := gr _ _ eg
        cases (show u = Value.ref _ from ry)
        have es : (valV vs (.inr sx)).isSome = (dicGet kvs sx).isSome := (kvr_get (s := sx) rv).elim (fun q => by rw [q.1, q.2]; rfl) fun ⟨_, _, q1, q2, _⟩ => by rw [q1, q2]; rfl
        rw [← es] at h
        cases neg with
        | false => exact d_in (by omega) I (DGet.k (k := .inr _) hv) rx fun s' I' => ⟨.bl _, H, I', rfl, cl _ _ _ _ Tm.refl gr (.bl _) (by simpa using h)⟩
        | true => exact d_notIn (by omega) I (DGet.k (k := .inr _) hv) rx fun s' I' => ⟨.bl _, H, I', rfl, cl _ _ _ _ Tm.refl gr (.bl _) (by rw [xor_t] at h; exact h)⟩
      · exact h.elim
    obtain ⟨ys, sq, d, es, h1, h2, s1, s2, h⟩ := h
    obtain ⟨as, q1⟩ := Dp.reads I _ x v (h1.dp gr r1) rx
    have hy : Dp (kt X) H y (.list (toPys es)) := (sq.elim (fun e => Dd.lst e h2) fun e => Dd.rol e h2).dp gr r2
    obtain ⟨bs, q2⟩ := Dp.reads I _ y u hy ry
    have hxs : PyData.canLayAll0 (toPys es) = true := SeqAt.canLay_of_shaped (sh_py s2)
    have hr : X.A.units + 1 + min (PyData.depthAll (toPys es)) (toPy d).depth < cLine := room_in_shaped (sh_py s1) hu2
    rw [← any_py s1.1 s2.1] at h
    cases neg with
    | false => exact SeqAt.in_list_reads q2 q1 hxs (SeqAt.canLay_of_shaped (sh_py s1)) hr ⟨.bl _, H, I, rfl, cl _ _ _ _ Tm.refl gr (.bl _) (by simpa using h)⟩
    | true => exact SeqAt.notIn_list_reads q2 q1 hxs (SeqAt.canLay_of_shaped (sh_py s1)) hr ⟨.bl _, H, I, rfl, cl _ _ _ _ Tm.refl gr (.bl _) (by rw [xor_t] at h; exact h)⟩
  · obtain ⟨c, rfl, h⟩ := h
    cases r1; cases r2
    cases neg with
    | false => exact op_in_sign pins s σ H _ _ v u Q I rx ry ⟨c, _, rfl, rfl, cl _ _ _ _ Tm.refl gr (.bl _) (by simpa using h)⟩
    | true => exact op_notIn_sign pins s σ H _ _ v u Q I rx ry ⟨c, _, rfl, rfl, cl _ _ _ _ Tm.refl gr (.bl _) (by rw [xor_t] at h; exact h)⟩
  · exact h.elim
def isNon : D → Bool
  | .non => true
  | _ => false
def isND (neg : Bool) : R2d := fun x y G Q => match y with
  | .non => Q (.bl (neg ^^ isNon x)) G
  | .bl b => ∃ a, x = .bl a ∧ Q (.bl (neg ^^ decide (a = b))) G
  | _ => False
theorem rp_non {K : Kt} {H : Hp} {x : D} {v : V} (h : Rp K H x v) : decide (v = V.non) = isNon x := by cases h <;> simp [isNon]
theorem od_is : OpD X (compareOp .Is) (isND false) := by
  intro pins s σ H x y v u Q I rx ry ⟨dx, dy, G, q, r1, r2, gr, h, cl⟩
  unfold isND at h
  split at h
  · cases r2
    refine op_isN pins s σ H _ _ v u Q I rx ry ⟨rfl, ?_⟩
    rw [rp_non r1]
    exact cl _ _ _ _ Tm.refl gr (.bl _) (by simpa using h)
  · obtain ⟨a, rfl, h⟩ := h
    cases r1; cases r2
    exact op_is_bl pins s σ H _ _ v u Q I rx ry ⟨a, _, rfl, rfl, cl _ _ _ _ Tm.refl gr (.bl _) (by simpa using h)⟩
  · exact h.elim
theorem od_isnot : OpD X (compareOp .IsNot) (isND true) := by
  intro pins s σ H x y v u Q I rx ry ⟨dx, dy, G, q, r1, r2, gr, h, cl⟩
  unfold isND at h
  split at h
  · cases r2
    refine op_notN pins s σ H _ _ v u Q I rx ry ⟨rfl, ?_⟩
    rw [rp_non r1]
    exact cl _ _ _ _ Tm.refl gr (.bl _) (by simpa using h)
  · obtain ⟨a, rfl, h⟩ := h
    cases r1; cases r2
    exact op_isnot_bl pins s σ H _ _ v u Q I rx ry ⟨a, _, rfl, rfl, cl _ _ _ _ Tm.refl gr (.bl _) (by simpa using h)⟩
  · exact h.elim
def negD : D → Hd → Qd → Prop := fun x G Q => match x with
  | .int i => Q (.int (-i)) G
  | _ => False
theorem ud_neg : UnR X (unaryOp .USub) (lift1 (kt X) negD) := by
  intro pins s σ H x v Q I rx ⟨dx, G, q, r1, gr, h, cl⟩
  unfold negD at h
  split at h
  · cases r1; exact un_neg pins s σ H _ v Q I rx ⟨_, rfl, cl _ _ _ _ Tm.refl gr (.int _) h⟩
  · exact h.elim
/-! in place -/
theorem ipd_add : PIp X .Add (lift2 (kt X) (intD (fun _ _ => True) fun i j => .int (i + j))) := by
  intro pins s σ H x y v u Q I rx ry ⟨dx, dy, G, q, r1, r2, gr, h, cl⟩
  unfold intD at h
  split at h
  · cases r1; cases r2; exact ip_add pins s σ H _ _ v u Q I rx ry ⟨_, _, rfl, rfl, cl _ _ _ _ Tm.refl gr (.int _) h.2⟩
  · exact h.elim
/-! ## items, slices -/
theorem seq_of {K : Kt} {H : Hp} {G : Hd} {a : Addr} {xs : List D} (g : GR K G H) (h : seqG G a xs) : ∃ vs, SqL K H a vs ∧ Rps K H xs vs := by
  rcases h with h | h
  · obtain ⟨vs, e, r⟩ := g a _ h; exact ⟨vs, .inl (.inl e), r⟩
  · obtain ⟨o, vs, e, r⟩ := g a _ h; exact ⟨vs, .inl (.inr ⟨o, e⟩), r⟩
theorem atI_rps {K : Kt} {H : Hp} {xs : List D} {vs : List V} {i : Int} {d : D} (r : Rps K H xs vs) (h : atI xs i = some d) : ∃ v, atI vs i = some v ∧ Rp K H d v := by
  unfold atI at h ⊢
  rw [← r.length]
  cases e : ixN xs.length i with
  | none => rw [e] at h; cases h
  | some j => rw [e] at h; exact r.get h
def ixD : R2d := fun x y G Q => match x, y with
  | .tup xs, .int i => ∃ d, atI xs i = some d ∧ Q d G
  | .ref a, .int i => ∃ xs, seqG G a xs ∧ ∃ d, atI xs i = some d ∧ Q d G
  | .ref a, .tup k => ∃ kvs ep, G a = some (.dit kvs ep) ∧ keyOk (.tup k) ∧ ∃ d, valT kvs (.tup k) = some d ∧ Q d G
  | .rl xs, .int i => ∃ d, atI xs i = some d ∧ Q d G
  | .ref a, .str k => ∃ kvs d, G a = some (.dic kvs) ∧ dicGet kvs k = some d ∧ Q d G
  | .str z, .int i => z.length ≤ sizeLine ∧ ∃ c, atI z.cps.toList i = some c ∧ Q (.str ⟨#[c]⟩) G
  | _, _ => False
theorem sub_dic {value slice : Expr} {pins : List (Addr × Obj)} {s : Shared} {σ : St} {H : Hp} {a : Addr} {y : V} {o : Option V} {u : Value} {Q : VK} (I : L2.Inv X pins σ H s) (g : DGet H a y o) (hs : subscripted slice false (.ref a) u = operate [.ref a, u] (getItem (.ref a) u))
    (get : wpAny (model X.prog X.w) X.A (getItem (.ref a) u) (EP X pins σ Q) X.xe s) : wpAny (model X.prog X.w) X.A (subscriptTail value slice (.ref a) u) (EP X pins σ Q) X.xe s := by
  have hT : s.TypeIs (.ref a) "dict" := dict_typeIs I g
  unfold subscriptTail
  refine wpAny_bind ?_
  rw [getitemInPython_of_ne hT.not_modules]
  refine wpAny_bind (wpAny_specialOf hT PySem.F.slot_dict_getitem.lookup ?_)
  have fin : wpAny (model X.prog X.w) X.A (subscripted slice false (.ref a) u) (fun r s₃ => wpAny (model X.prog X.w) X.A (letTemporaryGo value (.ref a) r >>= fun _ => pure r) (EP X pins σ Q) X.xe s₃) X.xe s := by
    rw [hs]
    exact wpAny_operating (wpAny_mono get (fun r s₃ h₃ => wpAny_bind (wpAny_letTemporaryGo (wpAny_pure h₃))) fun _ _ x => x)
  first
    | exact wpAny_pure (wpAny_bind fin)
    | exact wpAny_bind (wpAny_pure (wpAny_bind fin))
    | exact wpAny_bind fin
theorem ixd (hu : X.A.units + 9 < cLine) : IxR X (lift2 (kt X) ixD) := by
  intro value slice pins s σ H x y v u Q I rx ry ⟨dx, dy, G, q, r1, r2, gr, h, cl⟩ hs
  unfold ixD at h
  split at h
  · obtain ⟨d, e, h⟩ := h
    obtain ⟨a, vs, rfl, sa, ra⟩ := r1.tup_inv
    cases r2
    obtain ⟨z, ez, rz⟩ := atI_rps ra e
    exact ix_tup value slice pins s σ H _ _ v u Q I rx ry ⟨a, vs, _, z, rfl, rfl, sa, ez, cl _ _ _ _ Tm.refl gr rz h⟩ hs
  · obtain ⟨xs, sq, d, e, h⟩ := h
    cases r1; cases r2
    obtain ⟨vs, sa, ra⟩ := seq_of gr sq
    obtain ⟨z, ez, rz⟩ := atI_rps ra e
    exact ix_list value slice pins s σ H _ _ v u Q I rx ry ⟨_, vs, _, z, rfl, rfl, sa, ez, cl _ _ _ _ Tm.refl gr rz h⟩ hs
  · obtain ⟨kvs, ep, e, ko, d, hv, h⟩ := h
    cases r1
    cases (show v = Value.ref _ from rx)
    exact ix_dit hu I ry r2 gr e ko hv h cl hs
  · obtain ⟨d, e, h⟩ := h
    obtain ⟨a, vs, rfl, sa, ra⟩ := r1.rl_inv
    cases r2
    obtain ⟨z, ez, rz⟩ := atI_rps ra e
    exact ix_list value slice pins s σ H _ _ v u Q I rx ry ⟨a, vs, _, z, rfl, rfl, sa.sq, ez, cl _ _ _ _ Tm.refl gr rz h⟩ hs
  · rename_i kx
    obtain ⟨kvs, d, eg, ed, h⟩ := h
    cases r1; cases r2
    obtain ⟨vs, hv, rv⟩ := gr _ _ eg
    rcases kvr_get (s := kx) rv with ⟨q1, _⟩ | ⟨d', v', q1, q2, q3⟩
    · rw [q1] at ed; cases ed
    rw [q1] at ed; cases ed
    cases (show v = Value.ref _ from rx)
    have dg := DGet.k (k := .inr kx) hv
    rw [q2] at dg
    exact sub_dic I dg hs (d_getItem (by omega) I dg ry fun w' s3 I3 rw' => ⟨_, H, I3, rw', cl _ _ _ _ Tm.refl gr q3 h⟩)
  · obtain ⟨hz, c, e, h⟩ := h
    cases r1; cases r2
    exact ix_str value slice pins s σ H _ _ v u Q I rx ry ⟨_, _, c, rfl, rfl, hz, e, cl _ _ _ _ Tm.refl gr (.str _) h⟩ hs
  · exact h.elim
theorem de_ix {a b : Expr} {ta tb : TEd} {pos : Pos} (hu : X.A.units + 9 < cLine) (ha : DE X a ta) (hb : DE X b tb) (hs : PlainIx b) : DE X (.Subscript a b pos) (dOp ixD ta tb) := fun W tk =>
  PEi (pe_ix (ixd hu) (ha W tk) (hb W tk) hs) op_read
def cut {α : Type} (xs : List α) (lo hi : Option Int) : List α := (xs.drop (HT.sIx xs.length 0 lo)).take (HT.sIx xs.length xs.length hi - HT.sIx xs.length 0 lo)
theorem Rps.cut {K : Kt} {H : Hp} {xs : List D} {vs : List V} (r : Rps K H xs vs) (lo hi : Option Int) : Rps K H (cut xs lo hi) (cutV vs lo hi) := by
  unfold S.cut cutV
  rw [r.length]
  exact (r.drop _).take _
abbrev TOd := Wx → Sd → Hd → (Option Int → Hd → Prop) → Prop
def CO (K : Kt) (H : Hp) (Q : Option Int → Hp → Prop) (q : Option Int → Hd → Prop) : Prop := ∀ o H' G', Tm K H H' → GR K G' H' → q o G' → Q o H'
def liftO (K : Kt) (W : WX) (t : TOd) : TO := fun σ H Q => ∃ σd G q w, SR K H σd σ ∧ GR K G H ∧ t w σd G q ∧ CO K H Q q ∧ CW K W H w
def DO' (X : Cx) (e : Option Expr) (t : TOd) : Prop := ∀ W, L2N.Takes X W → PO X e (liftO (kt X) W t)
def dNoPart : TOd := fun _ _ G Q => Q none G
def dPart (te : TEd) : TOd := fun w σ G Q => te w σ G fun d G1 => match d with
  | .int i => Q (some i) G1
  | _ => False
theorem POi {e : Option Expr} {t t' : TO} (h : PO X e t) (i : ∀ σ H Q, t' σ H Q → t σ H Q) : PO X e t' := ⟨fun pins s σ H Q I q => h.run pins s σ H Q I (i _ _ _ q)⟩
theorem do_none : DO' X none dNoPart := fun W tk => POi po_none fun σ H Q ⟨σd, G, q, w, sr, gr, h, cl, cw⟩ => cl _ _ _ Tm.refl gr h
theorem do_some {e : Expr} {te : TEd} (he : DE X e te) : DO' X (some e) (dPart te) := fun W tk => POi (po_some (he W tk)) fun σ H Q ⟨σd, G, q, w, sr, gr, h, cl, cw⟩ =>
  ⟨σd, G, _, w, sr, gr, h, fun v d H1 G1 t1 gr1 r1 h1 => by
    cases d with
    | int i => exact ⟨i, r1.int_inv, cl _ _ _ t1 gr1 h1⟩
    | _ => exact False.elim h1, cw⟩
def slD : D → Option Int → Option Int → Hd → Qd → Prop := fun x lo hi G Q => match x with
  | .tup xs => Q (.tup (cut xs lo hi)) G
  | .ref a => ∃ xs, seqG G a xs ∧ ∀ p, G p = none → Q (.ref p) (st G p (.lst (cut xs lo hi)))
  | .str z => z.length ≤ sizeLine ∧ Q (.str (cutS z lo hi)) G
  | _ => False
theorem sIx_whole {n : Nat} {lo hi : Option Int} (h : HT.sIx n 0 lo = 0 ∧ HT.sIx n n hi = n) {α : Type} {xs : List α} (e : xs.length = n) : cut xs lo hi = xs := by
  unfold cut
  rw [e, h.1, h.2, List.drop_zero, Nat.sub_zero, ← e, List.take_length]
def liftSl (K : Kt) (r : D → Option Int → Option Int → Hd → Qd → Prop) : V → Option Int → Option Int → Hp → VK → Prop := fun x lo hi H Q => ∃ dx G q, Rp K H dx x ∧ GR K G H ∧ r dx lo hi G q ∧ CQ K H Q q
theorem sld : SlR X (liftSl (kt X) slD) := by
  intro pins s σ H x v vl vu lo hi sl Q I rx hs pl pu ⟨dx, G, q, r1, gr, h, cl⟩
  unfold slD at h
  split at h
  · obtain ⟨a, vs, rfl, sa, ra⟩ := r1.tup_inv
    refine sl_tupA pins s σ H _ v vl vu lo hi sl Q I rx hs pl pu ⟨a, vs, rfl, sa, fun hw => ?_, fun hw p hp => ?_⟩
    · rw [sIx_whole hw ra.length] at h
      exact cl _ _ _ _ Tm.refl gr (.tup sa ra) h
    · have t := Tm.new (K := (kt X)) (o := .tup (cutV vs lo hi)) hp
      exact cl _ _ _ _ t (gr.keep hp) (.tup (.inl (.inl upd_same)) ((ra.mono t).cut lo hi)) h
  · obtain ⟨xs, sq, h⟩ := h
    cases r1
    obtain ⟨vs, sa, ra⟩ := seq_of gr sq
    refine sl_list pins s σ H _ v vl vu lo hi sl Q I rx hs pl pu ⟨_, vs, rfl, sa, fun p hp => ?_⟩
    have t := Tm.new (K := (kt X)) (o := .lst (cutV vs lo hi)) hp
    exact cl _ _ _ _ t (gr.new (u := .lst (cut xs lo hi)) hp ⟨_, upd_same, (ra.mono t).cut lo hi⟩) (.ref p) (h p (gr.free hp))
  · cases r1
    exact sl_str pins s σ H _ v vl vu lo hi sl Q I rx hs pl pu ⟨_, rfl, h.1, cl _ _ _ _ Tm.refl gr (.str _) h.2⟩
  · exact h.elim
def dSl (te : TEd) (tl th : TOd) : TEd := fun w σ G Q => te w σ G fun x G1 => tl w σ G1 fun l G2 => th w σ G2 fun u G3 => slD x l u G3 Q
theorem de_slice {e : Expr} {lo hi : Option Expr} {te : TEd} {tl th : TOd} {pos p2 : Pos} (he : DE X e te) (hl : DO' X lo tl) (hh : DO' X hi th) : DE X (.Subscript e (.Slice lo hi none p2) pos) (dSl te tl th) := fun W tk =>
  PEi (pe_slice sld (he W tk) (hl W tk) (hh W tk)) fun σ H Q ⟨σd, G, q, w, sr, gr, h, cl, cw⟩ => ⟨σd, G, _, w, sr, gr, h, fun v d H1 G1 t1 gr1 r1 h1 =>
    ⟨σd, G1, _, w, sr.mono t1, gr1, h1, fun l H2 G2 t2 gr2 h2 => ⟨σd, G2, _, w, sr.mono (t1.trans t2), gr2, h2, fun u H3 G3 t3 gr3 h3 =>
      ⟨d, G3, q, r1.mono (t2.trans t3), gr3, h3, cl.mono ((t1.trans t2).trans t3)⟩, cw.mono (t1.trans t2)⟩, cw.mono t1⟩, cw⟩
def setD : D → D → D → Hd → (Hd → Prop) → Prop := fun o i v G Q => match o, i with
  | .ref a, .int k => ∃ xs, G a = some (.lst xs) ∧ ∃ j, ixN xs.length k = some j ∧ Q (st G a (.lst (xs.set j v)))
  | .ref a, .tup k => ∃ kvs ep, G a = some (.dit kvs ep) ∧ keyOk (.tup k) ∧ kvs.length < sizeLine ∧ ∀ ep', Q (st G a (.dit (putT kvs (.tup k) v) ep'))
  | _, _ => False
theorem psetd (hu : X.A.units + 9 < cLine) : PSet X (lift3 (kt X) setD) := by
  intro pins s σ H o i v ov iv u Q I ro ri rv ⟨d1, d2, d3, G, q, r1, r2, r3, gr, h, cl⟩
  unfold setD at h
  split at h
  · rename_i a k
    obtain ⟨xs, e, j, hj, h⟩ := h
    cases r1; cases r2
    obtain ⟨vs, ev, ra⟩ := gr.lst e
    have t : Tm (kt X) H (upd H a (.lst (vs.set j v))) := Tm.lst ev
    exact set_list pins s σ H _ _ v ov iv u Q I ro ri rv ⟨a, vs, k, j, rfl, rfl, ev, by rw [← ra.length]; exact hj, cl _ _ t (gr.set (u := .lst (xs.set j d3)) t ⟨_, upd_same, (ra.mono t).set (r3.mono t) j⟩) h⟩
  · obtain ⟨kvs, ep, e, ko, hl, h⟩ := h
    cases r1
    cases (show ov = Value.ref _ from ro)
    exact set_dit hu I ri rv r2 r3 gr e ko hl h cl
  · exact h.elim
end
end S
set_option Elab.async false
set_option linter.all false
set_option maxRecDepth 100000
set_option maxHeartbeats 4000000
namespace S
open PySem PySem.Spec L2
open PyProof.Rows hiding St
/-! ## built-ins by values -/
abbrev RCd := List D → Hd → Qd → Prop
def liftC (K : Kt) (r : RCd) : List V → Hp → VK → Prop := fun vs H Q => ∃ ds G q, Rps K H ds vs ∧ GR K G H ∧ r ds G q ∧ CQ K H Q q
def CalB (X : Cx) (f : Value) (r : RCd) : Prop := CallR X f (liftC (kt X) r)
def dBi (r : RCd) (t : TAd) : TEd := fun w σ G Q => t w σ G fun ds G1 => r ds G1 Q
theorem bi_read {K : Kt} {W : WX} {r : RCd} {t : TAd} (σ : St) (H : Hp) (Q : VK) (h : liftE K W (dBi r t) σ H Q) : tCB (liftC K r) (liftA K W t) σ H Q := by
  obtain ⟨σd, G, q, w, sr, gr, h, cl, cw⟩ := h
  exact ⟨σd, G, _, w, sr, gr, h, fun vs ds H1 G1 t1 gr1 r1 h1 => ⟨ds, G1, q, r1, gr1, h1, cl.mono t1⟩, cw⟩
section
variable {X : Cx} {e : Expr} {es : List Expr} {tes : TAd} {x : Str} {p pos : Pos} {r : RCd} {id T : String}
theorem de_bi (hc : CalB X (.builtin id) r) (hg : Gl X x) (hm : X.mg x = none) (hv : bootBuiltins x = some (.builtin id)) (ha : DA X (e :: es) tes) (hn : x ≠ "__name__") (hd : (x == ("__debug__" : Str)) = false) (hs : (e :: es).all unstarE = true) :
    DE X (.Call (.Name x p) (e :: es) [] pos) (dBi r tes) := fun W tk => by
  simp only [List.all_cons, Bool.and_eq_true] at hs
  exact PEi (pe_callB hc hg hm hv (ha W tk) hn hd (star_ok hs.1) (plain_ok hs.2)) bi_read
theorem de_bty (hc : CalB X (.type T) r) (hg : Gl X x) (hm : X.mg x = none) (hv : bootBuiltins x = some (.type T)) (ha : DA X (e :: es) tes) (hn : x ≠ "__name__") (hd : (x == ("__debug__" : Str)) = false) (hs : (e :: es).all unstarE = true) :
    DE X (.Call (.Name x p) (e :: es) [] pos) (dBi r tes) := fun W tk => by
  simp only [List.all_cons, Bool.and_eq_true] at hs
  exact PEi (pe_callTy hc hg hm hv (ha W tk) hn hd (star_ok hs.1) (plain_ok hs.2)) bi_read
end
theorem Rps.one {K : Kt} {H : Hp} {x : D} {vs : List V} (r : Rps K H [x] vs) : ∃ v, vs = [v] ∧ Rp K H x v := by
  cases r with
  | cons h r => cases r; exact ⟨_, rfl, h⟩
theorem Rps.two {K : Kt} {H : Hp} {x y : D} {vs : List V} (r : Rps K H [x, y] vs) : ∃ v u, vs = [v, u] ∧ Rp K H x v ∧ Rp K H y u := by
  cases r with
  | cons h r => obtain ⟨u, rfl, q⟩ := r.one; exact ⟨_, u, rfl, h, q⟩
theorem Rps.bls {K : Kt} {H : Hp} : ∀ {bs : List Bool} {vs : List V}, Rps K H (bs.map D.bl) vs → vs = bs.map V.bl
  | [], _, r => by cases r; rfl
  | b :: bs, _, r => by
    cases r with
    | cons h r => rw [h.bl_inv, Rps.bls r]; rfl
theorem Rps.ints {K : Kt} {H : Hp} : ∀ {ns : List Int} {vs : List V}, Rps K H (ns.map D.int) vs → vs = ns.map V.int
  | [], _, r => by cases r; rfl
  | b :: bs, _, r => by
    cases r with
    | cons h r => rw [h.int_inv, Rps.ints r]; rfl
theorem KvR.length {K : Kt} {H : Hp} : ∀ {a : List (D × D)} {b : List (Key × V)}, KvR K H a b → a.length = b.length
  | _, _, .nil => rfl
  | _, _, .cons _ r => by simp [KvR.length r]
section
variable {X : Cx}
def lenG (G : Hd) (a : Addr) (n : Nat) : Prop := (∃ xs, seqG G a xs ∧ n = xs.length) ∨ (∃ kvs, G a = some (.dic kvs) ∧ n = kvs.length) ∨ (∃ kvs ep, G a = some (.dik kvs ep) ∧ n = kvs.length) ∨ ∃ kvs ep, G a = some (.dit kvs ep) ∧ n = kvs.length
def lenD : RCd := fun ds G Q => match ds with
  | [.str z] => z.length ≤ sizeLine ∧ Q (.int z.length) G
  | [.tup xs] => Q (.int xs.length) G
  | [.rl xs] => Q (.int xs.length) G
  | [.ref a] => ∃ n, lenG G a n ∧ Q (.int n) G
  | _ => False
theorem dikR_len {K : Kt} {H : Hp} : ∀ {kvs : List (Int × D)} {xs : List (Int × Value)}, DikR K H kvs xs → kvs.length = xs.length
  | _, _, .nil => rfl
  | _, _, .cons _ _ q => by simp [dikR_len q]
theorem bd_len : CalB X (.builtin "len") lenD := by
  intro pins s σ H vs us Q I r ⟨ds, G, q, rs, gr, h, cl⟩
  unfold lenD at h
  split at h
  · obtain ⟨v, rfl, r1⟩ := rs.one
    cases r1
    exact call_len_str pins s σ H _ us Q I r ⟨_, rfl, h.1, cl _ _ _ _ Tm.refl gr (.int _) h.2⟩
  · obtain ⟨v, rfl, r1⟩ := rs.one
    obtain ⟨a, vs, rfl, sa, ra⟩ := r1.tup_inv
    exact call_len_seq pins s σ H _ us Q I r ⟨a, vs, rfl, .inr sa, cl _ _ _ _ Tm.refl gr (.int _) (by rw [← ra.length]; exact h)⟩
  · obtain ⟨v, rfl, r1⟩ := rs.one
    obtain ⟨a, vs, rfl, sa, ra⟩ := r1.rl_inv
    exact call_len_seq pins s σ H _ us Q I r ⟨a, vs, rfl, .inl sa.sq, cl _ _ _ _ Tm.refl gr (.int _) (by rw [← ra.length]; exact h)⟩
  · obtain ⟨v, rfl, r1⟩ := rs.one
    cases r1
    obtain ⟨n, hn, h⟩ := h
    rcases hn with ⟨xs, sq, rfl⟩ | ⟨kvs, e, rfl⟩ | ⟨kvs, ep, e, rfl⟩ | ⟨kvs, ep, e, rfl⟩
    · obtain ⟨vs, sa, ra⟩ := seq_of gr sq
      exact call_len_seq pins s σ H _ us Q I r ⟨_, vs, rfl, .inl sa, cl _ _ _ _ Tm.refl gr (.int _) (by rw [← ra.length]; exact h)⟩
    · obtain ⟨vs, sa, ra⟩ := gr _ _ e
      exact call_lenD pins s σ H _ us Q I r ⟨_, vs, rfl, sa, cl _ _ _ _ Tm.refl gr (.int _) (by rw [← ra.length]; exact h)⟩
    · obtain ⟨xs, ha, rd⟩ := gr _ _ e
      obtain ⟨u, rfl, ru⟩ := vals1 r
      cases ru
      obtain ⟨⟨l, hs, o, es, h1, h2, h3, h4, h5, h6⟩, _⟩ := I.hok _ _ ha
      refine call_len_dict (knd := intKind X.prog X.w) hs ⟨o, es, ep, h1, h2, h3, h4, h5, h6⟩ (by rw [sizeLine_eq] at l; omega) ?_
      have hl : kvs.length = xs.length := dikR_len rd
      rw [← hl]
      exact ⟨.int kvs.length, _, I.tok _, ⟨_, rfl⟩, cl _ _ _ _ Tm.refl gr (.int _) h⟩
    · obtain ⟨xs, ha, rd⟩ := gr _ _ e
      obtain ⟨u, rfl, ru⟩ := vals1 r
      cases ru
      obtain ⟨dd, l, hs⟩ := dit_of I ha rd
      refine call_len_dictH hs dd (by rw [sizeLine_eq] at l; omega) ?_
      rw [← dit_len rd]
      exact ⟨.int kvs.length, _, I.tok _, ⟨_, rfl⟩, cl _ _ _ _ Tm.refl gr (.int _) h⟩
  · exact h.elim
/-- a value's built-in type, where it has one -/
inductive TyG (G : Hd) : D → String → Prop
  | non : TyG G .non "NoneType"
  | bl (b : Bool) : TyG G (.bl b) "bool"
  | int (i : Int) : TyG G (.int i) "int"
  | str (x : Str) : TyG G (.str x) "str"
  | tup (xs : List D) : TyG G (.tup xs) "tuple"
  | lst {a : Addr} {xs : List D} : seqG G a xs → TyG G (.ref a) "list"
  | dic {a : Addr} {kvs : List (D × D)} : G a = some (.dic kvs) → TyG G (.ref a) "dict"
def isT (t n : String) : Bool := t == n || (t == "bool" && n == "int")
def tyNames : List String := ["NoneType", "bool", "int", "str", "tuple", "list", "dict"]
theorem kit_all : ∀ t ∈ tyNames, ∀ n ∈ tyNames, kitB t n = some (isT t n) := by decide +kernel
theorem TyG.mem {G : Hd} {x : D} {t : String} (h : TyG G x t) : t ∈ tyNames := by cases h <;> decide
theorem TyG.tyX {K : Kt} {H : Hp} {G : Hd} {x : D} {t : String} {v : V} (g : GR K G H) (h : TyG G x t) (r : Rp K H x v) : TyX K H v (.type t) := by
  cases h with
  | non => cases r; exact .base .non
  | bl b => cases r; exact .base (.bl b)
  | int i => cases r; exact .base (.int i)
  | str x => cases r; exact .base (.str x)
  | tup xs =>
    obtain ⟨a, vs, rfl, sa, ra⟩ := r.tup_inv
    rcases sa with (sa | ⟨o, sa⟩) | ⟨o, its, n, e, c, _⟩
    · exact .base (.tup sa)
    · exact .fTuple sa
    · exact .kTuple e c
  | lst sq =>
    cases r
    rcases sq with e | e
    · obtain ⟨vs, e, _⟩ := g _ _ e; exact .base (.lst e)
    · obtain ⟨o, vs, e, _⟩ := g _ _ e; exact .base (.frz e)
  | dic e =>
    cases r
    obtain ⟨vs, e, _⟩ := g _ _ e; exact .base (.dK e)
def tyS (G : Hd) : D → Option String
  | .non => some "NoneType"
  | .bl _ => some "bool"
  | .int _ => some "int"
  | .str _ => some "str"
  | .tup _ => some "tuple"
  | .ref a => match G a with
    | some (.lst _) => some "list"
    | some (.rol _) => some "list"
    | some (.dic _) => some "dict"
    | _ => none
  | _ => none
theorem tyS_ok {G : Hd} {x : D} {t : String} (h : tyS G x = some t) : TyG G x t := by
  unfold tyS at h
  split at h
  any_goals (first | (cases h; constructor) | (cases h))
  rename_i a
  split at h
  · rename_i xs e; cases h; exact .lst (.inl e)
  · rename_i xs e; cases h; exact .lst (.inr e)
  · rename_i xs e; cases h; exact .dic e
  · cases h
def Kn (G : Hd) (x : D) : Prop := (tyS G x).isSome = true
def isD (G : Hd) (x : D) (n : String) : Bool := isT ((tyS G x).getD "") n
theorem Kn.ty {G : Hd} {x : D} (h : Kn G x) : ∃ t, TyG G x t ∧ ∀ n, isD G x n = isT t n := by
  obtain ⟨t, e⟩ := Option.isSome_iff_exists.mp h
  exact ⟨t, tyS_ok e, fun n => by unfold isD; rw [e]; rfl⟩
def tyIn : D → Bool
  | .ty n => tyNames.contains n
  | _ => false
def isDc (G : Hd) (x : D) : D → Bool
  | .ty n => isD G x n
  | _ => false
def isiD : RCd := fun ds G Q => match ds with
  | [x, .ty n] => Kn G x ∧ tyNames.contains n = true ∧ Q (.bl (isD G x n)) G
  | [x, .tup cs] => Kn G x ∧ cs.all tyIn = true ∧ Q (.bl (cs.any (isDc G x))) G
  | _ => False
theorem tys_of : ∀ {cs : List D}, cs.all tyIn = true → ∃ ns : List String, cs = ns.map D.ty ∧ ∀ n ∈ ns, n ∈ tyNames
  | [], _ => ⟨[], rfl, fun _ h => by cases h⟩
  | c :: cs, h => by
    simp only [List.all_cons, Bool.and_eq_true] at h
    obtain ⟨ns, rfl, hn⟩ := tys_of h.2
    cases c with
    | ty n => exact ⟨n :: ns, rfl, fun m hm => by
        rcases List.mem_cons.mp hm with e | hm
        · rw [e]; simpa [tyIn] using h.1
        · exact hn m hm⟩
    | _ => exact absurd h.1 (by simp [tyIn])
theorem Rps.tys {K : Kt} {H : Hp} : ∀ {ns : List String} {vs : List V}, Rps K H (ns.map D.ty) vs → vs = ns.map V.ty
  | [], _, r => by cases r; rfl
  | b :: bs, _, r => by
    cases r with
    | cons h r => cases h; rw [Rps.tys r]; rfl
theorem paired_tys : ∀ ns : List String, Paired ClsV (ns.map V.ty) (ns.map Value.type)
  | [] => .nil
  | n :: ns => .cons (.ty n) (paired_tys ns)
theorem kitAny_tys {K : Kt} {t : String} (ht : t ∈ tyNames) : ∀ {ns : List String}, (∀ n ∈ ns, n ∈ tyNames) → PySem.W.kitAny K (.type t) (ns.map Value.type) = some (ns.any fun n => isT t n)
  | [], _ => rfl
  | n :: ns, h => by
    have e := kit_ty (K := K) (kit_all t ht n (h n List.mem_cons_self))
    refine kitAny_cons e (fun hb => ?_) fun hb => ?_
    · rw [kitAny_tys ht fun m hm => h m (List.mem_cons_of_mem _ hm)]; simp [List.any_cons, hb]
    · simp [List.any_cons, hb]
theorem bd_isi : CalB X (.builtin "isinstance") isiD := by
  intro pins s σ H vs us Q I r ⟨ds, G, q, rs, gr, h, cl⟩
  unfold isiD at h
  split at h
  · obtain ⟨v, u, rfl, r1, r2⟩ := rs.two
    cases r2
    obtain ⟨hk, hn, h⟩ := h
    obtain ⟨t, ht, hi⟩ := hk.ty
    rw [hi] at h
    replace hn := List.contains_iff_mem.mp hn
    exact call_isi pins s σ H _ us Q I r ⟨v, _, _, _, _, rfl, .ty _, ht.tyX gr r1, kit_ty (kit_all t ht.mem _ hn), cl _ _ _ _ Tm.refl gr (.bl _) h⟩
  · obtain ⟨v, u, rfl, r1, r2⟩ := rs.two
    obtain ⟨hk, hc, h⟩ := h
    obtain ⟨t, ht, hi⟩ := hk.ty
    obtain ⟨ns, rfl, hn⟩ := tys_of hc
    rw [List.any_map, show (isDc G _ ∘ D.ty) = fun n => isT t n from funext hi] at h
    obtain ⟨a, vs, rfl, sa, ra⟩ := r2.tup_inv
    cases ra.tys
    have hk := kitAny_tys (K := (kt X)) ht.mem hn
    obtain ⟨u1, u2, rfl, q1, q2⟩ := vals2 r
    cases (show u2 = Value.ref a from q2)
    obtain ⟨P, Z, p, hx⟩ := kit_of I q1 (ht.tyX gr r1)
    obtain ⟨its, rv, ⟨o, h1, h2, n, h3⟩, _⟩ := I.tuple sa
    have e3 := ClsV.all (paired_tys ns) rv
    subst e3
    obtain ⟨oc, od, dt, sl⟩ := o
    simp only at h2 h3
    subst h2 h3
    exact PySem.W.kia_tup Z I.kIn p h1 hk hx fun tk => ⟨.bl _, H, I.tok tk, rfl, cl _ _ _ _ Tm.refl gr (.bl _) h⟩
  · exact h.elim
def listD : RCd := fun ds G Q => match ds with
  | [.tup xs] => xs.length ≤ sizeLine ∧ ∀ p, G p = none → Q (.ref p) (st G p (.lst xs))
  | [.ref a] => ∃ xs, seqG G a xs ∧ ∀ p, G p = none → Q (.ref p) (st G p (.lst xs))
  | _ => False
theorem bd_list : CalB X (.type "list") listD := by
  intro pins s σ H vs us Q I r ⟨ds, G, q, rs, gr, h, cl⟩
  unfold listD at h
  split at h
  · obtain ⟨v, rfl, r1⟩ := rs.one
    obtain ⟨a, vs, rfl, sa, ra⟩ := r1.tup_inv
    exact call_list_of pins s σ H _ us Q I r ⟨a, vs, rfl, .inr sa, fun p hp => cl _ _ _ _ (Tm.new hp) (gr.new (u := .lst _) hp ⟨_, upd_same, ra.mono (Tm.new hp)⟩) (.ref p) (h.2 p (gr.free hp))⟩
  · obtain ⟨v, rfl, r1⟩ := rs.one
    cases r1
    obtain ⟨xs, sq, h⟩ := h
    obtain ⟨vs, sa, ra⟩ := seq_of gr sq
    exact call_list_of pins s σ H _ us Q I r ⟨_, vs, rfl, .inl sa, fun p hp => cl _ _ _ _ (Tm.new hp) (gr.new (u := .lst _) hp ⟨_, upd_same, ra.mono (Tm.new hp)⟩) (.ref p) (h p (gr.free hp))⟩
  · exact h.elim
def tupleD : RCd := fun ds G Q => match ds with
  | [.tup xs] => Q (.tup xs) G
  | [.ref a] => ∃ xs, seqG G a xs ∧ Q (.tup xs) G
  | _ => False
theorem bd_tuple : CalB X (.type "tuple") tupleD := by
  intro pins s σ H vs us Q I r ⟨ds, G, q, rs, gr, h, cl⟩
  unfold tupleD at h
  split at h
  · obtain ⟨v, rfl, r1⟩ := rs.one
    obtain ⟨a, vs, rfl, sa, ra⟩ := r1.tup_inv
    exact call_tuple_of pins s σ H _ us Q I r ⟨a, vs, rfl, .inr ⟨sa, cl _ _ _ _ Tm.refl gr (.tup sa ra) h⟩⟩
  · obtain ⟨v, rfl, r1⟩ := rs.one
    cases r1
    obtain ⟨xs, sq, h⟩ := h
    obtain ⟨vs, sa, ra⟩ := seq_of gr sq
    exact call_tuple_of pins s σ H _ us Q I r ⟨_, vs, rfl, .inl ⟨sa, fun p hp => cl _ _ _ _ (Tm.new hp) (gr.keep hp) (.tup (.inl (.inl upd_same)) (ra.mono (Tm.new hp))) h⟩⟩
  · exact h.elim
def allD : RCd := fun ds G Q => match ds with
  | [.ref a] => ∃ bs : List Bool, seqG G a (bs.map D.bl) ∧ Q (.bl (bs.all id)) G
  | _ => False
theorem bd_all (hc : X.calm = true) : CalB X (.builtin "all") allD := by
  intro pins s σ H vs us Q I r ⟨ds, G, q, rs, gr, h, cl⟩
  unfold allD at h
  split at h
  · obtain ⟨v, rfl, r1⟩ := rs.one
    cases r1
    obtain ⟨bs, sq, h⟩ := h
    obtain ⟨vs, sa, ra⟩ := seq_of gr sq
    rw [ra.bls] at sa
    exact cr_all hc pins s σ H _ us Q I r ⟨_, bs, rfl, sa, cl _ _ _ _ Tm.refl gr (.bl _) h⟩
  · exact h.elim
def anyD : RCd := fun ds G Q => match ds with
  | [.ref a] => ∃ bs : List Bool, seqG G a (bs.map D.bl) ∧ Q (.bl (bs.any id)) G
  | _ => False
theorem bd_any (hc : X.calm = true) : CalB X (.builtin "any") anyD := by
  intro pins s σ H vs us Q I r ⟨ds, G, q, rs, gr, h, cl⟩
  unfold anyD at h
  split at h
  · obtain ⟨v, rfl, r1⟩ := rs.one
    cases r1
    obtain ⟨bs, sq, h⟩ := h
    obtain ⟨vs, sa, ra⟩ := seq_of gr sq
    rw [ra.bls] at sa
    exact cr_any hc pins s σ H _ us Q I r ⟨_, bs, rfl, sa, cl _ _ _ _ Tm.refl gr (.bl _) h⟩
  · exact h.elim
def sumD : RCd := fun ds G Q => match ds with
  | [.ref a] => ∃ ns : List Int, seqG G a (ns.map D.int) ∧ Q (.int ns.sum) G
  | _ => False
theorem bd_sum (hc : X.calm = true) : CalB X (.builtin "sum") sumD := by
  intro pins s σ H vs us Q I r ⟨ds, G, q, rs, gr, h, cl⟩
  unfold sumD at h
  split at h
  · obtain ⟨v, rfl, r1⟩ := rs.one
    cases r1
    obtain ⟨bs, sq, h⟩ := h
    obtain ⟨vs, sa, ra⟩ := seq_of gr sq
    rw [ra.ints] at sa
    exact cr_sum hc pins s σ H _ us Q I r ⟨_, bs, rfl, sa, cl _ _ _ _ Tm.refl gr (.int _) h⟩
  · exact h.elim
/-! max of a tuple, min of two tuples -/
theorem foldl_max_top : ∀ (ns : List Int) (n : Int), ns.foldl max n ∈ n :: ns ∧ ∀ y ∈ n :: ns, y ≤ ns.foldl max n
  | [], n => ⟨by simp, fun y hy => by simp at hy; rw [hy]; exact Int.le_refl _⟩
  | k :: r, n => by
    obtain ⟨h1, h2⟩ := foldl_max_top r (max n k)
    refine ⟨?_, fun y hy => ?_⟩
    · show r.foldl max (max n k) ∈ _
      rcases List.mem_cons.mp h1 with h | h
      · rw [h]
        rcases Int.le_total n k with l | l
        · rw [Int.max_eq_right l]; simp
        · rw [Int.max_eq_left l]; simp
      · simp [h]
    · show y ≤ r.foldl max (max n k)
      have h3 := h2 (max n k) List.mem_cons_self
      rcases List.mem_cons.mp hy with rfl | hy
      · omega
      · rcases List.mem_cons.mp hy with rfl | hy
        · omega
        · exact h2 y (List.mem_cons_of_mem _ hy)
theorem alike_ints (ns : List Int) : PySem.W.AlikeAll (ns.map PyData.int) := ⟨fun x hx y hy => by
  obtain ⟨i, _, rfl⟩ := List.mem_map.mp hx
  obtain ⟨j, _, rfl⟩ := List.mem_map.mp hy
  rfl, fun x hx => by
  obtain ⟨i, _, rfl⟩ := List.mem_map.mp hx
  exact fun z => by cases z⟩
theorem depth_ints (ns : List Int) : PyData.depthAll (ns.map PyData.int) ≤ 1 := by
  induction ns with
  | nil => simp [PyData.depthAll]
  | cons n ns ih => simp only [List.map_cons, PyData.depthAll, PyData.depth]; omega
section
variable {prog : Program} {w : World} {A : Around} {E : Value → Shared → Prop} {s : Shared}
theorem call_min_twoH {a b : Value} {Q : Value → Shared → Prop}
    (h : wpAny (model prog w) A.in1 (pyIter (.ref s.heap.objs.size)) (fun it s₂ => ∃ I fp wr G n P St H bt, it = .ref I ∧ WalksS prog w A.in1 I fp wr G n P St ∧ St 0 s₂ ∧ (∀ b ∈ fp, b < s₂.heap.objs.size) ∧ 0 < n ∧
      (∀ b o, H.get? b = some o → b ∉ wr) ∧ (∀ b o, H.get? b = some o → s₂.heap.get? b = some o) ∧ CmpIn prog w A.in1 .Lt H P bt ∧ ∀ v s', P (argBest bt (n - 1)) v → Moved wr G s₂ s' → Q v s') E
      { s with heap := s.heap.push { cls := .type "tuple", data := .seq #[a, b] } }) :
    wpAny (model prog w) A (call (.builtin "min") [a, b]) Q E s := by
  have hname : (toString "min" ++ toString ".loop" : String) = "min.loop" := by decide
  refine call_function_tree F.kind_min F.plain_min F.entry_min (F.args_min2 _ _) ?_
  show wpAny _ A.in1 (Builtin.Builtins.bindParams "min" ["key", "default"] 0 ⟨[], []⟩ >>= _) _ _ s
  refine wpAny_bind (wpAny_of_eq (show Builtin.Builtins.bindParams "min" ["key", "default"] 0 ⟨[], []⟩ = pure [none, none] from rfl) ?_)
  show wpAny _ A.in1 (newTuple [a, b] >>= _) _ _ s
  refine wpAny_bind (wpAny_newObj_type ?_)
  refine wpAny_bind (wpAny_mono h (fun it s₂ h₂ => ?_) fun _ _ e => e)
  obtain ⟨I, fp, wr, G, n, P, St, H, bt, rfl, W, hst, hfp, hn, hw, hkeep, hcmp, hQ⟩ := h₂
  refine wpAny_bind (wpAny_newObj_type ?_)
  have hSf : s₂.heap.objs.size ∉ fp := fun hm => Nat.lt_irrefl _ (hfp _ hm)
  rw [hname]
  refine wpAny_pure ⟨plainId_quiet F.plain_min_loop _, codeAny_min_loop_firstH W H hw bt hcmp s₂.heap.objs.size hSf (fresh_in hkeep) _ hn (fun b o e => Heap.get?_push_of_some _ (hkeep b o e)) (W.frame 0 s₂ _ s₂.toks hst (Nat.le_refl _) fun b _ o e => Heap.get?_push_of_some _ e) (Heap.get?_push_size _ rfl) fun v s' hP hm => ?_⟩
  exact hQ v s' hP (Moved.drop_new (tk := s₂.toks) hm (Nat.le_refl _))
theorem min_two_data {a b : Value} {x y : PyData} {as bs : List Addr} {Q : Value → Shared → Prop} (hh : A.handled = none) (ra : Reads s.heap a x as) (rb : Reads s.heap b y bs) (ha : PySem.W.AlikeAll [x, y]) (hu : A.units + 1 + PyData.depthAll [x, y] < cLine)
    (h : ∀ h' tk, (∀ b o, s.heap.get? b = some o → h'.get? b = some o) → Q (if PySem.W.dataLt y x then b else a) { s with heap := h', toks := tk }) :
    wpAny (model prog w) A (call (.builtin "min") [a, b]) Q E s := by
  refine call_min_twoH ?_
  have k0 : ∀ c o, s.heap.get? c = some o → (s.heap.push { cls := .type "tuple", data := .seq #[a, b] }).get? c = some o := fun c o e => Heap.get?_push_of_some _ e
  have hr : ReadsAll (s.heap.push { cls := .type "tuple", data := .seq #[a, b] }) (#[a, b] : Array Value).toList [x, y] (as ++ (bs ++ [])) := .cons (PySem.W.reads_keeps k0 ra) (.cons (PySem.W.reads_keeps k0 rb) .nil)
  refine PySem.W.iter_tupleW (s := { s with heap := s.heap.push { cls := .type "tuple", data := .seq #[a, b] } }) (A := A.in1) hh ⟨_, Heap.get?_push_size _ rfl, rfl, _, rfl⟩ fun s₂ e W st hfp hw hk => ?_
  refine ⟨_, _, _, _, _, _, _, _, _, rfl, W, st, hfp, (show 0 < 2 by decide), hw, hk, PySem.W.cmpIn_lt (A := A.in1) hr ha (by show A.units + 1 + _ < _; exact hu), fun v s' hP m => ?_⟩
  obtain ⟨h', tk, rfl, hk'⟩ := PySem.W.moved_old e rfl m
  refine (?_ : Q v _)
  have hv : v = if PySem.W.dataLt y x then b else a := by
    have hP : (#[a, b] : Array Value)[argBest (fun i j => PySem.W.dataLt ([x, y].getD i .none) ([x, y].getD j .none)) 1]? = some v := hP
    have hP : (#[a, b] : Array Value)[if PySem.W.dataLt y x then 0 + 1 else 0]? = some v := hP
    by_cases hl : PySem.W.dataLt y x = true
    · rw [if_pos hl] at hP ⊢
      exact (Option.some.inj hP).symm
    · rw [if_neg hl] at hP ⊢
      exact (Option.some.inj hP).symm
  subst hv
  exact h h' tk fun c o e => hk' c o (k0 c o e)
end
def maxD : RCd := fun ds G Q => match ds with
  | [.int i, .int j] => Q (.int (max i j)) G
  | [.ref a] => ∃ ns : List Int, seqG G a (ns.map D.int) ∧ 0 < ns.length ∧ ∀ m, m ∈ ns → (∀ y, y ∈ ns → y ≤ m) → Q (.int m) G
  | [.tup xs] => ∃ ns : List Int, xs = ns.map D.int ∧ 0 < ns.length ∧ ∀ m, m ∈ ns → (∀ y, y ∈ ns → y ≤ m) → Q (.int m) G
  | _ => False
theorem bd_max (hc : X.calm = true) (hu : X.A.units + 65 < cLine) : CalB X (.builtin "max") maxD := by
  intro pins s σ H vs us Q I r ⟨ds, G, q, rs, gr, h, cl⟩
  unfold maxD at h
  split at h
  · obtain ⟨v, u, rfl, r1, r2⟩ := rs.two
    cases r1; cases r2
    refine call_max2 hc pins s σ H _ us Q I r ⟨_, _, rfl, cl _ _ _ _ Tm.refl gr (.int _) ?_⟩
    rename_i i j
    have e : (if j > i then j else i) = max i j := by rw [Int.max_def]; split <;> split <;> omega
    rw [e]; exact h
  · obtain ⟨v, rfl, r1⟩ := rs.one
    cases r1
    obtain ⟨ns, sq, hp, h⟩ := h
    obtain ⟨vs, sa, ra⟩ := seq_of gr sq
    rw [ra.ints] at sa
    exact cr_max hc pins s σ H _ us Q I r ⟨_, ns, rfl, sa, hp, fun m m1 m2 => cl _ _ _ _ Tm.refl gr (.int _) (h m m1 m2)⟩
  · obtain ⟨v, rfl, r1⟩ := rs.one
    obtain ⟨a, ws, rfl, sa, ra⟩ := r1.tup_inv
    obtain ⟨ns, rfl, hp, h⟩ := h
    rw [ra.ints] at sa
    obtain ⟨its, rv, hl, _⟩ := I.tuple sa
    rw [Vals.ref1 r]
    cases ns with
    | nil => simp at hp
    | cons n ns =>
      have d1 := depth_ints (n :: ns)
      obtain ⟨m1, m2⟩ := foldl_max_top ns n
      refine PySem.W.max_tuple_data (I.ok.hd hc) hl (ints_readAll _ (by simpa using rv.ints)) (alike_ints (n :: ns)) (by show _ + 1 + PyData.depthAll ((n :: ns).map PyData.int) < _; omega) fun i v h' tk bs hv rd hk => ?_
      rw [PySem.W.maxD_ints] at rd
      cases rd with
      | int _ t' => exact ⟨.int _, H, I.kept hk, ⟨_, rfl⟩, cl _ _ _ _ Tm.refl gr (.int _) (h _ m1 m2)⟩
  · exact h.elim
def minD : RCd := fun ds G Q => match ds with
  | [.int i, .int j] => Q (.int (min i j)) G
  | [.ref a] => ∃ ns : List Int, seqG G a (ns.map D.int) ∧ 0 < ns.length ∧ ∀ m, m ∈ ns → (∀ y, y ∈ ns → m ≤ y) → Q (.int m) G
  | [.tup xs, .tup ys] => ∃ d1 d2, Dd G (.tup xs) d1 ∧ Dd G (.tup ys) d2 ∧ PySem.W.AlikeAll [toPy d1, toPy d2] ∧ dep d1 ≤ 20 ∧ dep d2 ≤ 20 ∧ Q (if PySem.W.dataLt (toPy d2) (toPy d1) then .tup ys else .tup xs) G
  | _ => False
theorem bd_min (hc : X.calm = true) (hu : X.A.units + 65 < cLine) : CalB X (.builtin "min") minD := by
  intro pins s σ H vs us Q I r ⟨ds, G, q, rs, gr, h, cl⟩
  unfold minD at h
  split at h
  · obtain ⟨v, u, rfl, r1, r2⟩ := rs.two
    cases r1; cases r2
    refine call_min2 hc pins s σ H _ us Q I r ⟨_, _, rfl, cl _ _ _ _ Tm.refl gr (.int _) ?_⟩
    rename_i i j
    have e : (if j < i then j else i) = min i j := by rw [Int.min_def]; split <;> split <;> omega
    rw [e]; exact h
  · obtain ⟨v, rfl, r1⟩ := rs.one
    cases r1
    obtain ⟨ns, sq, hp, h⟩ := h
    obtain ⟨vs, sa, ra⟩ := seq_of gr sq
    rw [ra.ints] at sa
    exact cr_min hc pins s σ H _ us Q I r ⟨_, ns, rfl, sa, hp, fun m m1 m2 => cl _ _ _ _ Tm.refl gr (.int _) (h m m1 m2)⟩
  · rename_i xs ys
    obtain ⟨v, u, rfl, r1, r2⟩ := rs.two
    obtain ⟨d1, d2, dx, dy, al, px, py, h⟩ := h
    obtain ⟨a, b, rfl, ra, rb⟩ := vals2 r
    obtain ⟨as, rda⟩ := Dp.reads I _ _ _ (dx.dp gr r1) ra
    obtain ⟨bs, rdb⟩ := Dp.reads I _ _ _ (dy.dp gr r2) rb
    have p1 := py_depth d1
    have p2 := py_depth d2
    have p3 : PyData.depthAll [toPy d1, toPy d2] ≤ 20 := by simp only [PyData.depthAll]; omega
    refine min_two_data (I.ok.hd hc) rda rdb al (by show _ + 1 + _ < _; omega) fun h' tk hk => ?_
    split at h
    · rename_i hl
      rw [if_pos hl]
      exact ⟨u, H, I.kept hk, rb, cl _ _ _ _ Tm.refl gr r2 h⟩
    · rename_i hl
      rw [if_neg hl]
      exact ⟨v, H, I.kept hk, ra, cl _ _ _ _ Tm.refl gr r1 h⟩
  · exact h.elim
def absD : RCd := fun ds G Q => match ds with
  | [.int i] => Q (.int (i.natAbs : Int)) G
  | _ => False
theorem bd_abs : CalB X (.builtin "abs") absD := by
  intro pins s σ H vs us Q I r ⟨ds, G, q, rs, gr, h, cl⟩
  unfold absD at h
  split at h
  · obtain ⟨v, rfl, r1⟩ := rs.one
    cases r1
    refine call_abs pins s σ H _ us Q I r ⟨_, rfl, cl _ _ _ _ Tm.refl gr (.int _) ?_⟩
    rename_i i
    have e : (if i < 0 then -i else i) = (i.natAbs : Int) := by split <;> omega
    rw [e]; exact h
  · exact h.elim
def intBD : RCd := fun ds G Q => match ds with
  | [.int i] => Q (.int i) G
  | [.bl b] => Q (.int (if b then 1 else 0)) G
  | [.str a] => ∃ n, PySem.intText? a = some n ∧ a.length ≤ 640 ∧ Q (.int n) G
  | _ => False
theorem bd_int : CalB X (.type "int") intBD := by
  intro pins s σ H vs us Q I r ⟨ds, G, q, rs, gr, h, cl⟩
  unfold intBD at h
  split at h
  · obtain ⟨v, rfl, r1⟩ := rs.one
    cases r1
    exact call_int1 pins s σ H _ us Q I r (.inl ⟨_, rfl, cl _ _ _ _ Tm.refl gr (.int _) h⟩)
  · obtain ⟨v, rfl, r1⟩ := rs.one
    cases r1
    exact call_int1 pins s σ H _ us Q I r (.inr ⟨_, rfl, cl _ _ _ _ Tm.refl gr (.int _) h⟩)
  · obtain ⟨n, hn, hl, h⟩ := h
    obtain ⟨v, rfl, r1⟩ := rs.one
    cases r1
    exact call_int_str pins s σ H _ us Q I r ⟨_, n, rfl, hn, hl, cl _ _ _ _ Tm.refl gr (.int _) h⟩
  · exact h.elim
/-! sorted -/
def srt (xs : List D) : List D := xs.mergeSort (PySem.W.dataLe false toPy)
/-- told data without lists, alike at each place: it can be sorted -/
structure SrtOk (G : Hd) (xs : List D) : Prop where
  dd : Dds G xs xs
  ok : okDs xs = true
  dp : deps xs ≤ 50
  al : ∀ x ∈ xs, ∀ y ∈ xs, PySem.W.alike (toPy x) (toPy y) = true
  st : (∀ x ∈ xs, ∃ y r, x = .tup (y :: r)) ∨ ∀ x ∈ xs, ∃ i, x = .int i
  len : xs.length ≤ sizeLine
def sortedD : RCd := fun ds G Q => match ds with
  | [.ref a] => ∃ xs, seqG G a xs ∧ SrtOk G xs ∧ ∀ p, G p = none → Q (.ref p) (st G p (.lst (srt xs)))
  | _ => False
theorem deps_mem : ∀ {xs : List D}, ∀ x ∈ xs, dep x ≤ deps xs
  | [], _, h => by cases h
  | x :: xs, y, hy => by
    simp only [deps]
    rcases List.mem_cons.mp hy with rfl | hy
    · exact Nat.le_max_left _ _
    · exact Nat.le_trans (deps_mem y hy) (Nat.le_max_right _ _)
theorem each_rp {K : Kt} {H : Hp} : ∀ {xs : List D} {ws : List V} {its : List Value}, Rps K H xs ws → Vals ws its → PySem.W.EachIs (fun u x => ∃ v, Rp K H x v ∧ RelV v u) its xs
  | _, _, _, .nil, q => by cases q; exact .nil
  | _, _, _, .cons h r, q => by cases q with | cons q qs => exact .cons ⟨_, h, q⟩ (each_rp r qs)
theorem each_reads {G : Hd} {pins : List (Addr × Obj)} {s : Shared} {σ : St} {H : Hp} (I : L2.Inv X pins σ H s) (gr : GR (kt X) G H) : ∀ {xs : List D} {ws : List V} {its : List Value}, Rps (kt X) H xs ws → Vals ws its → Dds G xs xs → PySem.W.EachIs (fun u x => ∃ as, Reads s.heap u (toPy x) as) its xs
  | _, _, _, .nil, q, _ => by cases q; exact .nil
  | _, _, _, .cons h r, q, d => by
    cases q with
    | cons q qs =>
      cases d with
      | cons d ds => exact .cons (Dp.reads I _ _ _ (d.dp gr h) q) (each_reads I gr r qs ds)
theorem each_back {K : Kt} {H : Hp} : ∀ {out : List Value} {ys : List D}, PySem.W.EachIs (fun u x => ∃ v, Rp K H x v ∧ RelV v u) out ys → ∃ vs, Rps K H ys vs ∧ Vals vs out
  | _, _, .nil => ⟨[], .nil, .nil⟩
  | _, _, .cons ⟨v, h1, h2⟩ e => by
    obtain ⟨vs, h3, h4⟩ := each_back e
    exact ⟨v :: vs, .cons h1 h3, .cons h2 h4⟩
theorem bd_sorted (hu : X.A.units + 65 < cLine) : CalB X (.builtin "sorted") sortedD := by
  intro pins s σ H vs us Q I r ⟨ds, G, q, rs, gr, h, cl⟩
  unfold sortedD at h
  split at h
  · obtain ⟨v, rfl, r1⟩ := rs.one
    cases r1
    obtain ⟨xs, sq, so, h⟩ := h
    obtain ⟨ws, sa, ra⟩ := seq_of gr sq
    obtain ⟨its, rv, hl, _⟩ := I.list sa
    rw [Vals.ref1 r]
    have hal : PySem.W.AllAlike (xs.map toPy) := by
      intro d hd d' hd'
      obtain ⟨x, hx, rfl⟩ := List.mem_map.mp hd
      obtain ⟨y, hy, rfl⟩ := List.mem_map.mp hd'
      exact so.al x hx y hy
    have hk : PySem.W.Sortable (xs.map toPy) := by
      rcases so.st with h | h
      · refine .inl fun d hd => ?_
        obtain ⟨x, hx, rfl⟩ := List.mem_map.mp hd
        obtain ⟨y, r, rfl⟩ := h x hx
        exact ⟨_, _, rfl⟩
      · refine .inr fun d hd => ?_
        obtain ⟨x, hx, rfl⟩ := List.mem_map.mp hd
        obtain ⟨i, rfl⟩ := h x hx
        exact ⟨fun z => (by cases z), fun _ z => (by cases z)⟩
    have hel := ra.length
    refine PySem.W.sorted_data (bs := xs) (enc := toPy) (R := fun u x => ∃ v, Rp (kt X) H x v ∧ RelV v u) (vs := its) (by simpa using hl.isList) (each_rp ra rv) (each_reads I gr ra rv so.dd) hal hk so.len (fun b hb => ?_) fun out lo eo => ?_
    · have h1 := py_depth b
      have h2 := deps_mem b hb
      have h3 := so.dp
      omega
    · obtain ⟨ep, he'⟩ := PyProof.Rows.sortedAll_at s.heap its out.toArray
      obtain ⟨vs, h1, h2⟩ := each_back eo
      have hn := I.hok.fresh (Nat.le_succ s.heap.objs.size)
      have hlen : vs.length ≤ sizeLine := by
        rw [← h1.length, List.length_mergeSort]; exact so.len
      refine ⟨.ref _, upd H (s.heap.objs.size + 1) (.lst vs), I.laid (t' := s.toks) (fun _ _ => PyProof.Rows.sortedAll_old) (Nat.le_succ _) ⟨hlen, out, ep, h2, by simpa using he'⟩, rfl, ?_⟩
      exact cl _ _ _ _ (Tm.new hn) (gr.new (u := .lst (srt xs)) hn ⟨_, upd_same, h1.mono (Tm.new hn)⟩) (.ref _) (h _ (gr.free hn))
  · exact h.elim
/-! ## built-in methods -/
abbrev RMd := D → List D → Hd → Qd → Prop
def liftM (K : Kt) (r : RMd) : V → List V → Hp → VK → Prop := fun x vs H Q => ∃ dx ds G q, Rp K H dx x ∧ Rps K H ds vs ∧ GR K G H ∧ r dx ds G q ∧ CQ K H Q q
def tyD (T : String) (x : D) (G : Hd) : Prop := match x with
  | .ref a => (T = "list" ∧ ∃ xs, seqG G a xs) ∨ (T = "dict" ∧ ∃ kvs, G a = some (.dic kvs))
  | .str _ => T = "str"
  | _ => False
theorem tyD_v {K : Kt} {T : String} {x : D} {v : V} {G : Hd} {H : Hp} (g : GR K G H) (r : Rp K H x v) (h : tyD T x G) : tyV K T v H := by
  unfold tyD at h
  split at h
  · cases r
    rcases h with ⟨rfl, xs, sq⟩ | ⟨rfl, kvs, e⟩
    · obtain ⟨vs, sa, _⟩ := seq_of g sq; exact .inl ⟨rfl, vs, sa⟩
    · obtain ⟨vs, sa, _⟩ := g _ _ e; exact .inr (.inr (.inl ⟨rfl, .inl ⟨vs, sa⟩⟩))
  · cases r; exact h
  · exact h.elim
def dBm (T : String) (r : RMd) (te : TEd) (t : TAd) : TEd := fun w σ G Q => te w σ G fun x G1 => tyD T x G1 ∧ t w σ G1 fun ds G2 => r x ds G2 Q
def dBm0 (T : String) (r : RMd) (te : TEd) : TEd := fun w σ G Q => te w σ G fun x G1 => tyD T x G1 ∧ r x [] G1 Q
section
variable {o e : Expr} {es : List Expr} {to : TEd} {tes : TAd} {name : Str} {apos cpos : Pos} {T id : String} {r : RMd}
theorem de_bm (pa : PlainAttrs T) (slot : Slot T name id) (hty : typeOf (.builtin id) = pure (.type "method_descriptor")) (hm : MtM X id (liftM (kt X) r)) (ho : DE X o to) (ha : DA X (e :: es) tes)
    (hbase : attributeBase o name X.env (eval o X.env) = eval o X.env) (hline : (apos.endLine == cpos.line) = true) (hs : (e :: es).all unstarE = true)
    (hfew : ((backTo cpos (starEach (e :: es) X.env)).all (fun x => !x.1) && (backToKw cpos (keywordEach [] X.env)).all (fun x => x.1.isSome)
      && decide ((e :: es).length + ([] : List Keyword).length + (if ([] : List Keyword).isEmpty then 0 else 1) < 30)) = true) : DE X (.Call (.Attribute o name apos) (e :: es) [] cpos) (dBm T r to tes) := fun W tk => by
  simp only [List.all_cons, Bool.and_eq_true] at hs
  refine PEi (pe_bm pa slot hty hm (ho W tk) (ha W tk) hbase hfew hline (star_ok hs.1) (plain_ok hs.2)) fun σ H Q ⟨σd, G, q, w, sr, gr, h, cl, cw⟩ => ?_
  exact ⟨σd, G, _, w, sr, gr, h, fun v d H1 G1 t1 gr1 r1 ⟨ty, h1⟩ => ⟨tyD_v gr1 r1 ty, σd, G1, _, w, sr.mono t1, gr1, h1, fun vs ds H2 G2 t2 gr2 r2 h2 =>
    ⟨d, ds, G2, q, r1.mono t2, r2, gr2, h2, cl.mono (t1.trans t2)⟩, cw.mono t1⟩, cw⟩
theorem de_bm0 (pa : PlainAttrs T) (slot : Slot T name id) (hty : typeOf (.builtin id) = pure (.type "method_descriptor")) (hm : MtR X id (liftM (kt X) r)) (ho : DE X o to)
    (hbase : attributeBase o name X.env (eval o X.env) = eval o X.env) (hline : (apos.endLine == cpos.line) = true) : DE X (.Call (.Attribute o name apos) [] [] cpos) (dBm0 T r to) := fun W tk => by
  refine PEi (pe_bm0 pa slot hty hm (ho W tk) hbase hline) fun σ H Q ⟨σd, G, q, w, sr, gr, h, cl, cw⟩ => ?_
  exact ⟨σd, G, _, w, sr, gr, h, fun v d H1 G1 t1 gr1 r1 ⟨ty, h1⟩ => ⟨tyD_v gr1 r1 ty, d, [], G1, q, r1, .nil, gr1, h1, cl.mono t1⟩, cw⟩
end
theorem few_ok {env : Env} {cpos : Pos} {e : Expr} {es : List Expr} (hs : (e :: es).all unstarE = true) (hl : es.length < 20) : ((backTo cpos (starEach (e :: es) env)).all (fun x => !x.1) && (backToKw cpos (keywordEach [] env)).all (fun x => x.1.isSome)
      && decide ((e :: es).length + ([] : List Keyword).length + (if ([] : List Keyword).isEmpty then 0 else 1) < 30)) = true := by
  have h1 := plain_ok (pos := cpos) (env := env) hs
  rw [Bool.and_eq_true, Bool.and_eq_true]
  refine ⟨⟨?_, rfl⟩, decide_eq_true ?_⟩
  · rw [List.all_eq_true]
    intro y hy
    have := (List.any_eq_false.mp h1) y hy
    simpa using this
  · simp only [List.length_cons, List.length_nil, List.isEmpty_nil, if_true]; omega
def appendD : RMd := fun x ds G Q => match x, ds with
  | .ref a, [y] => ∃ xs, G a = some (.lst xs) ∧ xs.length < sizeLine ∧ Q .non (st G a (.lst (xs ++ [y])))
  | _, _ => False
theorem md_append : MtM X "list.append" (liftM (kt X) appendD) := by
  intro pins s σ H x vs v us Q I rx rv ⟨dx, ds, G, q, r1, rs, gr, h, cl⟩
  unfold appendD at h
  split at h
  · obtain ⟨xs, e, hl, h⟩ := h
    cases r1
    obtain ⟨y, rfl, ry⟩ := rs.one
    obtain ⟨zs, ez, rz⟩ := gr.lst e
    have t : Tm (kt X) H (upd H _ (.lst (zs ++ [y]))) := Tm.lst ez
    exact mt_append pins s σ H _ _ v us Q I rx rv ⟨_, zs, y, rfl, rfl, ez, by rw [← rz.length]; exact hl, cl _ _ _ _ t (gr.set (u := .lst _) t ⟨_, upd_same, (rz.mono t).append (.cons (ry.mono t) .nil)⟩) .non h⟩
  · exact h.elim
theorem list_extend_tup (l : Addr) (items : Array Value) (n : Nat) (b : Addr) (items2 : Array Value) (n2 : Nat) (dd : Option Addr) (sl : Array (Option Value)) (hs0 : ¬(!items.isEmpty && Builtin.List.listTooLong (items.size + items2.size)) = true) (hs1 : items.size ≤ sizeLine) (hs2 : items.size + items2.size ≤ sizeLine + 1) :
    Meets (Builtin.«list.extend» ⟨[.ref l, .ref b], []⟩) (fun _ R s => s.heap.get? l = some { cls := .type "list", dict := none, data := .seq items n, slots := #[] } ∧ s.heap.get? b = some { cls := .type "tuple", dict := dd, data := .seq items2 n2, slots := sl } ∧ R (.ok (.ret Value.none)) { s with heap := s.heap.update l (Obj.mapSeq fun x => x ++ items2), toks := s.toks }) :=
  .of_wp fun prog w A R s h => by
    obtain ⟨hp, g, d, tk, os⟩ := s; obtain ⟨hl, hb, h⟩ := h; have f1 := AutoSeq1.idx_int; have f2 := AutoSeq1.sub_tuple_tuple; have f3 := AutoSeq1.sub_list_list; have f4 := AutoSeq1.sub_tuple_list; have f5 := AutoSeq1.sub_list_tuple;
    have hz' : (items ++ items2).size ≤ sizeLine + 1 := by rw [Array.size_append]; exact hs2
    wp_walk using (wpAny_updateSeq hl rfl (hz := hs1) (_hz' := hz')), AutoSeq1.wpAny_loadPart' hl, AutoSeq1.wpAny_loadPart' hb; exact ⟨_, rfl, h⟩
def rExtendT (K : PySem.W.Frag) : V → List V → Hp → VK → Prop := fun x vs H Q => ∃ l b xs zs, x = .ref l ∧ vs = [.ref b] ∧ H l = some (.lst xs) ∧ SqT K H b zs ∧ xs.length + zs.length ≤ sizeLine ∧ Q .non (upd H l (.lst (xs ++ zs)))
theorem mt_extendT : MtM X "list.extend" (rExtendT X.K) := by
  intro pins s σ H x vs v us Q I rx rv h
  obtain ⟨l, b, xs, zs, rfl, rfl, hH, hB, hz, q⟩ := h
  cases rx
  obtain ⟨u, rfl, ru⟩ := rv.one
  cases ru
  obtain ⟨z, its, n, r, hl, e⟩ := I.lstM hH
  obtain ⟨its2, r2, ⟨o2, ho2, hc2, n2, hd2⟩, hl2⟩ := I.tuple hB
  obtain ⟨c2, dd, da, sl⟩ := o2
  cases hc2
  cases hd2
  have hl3 := r2.length
  have hsz : its.toArray.size + its2.toArray.size ≤ sizeLine := by rw [List.size_toArray, List.size_toArray]; omega
  have hlong : ¬ (!its.toArray.isEmpty && Builtin.List.listTooLong (its.toArray.size + its2.toArray.size)) = true := by
    rw [notLongL hsz, Bool.and_false]
    exact Bool.false_ne_true
  refine call_meets F.slot_list_extend ⟨_, e, rfl⟩ F.entry_list_extend (F.args_list_extend_2 _ _)
    (list_extend_tup l its.toArray n b its2.toArray n2 dd sl hlong (by rw [List.size_toArray]; omega) (by omega)) ⟨e, ho2, ?_⟩
  refine ⟨.non, _, I.lset (its' := its ++ its2) hH e (by simp) (r.append r2) ?_, rfl, q⟩
  rw [List.length_append]
  omega
def extendD : RMd := fun x ds G Q => match x, ds with
  | .ref a, [.ref b] => ∃ xs, G a = some (.lst xs) ∧ ∃ ys, G b = some (.lst ys) ∧ xs.length + ys.length ≤ sizeLine ∧ Q .non (st G a (.lst (xs ++ ys)))
  | .ref a, [.tup ys] => ∃ xs, G a = some (.lst xs) ∧ xs.length + ys.length ≤ sizeLine ∧ Q .non (st G a (.lst (xs ++ ys)))
  | _, _ => False
theorem md_extend : MtM X "list.extend" (liftM (kt X) extendD) := by
  intro pins s σ H x vs v us Q I rx rv ⟨dx, ds, G, q, r1, rs, gr, h, cl⟩
  unfold extendD at h
  split at h
  · obtain ⟨xs, e, ys, e2, hl, h⟩ := h
    cases r1
    obtain ⟨y, rfl, ry⟩ := rs.one
    cases ry
    obtain ⟨zs, ez, rz⟩ := gr.lst e
    obtain ⟨us2, eu, ru⟩ := gr.lst e2
    have t : Tm (kt X) H (upd H _ (.lst (zs ++ us2))) := Tm.lst ez
    exact mt_extend pins s σ H _ _ v us Q I rx rv ⟨_, _, zs, us2, rfl, rfl, ez, eu, by rw [← rz.length, ← ru.length]; exact hl, cl _ _ _ _ t (gr.set (u := .lst _) t ⟨_, upd_same, (rz.mono t).append (ru.mono t)⟩) .non h⟩
  · obtain ⟨xs, e, hl, h⟩ := h
    cases r1
    obtain ⟨y, rfl, ry⟩ := rs.one
    obtain ⟨b, us2, rfl, eu, ru⟩ := ry.tup_inv
    obtain ⟨zs, ez, rz⟩ := gr.lst e
    have t : Tm (kt X) H (upd H _ (.lst (zs ++ us2))) := Tm.lst ez
    exact mt_extendT pins s σ H _ _ v us Q I rx rv ⟨_, _, zs, us2, rfl, rfl, ez, eu, by rw [← rz.length, ← ru.length]; exact hl, cl _ _ _ _ t (gr.set (u := .lst _) t ⟨_, upd_same, (rz.mono t).append (ru.mono t)⟩) .non h⟩
  · exact h.elim
def clearD : RMd := fun x ds G Q => match x, ds with
  | .ref a, [] => ∃ xs, G a = some (.lst xs) ∧ Q .non (st G a (.lst []))
  | _, _ => False
theorem md_clear : MtM X "list.clear" (liftM (kt X) clearD) := by
  intro pins s σ H x vs v us Q I rx rv ⟨dx, ds, G, q, r1, rs, gr, h, cl⟩
  unfold clearD at h
  split at h
  · obtain ⟨xs, e, h⟩ := h
    cases r1
    cases rs
    obtain ⟨zs, ez, rz⟩ := gr.lst e
    have t : Tm (kt X) H (upd H _ (.lst [])) := Tm.lst ez
    exact mt_clear pins s σ H _ _ v us Q I rx rv ⟨_, zs, rfl, rfl, ez, cl _ _ _ _ t (gr.set (u := .lst _) t ⟨_, upd_same, .nil⟩) .non h⟩
  · exact h.elim
def revsD : RMd := fun x ds G Q => match x, ds with
  | .ref a, [] => ∃ xs, G a = some (.lst xs) ∧ Q .non (st G a (.lst xs.reverse))
  | _, _ => False
theorem md_reverse : MtM X "list.reverse" (liftM (kt X) revsD) := by
  intro pins s σ H x vs v us Q I rx rv ⟨dx, ds, G, q, r1, rs, gr, h, cl⟩
  unfold revsD at h
  split at h
  · obtain ⟨xs, e, h⟩ := h
    cases r1
    cases rs
    obtain ⟨zs, ez, rz⟩ := gr.lst e
    have t : Tm (kt X) H (upd H _ (.lst zs.reverse)) := Tm.lst ez
    exact mt_reverse pins s σ H _ _ v us Q I rx rv ⟨_, zs, rfl, rfl, ez, cl _ _ _ _ t (gr.set (u := .lst _) t ⟨_, upd_same, (rz.mono t).reverse⟩) .non h⟩
  · exact h.elim
end
end S
set_option Elab.async false
set_option linter.all false
set_option maxRecDepth 100000
set_option maxHeartbeats 4000000
namespace S
open PySem PySem.Spec L2
open PyProof.Rows hiding St
/-! ## the least, the greatest of a list of told data; a sum of lists -/
theorem fold_best {α : Type} {f : α → α → Bool} (irr : ∀ a, f a a = false) (tr : ∀ a b c, f a b = true → f b c = true → f a c = true) : ∀ (xs : List α) (x : α), xs.foldl (fun a y => if f y a then y else a) x ∈ x :: xs ∧ (xs.foldl (fun a y => if f y a then y else a) x = x ∨ f (xs.foldl (fun a y => if f y a then y else a) x) x = true) ∧ ∀ y ∈ x :: xs, f y (xs.foldl (fun a y => if f y a then y else a) x) = false
  | [], x => ⟨by simp, .inl rfl, fun y hy => by
    rw [List.mem_singleton.mp hy]; exact irr x⟩
  | z :: xs, x => by
    have nt : ∀ a b, f a b = true → f b a = false := fun a b h => by
      cases h' : f b a with
      | false => rfl
      | true => have := tr a b a h h'; rw [irr] at this; cases this
    simp only [List.foldl_cons]
    cases hz : f z x with
    | true =>
      rw [if_pos rfl]
      obtain ⟨h1, h2, h3⟩ := fold_best irr tr xs z
      generalize xs.foldl (fun a y => if f y a then y else a) z = m at h1 h2 h3
      have hm : f m x = true := by
        rcases h2 with rfl | h2
        · exact hz
        · exact tr _ _ _ h2 hz
      refine ⟨List.mem_cons_of_mem _ h1, .inr hm, fun y hy => ?_⟩
      rcases List.mem_cons.mp hy with rfl | hy
      · exact nt _ _ hm
      · exact h3 y hy
    | false =>
      rw [if_neg (by decide)]
      obtain ⟨h1, h2, h3⟩ := fold_best irr tr xs x
      generalize xs.foldl (fun a y => if f y a then y else a) x = m at h1 h2 h3
      refine ⟨?_, h2, fun y hy => ?_⟩
      · rcases List.mem_cons.mp h1 with h | h
        · rw [h]; exact List.mem_cons_self
        · exact List.mem_cons_of_mem _ (List.mem_cons_of_mem _ h)
      rcases List.mem_cons.mp hy with rfl | hy
      · exact h3 _ List.mem_cons_self
      rcases List.mem_cons.mp hy with rfl | hy
      · cases hc : f y m with
        | false => rfl
        | true =>
          rcases h2 with rfl | h2
          · rw [hz] at hc; cases hc
          · have := tr _ _ _ hc h2; rw [hz] at this; cases this
      · exact h3 y (List.mem_cons_of_mem _ hy)
def ltP (x y : D) : Bool := PySem.W.dataLt (toPy x) (toPy y)
theorem ltP_irr (a : PyData) : PySem.W.dataLt a a = false := PyProof.Rows.lex_irrefl _
theorem ltP_tr (a b c : PyData) (h : PySem.W.dataLt a b = true) (h' : PySem.W.dataLt b c = true) : PySem.W.dataLt a c = true := PyProof.Rows.lex_trans _ _ _ h h'
structure SrtOkG (ds : List D) : Prop where
  ok : okDs ds = true
  dp : deps ds ≤ 50
  al : ∀ x ∈ ds, ∀ y ∈ ds, PySem.W.alike (toPy x) (toPy y) = true
  st : (∀ x ∈ ds, ∃ y r, x = .tup (y :: r)) ∨ ∀ x ∈ ds, ∃ i, x = .int i
  len : ds.length ≤ sizeLine
def minLD : RCd := fun ds G Q => match ds with
  | [.ref a] => ∃ ts : List (D × D), seqG G a (ts.map (·.1)) ∧ Dds G (ts.map (·.1)) (ts.map (·.2)) ∧ SrtOkG (ts.map (·.2)) ∧ ts ≠ [] ∧ ∀ p ∈ ts, (∀ r ∈ ts, ltP r.2 p.2 = false) → Q p.1 G
  | _ => False
def maxLD : RCd := fun ds G Q => match ds with
  | [.ref a] => ∃ xs, seqG G a xs ∧ SrtOk G xs ∧ xs ≠ [] ∧ ∀ x ∈ xs, (∀ y ∈ xs, ltP x y = false) → Q x G
  | _ => False
theorem each_at {β : Type} {R : Value → β → Prop} : ∀ {its : List Value} {xs : List β} {i : Nat} {v : Value}, PySem.W.EachIs R its xs → its[i]? = some v → ∃ x, xs[i]? = some x ∧ R v x
  | _, _, _, _, .nil, h => by simp at h
  | _ :: _, _ :: _, 0, _, .cons r e, h => by cases h; exact ⟨_, rfl, r⟩
  | _ :: _, _ :: _, i + 1, _, .cons r e, h => by
    obtain ⟨x, h1, h2⟩ := each_at e (by simpa using h)
    exact ⟨x, by simpa using h1, h2⟩
theorem srt_alike {G : Hd} {xs : List D} (so : SrtOk G xs) : PySem.W.AlikeAll (xs.map toPy) := by
  refine ⟨fun d hd d' hd' => ?_, fun d hd => ?_⟩
  · obtain ⟨x, hx, rfl⟩ := List.mem_map.mp hd
    obtain ⟨y, hy, rfl⟩ := List.mem_map.mp hd'
    exact so.al x hx y hy
  · obtain ⟨x, hx, rfl⟩ := List.mem_map.mp hd
    rcases so.st with h | h
    · obtain ⟨y, r, rfl⟩ := h x hx
      exact fun z => by cases z
    · obtain ⟨i, rfl⟩ := h x hx
      exact fun z => by cases z
theorem srt_alikeG {xs : List D} (so : SrtOkG xs) : PySem.W.AlikeAll (xs.map toPy) := by
  refine ⟨fun d hd d' hd' => ?_, fun d hd => ?_⟩
  · obtain ⟨x, hx, rfl⟩ := List.mem_map.mp hd
    obtain ⟨y, hy, rfl⟩ := List.mem_map.mp hd'
    exact so.al x hx y hy
  · obtain ⟨x, hx, rfl⟩ := List.mem_map.mp hd
    rcases so.st with h | h
    · obtain ⟨y, r, rfl⟩ := h x hx
      exact fun z => by cases z
    · obtain ⟨i, rfl⟩ := h x hx
      exact fun z => by cases z
theorem depth_all {xs : List D} : PyData.depthAll (xs.map toPy) ≤ deps xs := by
  induction xs with
  | nil => simp [PyData.depthAll, deps]
  | cons x xs ih =>
    have := py_depth x
    simp only [List.map_cons, PyData.depthAll, deps]
    omega
section
variable {X : Cx}
theorem each_rpG {K : Kt} {H : Hp} : ∀ {ts : List (D × D)} {ws : List V} {its : List Value}, Rps K H (ts.map (·.1)) ws → Vals ws its → PySem.W.EachIs (fun u t => ∃ v, Rp K H t.1 v ∧ RelV v u) its ts
  | [], _, _, r, q => by cases r; cases q; exact .nil
  | t :: ts, _, _, r, q => by
    cases r with
    | cons h r => cases q with | cons q qs => exact .cons ⟨_, h, q⟩ (each_rpG r qs)
theorem each_readsG {G : Hd} {pins : List (Addr × Obj)} {s : Shared} {σ : St} {H : Hp} (I : L2.Inv X pins σ H s) (gr : GR (kt X) G H) : ∀ {ts : List (D × D)} {ws : List V} {its : List Value}, Rps (kt X) H (ts.map (·.1)) ws → Vals ws its → Dds G (ts.map (·.1)) (ts.map (·.2)) → PySem.W.EachIs (fun u t => ∃ as, Reads s.heap u (toPy t.2) as) its ts
  | [], _, _, r, q, _ => by cases r; cases q; exact .nil
  | t :: ts, _, _, r, q, d => by
    cases r with
    | cons h r =>
      cases q with
      | cons q qs =>
        cases d with
        | cons d ds => exact .cons (Dp.reads I _ _ _ (d.dp gr h) q) (each_readsG I gr r qs ds)
theorem pick_backG {G : Hd} {pins : List (Addr × Obj)} {s : Shared} {σ : St} {H : Hp} (I : L2.Inv X pins σ H s) (gr : GR (kt X) G H) {ts : List (D × D)} {ws : List V} {its : List Value} (ra : Rps (kt X) H (ts.map (·.1)) ws) (rv : Vals ws its) (dd : Dds G (ts.map (·.1)) (ts.map (·.2))) {i : Nat} {v : Value} {h' : Heap} {m : PyData} {bs : List Addr} (hk : ∀ b o, s.heap.get? b = some o → h'.get? b = some o) (hv : its[i]? = some v) (hm : Reads h' v m bs) :
    ∃ p u, p ∈ ts ∧ toPy p.2 = m ∧ Rp (kt X) H p.1 u ∧ RelV u v := by
  obtain ⟨x, ex, u, h1, h2⟩ := each_at (each_rpG ra rv) hv
  obtain ⟨x', ex', as, h3⟩ := each_at (each_readsG I gr ra rv dd) hv
  rw [ex] at ex'; cases ex'
  refine ⟨x, u, List.mem_of_getElem? ex, ?_, h1, h2⟩
  exact (PyProof.Rows.reads_det (fun b o e _ => hk b o e) h3 hm).1.symm
theorem pick_back {G : Hd} {pins : List (Addr × Obj)} {s : Shared} {σ : St} {H : Hp} (I : L2.Inv X pins σ H s) (gr : GR (kt X) G H) {xs : List D} {ws : List V} {its : List Value} (ra : Rps (kt X) H xs ws) (rv : Vals ws its) (dd : Dds G xs xs) {i : Nat} {v : Value} {h' : Heap} {m : PyData} {bs : List Addr} (hk : ∀ b o, s.heap.get? b = some o → h'.get? b = some o) (hv : its[i]? = some v) (hm : Reads h' v m bs) :
    ∃ x u, x ∈ xs ∧ toPy x = m ∧ Rp (kt X) H x u ∧ RelV u v := by
  obtain ⟨x, ex, u, h1, h2⟩ := each_at (each_rp ra rv) hv
  obtain ⟨x', ex', as, h3⟩ := each_at (each_reads I gr ra rv dd) hv
  rw [ex] at ex'; cases ex'
  refine ⟨x, u, List.mem_of_getElem? ex, ?_, h1, h2⟩
  exact (PyProof.Rows.reads_det (fun b o e _ => hk b o e) h3 hm).1.symm
theorem bd_minL (hc : X.calm = true) (hu : X.A.units + 65 < cLine) : CalB X (.builtin "min") minLD := by
  intro pins s σ H vs us Q I r ⟨ds, G, q, rs, gr, h, cl⟩
  unfold minLD at h
  split at h
  · obtain ⟨v, rfl, r1⟩ := rs.one
    cases r1
    obtain ⟨ts, sq, dd, so, hne, h⟩ := h
    obtain ⟨ws, sa, ra⟩ := seq_of gr sq
    obtain ⟨its, rv, hl, _⟩ := I.list sa
    rw [Vals.ref1 r]
    obtain ⟨as, hr⟩ := PySem.W.each_readsAll (fun t : D × D => toPy t.2) (each_readsG I gr ra rv dd)
    have hal := srt_alikeG so
    have hd := depth_all (xs := ts.map (·.2))
    have hd2 := so.dp
    rw [List.map_map] at hal hd
    have eo : (toPy ∘ fun t : D × D => t.2) = fun t => toPy t.2 := rfl
    rw [eo] at hal hd
    cases ts with
    | nil => exact absurd rfl hne
    | cons x0 ts =>
      refine PySem.W.min_list_data (I.ok.hd hc) hl.isList (by simpa using hr) hal (by
        show X.A.units + 1 + PyData.depthAll ((x0 :: ts).map fun t => toPy t.2) < _; omega) fun i v h' tk bs hv hrm hk => ?_
      obtain ⟨x, u, hx, em, h1, h2⟩ := pick_backG I gr ra rv dd hk (by simpa using hv) hrm
      obtain ⟨m1, m2, m3⟩ := fold_best (f := PySem.W.dataLt) ltP_irr ltP_tr (ts.map fun t => toPy t.2) (toPy x0.2)
      refine ⟨u, H, I.kept hk, h2, cl _ _ _ _ Tm.refl gr h1 (h x hx fun y hy => ?_)⟩
      unfold ltP
      rw [em]
      exact m3 (toPy y.2) (List.mem_map.mpr ⟨y, hy, rfl⟩ : toPy y.2 ∈ (x0 :: ts).map fun t => toPy t.2)
  · exact h.elim
theorem bd_maxL (hc : X.calm = true) (hu : X.A.units + 65 < cLine) : CalB X (.builtin "max") maxLD := by
  intro pins s σ H vs us Q I r ⟨ds, G, q, rs, gr, h, cl⟩
  unfold maxLD at h
  split at h
  · obtain ⟨v, rfl, r1⟩ := rs.one
    cases r1
    obtain ⟨xs, sq, so, hne, h⟩ := h
    obtain ⟨ws, sa, ra⟩ := seq_of gr sq
    obtain ⟨its, rv, hl, _⟩ := I.list sa
    rw [Vals.ref1 r]
    obtain ⟨as, hr⟩ := PySem.W.each_readsAll toPy (each_reads I gr ra rv so.dd)
    have hal := srt_alike so
    have hd := depth_all (xs := xs)
    have hd2 := so.dp
    cases xs with
    | nil => exact absurd rfl hne
    | cons x0 xs =>
      refine PySem.W.max_list_data (I.ok.hd hc) hl.isList (by simpa using hr) hal (by show X.A.units + 1 + PyData.depthAll ((x0 :: xs).map toPy) < _; omega) fun i v h' tk bs hv hrm hk => ?_
      obtain ⟨x, u, hx, em, h1, h2⟩ := pick_back I gr ra rv so.dd hk (by simpa using hv) hrm
      obtain ⟨m1, m2, m3⟩ := fold_best (f := fun a b => PySem.W.dataLt b a) ltP_irr (fun a b c h h' => ltP_tr _ _ _ h' h) (xs.map toPy) (toPy x0)
      refine ⟨u, H, I.kept hk, h2, cl _ _ _ _ Tm.refl gr h1 (h x hx fun y hy => ?_)⟩
      unfold ltP
      rw [em]
      exact m3 (toPy y) (List.mem_map.mpr ⟨y, hy, rfl⟩ : toPy y ∈ (x0 :: xs).map toPy)
  · exact h.elim
end
section
variable {prog : Program} {w : World} {A : Around} {E : Value → Shared → Prop}
abbrev lrec (its : List Value) (n : Nat) : Obj := { cls := .type "list", dict := none, data := .seq its.toArray n, slots := #[] }
def accL (parts : Nat → List Value) : Nat → List Value
  | 0 => []
  | n + 1 => accL parts n ++ parts n
theorem cat_loop {R : Result → Shared → Prop} {I l : Addr} {vs : Array Value} (W : WalksS prog w A.in1 I [I, l] [I] (fun a b => b = a) vs.size (fun i v => vs[i]? = some v) (fun i s' => s'.heap.IsListIter I l i ∧ s'.heap.IsList l vs)) (H0 : Heap) (hI : H0.get? I = none) (hl : H0.IsList l vs) (parts : Nat → List Value)
    (hp : ∀ (i : Nat) v, vs[i]? = some v → ∃ b n, v = .ref b ∧ H0.get? b = some (lrec (parts i) n)) (S T0 : Addr) (hS0 : H0.get? S = none) (hz : ∀ j, j ≤ vs.size → (accL parts j).length ≤ sizeLine) :
    ∀ (k i : Nat) (s : Shared) (T nT c : Nat), vs.size - i = k → i ≤ vs.size → s.heap.IsListIter I l i ∧ s.heap.IsList l vs → s.heap.get? S = some (lrec [.ref T] c) → s.heap.get? T = some (lrec (accL parts i) nT) →
    (∀ b o, H0.get? b = some o → s.heap.get? b = some o) → (i = 0 ∧ T = T0 ∨ S < T) →
    (∀ s' T' n', s' = { s with heap := s'.heap, toks := s'.toks } → (∀ b o, H0.get? b = some o → s'.heap.get? b = some o) → s'.heap.get? T' = some (lrec (accL parts vs.size) n') → (vs.size = 0 ∧ T' = T0 ∨ S < T') → R (.ok (.ret (.ref T'))) s') →
    codeAny (model prog w) A (.builtin "sum.loop" ⟨[.ref I, .ref S, rawInt 2, rawInt 0], []⟩) R s := by
  have hlS : S ≠ l := fun e => by
    obtain ⟨o, ho, _⟩ := hl
    rw [e, ho] at hS0; cases hS0
  intro k
  induction k with
  | zero =>
    intro i s T nT c hk hi hst hS hT hH hTT hR
    have hin : i = vs.size := by omega
    subst hin
    have hSI : S ≠ I := fun e => by
      obtain ⟨o, ho, hc, _⟩ := hst.1
      rw [← e, hS] at ho; obtain rfl := Option.some.inj ho; simp [lrec] at hc
    have hTI : T ≠ I := fun e => by
      obtain ⟨o, ho, hc, _⟩ := hst.1
      rw [← e, hT] at ho; obtain rfl := Option.some.inj ho; simp [lrec] at hc
    refine codeAny_builtin F.entry_sum_loop ?_
    rw [Around.under_plainId F.plain_sum_loop _]
    show wpAny _ A.in1 (seqItems? (.ref S) >>= _) _ _ s
    refine wpAny_bind (wpAny_seqItems hS rfl ?_)
    show wpAny _ A.in1 (tryCatch (pyNext (.ref I)) _ >>= _) _ _ s
    refine wpAny_bind (wpAny_tryCatch (W.done s _ _ hst fun s' hm => ?_))
    refine wpAny_pure (hR s' T nT hm.eq_with (fun b o e => hm.heap b o (fun hb => ?_) (hH b o e)) (hm.heap T _ (by simpa using hTI) hT) hTT)
    rw [List.mem_singleton.mp hb, hI] at e; cases e
  | succ k ih =>
    intro i s T nT c hk hi hst hS hT hH hTT hR
    have hlt : i < vs.size := by omega
    have hSI : S ≠ I := fun e => by
      obtain ⟨o, ho, hc, _⟩ := hst.1
      rw [← e, hS] at ho; obtain rfl := Option.some.inj ho; simp [lrec] at hc
    have hTI : T ≠ I := fun e => by
      obtain ⟨o, ho, hc, _⟩ := hst.1
      rw [← e, hT] at ho; obtain rfl := Option.some.inj ho; simp [lrec] at hc
    refine codeAny_builtin F.entry_sum_loop ?_
    rw [Around.under_plainId F.plain_sum_loop _]
    show wpAny _ A.in1 (seqItems? (.ref S) >>= _) _ _ s
    refine wpAny_bind (wpAny_seqItems hS rfl ?_)
    show wpAny _ A.in1 (tryCatch (pyNext (.ref I)) _ >>= _) _ _ s
    refine wpAny_bind (wpAny_tryCatch (W.item i s _ _ hlt hst fun v s' hP hst' hm => ?_))
    obtain ⟨b, n, rfl, hb⟩ := hp i v hP
    have hS' := hm.heap S _ (by simpa using hSI) hS
    have hT' := hm.heap T _ (by simpa using hTI) hT
    have hH' : ∀ b o, H0.get? b = some o → s'.heap.get? b = some o := fun b o e => hm.heap b o (fun hb => by rw [List.mem_singleton.mp hb, hI] at e; cases e) (hH b o e)
    have hb' := hH' b _ hb
    show wpAny _ A.in1 ((holding [Value.ref b] (binaryOp .Add (.ref T) (.ref b))).attempt >>= _) _ _ _
    have hzi := hz (i + 1) hlt
    refine wpAny_bind (wpAny_attempt (wpAny_holding (PySem.P.add_list hT' hb' ?_ (by
      simp only [accL, List.length_append] at hzi
      simp only [List.size_toArray]; omega))))
    have ea : (accL parts i).toArray ++ (parts i).toArray = (accL parts (i + 1)).toArray := by simp [accL]
    rw [ea]
    have hS1 := Heap.get?_push_of_some ({ cls := .type "list", data := .seq (accL parts (i + 1)).toArray } : Obj) hS'
    show wpAny _ A.in1 (updateSeq S (fun _ => #[.ref s'.heap.objs.size]) >>= _) _ _ _
    refine wpAny_bind (wpAny_updateSeq hS1 rfl ?_)
    have hS2 := Heap.get?_update_self (Obj.mapSeq fun _ => #[Value.ref s'.heap.objs.size]) hS1 rfl
    refine wpAny_bind (wpAny_letGo ?_)
    refine wpAny_bind (wpAny_updateSeq hS2 rfl ?_)
    have hS3 := Heap.get?_update_self (Obj.mapSeq fun _ => #[Value.ref s'.heap.objs.size]) hS2 rfl
    have old : ∀ {c o}, c ≠ S → s'.heap.get? c = some o → (((s'.heap.push { cls := .type "list", data := .seq (accL parts (i + 1)).toArray }).update S (Obj.mapSeq fun _ => #[Value.ref s'.heap.objs.size])).update S (Obj.mapSeq fun _ => #[Value.ref s'.heap.objs.size])).get? c = some o := fun {c o} hc e =>
      (Heap.get?_update_other _ _ (Ne.symm hc)).trans ((Heap.get?_update_other _ _ (Ne.symm hc)).trans (Heap.get?_push_of_some _ e))
    have hlt' := Heap.lt_size hS'
    have hTS : s'.heap.objs.size ≠ S := Nat.ne_of_gt hlt'
    have hT3 : (((s'.heap.push { cls := .type "list", data := .seq (accL parts (i + 1)).toArray }).update S (Obj.mapSeq fun _ => #[Value.ref s'.heap.objs.size])).update S (Obj.mapSeq fun _ => #[Value.ref s'.heap.objs.size])).get? s'.heap.objs.size = some (lrec (accL parts (i + 1)) 0) :=
      (Heap.get?_update_other _ _ (Ne.symm hTS)).trans ((Heap.get?_update_other _ _ (Ne.symm hTS)).trans (Heap.get?_push_size _ rfl))
    refine wpAny_pure ⟨plainId_quiet F.plain_sum_loop _, ih (i + 1) _ s'.heap.objs.size _ _ (by omega) hlt (W.frame (i + 1) s' _ _ hst' (Nat.le_refl _) fun c hc o e => old ?_ e) hS3 hT3 (fun c o e => old (fun z => by rw [z, hS0] at e; cases e) (hH' c o e)) (.inr hlt') fun s'' T'' n'' e1 e2 e3 e4 => ?_⟩
    · rcases List.mem_cons.mp hc with rfl | hc
      · exact Ne.symm hSI
      · rw [List.mem_singleton.mp hc]; exact Ne.symm hlS
    · have em := hm.eq_with
      refine hR s'' T'' n'' ?_ e2 e3 e4
      rw [e1, em]
theorem sub_lst_b : isSubtype (.type "list") (.type "bytes") = pure false := by rw [isSubtype_type]; kernel_rfl
theorem sub_lst_ba : isSubtype (.type "list") (.type "bytearray") = pure false := by rw [isSubtype_type]; kernel_rfl
theorem args_sum2 (a b : Value) : argsOk "sum" ⟨[a, b], []⟩ := by unfold argsOk; kernel_rfl
theorem call_sum_cat {s : Shared} {l T0 : Addr} {n0 : Nat} {vs : Array Value} {Q : Value → Shared → Prop} (hh : A.handled = none) (hl : s.heap.IsList l vs) (parts : Nat → List Value)
    (hp : ∀ (i : Nat) v, vs[i]? = some v → ∃ b n, v = .ref b ∧ s.heap.get? b = some (lrec (parts i) n)) (hz : ∀ j, j ≤ vs.size → (accL parts j).length ≤ sizeLine) (hT0 : s.heap.get? T0 = some (lrec [] n0))
    (h : ∀ h' tk T n, (∀ b o, s.heap.get? b = some o → h'.get? b = some o) → h'.get? T = some (lrec (accL parts vs.size) n) → (vs.size = 0 ∧ T = T0 ∨ s.heap.objs.size ≤ T) → Q (.ref T) { s with heap := h', toks := tk }) :
    wpAny (model prog w) A (call (.builtin "sum") [.ref l, .ref T0]) Q E s := by
  refine call_function_tree F.kind_sum F.plain_sum F.entry_sum (args_sum2 _ _) ?_
  unfold Builtin.«sum»
  simp only [List.length_cons, List.length_nil]
  rw [if_neg (by decide)]
  refine wpAny_bind (wpAny_of_eq (show Builtin.Builtins.bindParams "sum" ["start"] 0 ⟨[.ref T0], []⟩ = pure [some (.ref T0)] from rfl) ?_)
  refine wpAny_bind (PySem.W.iter_listW (A := A.in1) hh hl fun s₂ e W hst hfp hw hk => ?_)
  refine wpAny_bind (wpAny_pure ?_)
  have hty : s₂.TypeIs (.ref T0) "list" := ⟨_, hk _ _ hT0, rfl⟩
  simp only [List.forIn_cons, List.forIn_nil]
  refine wpAny_bind (wpAny_bind (wpAny_bind (wpAny_isInstance (T := "list") (b := false) hty sub_list_str ?_)))
  simp only [Bool.false_eq_true, if_false]
  refine wpAny_pure (wpAny_bind (wpAny_bind (wpAny_isInstance (T := "list") (b := false) hty sub_lst_b ?_)))
  simp only [Bool.false_eq_true, if_false]
  refine wpAny_pure (wpAny_bind (wpAny_bind (wpAny_isInstance (T := "list") (b := false) hty sub_lst_ba ?_)))
  simp only [Bool.false_eq_true, if_false]
  refine wpAny_pure (wpAny_pure ?_)
  refine wpAny_bind (wpAny_newObj_type ?_)
  have hs2 : s.heap.objs.size < s₂.heap.objs.size := hfp _ List.mem_cons_self
  have hlS : s.heap.get? s₂.heap.objs.size = none := by
    cases hc : s.heap.get? s₂.heap.objs.size with
    | none => rfl
    | some o => exact absurd (Heap.lt_size hc) (Nat.not_lt.mpr (Nat.le_of_lt hs2))
  have hI : s.heap.get? s.heap.objs.size = none := by
    cases hc : s.heap.get? s.heap.objs.size with
    | none => rfl
    | some o => exact absurd (Heap.lt_size hc) (Nat.lt_irrefl _)
  refine wpAny_pure ⟨plainId_quiet F.plain_sum_loop _, cat_loop W s.heap hI hl parts hp s₂.heap.objs.size T0 hlS hz vs.size 0 _ T0 n0 0 rfl (Nat.zero_le _)
    (W.frame 0 s₂ _ _ hst (Nat.le_refl _) fun b _ o e => Heap.get?_push_of_some _ e) (Heap.get?_push_size _ rfl) (Heap.get?_push_of_some _ (hk _ _ hT0)) (fun b o e => Heap.get?_push_of_some _ (hk _ _ e)) (.inl ⟨rfl, rfl⟩) fun s' T n e1 e2 e3 e4 => ?_⟩
  subst e
  rw [e1]
  exact h s'.heap s'.toks T n e2 e3 (by
    rcases e4 with e4 | e4
    · exact .inl e4
    · exact .inr (Nat.le_of_lt (Nat.lt_trans hs2 e4)))
end
/-- sum(lists, []) -/
def sumLD : RCd := fun ds G Q => match ds with
  | [.ref a, .ref t] => ∃ ps : List (Addr × List D), seqG G a (ps.map fun p => .ref p.1) ∧ (∀ p ∈ ps, G p.1 = some (.lst p.2)) ∧ G t = some (.lst []) ∧ (ps.map (·.2)).flatten.length ≤ sizeLine ∧ ∀ p G', (ps = [] ∧ p = t ∧ G' = G ∨ G p = none ∧ G' = st G p (.lst (ps.map (·.2)).flatten)) → Q (.ref p) G'
  | _ => sumD ds G Q
def seqAt (h : Heap) (b : Addr) : List Value := match h.get? b with
  | some o => (match o.data with
    | .seq xs _ => xs.toList
    | _ => [])
  | none => []
theorem seqAt_of {h : Heap} {b : Addr} {its : List Value} {n : Nat} (e : h.get? b = some (lrec its n)) : seqAt h b = its := by
  unfold seqAt; rw [e]
theorem refs_at : ∀ {K : Kt} {H : Hp} {ps : List (Addr × List D)} {ws : List V} {its : List Value}, Rps K H (ps.map fun p => D.ref p.1) ws → Vals ws its → its.length = ps.length ∧ ∀ (i : Nat) v, its[i]? = some v → ∃ p, ps[i]? = some p ∧ v = .ref p.1
  | _, _, [], _, _, .nil, q => by cases q; exact ⟨rfl, fun i v h => by simp at h⟩
  | _, _, p :: ps, _, _, .cons h r, q => by
    cases q with
    | cons q qs =>
      cases h
      cases q
      obtain ⟨h1, h2⟩ := refs_at r qs
      refine ⟨by simp [h1], fun i v h => ?_⟩
      cases i with
      | zero => cases h; exact ⟨p, rfl, rfl⟩
      | succ i => exact h2 i v (by simpa using h)
theorem acc_vals {K : Kt} {H : Hp} {h : Heap} {ps : List (Addr × List D)} (hp : ∀ p ∈ ps, ∃ its n us, h.get? p.1 = some (lrec its n) ∧ Rps K H p.2 us ∧ Vals us its) :
    ∀ j, j ≤ ps.length → ∃ us, Rps K H ((ps.take j).map (·.2)).flatten us ∧ Vals us (accL (fun i => match ps[i]? with | some p => seqAt h p.1 | none => []) j)
  | 0, _ => ⟨[], .nil, .nil⟩
  | j + 1, hj => by
    obtain ⟨us, h1, h2⟩ := acc_vals hp j (by omega)
    have e : ps[j]? = some ps[j] := List.getElem?_eq_getElem (by omega)
    obtain ⟨its, n, vs, h3, h4, h5⟩ := hp ps[j] (List.getElem_mem _)
    refine ⟨us ++ vs, ?_, ?_⟩
    · rw [List.take_add_one, e]
      simp only [Option.toList_some, List.map_append, List.flatten_append, List.map_cons, List.map_nil, List.flatten_cons, List.flatten_nil, List.append_nil]
      exact h1.append h4
    · simp only [accL, e, seqAt_of h3]
      exact h2.append h5
theorem flat_take {α : Type} : ∀ (L : List (List α)) (j : Nat), (L.take j).flatten.length ≤ L.flatten.length
  | [], j => by simp
  | x :: L, 0 => by simp
  | x :: L, j + 1 => by
    simp only [List.take_succ_cons, List.flatten_cons, List.length_append]
    have := flat_take L j
    omega
section
variable {X : Cx}
theorem bd_sumL (hc : X.calm = true) : CalB X (.builtin "sum") sumLD := by
  intro pins s σ H vs us Q I r ⟨ds, G, q, rs, gr, h, cl⟩
  unfold sumLD at h
  split at h
  · obtain ⟨v, u, rfl, r1, r2⟩ := rs.two
    cases r1; cases r2
    obtain ⟨ps, sq, hps, ht, hz, h⟩ := h
    obtain ⟨ws, sa, ra⟩ := seq_of gr sq
    obtain ⟨its, rv, hl, _⟩ := I.list sa
    obtain ⟨a', b', rfl, ra', rb'⟩ := vals2 r
    cases ra'; cases rb'
    obtain ⟨hlen, hat⟩ := refs_at ra rv
    have hp : ∀ p ∈ ps, ∃ its n us, s.heap.get? p.1 = some (lrec its n) ∧ Rps (kt X) H p.2 us ∧ Vals us its := fun p hp => by
      obtain ⟨us, hH, ru⟩ := gr.lst (hps p hp)
      obtain ⟨z, its2, n, r2, _, e⟩ := I.lstM hH
      exact ⟨its2, n, us, e, ru, r2⟩
    obtain ⟨ut, hHt, rut⟩ := gr.lst ht
    cases rut
    obtain ⟨_, itt, nt, rt, _, et⟩ := I.lstM hHt
    cases rt
    have hav := acc_vals (K := kt X) (H := H) hp
    refine call_sum_cat (vs := its.toArray) (I.ok.hd hc) hl.isList (fun i => match ps[i]? with | some p => seqAt s.heap p.1 | none => []) (fun i v hv => ?_) (fun j hj => ?_) et fun h' tk T n hk hT e4 => ?_
    · obtain ⟨p, ep, rfl⟩ := hat i v (by simpa using hv)
      obtain ⟨its2, n, us, e, _⟩ := hp p (List.mem_of_getElem? ep)
      refine ⟨p.1, n, rfl, ?_⟩
      simp only [ep, seqAt_of e]
      exact e
    · have hj : j ≤ ps.length := by rw [← hlen]; simpa using hj
      obtain ⟨us, h1, h2⟩ := hav j hj
      rw [← h2.length, ← h1.length]
      refine Nat.le_trans ?_ hz
      rw [List.map_take]
      exact flat_take _ _
    · obtain ⟨us, h1, h2⟩ := hav ps.length (Nat.le_refl _)
      rw [List.take_length] at h1
      have hn : its.toArray.size = ps.length := by simpa using hlen
      rw [hn] at hT
      rcases e4 with ⟨e5, rfl⟩ | e4
      · have : ps = [] := List.eq_nil_of_length_eq_zero (by omega)
        exact ⟨.ref _, H, I.kept hk, rfl, cl _ _ _ _ Tm.refl gr (.ref _) (h _ G (.inl ⟨this, rfl, rfl⟩))⟩
      · have hf := I.hok.fresh e4
        have hlen2 : us.length ≤ sizeLine := by rw [← h1.length]; exact hz
        refine ⟨.ref _, upd H T (.lst us), I.laid (t' := tk) hk e4 ⟨hlen2, _, n, h2, hT⟩, rfl, ?_⟩
        exact cl _ _ _ _ (Tm.new hf) (gr.new (u := .lst (ps.map (·.2)).flatten) hf ⟨_, upd_same, h1.mono (Tm.new hf)⟩) (.ref _) (h T _ (.inr ⟨gr.free hf, rfl⟩))
  · exact bd_sum hc pins s σ H vs us Q I r ⟨ds, G, q, rs, gr, h, cl⟩
end
/-! ## min(xs, default=i), whole numbers -/
def minDf (i : Int) : D → Hd → Qd → Prop := fun x G Q => match x with
  | .ref a => ∃ ns : List Int, seqG G a (ns.map D.int) ∧ ns.length ≤ sizeLine ∧ (ns = [] → Q (.int i) G) ∧ ∀ m, m ∈ ns → (∀ y, y ∈ ns → m ≤ y) → Q (.int m) G
  | _ => False
theorem fold_min_low (ns : List Int) (n : Int) : ns.foldl min n ∈ n :: ns ∧ ∀ y ∈ n :: ns, ns.foldl min n ≤ y := by
  induction ns generalizing n with
  | nil => exact ⟨by simp, fun y hy => by simp at hy; rw [hy]; exact Int.le_refl _⟩
  | cons k r ih =>
    obtain ⟨h1, h2⟩ := ih (min n k)
    refine ⟨?_, fun y hy => ?_⟩
    · show r.foldl min (min n k) ∈ _
      rcases List.mem_cons.mp h1 with h | h
      · rw [h]
        rcases Int.le_total n k with l | l
        · rw [Int.min_eq_left l]; simp
        · rw [Int.min_eq_right l]; simp
      · simp [h]
    · show r.foldl min (min n k) ≤ y
      have h3 := h2 (min n k) List.mem_cons_self
      rcases List.mem_cons.mp hy with rfl | hy
      · omega
      · rcases List.mem_cons.mp hy with rfl | hy
        · omega
        · exact h2 y (List.mem_cons_of_mem _ hy)
section
variable {X : Cx}
def rMinDf (K : Kt) (i : Int) : List V → List V → Hp → VK → Prop := fun vs zs H Q => ∃ x, vs = [x] ∧ zs = [V.int i] ∧ lift1 K (minDf i) x H Q
theorem cr_minDf (hc : X.calm = true) (hu : X.A.units + 65 < cLine) (i : Int) : CallRK X (.builtin "min") [Str.ofString "default"] (rMinDf (kt X) i) := by
  intro pins s σ H xs zs us ws Q I r rz ⟨x, e1, e2, dx, G, q, r1, gr, h, cl⟩
  subst e1; subst e2
  unfold minDf at h
  split at h
  · cases r1
    obtain ⟨ns, sq, hz, h0, h⟩ := h
    obtain ⟨vs, sa, ra⟩ := seq_of gr sq
    rw [ra.ints] at sa
    obtain ⟨its, rv, hl, _⟩ := I.list sa
    rw [Vals.ref1 r]
    cases rz with
    | cons z1 z2 =>
      cases z2
      obtain ⟨t, rfl⟩ := z1
      have d1 := depth_ints ns
      refine PySem.W.min_list_default (I.ok.hd hc) hl.isList (by simpa using ints_readAll _ (by simpa using rv.ints)) (alike_ints ns) (by show X.A.units + 1 + PyData.depthAll (ns.map PyData.int) < _; omega) (fun e h' tk hk => ?_) fun y ys j v h' tk bs e hv hr hk => ?_
      · exact ⟨.int _, H, I.kept hk, ⟨_, rfl⟩, cl _ _ _ _ Tm.refl gr (.int _) (h0 (List.map_eq_nil_iff.mp e))⟩
      · cases ns with
        | nil => cases e
        | cons n ns =>
          cases e
          rw [PySem.W.minD_ints] at hr
          obtain ⟨m1, m2⟩ := fold_min_low ns n
          cases hr with
          | int _ t' => exact ⟨.int _, H, I.kept hk, ⟨_, rfl⟩, cl _ _ _ _ Tm.refl gr (.int _) (h _ m1 m2)⟩
  · exact h.elim
theorem de_minDf {x : Str} {e : Expr} {te : TEd} {i : Int} {p pos kpos cpos : Pos} {u : Nat} (hc : X.calm = true) (hu : X.A.units + 65 < cLine) (hg : Gl X x) (hm : X.mg x = none) (hv : bootBuiltins x = some (.builtin "min")) (ha : DE X e te) (hn : x ≠ "__name__") (hd : (x == ("__debug__" : Str)) = false) (hs : unstarE e = true) :
    DE X (.Call (.Name x p) [e] [⟨some "default", .Constant (.int i) u cpos, kpos⟩] pos) (dUn (minDf i) te) := fun W tk => by
  refine PEi (pe_callBK (cr_minDf hc hu i) hg hm hv (pa_cons (ha W tk) pa_nil (star_ok hs)) (pk_cons pe_int pk_nil) hn hd (by rw [star_ok hs]; rfl) (by rw [star_ok hs]; rfl) rfl rfl rfl) fun σ H Q h => ?_
  obtain ⟨σd, G, q, w, sr, gr, h, cl, cw⟩ := un_read σ H Q h
  exact ⟨σd, G, q, w, sr, gr, h, fun v d H1 G1 t1 gr1 r1 h1 => ⟨_, rfl, rfl, cl v d H1 G1 t1 gr1 r1 h1⟩, cw⟩
end
end S
set_option Elab.async false
set_option linter.all false
set_option maxRecDepth 100000
set_option maxHeartbeats 4000000
namespace S
open PySem PySem.Spec L2
open PyProof.Rows hiding St
/-! ## what repr and str tell of told data -/
mutual
def blk : D → Nat
  | .str x => x.length
  | .tup xs => blks xs
  | .lst xs => blks xs
  | _ => 0
def blks : List D → Nat
  | [] => 0
  | x :: xs => blk x + 1 + blks xs
end
mutual
def lvB (m : Nat) : D → Bool
  | .int i => decide (i.natAbs < 10 ^ m)
  | .tup xs => lvBs m xs
  | .lst xs => lvBs m xs
  | _ => true
def lvBs (m : Nat) : List D → Bool
  | [] => true
  | x :: xs => lvB m x && lvBs m xs
end
/-- what can be shown -/
def rok (d : D) : Prop := okD d = true ∧ dep d ≤ 50 ∧ ∃ m, 8 ≤ m ∧ m ≤ 500 ∧ lvB m d = true ∧ (m + 3) * blk d + m + 1 ≤ sizeLine
def shownD (d : D) : Str := (toPy d).shown
mutual
theorem bulk_blk : ∀ d : D, (toPy d).bulk ≤ blk d
  | .non => Nat.le_refl _
  | .bl _ => Nat.le_refl _
  | .int _ => Nat.le_refl _
  | .str _ => Nat.le_refl _
  | .tup xs => by simp only [toPy, PyData.bulk, blk]; exact bulk_blks xs
  | .lst xs => by simp only [toPy, PyData.bulk, blk]; exact bulk_blks xs
  | .ref _ => Nat.le_refl _
  | .ty _ => Nat.le_refl _
  | .fn _ => Nat.le_refl _
  | .rl _ => Nat.le_refl _
theorem bulk_blks : ∀ ds : List D, PyData.bulkAll (toPys ds) ≤ blks ds
  | [] => Nat.le_refl _
  | x :: xs => by
    have h1 := bulk_blk x
    have h2 := bulk_blks xs
    simp only [toPys, PyData.bulkAll, blks]; omega
end
theorem log_small {i : Int} {m : Nat} (hm : m ≤ 500) (h : i.natAbs < 10 ^ m) : i.natAbs.log2 < 1920 := by
  by_cases z : i.natAbs = 0
  · rw [z]; decide
  · refine (Nat.log2_lt z).mpr (Nat.lt_of_lt_of_le h (Nat.le_trans (Nat.pow_le_pow_right (by decide) hm) ?_))
    decide +kernel
mutual
theorem show_ok {m : Nat} (h8 : 8 ≤ m) (h5 : m ≤ 500) : ∀ d : D, okD d = true → lvB m d = true → (toPy d).showable = true ∧ (toPy d).leavesShort (m + 1) = true
  | .non, _, _ => ⟨rfl, rfl⟩
  | .bl _, _, _ => ⟨rfl, rfl⟩
  | .int i, _, h => by
    simp only [lvB, decide_eq_true_eq] at h
    refine ⟨?_, ?_⟩
    · simp only [toPy, PyData.showable, decide_eq_true_eq]; exact log_small h5 h
    · have e := int_text_length_le10 (k := m) (by omega) h
      have e2 : (PyData.int i).shown.length ≤ m + 1 := by
        simp only [PyData.shown]
        rw [PySem.ofString_length]; exact e
      simp only [toPy, PyData.leavesShort]
      exact decide_eq_true e2
  | .str x, h, _ => by
    refine ⟨rfl, ?_⟩
    simp only [okD, PySem.PyData.strOk, Array.all_eq_true_iff_forall_mem, decide_eq_true_eq] at h
    simp only [toPy, PyData.leavesShort, List.all_eq_true, decide_eq_true_eq]
    intro c hc
    exact Nat.lt_trans (h c (by simpa using hc)) (by decide)
  | .tup xs, h, k => by
    simp only [okD] at h
    simp only [lvB] at k
    simp only [toPy, PyData.showable, PyData.leavesShort]
    exact shows_ok h8 h5 xs h k
  | .lst xs, h, k => by
    simp only [okD] at h
    simp only [lvB] at k
    simp only [toPy, PyData.showable, PyData.leavesShort]
    exact shows_ok h8 h5 xs h k
  | .ref _, h, _ => by cases h
  | .ty _, h, _ => by cases h
  | .fn _, h, _ => by cases h
  | .rl _, h, _ => by cases h
theorem shows_ok {m : Nat} (h8 : 8 ≤ m) (h5 : m ≤ 500) : ∀ ds : List D, okDs ds = true → lvBs m ds = true → PyData.showableAll (toPys ds) = true ∧ PyData.leavesShortAll (m + 1) (toPys ds) = true
  | [], _, _ => ⟨rfl, rfl⟩
  | x :: xs, h, k => by
    simp only [okDs, Bool.and_eq_true] at h
    simp only [lvBs, Bool.and_eq_true] at k
    have h1 := show_ok h8 h5 x h.1 k.1
    have h2 := shows_ok h8 h5 xs h.2 k.2
    simp only [toPys, PyData.showableAll, PyData.leavesShortAll, Bool.and_eq_true]
    exact ⟨⟨h1.1, h2.1⟩, h1.2, h2.2⟩
end
theorem rok_fits {d : D} (h : rok d) : (toPy d).showable = true ∧ (toPy d).shown.length ≤ sizeLine := by
  obtain ⟨ok, dp, m, h8, h5, lv, bd⟩ := h
  obtain ⟨h1, h2⟩ := show_ok h8 h5 d ok lv
  refine ⟨h1, Nat.le_trans (PyData.shown_le_bulk (m + 1) (by omega) _ h2) ?_⟩
  have h3 := Nat.mul_le_mul_left (m + 1 + 2) (bulk_blk d)
  have e : m + 1 + 2 = m + 3 := by omega
  rw [e] at h3 ⊢
  omega
theorem rok_nodict {d : D} (h : rok d) : (toPy d).hasDict = false := PyData.hasDict_of_canLay _ (py_lay d h.1)
/-- tuples and lists, told -/
def isBox : D → Bool
  | .tup _ => true
  | .ref _ => true
  | _ => false
def reprD : RCd := fun ds G Q => match ds with
  | [.int i] => i.natAbs < 10 ^ 500 ∧ Q (.str (toString i)) G
  | [.str x] => (reprText x).length ≤ sizeLine ∧ Q (.str (reprText x)) G
  | [.bl b] => Q (.str (if b = true then "True" else "False")) G
  | [.non] => Q (.str "None") G
  | [x] => isBox x = true ∧ ∃ d, Dd G x d ∧ rok d ∧ Q (.str (shownD d)) G
  | _ => False
theorem box_ref {K : Kt} {H : Hp} {x : D} {v : V} (r : Rp K H x v) (b : isBox x = true) : ∃ a, v = .ref a := by cases r <;> first | exact ⟨_, rfl⟩ | cases b
section
variable {X : Cx}
theorem bd_repr (hu : X.A.units + 65 < cLine) (hg : X.A.guards = some []) : CalB X (.builtin "repr") reprD := by
  intro pins s σ H vs us Q I r ⟨ds, G, q, rs, gr, h, cl⟩
  unfold reprD at h
  split at h
  · obtain ⟨v, rfl, r1⟩ := rs.one
    cases r1
    obtain ⟨hs, h⟩ := h
    obtain ⟨u, rfl, t, rfl⟩ := vals1 r
    exact PySem.P.repr_of_int (log_small (Nat.le_refl _) hs) ⟨.str _, H, I.tok _, ⟨_, rfl⟩, cl _ _ _ _ Tm.refl gr (.str _) h⟩
  · obtain ⟨v, rfl, r1⟩ := rs.one
    cases r1
    obtain ⟨hs, h⟩ := h
    obtain ⟨u, rfl, t, rfl⟩ := vals1 r
    exact PySem.P.repr_of_str ⟨.str _, H, I.tok _, ⟨_, rfl⟩, cl _ _ _ _ Tm.refl gr (.str _) h⟩ hs
  · obtain ⟨v, rfl, r1⟩ := rs.one
    cases r1
    obtain ⟨u, rfl, r2⟩ := vals1 r
    cases r2
    exact PySem.P.repr_of_bool ⟨.str _, H, I.tok _, ⟨_, rfl⟩, cl _ _ _ _ Tm.refl gr (.str _) h⟩
  · obtain ⟨v, rfl, r1⟩ := rs.one
    cases r1
    obtain ⟨u, rfl, r2⟩ := vals1 r
    cases r2
    exact PySem.P.repr_of_none ⟨.str _, H, I.tok _, ⟨_, rfl⟩, cl _ _ _ _ Tm.refl gr (.str _) h⟩
  · obtain ⟨v, rfl, r1⟩ := rs.one
    obtain ⟨bx, d, dd, ro, h⟩ := h
    obtain ⟨a, rfl⟩ := box_ref r1 bx
    rw [Vals.ref1 r]
    obtain ⟨as, rd⟩ := Dp.reads I _ _ (.ref a) (dd.dp gr r1) rfl
    have h1 := py_depth d
    have h2 := ro.2.1
    have h3 := rok_fits ro
    refine repr_of_reads' (h₀ := s.heap) rd h3.1 (PyData.noDict_hsm (rok_nodict ro)) hg (by omega) (fun _ _ e => e) (fun h' u tk hk => ?_) h3.2
    exact ⟨.str _, H, I.kept hk, ⟨u, rfl⟩, cl _ _ _ _ Tm.refl gr (.str _) h⟩
  · exact h.elim
/-- str: of an int, of a tuple or a list -/
def strOfD : RCd := fun ds G Q => match ds with
  | [.int i] => i.natAbs < 10 ^ 500 ∧ Q (.str (toString i)) G
  | [.str x] => Q (.str x) G
  | [.bl b] => Q (.str (if b = true then "True" else "False")) G
  | [.non] => Q (.str "None") G
  | [x] => isBox x = true ∧ ∃ d, Dd G x d ∧ rok d ∧ Q (.str (shownD d)) G
  | _ => False
theorem bd_strOf (hu : X.A.units + 65 < cLine) (hg : X.A.guards = some []) : CalB X (.type "str") strOfD := by
  intro pins s σ H vs us Q I r ⟨ds, G, q, rs, gr, h, cl⟩
  unfold strOfD at h
  split at h
  · obtain ⟨v, rfl, r1⟩ := rs.one
    cases r1
    obtain ⟨hs, h⟩ := h
    exact call_str_int pins s σ H _ us Q I r ⟨_, rfl, log_small (Nat.le_refl _) hs, cl _ _ _ _ Tm.refl gr (.str _) h⟩
  · obtain ⟨v, rfl, r1⟩ := rs.one
    cases r1
    obtain ⟨u, rfl, t, rfl⟩ := vals1 r
    exact PySem.P.str_of_str ⟨.str _, H, I, ⟨t, rfl⟩, cl _ _ _ _ Tm.refl gr (.str _) h⟩
  · obtain ⟨v, rfl, r1⟩ := rs.one
    cases r1
    obtain ⟨u, rfl, r2⟩ := vals1 r
    cases r2
    exact PySem.P.str_of_bool ⟨.str _, H, I.tok _, ⟨_, rfl⟩, cl _ _ _ _ Tm.refl gr (.str _) h⟩
  · obtain ⟨v, rfl, r1⟩ := rs.one
    cases r1
    obtain ⟨u, rfl, r2⟩ := vals1 r
    cases r2
    exact PySem.P.str_of_none ⟨.str _, H, I.tok _, ⟨_, rfl⟩, cl _ _ _ _ Tm.refl gr (.str _) h⟩
  · obtain ⟨v, rfl, r1⟩ := rs.one
    obtain ⟨bx, d, dd, ro, h⟩ := h
    obtain ⟨a, rfl⟩ := box_ref r1 bx
    rw [Vals.ref1 r]
    obtain ⟨as, rd⟩ := Dp.reads I _ _ (.ref a) (dd.dp gr r1) rfl
    have h1 := py_depth d
    have h2 := ro.2.1
    have h3 := rok_fits ro
    refine str_of_reads (h₀ := s.heap) rd h3.1 (PyData.noDict_hsm (rok_nodict ro)) hg (by omega) (fun _ _ e => e) (fun h' u tk hk => ?_) h3.2
    exact ⟨.str _, H, I.kept hk, ⟨u, rfl⟩, cl _ _ _ _ Tm.refl gr (.str _) h⟩
  · exact h.elim
end
end S
set_option Elab.async false
set_option linter.all false
set_option maxRecDepth 100000
set_option maxHeartbeats 4000000
namespace S
open PySem PySem.Spec L2
open PyProof.Rows hiding St
/-! ## enumerate over a tuple -/
set_option maxHeartbeats 8000000 in
theorem meets_enum1 {v : Value} {o : Obj} {H : Heap → Prop} (B : Begins v o H) :
    Meets (Builtin.«enumerate.__new__» ⟨[.type "enumerate", v], []⟩) (fun _ R s => H s.heap ∧
      R (.ok (.ret (.ref (s.heap.push o).objs.size))) { s with heap := (s.heap.push o).push { cls := .type "enumerate", data := .fields #[.none, .bool false, .ref s.heap.objs.size, rawInt 0, .none, .none] } }) :=
  .of_wp fun prog w A R s h => by
    obtain ⟨hp, g, d, tk, os⟩ := s; obtain ⟨h1, h⟩ := h
    have hsub := sub_enumerate
    have q1 : ∀ {A' : Around} {E : Value → Shared → Prop} {Q : Value → Shared → Prop}, Q (.ref hp.objs.size) ⟨hp.push o, g, d, tk, os⟩ → wpAny (model prog w) A' (pyIter v) Q E ⟨hp, g, d, tk, os⟩ :=
      fun q => B.iter prog w _ _ ⟨hp, g, d, tk, os⟩ _ h1 q
    wp_walk using q1
    refine wpAny_stack_any fun st => wpAny_pure ?_
    split
    · rename_i c _ _ _ _ _
      cases (c == Value.type "enumerate")
      · wp_walk using q1
        exact ⟨_, rfl, h⟩
      · wp_walk using q1
        exact ⟨_, rfl, h⟩
    · wp_walk using q1
      exact ⟨_, rfl, h⟩
section
variable {prog : Program} {w : World} {A : Around} {E : Value → Shared → Prop} {s : Shared}
theorem call_enum1 {v : Value} {o : Obj} {H : Heap → Prop} {Q : Value → Shared → Prop} (B : Begins v o H) (h1 : H s.heap)
    (h : ∀ h', IsEnum h' (s.heap.objs.size + 1) s.heap.objs.size 0 .none → h'.get? s.heap.objs.size = some o → h'.objs.size = s.heap.objs.size + 2 →
      (∀ b o, s.heap.get? b = some o → h'.get? b = some o) → Q (.ref (s.heap.objs.size + 1)) { s with heap := h' }) :
    wpAny (model prog w) A (call (.type "enumerate") [v]) Q E s := by
  refine callType_new F.called_enumerate (by decide) (F.typeCall_enumerate_1 _) (F.newCall_enumerate_1 _) (fun obj => F.args_object_init_2 obj _) F.entry_enumerate_new
    (meets_enum1 B) ⟨h1, ?_⟩
  have hz : (s.heap.push o).objs.size = s.heap.objs.size + 1 := Heap.size_push ..
  show _ ∧ _
  rw [hz]
  have he : IsEnum ((s.heap.push o).push { cls := .type "enumerate", data := .fields #[.none, .bool false, .ref s.heap.objs.size, rawInt 0, .none, .none] }) (s.heap.objs.size + 1) s.heap.objs.size 0 .none := by
    have := Heap.get?_push_size (s.heap.push o) (o := { cls := .type "enumerate", data := .fields #[.none, .bool false, .ref s.heap.objs.size, rawInt 0, .none, .none] }) rfl
    rw [hz] at this; exact this
  refine ⟨⟨_, he, rfl⟩, h _ he (Heap.get?_push_of_some _ (Heap.get?_push_size _ B.free)) (by rw [Heap.size_push, hz]) fun b o x => Heap.get?_push_of_some _ (Heap.get?_push_of_some _ x)⟩
end
section
variable {prog : Program} {w : World} {A : Around} {E : Value → Shared → Prop} {s : Shared}
theorem next_enumT_end {e it a : Addr} {items : Array Value} {k : Nat} {i : Int} {old : Value} {Q : Option Value → Shared → Prop} (hh : A.handled = none) (he : IsEnum s.heap e it i old) (hit : s.heap.IsTupleIter it a k) (ht : s.heap.IsTuple a items) (hx : items[k]? = none)
    (hQ : ∀ h', Heap.ExtBut it s.heap h' → Q none { s with heap := h' }) : wpAny (model prog w) A (pyNext (.ref e)) Q E s := by
  have hT : s.TypeIs (.ref e) "enumerate" := ⟨_, he, rfl⟩
  unfold pyNext
  refine wpAny_bind (wpAny_attempt (wpAny_callSpecial?_slot (name := Str.ofString "__next__") hT F.slot_enumerate_next
    (wpAny_call_entry F.slot_enumerate_next hT F.entry_enumerate_next ?_ (F.args_enumerate_next_1 _))))
  show wpAny _ _ (field (.ref e) 2 >>= _) _ _ _
  refine wpAny_bind (wpAny_field he rfl (x := .ref it) rfl ?_)
  refine wpAny_bind (wpAny_nextOf_tuple_end hh hit ht hx fun h' x he' hx' => ?_)
  obtain ⟨o, ho, hc⟩ := hx'
  refine wpAny_bind (wpAny_isInstance (T := "StopIteration") (b := true) ⟨o, ho, hc⟩ isSubtype_stop ?_)
  exact wpAny_pure (hQ _ he')
end
/-- the tuple at a at each turn, each item in a new pair -/
def IteT (K : PySem.W.Frag) (a : Addr) : It :=
  ⟨fun i H => ∃ (xs : List V) (x : V), SqT K H a xs ∧ xs[i]? = some x, fun i H v H' => ∃ T x, v = .ref T ∧ H T = none ∧ H' = upd H T (.tup [.int (i : Nat), x]) ∧ ∀ xs, SqT K H a xs → xs[i]? = some x, fun i H => ∃ xs : List V, SqT K H a xs ∧ xs.length ≤ i⟩
theorem turn_enumT {P : Program} {w : World} {K : PySem.W.Frag} {elts : List Expr} {kk : Nat} {tpos : Pos} (a e it : Addr) :
    Turn P w K (.Tuple elts kk tpos) (IteT K a) [e, it] e (fun i h => (∃ old, IsEnum h e it ((i : Nat) : Int) old) ∧ h.IsTupleIter it a i ∧ e ≠ it ∧ a ≠ it ∧ e ≠ a) where
  mem := by simp
  obj := fun i h st b hb => by
    obtain ⟨⟨old, he⟩, ⟨o, ho, hc, hd⟩, _⟩ := st
    have e' : b = e ∨ b = it := by simpa using hb
    rcases e' with z | z
    · rw [z]; exact ⟨_, he, fun v q => nomatch q⟩
    · rw [z]; exact ⟨o, ho, fun v q => by rw [hd] at q; cases q⟩
  keep := fun i h h' st k => let ⟨⟨old, he⟩, hi, hne⟩ := st; ⟨⟨old, k e (by simp) _ he⟩, hi.at fun o q => k it (by simp) o q, hne⟩
  item := by
    intro X hP hw hK hc i pins s σ H E I hf st hg
    subst hP hw hK
    obtain ⟨⟨old, he⟩, hit, hne, ha1, ha2⟩ := st
    obtain ⟨xs, x, hq, hx⟩ := hg
    obtain ⟨its, rv, p, hz⟩ := I.tuple hq
    obtain ⟨u, hu, ru⟩ := rv.get hx
    have hel : e < s.heap.objs.size := Heap.lt_size he
    have hil : it < s.heap.objs.size := by obtain ⟨_, q, _⟩ := hit; exact Heap.lt_size q
    have hlt : i < its.toArray.size := by
      have := (List.getElem?_eq_some_iff.mp hu).1
      simpa using this
    have hh : X.A.in1.handled = none := by first | exact I.ok.hd hc | exact (I.ok.hd hc)
    refine wpAny_pyNext_enum_itemD (Draws.tuple (prog := X.prog) (w := X.w) (A := X.A.in1) hh it a ha1 its.toArray) he ⟨hit, show s.heap.IsTuple a its.toArray from p⟩ hlt hne (by simp [hne, ha2]) fun y h' tk hy ho hst hT hsz hk => ?_
    obtain ⟨hit', _⟩ := hst
    have hy : its.toArray[i]? = some y := hy
    have hyu : y = u := by
      have h2 : its.toArray[i]? = some u := by simpa using hu
      rw [h2] at hy; cases hy; rfl
    subst hyu
    refine ⟨_, rfl, wpAny_letOwnedTupleGo_enum (s := { s with heap := h', toks := tk + 1 }) ho fun h'' he' sb => ?_⟩
    have hT2 : h''.get? s.heap.objs.size = some { cls := .type "tuple", data := .seq #[.int i tk, y] } := (sb.2 _ (Nat.ne_of_gt hel)).trans hT
    have new : ObjOk X.prog X.w (upd H s.heap.objs.size (.tup [.int (i : Nat), x])) h'' s.heap.objs.size (.tup [.int (i : Nat), x]) :=
      ⟨by show 2 ≤ sizeLine; decide, [.int i tk, y], .cons ⟨_, rfl⟩ (.cons ru .nil), ⟨_, hT2, rfl, _, rfl⟩⟩
    have I1 : Inv X pins σ (upd H s.heap.objs.size (.tup [.int (i : Nat), x])) { s with heap := h'', toks := tk + 1 } :=
      I.turnedNew (ch := [e, it]) (fun b ob hb q => (sb.2 b (fun z => hb (by simp [z]))).trans (hk b ob (fun z => hb (by simp [z])) (fun z => hb (by simp [z])) q)) hf (Nat.le_refl _) new
    refine ⟨.ref s.heap.objs.size, _, I1, rfl, ⟨_, x, rfl, I.hok.fresh (Nat.le_refl _), rfl, fun ys hy => by rw [I.tuple_inj hy hq]; exact hx⟩, ⟨⟨y, ?_⟩, hit'.at fun o q => (sb.2 it (Ne.symm hne)).trans q, hne, ha1, ha2⟩, fun b hb => ?_⟩
    · have e1 : ((i + 1 : Nat) : Int) = (i : Int) + 1 := by omega
      rw [e1]; exact he'
    · have hb' : b < s.heap.objs.size := by
        have e' : b = e ∨ b = it := by simpa using hb
        rcases e' with z | z
        · rw [z]; exact hel
        · rw [z]; exact hil
      rw [upd_ne (Nat.ne_of_lt hb')]
      exact (hf b hb).1
  done := by
    intro X hP hw hK hc i pins s σ H E I hf st hg
    subst hP hw hK
    obtain ⟨⟨old, he⟩, hit, hne, ha1, ha2⟩ := st
    obtain ⟨xs, hq, hx⟩ := hg
    obtain ⟨its, rv, p, hz⟩ := I.tuple hq
    obtain ⟨f0, f1, f2, f3, f4, f5⟩ := hf it (by simp)
    have hl := rv.length
    refine next_enumT_end (I.ok.hd hc) he hit (show s.heap.IsTuple a its.toArray from p) (by simp; omega) fun h' eb => ⟨rfl, I.turned (t' := s.toks) (fun b o hb q => eb b o hb q) f0 f1 f3 f4 f5⟩
  self := fun A i s Q E st h => let ⟨⟨_, he⟩, _⟩ := st; wpAny_pyIter_enum he h
def iEnumA (K : PySem.W.Frag) (ta : TA) : TI := fun σ H R => ta σ H fun vs H1 => ∃ a xs, vs = [.ref a] ∧ ((SqL K H1 a xs ∧ R (Ite K a) H1) ∨ (SqT K H1 a xs ∧ R (IteT K a) H1))
theorem pi_enumA {X : Cx} {e : Expr} {ta : TA} {p pos tpos : Pos} {elts : List Expr} {kk : Nat} (hg : Gl X "enumerate") (hm : X.mg "enumerate" = none) (ha : PA X [e] ta) (hs : starEach [e] X.env = [(false, eval e X.env)] := by rfl) :
    PI X (.Tuple elts kk tpos) (.Call (.Name "enumerate" p) [e] [] pos) (iEnumA X.K ta) := by
  refine ⟨fun pins s σ H R I h => ?_⟩
  refine Call_ (ld_blt I hg hm boot_enumerate (PyProof.Rows.callWith_type1 (thn (ha.run pos pins s σ H _ I h) fun us s1 ⟨vs, H1, I1, r1, q1⟩ => ?_) hs rfl))
  obtain ⟨a, xs, ex, q1⟩ := q1
  subst ex
  cases r1 with
  | cons r rr =>
    cases rr
    cases r
    have fr : ∀ b ∈ [s1.heap.objs.size + 1, s1.heap.objs.size], FpOk X pins H1 b := fun b hb => by
      have e' : b = s1.heap.objs.size + 1 ∨ b = s1.heap.objs.size := by simpa using hb
      have hle : s1.heap.objs.size ≤ b := by
        rcases e' with z | z
        · rw [z]; exact Nat.le_add_right _ _
        · rw [z]; exact Nat.le_refl _
      exact I1.fpOk hle (I1.hok.fresh hle)
    rcases q1 with ⟨hq, q⟩ | ⟨hq, q⟩
    · obtain ⟨its, rv, p', hz⟩ := I1.list hq
      refine call_enumerate_list p'.isList fun h' he hit hsz hk => wpAny_pyIter_enum he ?_
      have I2 : Inv X pins σ H1 { s1 with heap := h' } := I1.kept (t' := s1.toks) hk
      exact ⟨s1.heap.objs.size + 1, [s1.heap.objs.size + 1, s1.heap.objs.size], _, _, H1, rfl, I2, turn_enum a (s1.heap.objs.size + 1) s1.heap.objs.size, ⟨⟨.none, he⟩, hit, Nat.succ_ne_self _⟩, fr, q⟩
    · obtain ⟨its, rv, p', hz⟩ := I1.tuple hq
      have ht : s1.heap.IsTuple a its.toArray := p'
      have hal : a < s1.heap.objs.size := by obtain ⟨_, q, _⟩ := id ht; exact Heap.lt_size q
      refine call_enum1 (begins_tuple a its.toArray) ht fun h' he hit hsz hk => wpAny_pyIter_enum he ?_
      have I2 : Inv X pins σ H1 { s1 with heap := h' } := I1.kept (t' := s1.toks) hk
      exact ⟨s1.heap.objs.size + 1, [s1.heap.objs.size + 1, s1.heap.objs.size], _, _, H1, rfl, I2, turn_enumT a (s1.heap.objs.size + 1) s1.heap.objs.size, ⟨⟨.none, he⟩, ⟨_, hit, rfl, rfl⟩, Nat.succ_ne_self _, Nat.ne_of_lt hal, Ne.symm (Nat.ne_of_lt (Nat.lt_succ_of_lt hal))⟩, fr, q⟩
/-! ## x or y, by truth -/
def trD : D → Option Bool
  | .non => some false
  | .bl b => some b
  | .int i => some (i != 0)
  | .tup xs => some (!xs.isEmpty)
  | _ => none
def dOrW (ta tb : TEd) : TEd := fun w σ G Q => ta w σ G fun x G1 => ∃ k, trD x = some k ∧ Br k (Q x G1) (tb w σ G1 Q)
theorem tru_of {K : Kt} {H : Hp} {d : D} {v : V} {k : Bool} (r : Rp K H d v) (h : trD d = some k) : TruV K.K v H k := by
  cases d with
  | non => cases r; cases h; rfl
  | bl b => cases r; cases h; rfl
  | int i => cases r; cases h; rfl
  | tup xs =>
    obtain ⟨a, vs, rfl, sq, rs⟩ := r.tup_inv
    cases h
    refine .inr (.inl ⟨vs, sq, ?_⟩)
    cases rs <;> rfl
  | _ => cases h
section
variable {X : Cx} {a b : Expr} {rest : List Expr} {ta tb : TEd} {pos : Pos}
theorem de_orW (ha : DE X a ta) (hb : DE X (.BoolOp .Or (b :: rest) pos) tb) : DE X (.BoolOp .Or (a :: b :: rest) pos) (dOrW ta tb) := fun W tk =>
  PEi (pe_orT (ha W tk) (hb W tk)) fun σ H Q ⟨σd, G, q, w, sr, gr, h, cl, cw⟩ => ⟨σd, G, _, w, sr, gr, h, fun v d H1 G1 t1 gr1 r1 ⟨k, e, h1⟩ => by
    refine ⟨k, tru_of r1 e, ?_⟩
    cases k with
    | true => rw [if_pos rfl]; exact cl _ _ _ _ t1 gr1 r1 (h1.1 rfl)
    | false => rw [if_neg (by decide)]; exact ⟨σd, G1, q, w, sr.mono t1, gr1, h1.2 rfl, cl.mono t1, cw.mono t1⟩, cw⟩
end
end S
set_option Elab.async false
set_option linter.all false
set_option maxRecDepth 100000
set_option maxHeartbeats 4000000
namespace S
open PySem PySem.Spec L2
open PyProof.Rows hiding St
/-! ## what a loop walks -/
section
variable {X : Cx} {tg e e2 o i : Expr} {te to ti : TEd} {tes : TAd} {p pos tpos : Pos} {elts : List Expr} {kk : Nat}
theorem dg_sub {r : D → D → D → Hd → (Hd → Prop) → Prop} (ho : DE X o to) (hi : DE X i ti) (hs : PSet X (lift3 (kt X) r)) (hu : plainE i = true) : DG X (.Subscript o i pos) [] (dgSub to ti r) := fun W tk =>
  PGi (pg_sub (ho W tk) (hi W tk) hs (by cases i <;> first | (intro _; rfl) | cases hu)) fun v σ H Q ⟨d, σd, G, q, w, rv, sr, gr, h, cl, cw⟩ =>
    ⟨σd, G, _, w, sr, gr, h, fun v1 d1 H1 G1 t1 gr1 r1 h1 => ⟨σd, G1, _, w, sr.mono t1, gr1, h1, fun v2 d2 H2 G2 t2 gr2 r2 h2 =>
      ⟨d1, d2, d, G2, _, r1.mono t2, r2, rv.mono (t1.trans t2), gr2, h2, fun H3 G3 t3 gr3 h3 => cl _ _ _ _ ((t1.trans t2).trans t3) Ag.refl (sr.mono ((t1.trans t2).trans t3)) gr3 h3⟩, cw.mono t1⟩, cw⟩
theorem PIi {t t' : TI} (h : PI X tg e t) (i : ∀ σ H R, t' σ H R → t σ H R) : PI X tg e t' := ⟨fun pins s σ H R I q => h.run pins s σ H R I (i _ _ _ q)⟩
/-- a list, a tuple, a text, by what it is -/
theorem pi_seqS {tl : TE} (hl : PE X e tl) : PI X tg e (fun σ H R => tl σ H fun x H1 => (∃ a, x = .ref a ∧ (((∃ xs, SqL (kt X) H1 a xs) ∧ R (Itl (kt X) a) H1) ∨ ((∃ xs, SqT (kt X) H1 a xs) ∧ R (Itt (kt X) a) H1))) ∨ ∃ z, x = .str z ∧ R (Its z) H1) := by
  constructor
  intro pins s σ H R I h
  refine thn (hl.run pins s σ H _ I h) ?_
  rintro v s1 ⟨x, H1, I1, r1, ⟨a, rfl, (⟨⟨xs, hq⟩, q⟩ | ⟨⟨xs, hq⟩, q⟩)⟩ | ⟨z, rfl, q⟩⟩
  all_goals cases r1
  · obtain ⟨its, rv, pl, _⟩ := I1.list hq
    refine wpAny_pyIter_list pl.isList ⟨s1.heap.objs.size, [s1.heap.objs.size], _, _, H1, rfl, I1.kept (t' := s1.toks) fun b o e => Heap.get?_push_of_some _ e, turn_list a _, ⟨_, Heap.get?_push_size _ rfl, rfl, rfl⟩, ?_, q⟩
    intro b hb
    cases List.mem_singleton.mp hb
    exact I1.fpOk (Nat.le_refl _) (I1.hok.fresh (Nat.le_refl _))
  · obtain ⟨its, rv, pl, _⟩ := I1.tuple hq
    refine wpAny_pyIter_tuple (show s1.heap.IsTuple a its.toArray from pl) ⟨s1.heap.objs.size, [s1.heap.objs.size], _, _, H1, rfl, I1.kept (t' := s1.toks) fun b o e => Heap.get?_push_of_some _ e, turn_tuple a _, ⟨_, Heap.get?_push_size _ rfl, rfl, rfl⟩, ?_, q⟩
    intro b hb
    cases List.mem_singleton.mp hb
    exact I1.fpOk (Nat.le_refl _) (I1.hok.fresh (Nat.le_refl _))
  · rename_i t e
    subst e
    cases ha : z.cps.all (· < 128)
    · exact wpAny_pyIter_wide ha (pi_one (tk := s1.toks) I1 _ (turn_str _ z t "str_iterator" (.inr rfl)) ⟨_, Heap.get?_push_size _ rfl, rfl, rfl⟩ q)
    · exact wpAny_pyIter_ascii ha (pi_one (tk := s1.toks) I1 _ (turn_str _ z t "str_ascii_iterator" (.inl rfl)) ⟨_, Heap.get?_push_size _ rfl, rfl, rfl⟩ q)
/-- a text's signs, each a text -/
def signsD (z : Str) : List D := z.cps.toList.map fun c => .str ⟨#[c]⟩
theorem its_ok {K : Kt} {H1 : Hp} {z : Str} : ItOk K H1 (Its z) (signsD z) (fun _ => True) := fun i H G t gr _ => by
  have el : (signsD z).length = z.cps.size := by unfold signsD; simp
  rw [el]
  refine ⟨fun hi => ⟨hi, fun x H' ⟨e, c, ec, ex⟩ => ?_⟩, fun hi => Nat.le_of_eq hi.symm⟩
  subst e ex
  refine ⟨Tm.refl, gr, .str ⟨#[c]⟩, ?_, .str _⟩
  unfold signsD
  rw [List.getElem?_map, Array.getElem?_toList, ec]
  rfl
/-- over a value: a tuple's items, a list's items (the list stays while it is walked), a text's signs -/
def dItV (te : TEd) : TId := fun w σ G R => te w σ G fun d G1 => match d with
  | .tup xs => R xs (fun _ => True) G1
  | .ref a => ∃ xs, seqG G1 a xs ∧ R xs (fun G2 => seqG G2 a xs) G1
  | .str z => R (signsD z) (fun _ => True) G1
  | _ => False
theorem SqT.inj {K : Kt} {H : Hp} {P : Program} {w : World} {a : Addr} {xs ys : List V} : True := trivial
/-- what the item of a list at a turn is -/
theorem itl_ok {K : Kt} {H1 : Hp} {a : Addr} {xs : List D} : ItOk K H1 (Itl K a) xs (fun G => seqG G a xs) := fun i H G t gr st => by
  obtain ⟨vs, sq, rs⟩ := seq_of gr st
  refine ⟨fun hi => ?_, fun hi => ⟨vs, sq, by rw [← rs.length]; omega⟩⟩
  obtain ⟨d, hd⟩ : ∃ d, xs[i]? = some d := ⟨_, List.getElem?_eq_getElem hi⟩
  obtain ⟨v, hv, rv⟩ := rs.get hd
  refine ⟨⟨vs, v, sq, hv⟩, fun x H' ⟨e, y⟩ => ?_⟩
  subst e
  have e2 := y vs sq
  rw [hv] at e2
  cases e2
  exact ⟨Tm.refl, gr, d, hd, rv⟩
theorem itt_ok {K : Kt} {H1 : Hp} {a : Addr} {xs : List D} {vs : List V} (sq : SqT K H1 a vs) (rs : Rps K H1 xs vs) : ItOk K H1 (Itt K a) xs (fun _ => True) := fun i H G t gr _ => by
  refine ⟨fun hi => ?_, fun hi => ⟨vs, t.t _ _ sq, by rw [← rs.length]; omega⟩⟩
  obtain ⟨d, hd⟩ : ∃ d, xs[i]? = some d := ⟨_, List.getElem?_eq_getElem hi⟩
  obtain ⟨v, hv, rv⟩ := rs.get hd
  refine ⟨⟨vs, v, t.t _ _ sq, hv⟩, fun x H' ⟨e, y⟩ => ?_⟩
  subst e
  have e2 := y vs (t.t _ _ sq)
  rw [hv] at e2
  cases e2
  exact ⟨Tm.refl, gr, d, hd, rv.mono t⟩
theorem di_v (he : DE X e te) : DI X tg e (dItV te) := fun W tk =>
  PIi (pi_seqS (he W tk)) fun σ H R ⟨σd, G, r, w, sr, gr, h, ok, cw⟩ => ⟨σd, G, _, w, sr, gr, h, fun v d H1 G1 t1 gr1 r1 h1 => by
    cases d with
    | tup xs =>
      obtain ⟨a, vs, rfl, sa, ra⟩ := r1.tup_inv
      exact .inl ⟨a, rfl, .inr ⟨⟨vs, sa⟩, ok _ _ _ _ _ t1 gr1 (itt_ok sa ra) h1⟩⟩
    | ref a =>
      cases r1
      obtain ⟨xs, sq, h1⟩ := h1
      obtain ⟨vs, sa, ra⟩ := seq_of gr1 sq
      exact .inl ⟨a, rfl, .inl ⟨⟨vs, sa⟩, ok _ _ _ _ _ t1 gr1 itl_ok h1⟩⟩
    | str z =>
      cases r1
      exact .inr ⟨z, rfl, ok _ _ _ _ _ t1 gr1 its_ok h1⟩
    | _ => exact False.elim h1, cw⟩
def rngL (lo c : Int) (n : Nat) : List D := (List.range n).map fun (k : Nat) => D.int (lo + k * c)
theorem rngL_length {lo c : Int} {n : Nat} : (rngL lo c n).length = n := by simp [rngL]
theorem rngL_get {lo c : Int} {n i : Nat} (h : i < n) : (rngL lo c n)[i]? = some (.int (lo + i * c)) := by simp [rngL, h]
def rng1 (ds : List D) (k : List D → Prop) : Prop := match ds with
  | [.int j] => (-(2 ^ 62) ≤ j ∧ j < 2 ^ 62) ∧ k (rngL 0 1 j.toNat)
  | _ => False
def rng2 (ds : List D) (k : List D → Prop) : Prop := match ds with
  | [.int i, .int j] => (-(2 ^ 62) ≤ i ∧ i < 2 ^ 62 ∧ -(2 ^ 62) ≤ j ∧ j < 2 ^ 62) ∧ k (rngL i 1 (j - i).toNat)
  | _ => False
def rng3 (ds : List D) (k : List D → Prop) : Prop := match ds with
  | [.int i, .int j, .int c] => ∃ n, RgC i j c n ∧ k (rngL i c n)
  | _ => False
def dRng (g : List D → (List D → Prop) → Prop) (t : TAd) : TId := fun w σ G R => t w σ G fun ds G1 => g ds fun xs => R xs (fun _ => True) G1
theorem itr_ok {K : Kt} {H1 : Hp} {lo : Int} {n : Nat} : ItOk K H1 (Itr lo n) (rngL lo 1 n) (fun _ => True) := fun i H G t gr _ => by
  rw [rngL_length]
  refine ⟨fun hi => ⟨hi, fun x H' ⟨e, y⟩ => ?_⟩, fun hi => Nat.le_of_eq hi.symm⟩
  subst e y
  exact ⟨Tm.refl, gr, _, rngL_get hi, by rw [Int.mul_one]; exact .int _⟩
theorem itc_ok {K : Kt} {H1 : Hp} {lo c : Int} {n : Nat} : ItOk K H1 (Itc lo c n) (rngL lo c n) (fun _ => True) := fun i H G t gr _ => by
  rw [rngL_length]
  refine ⟨fun hi => ⟨hi, fun x H' ⟨e, y⟩ => ?_⟩, fun hi => Nat.le_of_eq hi.symm⟩
  subst e y
  exact ⟨Tm.refl, gr, _, rngL_get hi, .int _⟩
theorem Rps.three {K : Kt} {H : Hp} {x y z : D} {vs : List V} (r : Rps K H [x, y, z] vs) : ∃ v u t, vs = [v, u, t] ∧ Rp K H x v ∧ Rp K H y u ∧ Rp K H z t := by
  cases r with
  | cons h r => obtain ⟨u, t, rfl, q⟩ := r.two; exact ⟨_, u, t, rfl, h, q⟩
theorem rng_read {K : Kt} {W : WX} {g : List D → (List D → Prop) → Prop} {t : TAd} {q : List V → Hp → (It → Hp → Prop) → Prop}
    (hq : ∀ ds vs H G k (R : It → Hp → Prop), Rps K H ds vs → GR K G H → g ds k → (∀ J xs, ItOk K H J xs (fun _ => True) → k xs → R J H) → q vs H R) (σ : St) (H : Hp) (R : It → Hp → Prop) (h : liftI K W (dRng g t) σ H R) :
    liftA K W t σ H fun vs H1 => q vs H1 R := by
  obtain ⟨σd, G, r, w, sr, gr, h, ok, cw⟩ := h
  exact ⟨σd, G, _, w, sr, gr, h, fun vs ds H1 G1 t1 gr1 r1 h1 => hq _ _ _ G1 _ _ r1 gr1 h1 fun J xs o k => ok _ _ _ _ _ t1 gr1 o k, cw⟩
theorem di_rng1 (hg : Gl X "range") (hm : X.mg "range" = none) (ha : DA X [e] tes) (hs : unstarE e = true) : DI X tg (.Call (.Name "range" p) [e] [] pos) (dRng rng1 tes) := fun W tk =>
  PIi (pi_range1 hg hm (ha W tk) (star_ok hs)) (rng_read fun ds vs H G k R r1 gr1 h1 ok => by
    unfold rng1 at h1
    split at h1
    · obtain ⟨v, rfl, q⟩ := r1.one
      exact ⟨_, by rw [q.int_inv], h1.1.1, h1.1.2, ok _ _ itr_ok h1.2⟩
    · exact h1.elim)
theorem di_rng2 (hg : Gl X "range") (hm : X.mg "range" = none) (ha : DA X [e, e2] tes) (hs : [e, e2].all unstarE = true) : DI X tg (.Call (.Name "range" p) [e, e2] [] pos) (dRng rng2 tes) := fun W tk => by
  simp only [List.all_cons, List.all_nil, Bool.and_eq_true, Bool.and_true] at hs
  refine PIi (pi_range2 hg hm (ha W tk) ?_ ?_) (rng_read fun ds vs H G k R r1 gr1 h1 ok => by
    unfold rng2 at h1
    split at h1
    · obtain ⟨v, u, rfl, q1, q2⟩ := r1.two
      exact ⟨_, _, by rw [q1.int_inv, q2.int_inv], h1.1, ok _ _ itr_ok h1.2⟩
    · exact h1.elim)
  · rw [star_ok hs.1, star_ok hs.2]; rfl
  · first | exact plain_ok (es := [e2]) (by simp [hs.2]) | (rw [star_ok hs.2]; rfl)
theorem di_rng3 {e3 : Expr} (hg : Gl X "range") (hm : X.mg "range" = none) (ha : DA X [e, e2, e3] tes) (hs : [e, e2, e3].all unstarE = true) : DI X tg (.Call (.Name "range" p) [e, e2, e3] [] pos) (dRng rng3 tes) := fun W tk => by
  simp only [List.all_cons, List.all_nil, Bool.and_eq_true, Bool.and_true] at hs
  refine PIi (pi_range3 hg hm (ha W tk) (star_ok hs.1) (plain_ok (by simp [hs.2.1, hs.2.2]))) (rng_read fun ds vs H G k R r1 gr1 h1 ok => by
    unfold rng3 at h1
    split at h1
    · obtain ⟨v, u, t, rfl, q1, q2, q3⟩ := r1.three
      obtain ⟨n, hn, h1⟩ := h1
      exact ⟨_, _, _, n, by rw [q1.int_inv, q2.int_inv, q3.int_inv], hn, ok _ _ itc_ok h1⟩
    · exact h1.elim)
/-- enumerate over a list; zip of two lists -/
def enumL (xs : List D) : List D := (List.range xs.length).map fun (i : Nat) => D.tup [.int i, xs.getD i .non]
def enumR (ds : List D) (G : Hd) (R : List D → (Hd → Prop) → Hd → Prop) : Prop := match ds with
  | [.ref a] => ∃ xs, seqG G a xs ∧ R (enumL xs) (fun G2 => seqG G2 a xs) G
  | [.tup xs] => R (enumL xs) (fun _ => True) G
  | _ => False
def zipL (xs ys : List D) : List D := (xs.zip ys).map fun p => D.tup [p.1, p.2]
def zipR (ds : List D) (G : Hd) (R : List D → (Hd → Prop) → Hd → Prop) : Prop := match ds with
  | [.ref a, .ref b] => ∃ xs, seqG G a xs ∧ ∃ ys, seqG G b ys ∧ R (zipL xs ys) (fun G2 => seqG G2 a xs ∧ seqG G2 b ys) G
  | [.tup xs, .tup ys] => R (zipL xs ys) (fun _ => True) G
  | _ => False
def dWalk (g : List D → Hd → (List D → (Hd → Prop) → Hd → Prop) → Prop) (t : TAd) : TId := fun w σ G R => t w σ G fun ds G1 => g ds G1 R
theorem ite_ok {K : Kt} {H1 : Hp} {a : Addr} {xs : List D} : ItOk K H1 (Ite K a) (enumL xs) (fun G => seqG G a xs) := fun i H G t gr st => by
  obtain ⟨vs, sq, rs⟩ := seq_of gr st
  unfold enumL
  rw [List.length_map, List.length_range]
  refine ⟨fun hi => ?_, fun hi => ⟨vs, sq, by rw [← rs.length]; omega⟩⟩
  obtain ⟨v, hv, rv⟩ := rs.get (List.getElem?_eq_getElem hi)
  refine ⟨⟨vs, v, sq, hv⟩, fun x H' ⟨T, y, e, hT, eH, hy⟩ => ?_⟩
  subst e eH
  have e2 := hy vs sq
  rw [hv] at e2
  cases e2
  have tn : Tm K H (upd H T (.tup [.int i, v])) := Tm.new hT
  refine ⟨tn, gr.keep hT, D.tup [.int i, xs.getD i .non], by simp [hi], .tup (.inl (.inl upd_same)) (.cons (.int _) (.cons ?_ .nil))⟩
  have e3 : xs.getD i .non = xs[i] := by simp [List.getD_eq_getElem?_getD, hi]
  rw [e3]
  exact rv.mono tn
theorem iteT_ok {K : Kt} {H1 : Hp} {a : Addr} {xs : List D} {vs : List V} (sq : SqT K H1 a vs) (rs : Rps K H1 xs vs) : ItOk K H1 (IteT K a) (enumL xs) (fun _ => True) := fun i H G t gr _ => by
  unfold enumL
  rw [List.length_map, List.length_range]
  refine ⟨fun hi => ?_, fun hi => ⟨vs, t.t _ _ sq, by rw [← rs.length]; omega⟩⟩
  obtain ⟨v, hv, rv⟩ := rs.get (List.getElem?_eq_getElem hi)
  refine ⟨⟨vs, v, t.t _ _ sq, hv⟩, fun x H' ⟨T, y, e, hT, eH, hy⟩ => ?_⟩
  subst e eH
  have e2 := hy vs (t.t _ _ sq)
  rw [hv] at e2
  cases e2
  have tn : Tm K H (upd H T (.tup [.int i, v])) := Tm.new hT
  refine ⟨tn, gr.keep hT, D.tup [.int i, xs.getD i .non], by simp [hi], .tup (.inl (.inl upd_same)) (.cons (.int _) (.cons ?_ .nil))⟩
  have e3 : xs.getD i .non = xs[i] := by simp [List.getD_eq_getElem?_getD, hi]
  rw [e3]
  exact (rv.mono t).mono tn
theorem itz_ok {K : Kt} {H1 : Hp} {a b : Addr} {xs ys : List D} : ItOk K H1 (Itz K a b) (zipL xs ys) (fun G => seqG G a xs ∧ seqG G b ys) := fun i H G t gr st => by
  obtain ⟨vs, sq, rs⟩ := seq_of gr st.1
  obtain ⟨us, sq2, rs2⟩ := seq_of gr st.2
  have hl : (zipL xs ys).length = min xs.length ys.length := by simp [zipL]
  rw [hl]
  refine ⟨fun hi => ?_, fun hi => ⟨vs, us, sq, sq2, by rw [← rs.length, ← rs2.length]; omega⟩⟩
  obtain ⟨v, hv, rv⟩ := rs.get (List.getElem?_eq_getElem (show i < xs.length by omega))
  obtain ⟨u, hu, ru⟩ := rs2.get (List.getElem?_eq_getElem (show i < ys.length by omega))
  refine ⟨⟨vs, us, v, u, sq, sq2, hv, hu⟩, fun x H' ⟨T, y, z, e, hT, eH, hy, hz⟩ => ?_⟩
  subst e eH
  have e2 := hy vs sq
  rw [hv] at e2
  cases e2
  have e3 := hz us sq2
  rw [hu] at e3
  cases e3
  have tn : Tm K H (upd H T (.tup [v, u])) := Tm.new hT
  refine ⟨tn, gr.keep hT, D.tup [xs[i], ys[i]], ?_, .tup (.inl (.inl upd_same)) (.cons (rv.mono tn) (.cons (ru.mono tn) .nil))⟩
  unfold zipL
  rw [List.getElem?_map, List.getElem?_eq_getElem (by simp; omega)]
  simp
theorem itzT_ok {K : Kt} {H1 : Hp} {a b : Addr} {xs ys : List D} {vs us : List V} (sq : SqT K H1 a vs) (rs : Rps K H1 xs vs) (sq2 : SqT K H1 b us) (rs2 : Rps K H1 ys us) : ItOk K H1 (RZ.ItzT K a b) (zipL xs ys) (fun _ => True) := fun i H G t gr _ => by
  have hl : (zipL xs ys).length = min xs.length ys.length := by simp [zipL]
  rw [hl]
  refine ⟨fun hi => ?_, fun hi => ⟨vs, us, t.t _ _ sq, t.t _ _ sq2, by rw [← rs.length, ← rs2.length]; omega⟩⟩
  obtain ⟨v, hv, rv⟩ := rs.get (List.getElem?_eq_getElem (show i < xs.length by omega))
  obtain ⟨u, hu, ru⟩ := rs2.get (List.getElem?_eq_getElem (show i < ys.length by omega))
  refine ⟨⟨vs, us, v, u, t.t _ _ sq, t.t _ _ sq2, hv, hu⟩, fun x H' ⟨T, y, z, e, hT, eH, hy, hz⟩ => ?_⟩
  subst e eH
  have e2 := hy vs (t.t _ _ sq)
  rw [hv] at e2
  cases e2
  have e3 := hz us (t.t _ _ sq2)
  rw [hu] at e3
  cases e3
  have tn : Tm K H (upd H T (.tup [v, u])) := Tm.new hT
  refine ⟨tn, gr.keep hT, D.tup [xs[i], ys[i]], ?_, .tup (.inl (.inl upd_same)) (.cons ((rv.mono t).mono tn) (.cons ((ru.mono t).mono tn) .nil))⟩
  unfold zipL
  rw [List.getElem?_map, List.getElem?_eq_getElem (by simp; omega)]
  simp
theorem di_enum (hg : Gl X "enumerate") (hm : X.mg "enumerate" = none) (ha : DA X [e] tes) (hs : unstarE e = true) : DI X (.Tuple elts kk tpos) (.Call (.Name "enumerate" p) [e] [] pos) (dWalk enumR tes) := fun W tk =>
  PIi (pi_enumA hg hm (ha W tk) (star_ok hs)) fun σ H R ⟨σd, G, r, w, sr, gr, h, ok, cw⟩ => ⟨σd, G, _, w, sr, gr, h, fun vs ds H1 G1 t1 gr1 r1 h1 => by
    simp only [enumR] at h1
    split at h1
    · obtain ⟨v, rfl, q⟩ := r1.one
      obtain ⟨xs, sq, h1⟩ := h1
      obtain ⟨vs, sa, ra⟩ := seq_of gr1 sq
      exact ⟨_, vs, by rw [q.ref_inv], .inl ⟨sa, ok _ _ _ _ _ t1 gr1 ite_ok h1⟩⟩
    · obtain ⟨v, rfl, q⟩ := r1.one
      obtain ⟨a, vs, rfl, sa, ra⟩ := q.tup_inv
      exact ⟨_, vs, rfl, .inr ⟨sa, ok _ _ _ _ _ t1 gr1 (iteT_ok sa ra) h1⟩⟩
    · exact h1.elim, cw⟩
theorem di_zip (hg : Gl X "zip") (hm : X.mg "zip" = none) (ha : DA X [e, e2] tes) (hs : [e, e2].all unstarE = true) : DI X (.Tuple elts kk tpos) (.Call (.Name "zip" p) [e, e2] [] pos) (dWalk zipR tes) := fun W tk => by
  simp only [List.all_cons, List.all_nil, Bool.and_eq_true, Bool.and_true] at hs
  exact PIi (RZ.pi_zipA hg hm (ha W tk) (star_ok hs.1) (plain_ok (by simp [hs.2]))) fun σ H R ⟨σd, G, r, w, sr, gr, h, ok, cw⟩ => ⟨σd, G, _, w, sr, gr, h, fun vs ds H1 G1 t1 gr1 r1 h1 => by
    simp only [zipR] at h1
    split at h1
    · obtain ⟨v, u, rfl, q, q2⟩ := r1.two
      obtain ⟨xs, sq, ys, sq2, h1⟩ := h1
      obtain ⟨vs, sa, ra⟩ := seq_of gr1 sq
      obtain ⟨us, sb, rb⟩ := seq_of gr1 sq2
      exact ⟨_, _, vs, us, by rw [q.ref_inv, q2.ref_inv], .inl ⟨sa, sb, ok _ _ _ _ _ t1 gr1 itz_ok h1⟩⟩
    · obtain ⟨v, u, rfl, q, q2⟩ := r1.two
      obtain ⟨a, vs, rfl, sa, ra⟩ := q.tup_inv
      obtain ⟨b, us, rfl, sb, rb⟩ := q2.tup_inv
      exact ⟨_, _, vs, us, rfl, .inr ⟨sa, sb, ok _ _ _ _ _ t1 gr1 (itzT_ok sa ra sb rb) h1⟩⟩
    · exact h1.elim, cw⟩
end
/-! ## a written dict of texts to numbers, asked at once -/
def litKV : List (Option Expr) → List Expr → Option (List (Str × Int))
  | [], [] => some []
  | some (.Constant (.str x) _ _) :: ks, .Constant (.int i) _ _ :: vs => match litKV ks vs with
    | some r => some ((x, i) :: r)
    | none => none
  | _, _ => none
def dLit (kvs : List (Str × Int)) : List (D × D) := kvs.map fun kv => (.str kv.1, .int kv.2)
def dDix (kvs : List (Str × Int)) (ti : TEd) : TEd := fun w σ G Q => ∀ p, G p = none → ti w σ (st G p (.dic (dLit kvs))) fun d G1 => ∃ s v, d = .str s ∧ G1 p = some (.dic (dLit kvs)) ∧ kvs.lookup s = some v ∧ Q (.int v) G1
def kLit (kvs : List (Str × Int)) : List (Key × V) := kvs.map fun kv => (.inr kv.1, .int kv.2)
def tLit (kvs : List (Str × Int)) : List (TE × TE) := kvs.map fun kv => (tC (.str kv.1), tC (.int kv.2))
section
variable {X : Cx} {pos : Pos}
theorem lit_ok : ∀ {ks : List (Option Expr)} {vs : List Expr} {kvs : List (Str × Int)}, litKV ks vs = some kvs → PPs X pos ks vs (tLit kvs) ∧ ks.all (·.isSome) = true ∧ ks.length = vs.length ∧ ks.length = kvs.length := by
  intro ks vs
  induction ks generalizing vs with
  | nil => intro kvs h; cases vs with
    | nil => cases h; exact ⟨pps_nil, rfl, rfl, rfl⟩
    | cons => cases h
  | cons k ks ih =>
    intro kvs h
    unfold litKV at h
    split at h
    · cases ‹_ :: _ = []›
    · rename_i e1 e2
      split at h
      · rename_i r hr
        cases h
        cases e2
        obtain ⟨a, b, c, d⟩ := ih hr
        exact ⟨pps_cons pe_str pe_int a, by simp [b], by simp [c], by simp [d]⟩
      · cases h
    · cases h
theorem tLit_run : ∀ {kvs : List (Str × Int)} {σ : St} {H : Hp} {Q : List (V × V) → Hp → Prop}, Q ((kLit kvs).map fun kv => (kV kv.1, kv.2)) H → tPairs (tLit kvs) σ H Q
  | [], _, _, _, h => h
  | kv :: r, σ, H, Q, h => tLit_run (kvs := r) (Q := fun ps H3 => Q ((.str kv.1, .int kv.2) :: ps) H3) h
termination_by kvs => kvs.length
theorem kvr_lit {K : Kt} {H : Hp} : ∀ kvs : List (Str × Int), KvR K H (dLit kvs) (kLit kvs)
  | [] => .nil
  | kv :: r => .cons (k := .inr kv.1) (.int _) (kvr_lit r)
theorem merge_lit : ∀ {kvs acc : List (Key × V)}, (acc.map (·.1) ++ kvs.map (·.1)).Nodup → mergeK acc kvs = acc ++ kvs
  | [], acc, _ => by simp [mergeK]
  | kv :: r, acc, h => by
    have hn : valV acc kv.1 = none := by
      cases e : valV acc kv.1 with
      | none => rfl
      | some v =>
        exfalso
        have : (acc.any fun z => decide (z.1 = kv.1)) = true := by rw [valV_any, e]; rfl
        rw [List.any_eq_true] at this
        obtain ⟨z, hz, e2⟩ := this
        have e2 := of_decide_eq_true e2
        rw [List.nodup_append] at h
        exact h.2.2 _ (List.mem_map_of_mem hz) _ (by simp) e2
    show mergeK (putK acc kv.1 kv.2) r = _
    rw [putK_new _ hn, merge_lit (by simpa using h)]
    simp
theorem val_lit {s : Str} {v : Int} : ∀ {kvs : List (Str × Int)}, kvs.lookup s = some v → valV (kLit kvs) (.inr s) = some (.int v)
  | [], h => by cases h
  | kv :: r, h => by
    rw [List.lookup_cons] at h
    by_cases e : s = kv.1
    · subst e
      rw [beq_self_eq_true] at h; cases h
      exact valV_pos rfl
    · have : (s == kv.1) = false := by simpa using e
      rw [this] at h
      show valV ((.inr kv.1, .int kv.2) :: kLit r) _ = _
      rw [valV_neg (by intro z; cases z; exact e rfl)]
      exact val_lit h
def nodupS : List (Str × Int) → Bool
  | [] => true
  | kv :: r => !(r.any fun x => x.1 == kv.1) && nodupS r
theorem nodupS_ok : ∀ {kvs : List (Str × Int)}, nodupS kvs = true → ((kLit kvs).map (·.1)).Nodup
  | [], _ => .nil
  | kv :: r, h => by
    simp only [nodupS, Bool.and_eq_true, Bool.not_eq_true'] at h
    refine List.nodup_cons.mpr ⟨fun m => ?_, nodupS_ok h.2⟩
    obtain ⟨z, hz, e⟩ := List.mem_map.mp m
    obtain ⟨y, hy, rfl⟩ := List.mem_map.mp hz
    simp only at e
    have e : y.1 = kv.1 := Sum.inr.inj e
    have := List.any_eq_false.mp h.1 y hy
    exact this (by simp [e])
theorem de_dix {ks : List (Option Expr)} {vs : List Expr} {kvs : List (Str × Int)} {i : Expr} {ti : TEd} {p2 : Pos} (hu : X.A.units + 1 < cLine) (hk : litKV ks vs = some kvs) (hn : nodupS kvs = true) (h0 : kvs ≠ []) (hl : kvs.length ≤ 15) (hi : DE X i ti) (hs : NoSl i) :
    DE X (.Subscript (.Dict ks vs pos) i p2) (dDix kvs ti) := fun W tk => by
  obtain ⟨a, b, c, d⟩ := lit_ok (X := X) (pos := pos) hk
  refine PEi (pe_dget hu (pe_disp a b c (fun e => h0 (List.eq_nil_of_length_eq_zero (by rw [← d, e]; rfl))) (by omega)) (hi W tk) hs) fun σ H Q ⟨σd, G, q, w, sr, gr, h, cl, cw⟩ => ?_
  intro p hp
  refine tLit_run ⟨upd_same, kLit kvs, rfl, by simp [kLit]; exact hl, ?_⟩
  have em : mergeK [] (kLit kvs) = kLit kvs := merge_lit (acc := []) (by simpa using nodupS_ok hn)
  rw [em, upd_upd]
  have t : Tm (kt X) H (upd H p (.dK (kLit kvs))) := Tm.new hp
  refine ⟨σd, _, _, w, sr.mono t, gr.new (u := .dic (dLit kvs)) hp ⟨_, upd_same, kvr_lit kvs⟩, h p (gr.free hp), fun v dd H2 G2 t2 gr2 r2 ⟨s, z, e, eg, el, hq⟩ => ?_, cw.mono t⟩
  subst e
  cases r2
  obtain ⟨vs', ev, rv⟩ := gr2 _ _ eg
  have ek : vs' = kLit kvs := by
    clear ev el hq em
    have : ∀ {l : List (Str × Int)} {x : List (Key × V)}, KvR (kt X) H2 (dLit l) x → x = kLit l := by
      intro l
      induction l with
      | nil => intro x r; cases r; rfl
      | cons y l ih =>
        intro x r
        have r' : KvR (kt X) H2 ((.str y.1, .int y.2) :: dLit l) x := r
        generalize hk : D.str y.1 = kd at r'
        cases r' with
        | @cons k _ v _ s' h rr =>
          cases k with
          | inl i => cases hk
          | inr x => cases hk; rw [h.int_inv, ih rr]; rfl
    exact this rv
  subst ek
  exact ⟨p, _, rfl, .inl ⟨_, .inr s, .inl ev, rfl, (val_lit el).symm⟩, cl _ _ _ _ (t.trans t2) gr2 (.int _) hq⟩
end
/-- a written dict of texts to numbers -/
def dLitE (kvs : List (Str × Int)) : TEd := fun w σ G Q => ∀ p, G p = none → Q (.ref p) (st G p (.dic (dLit kvs)))
section
variable {X : Cx} {pos : Pos}
theorem de_lit {ks : List (Option Expr)} {vs : List Expr} {kvs : List (Str × Int)} (hk : litKV ks vs = some kvs) (hn : nodupS kvs = true) (h0 : kvs ≠ []) (hl : kvs.length ≤ 15) : DE X (.Dict ks vs pos) (dLitE kvs) := fun W tk => by
  obtain ⟨a, b, c, d⟩ := lit_ok (X := X) (pos := pos) hk
  refine PEi (pe_disp a b c (fun e => h0 (List.eq_nil_of_length_eq_zero (by rw [← d, e]; rfl))) (by omega)) fun σ H Q ⟨σd, G, q, w, sr, gr, h, cl, cw⟩ => ?_
  intro p hp
  refine tLit_run ⟨upd_same, kLit kvs, rfl, by simp [kLit]; exact hl, ?_⟩
  have em : mergeK [] (kLit kvs) = kLit kvs := merge_lit (acc := []) (by simpa using nodupS_ok hn)
  rw [em, upd_upd]
  have t : Tm (kt X) H (upd H p (.dK (kLit kvs))) := Tm.new hp
  exact cl _ _ _ _ t (gr.new (u := .dic (dLit kvs)) hp ⟨_, upd_same, kvr_lit kvs⟩) (.ref _) (h p (gr.free hp))
end
/-! ## the keys of a dict whose keys are tuples -/
def Itkd (P : Program) (w : World) (d : Addr) (ep n : Nat) : It :=
  ⟨fun i H => (∃ xs, H d = some (DitO P w d xs ep) ∧ xs.length = n) ∧ i < n, fun i H x H' => H' = H ∧ ∀ xs, H d = some (DitO P w d xs ep) → ∃ y, xs[i]? = some y ∧ x = .ref y.2.1, fun i H => (∃ xs, H d = some (DitO P w d xs ep) ∧ xs.length = n) ∧ n ≤ i⟩
theorem size_e {xs : List (NestedKey × Addr × Value)} {es : Array DictEntry} {f : NestedKey × Addr × Value → DictEntry} (h : es.toList = xs.map f) : es.size = xs.length := by
  have := congrArg List.length h
  simpa using this
theorem turn_keysD {P : Program} {w : World} {K : PySem.W.Frag} {tg : Expr} {d : Addr} {ep n : Nat} (it : Addr) : Turn P w K tg (Itkd P w d ep n) [it] it (fun i h => h.IsKeyIter it d i n ep) where
  mem := by simp
  obj := fun i h st b hb => by
    have e : b = it := by simpa using hb
    subst e
    obtain ⟨oi, e, c, dd⟩ := st
    exact ⟨oi, e, fun v z => by rw [dd] at z; cases z⟩
  keep := fun i h h' st k => st.at fun oi e => k it (by simp) oi e
  item := by
    intro X hP hw hK hc i pins s σ H E I hf st hg
    subst hP hw hK
    obtain ⟨⟨xs, hd, hn⟩, hi⟩ := hg
    obtain ⟨f0, f1, f2, f3, f4, f5⟩ := hf it (by simp)
    obtain ⟨⟨_, _, _, o, es, h1, h2, h3, h4⟩, _⟩ := I.hok d _ hd
    have hsz : es.size = n := by rw [size_e h4]; exact hn
    have hlt : i < es.size := by omega
    refine next_key_item st h1 h3 hsz (Array.getElem?_eq_getElem hlt) fun h' st' sb => ?_
    have I1 : L2.Inv X pins σ H { s with heap := h' } := I.turned (t' := s.toks) (fun b ob hb e => (sb.2 b hb).trans e) f0 f1 f3 f4 f5
    obtain ⟨oi, e, c, dd⟩ := id st'
    have key : ∀ ys, H d = some (DitO X.prog X.w d ys ep) → ∃ y, ys[i]? = some y ∧ es[i].key = .ref y.2.1 := fun ys hy => by
      obtain ⟨⟨_, _, _, o', es', g1, g2, g3, g4⟩, _⟩ := I.hok d _ hy
      rw [h1] at g1; cases g1
      rw [h3] at g3; cases g3
      have e1 : es.toList[i]? = (ys.map (entryOfKey (nestedKind X.prog X.w)))[i]? := by rw [g4]
      rw [List.getElem?_map, Array.getElem?_toList, Array.getElem?_eq_getElem hlt] at e1
      cases ey : ys[i]? with
      | none => rw [ey] at e1; cases e1
      | some y =>
        rw [ey] at e1
        refine ⟨y, rfl, ?_⟩
        have e2 : es[i] = entryOfKey (nestedKind X.prog X.w) y := Option.some.inj e1
        rw [e2]; rfl
    obtain ⟨y, hy, ky⟩ := key xs hd
    refine ⟨es[i].key, rfl, go_of (s := { s with heap := h' }) e c dd (by decide) ⟨.ref y.2.1, H, I1, ky, ⟨rfl, fun ys hys => ?_⟩, st', fun b hb => (hf b hb).1⟩⟩
    obtain ⟨z, hz, kz⟩ := key ys hys
    rw [ky] at kz
    have kz' : y.2.1 = z.2.1 := by injection kz
    exact ⟨z, hz, by rw [kz']⟩
  done := by
    intro X hP hw hK hc i pins s σ H E I hf st hg
    subst hP hw hK
    obtain ⟨⟨xs, hd, hn⟩, hi⟩ := hg
    obtain ⟨f0, f1, f2, f3, f4, f5⟩ := hf it (by simp)
    obtain ⟨⟨_, _, _, o, es, h1, h2, h3, h4⟩, _⟩ := I.hok d _ hd
    have hsz : es.size = n := by rw [size_e h4]; exact hn
    exact next_key_end (I.ok.hd hc) st h1 h3 hsz hi fun h' eb => ⟨rfl, I.turned (t' := s.toks) (fun b ob hb e => eb b ob hb e) f0 f1 f3 f4 f5⟩
  self := fun A i s Q E st h => by
    refine wpAny_pyIter_slot st.typeIs PySem.F.slot_dict_keyiterator_iter (wpAny_call_entry PySem.F.slot_dict_keyiterator_iter st.typeIs PySem.F.entry_dict_keyiterator_iter ?_ (PySem.F.args_dict_keyiterator_iter_1 _))
    show wpAny _ _ (ret (.ref it)) _ _ s
    exact wpAny_pure ⟨_, rfl, "dict_keyiterator", _, st.typeIs, PySem.F.slot_dict_keyiterator_next.lookup, h⟩
def itk (d : D) (G : Hd) (R : List D → (Hd → Prop) → Hd → Prop) : Prop := match d with
  | .ref a => ∃ kvs ep, G a = some (.dit kvs ep) ∧ R (kvs.map (·.1)) (fun G2 => G2 a = some (.dit kvs ep)) G
  | _ => False
def dItK (te : TEd) : TId := fun w σ G R => te w σ G fun d G1 => itk d G1 R
section
variable {X : Cx} {tg e : Expr} {te : TEd}
theorem pi_keysD {td : TE} (he : PE X e td) : PI X tg e (fun σ H R => td σ H fun x H1 => ∃ d xs ep, x = .ref d ∧ H1 d = some (DitO X.prog X.w d xs ep) ∧ R (Itkd X.prog X.w d ep xs.length) H1) := by
  refine ⟨fun pins s σ H R I h => ?_⟩
  refine thn (he.run pins s σ H _ I h) fun u s1 ⟨x, H1, I1, rx, d, xs, ep, ex, hd, q⟩ => ?_
  subst ex
  obtain rfl : u = Value.ref d := rx
  obtain ⟨⟨_, hs, _, o, es, h1, h2, h3, h4⟩, _⟩ := I1.hok d _ hd
  refine iter_keys hs h1 h2 h3 (pi_one (tk := s1.toks) I1 _ (turn_keysD _) ⟨_, Heap.get?_push_size _ rfl, rfl, ?_⟩ q)
  rw [size_e h4] <;> rfl
theorem ditR_get {K : Kt} {H : Hp} : ∀ {kvs : List (D × D)} {xs : List (NestedKey × Addr × Value)} {i : Nat} {y : NestedKey × Addr × Value}, DitR K H kvs xs → xs[i]? = some y → ∃ p, kvs[i]? = some p ∧ Rp K H p.1 (.ref y.2.1)
  | _, _, i, _, .nil, h => by simp at h
  | _, _, 0, _, .cons _ _ h3 _ _ _, h => by simp at h; subst h; exact ⟨_, rfl, h3⟩
  | _, _, i + 1, _, .cons _ _ _ _ _ q, h => by simp at h; simpa using ditR_get q h
theorem ditR_len {K : Kt} {H : Hp} : ∀ {kvs : List (D × D)} {xs : List (NestedKey × Addr × Value)}, DitR K H kvs xs → kvs.length = xs.length
  | _, _, .nil => rfl
  | _, _, .cons _ _ _ _ _ q => by simp [ditR_len q]
theorem di_keysD (he : DE X e te) : DI X tg e (dItK te) := fun W tk =>
  PIi (pi_keysD (he W tk)) fun σ H R ⟨σd, G, r, w, sr, gr, h, ok, cw⟩ => ⟨σd, G, _, w, sr, gr, h, fun v d H1 G1 t1 gr1 r1 h1 => by
    simp only [itk] at h1
    split at h1
    · rename_i a
      obtain ⟨kvs, ep, eg, h1⟩ := h1
      cases r1
      obtain ⟨xs, ha, rx⟩ := gr1 _ _ eg
      refine ⟨a, xs, ep, rfl, ha, ok _ _ _ _ _ t1 gr1 ?_ h1⟩
      intro i H2 G2 t2 gr2 st
      obtain ⟨ys, hy, ry⟩ := gr2 _ _ st
      have l1 := ditR_len rx
      have l2 := ditR_len ry
      rw [List.length_map]
      refine ⟨fun hi => ⟨⟨⟨ys, hy, by omega⟩, by omega⟩, fun x H3 ⟨e3, hx⟩ => ?_⟩, fun hi => ⟨⟨ys, hy, by omega⟩, by omega⟩⟩
      subst e3
      obtain ⟨y, ey, rfl⟩ := hx ys hy
      obtain ⟨p, ep', rp⟩ := ditR_get ry ey
      exact ⟨Tm.refl, gr2, p.1, by rw [List.getElem?_map, ep']; rfl, rp⟩
    · exact h1.elim, cw⟩
end
end S
set_option Elab.async false
set_option linter.all false
set_option maxRecDepth 100000
set_option maxHeartbeats 4000000
namespace S
open PySem PySem.Spec L2
open PyProof.Rows hiding St
/-! ## list(range(..)), xs[::-1] -/
section
variable {X : Cx} {a b e : Expr} {ta tb te : TEd} {p p1 p2 p3 pos : Pos}
def lrK (i j : Int) (G : Hd) (Q : Qd) : Prop := (-(2 ^ 62) ≤ i ∧ i < 2 ^ 62 ∧ -(2 ^ 62) ≤ j ∧ j < 2 ^ 62 ∧ (j - i).toNat ≤ 2 ^ 24) ∧ ∀ p, G p = none → Q (.ref p) (st G p (.lst (rngL i 1 (j - i).toNat)))
def lr1 (x : D) (G : Hd) (Q : Qd) : Prop := match x with
  | .int j => lrK 0 j G Q
  | _ => False
def lr2 (x y : D) (G : Hd) (Q : Qd) : Prop := match x, y with
  | .int i, .int j => lrK i j G Q
  | _, _ => False
def revD (x : D) (G : Hd) (Q : Qd) : Prop := match x with
  | .ref a => ∃ xs, seqG G a xs ∧ ∀ p, G p = none → Q (.ref p) (st G p (.lst xs.reverse))
  | _ => False
theorem rgV_ok {K : Kt} {H : Hp} {i j : Int} : Rps K H (rngL i 1 (j - i).toNat) (rgV i j) := by
  unfold rngL rgV
  generalize List.range (j - i).toNat = l
  induction l with
  | nil => exact .nil
  | cons k l ih => exact .cons (by simp only [Int.mul_one]; exact .int _) ih
theorem lrK_ok {K : Kt} {H : Hp} {G : Hd} {Q : VK} {q : Qd} {i j : Int} (gr : GR K G H) (h : lrK i j G q) (cl : CQ K H Q q) : RgOk i j ∧ ∀ p, H p = none → Q (.ref p) (upd H p (.lst (rgV i j))) :=
  ⟨h.1, fun p hp => cl _ _ _ _ (Tm.new hp) (gr.new (u := .lst _) hp ⟨_, upd_same, rgV_ok⟩) (.ref p) (h.2 p (gr.free hp))⟩
theorem de_lrg1 (hc : X.calm = true) (hl : Gl X "list") (hm : X.mg "list" = none) (hr : Gl X "range") (hn : X.mg "range" = none) (ha : DE X a ta) (hs : unstarE a = true) : DE X (.Call (.Name "list" p1) [.Call (.Name "range" p) [a] [] p2] [] pos) (dUn lr1 ta) := fun W tk =>
  PEi (pe_listRg hc hl hm (prg_1 hr hn (ha W tk) (star_ok hs)) rfl) fun σ H Q h => by
    obtain ⟨σd, G, q, w, sr, gr, h, cl, cw⟩ := h
    refine ⟨σd, G, _, w, sr, gr, h, fun v d H1 G1 t1 gr1 r1 h1 => ?_, cw⟩
    cases d with
    | int j => exact ⟨j, r1.int_inv, lrK_ok gr1 h1 (cl.mono t1)⟩
    | _ => exact False.elim h1
theorem de_lrg2 (hc : X.calm = true) (hl : Gl X "list") (hm : X.mg "list" = none) (hr : Gl X "range") (hn : X.mg "range" = none) (ha : DE X a ta) (hb : DE X b tb) (hs : unstarE a = true) (hs2 : unstarE b = true) : DE X (.Call (.Name "list" p1) [.Call (.Name "range" p) [a, b] [] p2] [] pos) (dOp lr2 ta tb) := fun W tk =>
  PEi (pe_listRg hc hl hm (prg_2 hr hn (ha W tk) (hb W tk) (star_ok hs) (star_ok hs2) (by first | exact plain_ok (es := [b]) (by simp [hs2]) | (rw [star_ok hs2]; rfl))) rfl) fun σ H Q h => by
    obtain ⟨σd, G, q, w, sr, gr, h, cl, cw⟩ := h
    refine ⟨σd, G, _, w, sr, gr, h, fun v d H1 G1 t1 gr1 r1 h1 => ?_, cw⟩
    refine ⟨σd, G1, _, w, sr.mono t1, gr1, h1, fun v2 d2 H2 G2 t2 gr2 r2 h2 => ?_, cw.mono t1⟩
    change lr2 d d2 G2 q at h2
    unfold lr2 at h2
    split at h2
    · exact ⟨_, _, r1.int_inv, r2.int_inv, lrK_ok gr2 h2 (cl.mono (t1.trans t2))⟩
    · exact h2.elim
theorem de_rev {k : Nat} (he : DE X e te) : DE X (.Subscript e (.Slice none none (some (.UnaryOp .USub (.Constant (.int 1) k p1) p2)) p3) pos) (dUn revD te) := fun W tk =>
  PEi (pe_revL (he W tk)) fun σ H Q h => by
    obtain ⟨σd, G, q, w, sr, gr, h, cl, cw⟩ := h
    refine ⟨σd, G, _, w, sr, gr, h, fun v d H1 G1 t1 gr1 r1 h1 => ?_, cw⟩
    cases d with
    | ref a =>
      cases r1
      obtain ⟨xs, sq, h1⟩ := h1
      obtain ⟨vs, sa, ra⟩ := seq_of gr1 sq
      exact ⟨a, vs, rfl, sa, fun p hp => cl _ _ _ _ (t1.trans (Tm.new hp)) (gr1.new (u := .lst _) hp ⟨_, upd_same, (ra.mono (Tm.new hp)).reverse⟩) (.ref p) (h1 p (gr1.free hp))⟩
    | _ => exact False.elim h1
end
/-! ## list(d), len(d): a dict whose keys are tuples -/
def listK : RCd := fun ds G Q => match ds with
  | [.ref a] => ∃ kvs ep, G a = some (.dit kvs ep) ∧ ∀ p, G p = none → Q (.ref p) (st G p (.lst (kvs.map (·.1))))
  | _ => False
theorem ditR_keys {K : Kt} {H : Hp} : ∀ {kvs : List (D × D)} {xs : List (NestedKey × Addr × Value)}, DitR K H kvs xs → Rps K H (kvs.map (·.1)) (xs.map fun y => V.ref y.2.1)
  | _, _, .nil => .nil
  | _, _, .cons _ _ h3 _ _ q => .cons h3 (ditR_keys q)
theorem bd_listK {X : Cx} (hc : X.calm = true) : CalB X (.type "list") listK := by
  intro pins s σ H vs us Q I r ⟨ds, G, q, rs, gr, h, cl⟩
  unfold listK at h
  split at h
  · obtain ⟨v, rfl, r1⟩ := rs.one
    cases r1
    rename_i d
    obtain ⟨kvs, ep, eg, h⟩ := h
    obtain ⟨u, rfl, rx⟩ := r.one
    cases rx
    obtain ⟨xs, ha, rx⟩ := gr _ _ eg
    obtain ⟨⟨hz, hs, _, o, es, ho, hx, hdt, he⟩, _⟩ := I.hok d _ ha
    have l1 : es.size = xs.length := size_e he
    refine PySem.W.kdl_call (kdl_raw hs hx hdt) (I.ok.hd hc) ho (by omega) fun h' tk acc' c' kp e it => ?_
    have ea : acc'.toList = xs.map fun x => Value.ref x.2.1 := by
      have hl : acc'.toList.length = xs.length := by rw [Array.length_toList, it.1]; exact l1
      apply List.ext_getElem?
      intro j
      rw [List.getElem?_map]
      cases hj : acc'.toList[j]? with
      | none =>
        have h1 := List.getElem?_eq_none_iff.mp hj
        rw [List.getElem?_eq_none (by omega)]; rfl
      | some v =>
        obtain ⟨en, hen, hv⟩ := it.2 j v (by rw [← Array.getElem?_toList]; exact hj)
        have e1 : es.toList[j]? = (xs.map (entryOfKey (nestedKind X.prog X.w)))[j]? := by rw [he]
        rw [List.getElem?_map, Array.getElem?_toList, hen] at e1
        cases ey : xs[j]? with
        | none => rw [ey] at e1; cases e1
        | some y =>
          rw [ey] at e1
          have e2 : en = entryOfKey (nestedKind X.prog X.w) y := Option.some.inj e1
          rw [hv, e2]; rfl
    have eb : acc'.toList = (xs.map fun x => x.2.1).map Value.ref := by rw [ea, List.map_map]; rfl
    have rv : Vals ((xs.map fun x => x.2.1).map V.ref) acc'.toList := by rw [eb]; exact vals_refs _
    have hz : ((xs.map fun x => x.2.1).map V.ref).length ≤ sizeLine := by rw [List.length_map, List.length_map]; omega
    have hp := I.hok.fresh (Nat.le_refl s.heap.objs.size)
    have hr : Rps (kt X) H (kvs.map (·.1)) ((xs.map fun x => x.2.1).map V.ref) := by rw [List.map_map]; exact ditR_keys rx
    refine ⟨.ref s.heap.objs.size, _, I.laid (t' := tk) (o := .lst ((xs.map fun x => x.2.1).map V.ref)) kp (Nat.le_refl _) ?_, rfl, cl _ _ _ _ (Tm.new hp) (gr.new (u := .lst _) hp ⟨_, upd_same, hr.mono (Tm.new hp)⟩) (.ref _) (h _ (gr.free hp))⟩
    exact ⟨hz, acc'.toList, c', rv, by rw [Array.toArray_toList]; exact e⟩
  · exact h.elim
end S
set_option Elab.async false
set_option linter.all false
set_option maxRecDepth 100000
set_option maxHeartbeats 4000000
namespace S
open PySem PySem.Spec L2
open PyProof.Rows hiding St
/-! ## len(set(xs)), xs a list of tuples of whole numbers -/
theorem nd_len {α : Type} [DecidableEq α] : ∀ {l m : List α}, l.Nodup → (∀ x ∈ l, x ∈ m) → l.length ≤ m.length
  | [], _, _, _ => Nat.zero_le _
  | x :: l, m, h, hs => by
    have hx := hs x List.mem_cons_self
    have h1 := (List.nodup_cons.mp h)
    have := nd_len (l := l) (m := m.erase x) h1.2 fun y hy => (List.mem_erase_of_ne (fun e => h1.1 (by rw [← e]; exact hy))).mpr (hs y (List.mem_cons_of_mem _ hy))
    rw [List.length_erase_of_mem hx] at this
    have := List.length_pos_of_mem hx
    simp only [List.length_cons]; omega
theorem nd_full {α : Type} [DecidableEq α] : ∀ {l m : List α}, l.Nodup → (∀ x ∈ l, x ∈ m) → m.length ≤ l.length → m.Nodup
  | [], m, _, _, h => by
    obtain rfl : m = [] := List.length_eq_zero_iff.mp (by simpa using h)
    exact .nil
  | x :: l, m, hn, hs, h => by
    have hx := hs x List.mem_cons_self
    have h1 := (List.nodup_cons.mp hn)
    have sub : ∀ y ∈ l, y ∈ m.erase x := fun y hy => (List.mem_erase_of_ne (fun e => h1.1 (by rw [← e]; exact hy))).mpr (hs y (List.mem_cons_of_mem _ hy))
    have le := List.length_erase_of_mem hx
    have lp := List.length_pos_of_mem hx
    simp only [List.length_cons] at h
    have ih := nd_full (l := l) (m := m.erase x) h1.2 sub (by omega)
    have nx : x ∉ m.erase x := fun hm => by
      have s2 : ∀ y ∈ l, y ∈ (m.erase x).erase x := fun y hy => (List.mem_erase_of_ne (fun e => h1.1 (by rw [← e]; exact hy))).mpr (sub y hy)
      have := nd_len h1.2 s2
      rw [List.length_erase_of_mem hm] at this
      have := List.length_pos_of_mem hm
      omega
    exact (List.perm_cons_erase hx).nodup_iff.mpr (List.nodup_cons.mpr ⟨nx, ih⟩)
section
variable {X : Cx}
def tLenSetT (K : PySem.W.Frag) (ta : TE) : TE := fun σ H Q => ta σ H fun x H1 => ∃ (l : Addr) (ks : List (Addr × List Int)), x = V.ref l ∧ SqL K H1 l (ks.map fun p => V.ref p.1) ∧ (∀ p ∈ ks, SqT K H1 p.1 (p.2.map V.int)) ∧ ks.length < 64 ∧ ∀ n : Nat, (n = ks.length ↔ (ks.map (·.2)).Nodup) → n ≤ ks.length → Q (.int (n : Int)) H1
theorem pe_lenSetT {y : Str} {a : Expr} {ta : TE} {p p2 q pos : Pos} (hc : X.calm = true) (hu : X.A.units + 64 < cLine) (hg : Gl X "len") (hm : X.mg "len" = none) (hg2 : Gl X y) (hm2 : X.mg y = none) (hd2 : (y == ("__debug__" : Str)) = false) (hn2 : y ≠ "__name__") (hb2 : bootBuiltins y = some (.type "set")) (ha : PE X a ta)
    (na : starEach [a] X.env = (false, eval a X.env) :: starEach [] X.env := by rfl) : PE X (.Call (.Name "len" p) [.Call (.Name y p2) [a] [] q] [] pos) (tLenSetT X.K ta) := by
  refine ⟨fun pins s σ H Q I h => ?_⟩
  refine Call_ (ld_blt I hg hm PySem.boot_len ?_)
  refine PyProof.Rows.callWith_builtin1 (PyProof.Rows.args_cons ?_ rfl) rfl rfl
  refine Call_ (ld_blt (hn := hn2) (hd := hd2) I hg2 hm2 hb2 ?_)
  refine PyProof.Rows.callWith_type1 (PyProof.Rows.args_cons (thn (ha.run pins s σ H _ I h) fun v s1 ⟨x, H1, I1, r1, q1⟩ => PyProof.Rows.args_nil ?_) na) na rfl
  obtain ⟨l, ks, rfl, hq, hk, h1, q1⟩ := q1
  cases r1
  obtain ⟨its, r, pl, hz⟩ := I1.list hq
  refine call_set_tups (P := X.prog) (w := X.w) ks (I1.ok.hd hc) pl.isList (by simpa using refs_of_vals r) (fun p hp => I1.isT (hk p hp)) h1 (by omega) fun h' tk L es ep t R g k => ?_
  refine PyProof.Rows.args_nil ?_
  obtain ⟨o, ho, hex, hd⟩ := R.ob
  have hn : es.size = L.length := by
    have := congrArg List.length R.rows
    rw [Array.length_toList] at this
    rw [this]
    simp [rowsOf]
  have hll : L.length ≤ ks.length := g.len
  have I2 : Inv X pins σ H1 { s1 with heap := h', toks := tk } := I1.kept k
  refine call_len_set ho hex hd (SetTR.fits (s := { s1 with heap := h', toks := tk }) R) (by rw [hn] <;> omega) ⟨.int L.length, H1, I2.tok _, ⟨_, by rw [hn]⟩, q1 _ ⟨fun e => ?_, fun nd => ?_⟩ hll⟩
  · refine nd_full (l := L.map (·.2)) R.nd (fun x hx => ?_) (by rw [List.length_map, List.length_map]; omega)
    obtain ⟨p, hp, rfl⟩ := List.mem_map.mp hx
    exact List.mem_map.mpr ⟨p, List.mem_of_mem_take (g.sub p hp), rfl⟩
  · have := nd_len (m := L.map (·.2)) nd fun x hx => by
      obtain ⟨p, hp, rfl⟩ := List.mem_map.mp hx
      exact g.all p (by rw [List.take_length]; exact hp)
    rw [List.length_map, List.length_map] at this
    omega
/-- what it tells -/
def lsetD (x : D) (G : Hd) (Q : Qd) : Prop := match x with
  | .ref a => ∃ ks : List (List Int), seqG G a (ks.map fun k => .tup (k.map .int)) ∧ ks.length < 64 ∧ ∀ n : Nat, (n = ks.length ↔ ks.Nodup) → n ≤ ks.length → Q (.int (n : Int)) G
  | _ => False
theorem rps_tups {K : Kt} {H : Hp} : ∀ {ks : List (List Int)} {vs : List V}, Rps K H (ks.map fun k => D.tup (k.map .int)) vs → ∃ qs : List (Addr × List Int), vs = qs.map (fun p => V.ref p.1) ∧ qs.map (·.2) = ks ∧ ∀ p ∈ qs, SqT K.K H p.1 (p.2.map V.int)
  | [], _, .nil => ⟨[], rfl, rfl, fun _ h => by cases h⟩
  | k :: ks, _, .cons (.tup (a := a) h1 h2) t => by
    obtain ⟨qs, rfl, e2, h3⟩ := rps_tups t
    have := h2.ints
    subst this
    refine ⟨(a, k) :: qs, rfl, by rw [List.map_cons, e2], fun p hp => ?_⟩
    rcases List.mem_cons.mp hp with rfl | hp
    · exact h1
    · exact h3 p hp
theorem de_lset {y : Str} {a : Expr} {ta : TEd} {p p2 q pos : Pos} (hc : X.calm = true) (hu : X.A.units + 64 < cLine) (hg : Gl X "len") (hm : X.mg "len" = none) (hg2 : Gl X y) (hm2 : X.mg y = none) (hd2 : (y == ("__debug__" : Str)) = false) (hn2 : y ≠ "__name__") (hb2 : bootBuiltins y = some (.type "set")) (ha : DE X a ta) (hs : unstarE a = true) : DE X (.Call (.Name "len" p) [.Call (.Name y p2) [a] [] q] [] pos) (dUn lsetD ta) := fun W tk =>
  PEi (pe_lenSetT hc hu hg hm hg2 hm2 hd2 hn2 hb2 (ha W tk) (star_ok hs)) fun σ H Q h => by
    obtain ⟨σd, G, q, w, sr, gr, h, cl, cw⟩ := h
    refine ⟨σd, G, _, w, sr, gr, h, fun v d H1 G1 t1 gr1 r1 h1 => ?_, cw⟩
    cases d with
    | ref a =>
      cases r1
      obtain ⟨ks, sq, lk, h1⟩ := h1
      obtain ⟨vs, sa, ra⟩ := seq_of gr1 sq
      obtain ⟨qs, rfl, e2, h3⟩ := rps_tups ra
      have el : qs.length = ks.length := by rw [← e2, List.length_map]
      exact ⟨a, qs, rfl, sa, h3, by omega, fun n hn ln => cl _ _ _ _ t1 gr1 (.int _) (h1 n (by rw [← el, ← e2]; exact hn) (by omega))⟩
    | _ => exact False.elim h1
end
end S
set_option Elab.async false
set_option linter.all false
set_option maxRecDepth 100000
set_option maxHeartbeats 4000000
namespace S
open PySem PySem.Spec L2
open PyProof.Rows hiding St
/-! ## d.items(): a dict whose keys are tuples -/
theorem relV_inj {v v' : V} {u : Value} (h : L2.RelV v u) (k : L2.RelV v' u) : v = v' := by
  cases v <;> cases v' <;> simp only [L2.RelV] at h k <;>
    first
    | rfl
    | (subst h; cases k; done)
    | (obtain ⟨t, rfl⟩ := h; cases k; done)
    | (subst h; obtain ⟨_, k⟩ := k; cases k; done)
    | (obtain ⟨t, rfl⟩ := h; obtain ⟨_, k⟩ := k; cases k; rfl)
    | (subst h; cases k; rfl)
    | (obtain ⟨t, rfl⟩ := h; obtain ⟨_, k⟩ := k; cases k; done)
def Itid (P : Program) (w : World) (d : Addr) (ep n : Nat) : It :=
  ⟨fun i H => ∃ xs, H d = some (DitO P w d xs ep) ∧ xs.length = n ∧ ∃ y v, xs[i]? = some y ∧ RelV v y.2.2,
   fun i H x H' => ∃ T v, x = .ref T ∧ H T = none ∧ ∀ ys, H d = some (DitO P w d ys ep) → ∃ y, ys[i]? = some y ∧ RelV v y.2.2 ∧ H' = upd H T (.tup [.ref y.2.1, v]),
   fun i H => (∃ xs, H d = some (DitO P w d xs ep) ∧ xs.length = n) ∧ n ≤ i⟩
theorem turn_itemsD {P : Program} {w : World} {K : PySem.W.Frag} {elts : List Expr} {kk : Nat} {tpos : Pos} {d : Addr} {ep n : Nat} (it : Addr) : Turn P w K (.Tuple elts kk tpos) (Itid P w d ep n) [it] it (fun i h => ∃ ok ov, IsItemIter h it d i n ep ok ov) where
  mem := by simp
  obj := fun i h st b hb => by
    have e : b = it := by simpa using hb
    subst e
    obtain ⟨ok, ov, e⟩ := st
    exact ⟨_, e, fun v z => nomatch z⟩
  keep := fun i h h' st k => let ⟨ok, ov, e⟩ := st; ⟨ok, ov, k it (by simp) _ e⟩
  item := by
    intro X hP hw hK hc i pins s σ H E I hf st hg
    subst hP hw hK
    obtain ⟨xs, hd, hn, y, v, hy, rv⟩ := hg
    obtain ⟨⟨_, _, _, o, es, h1, h2, h3, h4⟩, _⟩ := I.hok d _ hd
    have hsz : es.size = n := by rw [size_e h4]; exact hn
    have hlt2 : i < es.size := by
      have := (List.getElem?_eq_some_iff.mp hy).1; omega
    have key : ∀ ys, H d = some (DitO X.prog X.w d ys ep) → ∃ y, ys[i]? = some y ∧ es[i].key = .ref y.2.1 ∧ es[i].val = y.2.2 := fun ys hy => by
      obtain ⟨⟨_, _, _, o', es', g1, g2, g3, g4⟩, _⟩ := I.hok d _ hy
      rw [h1] at g1; cases g1
      rw [h3] at g3; cases g3
      have e1 : es.toList[i]? = (ys.map (entryOfKey (nestedKind X.prog X.w)))[i]? := by rw [g4]
      rw [List.getElem?_map, Array.getElem?_toList, Array.getElem?_eq_getElem hlt2] at e1
      cases ey : ys[i]? with
      | none => rw [ey] at e1; cases e1
      | some y =>
        rw [ey] at e1
        have e2 : es[i] = entryOfKey (nestedKind X.prog X.w) y := Option.some.inj e1
        exact ⟨y, rfl, by rw [e2]; rfl, by rw [e2]; rfl⟩
    obtain ⟨y', hy', ky, vy⟩ := key xs hd
    rw [hy] at hy'; cases hy'
    obtain ⟨ok, ov, he⟩ := st
    rw [← hsz] at he
    have hlt : it < s.heap.objs.size := Heap.lt_size he
    refine DT.nextI he ⟨o, h1, h2, h3⟩ hlt2 fun h' ho hT hz hk => ?_
    refine ⟨_, rfl, wpAny_letOwnedTupleGo_items (s := { s with heap := h' }) ho fun h'' he' sb => ?_⟩
    have hT2 : h''.get? s.heap.objs.size = some { cls := .type "tuple", data := .seq #[es[i].key, es[i].val] } := (sb.2 _ (Nat.ne_of_gt hlt)).trans hT
    have new : ObjOk X.prog X.w (upd H s.heap.objs.size (.tup [.ref y.2.1, v])) h'' s.heap.objs.size (.tup [.ref y.2.1, v]) :=
      ⟨by show 2 ≤ sizeLine; decide, [es[i].key, es[i].val], .cons ky (.cons (by rw [vy]; exact rv) .nil), ⟨_, hT2, rfl, _, rfl⟩⟩
    have I1 : L2.Inv X pins σ (upd H s.heap.objs.size (.tup [.ref y.2.1, v])) { s with heap := h'' } :=
      I.turnedNew (t' := s.toks) (ch := [it]) (fun b ob hb e => (sb.2 b (by simpa using hb)).trans (hk b ob (by simpa using hb) e)) hf (Nat.le_refl _) new
    refine ⟨.ref s.heap.objs.size, _, I1, rfl, ⟨s.heap.objs.size, v, rfl, I.hok.fresh (Nat.le_refl _), fun ys hys => ?_⟩, ⟨es[i].key, es[i].val, ?_⟩, fun b hb => ?_⟩
    · obtain ⟨z, hz1, kz, vz⟩ := key ys hys
      rw [ky] at kz
      have kz' : y.2.1 = z.2.1 := by injection kz
      exact ⟨z, hz1, by rw [← vz, vy]; exact rv, by rw [kz']⟩
    · rw [← hsz]; exact he'
    · have e : b = it := by simpa using hb
      rw [e, upd_ne (Nat.ne_of_lt hlt)]
      exact (hf it (by simp)).1
  done := by
    intro X hP hw hK hc i pins s σ H E I hf st hg
    subst hP hw hK
    obtain ⟨⟨xs, hd, hn⟩, hi⟩ := hg
    obtain ⟨f0, f1, f2, f3, f4, f5⟩ := hf it (by simp)
    obtain ⟨⟨_, _, _, o, es, h1, h2, h3, h4⟩, _⟩ := I.hok d _ hd
    have hsz : es.size = n := by rw [size_e h4]; exact hn
    obtain ⟨ok, ov, he⟩ := st
    rw [← hsz] at he
    exact DT.endI (I.ok.hd hc) he ⟨o, h1, h2, h3⟩ (by omega) fun h' eb => ⟨rfl, I.turned (t' := s.toks) (fun b ob hb e => eb b ob hb e) f0 f1 f3 f4 f5⟩
  self := fun A i s Q E st h => let ⟨_, _, e⟩ := st; PySem.W.kcp_self e h
def iti (d : D) (G : Hd) (R : List D → (Hd → Prop) → Hd → Prop) : Prop := match d with
  | .ref a => ∃ kvs ep, G a = some (.dit kvs ep) ∧ R (kvs.map fun p => .tup [p.1, p.2]) (fun G2 => G2 a = some (.dit kvs ep)) G
  | _ => False
def dItI (te : TEd) : TId := fun w σ G R => te w σ G fun d G1 => iti d G1 R
theorem dit_noDict {X : Cx} {pins : List (Addr × Obj)} {σ : St} {H : Hp} {s : Shared} (I : L2.Inv X pins σ H s) {a : Addr} {xs : List (NestedKey × Addr × Value)} {ep : Nat} (e : H a = some (DitO X.prog X.w a xs ep)) :
    s.TypeIs (.ref a) "dict" ∧ ∃ ob, s.heap.get? a = some ob ∧ ob.dict = none := by
  obtain ⟨⟨_, _, _, o, es, h1, h2, _⟩, _⟩ := I.hok a _ e
  exact ⟨⟨o, h1, h2.1⟩, o, h1, h2.2.1⟩
theorem noDict_rfl {o : Obj} {h : Heap} {a : Addr} (e : h.get? a = some o) (d : o.dict = none) : ∀ b, Value.ref a = .ref b → ∃ ob, h.get? b = some ob ∧ ob.dict = none := fun b z => by
  injection z with z
  subst z
  exact ⟨o, e, d⟩
section
variable {X : Cx} {e : Expr} {te : TEd} {apos cpos tpos : Pos} {elts : List Expr} {kk : Nat}
theorem pi_itemsD {td : TE} (he : PE X e td) (hbase : attributeBase e "items" X.env (eval e X.env) = eval e X.env) (hline : (apos.endLine == cpos.line) = true) :
    PI X (.Tuple elts kk tpos) (.Call (.Attribute e "items" apos) [] [] cpos) (fun σ H R => td σ H fun x H1 => ∃ d xs ep, x = .ref d ∧ H1 d = some (DitO X.prog X.w d xs ep) ∧ R (Itid X.prog X.w d ep xs.length) H1) := by
  refine ⟨fun pins s σ H R I h => ?_⟩
  refine wpAny_Call_method (T := "dict") (id := "dict.items") hbase rfl hline PySem.F.plainAttrs_dict PySem.F.slot_dict_items PySem.F.type_dict_items (thn (he.run pins s σ H _ I h) fun u s1 ⟨x, H1, I1, rx, d, xs, ep, ex, hd, q⟩ => ?_)
  subst ex
  obtain rfl : u = Value.ref d := rx
  obtain ⟨⟨_, hs, _, o, es, h1, h2, h3, h4⟩, _⟩ := I1.hok d _ hd
  have hm : DT.Raw s1.heap d es ep := ⟨o, h1, h2, h3⟩
  refine ⟨hm.typeIs, noDict_rfl h1 h2.2.1, ?_⟩
  have I2 : L2.Inv X pins σ H1 { s1 with heap := s1.heap.push { cls := .type "dict_items", data := .fields #[.ref d] } } := I1.kept (t' := s1.toks) fun b ob q => Heap.get?_push_of_some _ q
  have fin : wpAny (model X.prog X.w) X.A (pyIter (.ref s1.heap.objs.size)) (PIE X pins σ (.Tuple elts kk tpos) R) X.xe { s1 with heap := s1.heap.push { cls := .type "dict_items", data := .fields #[.ref d] } } := by
    refine DT.iterI (d := d) (es := es) (ep := ep) ⟨_, Heap.get?_push_size _ rfl, rfl, rfl⟩ (hm.push _) (pi_one (tk := s1.toks) I2 _ (turn_itemsD _) ⟨.none, .none, ?_⟩ q)
    rw [← size_e h4]
    exact Heap.get?_push_size _ rfl
  show wpAny _ _ (callWith cpos (.builtin "dict.items") [.ref d] [] []) _ X.xe s1
  exact method_meetsIn PySem.F.slot_dict_items PySem.F.entry_dict_items rfl (PySem.evalArgs_none ⟨rfl, hm.typeIs, PySem.F.args_dict_items_1 _, _, DT.meetsItems (es := es) (ep := ep) hs, hm, fin⟩)
theorem ditR_at {K : Kt} {H : Hp} : ∀ {kvs : List (D × D)} {xs : List (NestedKey × Addr × Value)} {i : Nat} {y : NestedKey × Addr × Value}, DitR K H kvs xs → xs[i]? = some y → ∃ p v, kvs[i]? = some p ∧ Rp K H p.1 (.ref y.2.1) ∧ Rp K H p.2 v ∧ RelV v y.2.2
  | _, _, i, _, .nil, h => by simp at h
  | _, _, 0, _, .cons _ _ h3 h4 h5 _, h => by simp at h; subst h; exact ⟨_, _, rfl, h3, h4, h5⟩
  | _, _, i + 1, _, .cons _ _ _ _ _ q, h => by simp at h; simpa using ditR_at q h
theorem di_itemsD (he : DE X e te) (hbase : ∀ m, attributeBase e m X.env (eval e X.env) = eval e X.env) (hline : (apos.endLine == cpos.line) = true) : DI X (.Tuple elts kk tpos) (.Call (.Attribute e "items" apos) [] [] cpos) (dItI te) := fun W tk =>
  PIi (pi_itemsD (he W tk) (hbase _) hline) fun σ H R ⟨σd, G, r, w, sr, gr, h, ok, cw⟩ => ⟨σd, G, _, w, sr, gr, h, fun v d H1 G1 t1 gr1 r1 h1 => by
    simp only [iti] at h1
    split at h1
    · rename_i a
      obtain ⟨kvs, ep, eg, h1⟩ := h1
      cases r1
      obtain ⟨xs, ha, rx⟩ := gr1 _ _ eg
      refine ⟨a, xs, ep, rfl, ha, ok _ _ _ _ _ t1 gr1 ?_ h1⟩
      intro i H2 G2 t2 gr2 st
      obtain ⟨ys, hy, ry⟩ := gr2 _ _ st
      have l1 := ditR_len rx
      have l2 := ditR_len ry
      rw [List.length_map]
      refine ⟨fun hi => ?_, fun hi => ⟨⟨ys, hy, by omega⟩, by omega⟩⟩
      obtain ⟨y, ey⟩ : ∃ y, ys[i]? = some y := ⟨_, List.getElem?_eq_getElem (by omega)⟩
      obtain ⟨p, v, ep', rp, rq, rv⟩ := ditR_at ry ey
      refine ⟨⟨ys, hy, by omega, y, v, ey, rv⟩, fun x H3 ⟨T, v', ex, hT, hx⟩ => ?_⟩
      subst ex
      obtain ⟨z, ez, rz, e3⟩ := hx ys hy
      rw [ey] at ez; cases ez
      cases relV_inj rz rv
      subst e3
      have tt : Tm (kt X) H2 (upd H2 T (.tup [.ref y.2.1, v])) := Tm.new hT
      exact ⟨tt, gr2.keep hT, .tup [p.1, p.2], by rw [List.getElem?_map, ep']; rfl, .tup (.inl (.inl upd_same)) (.cons (rp.mono tt) (.cons (rq.mono tt) .nil))⟩
    · exact h1.elim, cw⟩
end
/-! ## methods of such a dict -/
def tyW (X : Cx) (T : String) (x : V) (H : Hp) : Prop := T = "dict" ∧ ∃ p xs ep, x = .ref p ∧ H p = some (DitO X.prog X.w p xs ep)
section
variable {X : Cx} {o e : Expr} {es : List Expr} {to : TE} {t : TA} {name : Str} {apos cpos : Pos} {T id : String} {r : V → List V → Hp → VK → Prop}
theorem tyW_is {pins : List (Addr × Obj)} {σ : St} {H : Hp} {s : Shared} {x : V} {v : Value} (I : L2.Inv X pins σ H s) (q : RelV x v) (ty : tyW X T x H) : s.TypeIs v T ∧ ∀ a, v = .ref a → ∃ ob, s.heap.get? a = some ob ∧ ob.dict = none := by
  obtain ⟨rfl, p, xs, ep, rfl, h⟩ := ty
  cases (show v = Value.ref p from q)
  obtain ⟨h1, ob, h2, h3⟩ := dit_noDict I h
  exact ⟨h1, noDict_rfl h2 h3⟩
def tBMW (X : Cx) (T : String) (r : V → List V → Hp → VK → Prop) (to : TE) (t : TA) : TE := fun σ H Q => to σ H fun x H1 => tyW X T x H1 ∧ t σ H1 fun xs H2 => r x xs H2 Q
theorem pe_bmW (pa : PlainAttrs T) (slot : Slot T name id) (hty : typeOf (.builtin id) = pure (.type "method_descriptor")) (hm : MtR X id r) (ho : PE X o to) (ha : PA X (e :: es) t)
    (hbase : attributeBase o name X.env (eval o X.env) = eval o X.env)
    (hfew : ((backTo cpos (starEach (e :: es) X.env)).all (fun x => !x.1) && (backToKw cpos (keywordEach [] X.env)).all (fun x => x.1.isSome)
      && decide ((e :: es).length + ([] : List Keyword).length + (if ([] : List Keyword).isEmpty then 0 else 1) < 30)) = true)
    (hline : (apos.endLine == cpos.line) = true) (hs : starEach (e :: es) X.env = (false, eval e X.env) :: starEach es X.env) (hplain : (backTo cpos (starEach es X.env)).any (·.1) = false) :
    PE X (.Call (.Attribute o name apos) (e :: es) [] cpos) (tBMW X T r to t) := by
  refine ⟨fun pins s σ H Q I h => ?_⟩
  refine wpAny_Call_method_late hbase hfew hline rfl (thn (ho.run pins s σ H _ I h) fun v s1 ⟨x, H1, I1, r1, ty, q1⟩ => ?_)
  obtain ⟨h1, h2⟩ := tyW_is I1 r1 ty
  refine ⟨T, id, pa, slot, hty, h1, h2, ?_⟩
  have hA := ha.run cpos pins s1 σ H1 _ I1 q1
  rw [hs] at hA ⊢
  refine Calls.callWith_builtin (by show (false || (backTo cpos (starEach es X.env)).any (·.1)) = false; rw [hplain] <;> rfl) (Calls.evalArgs_plain ?_)
  exact thn hA fun us s2 ⟨vs, H2, I2, r2, q2⟩ => hm pins s2 σ H2 x vs v us Q I2 r1 r2 q2
end
/-- d.get(k, x) -/
def getD : RMd := fun x ds G Q => match x, ds with
  | .ref a, [.tup ks, y] => ∃ kvs ep, G a = some (.dit kvs ep) ∧ keyOk (.tup ks) ∧ Q ((valT kvs (.tup ks)).getD y) G
  | _, _ => False
/-- d.setdefault(k, x) -/
def setdD : RMd := fun x ds G Q => match x, ds with
  | .ref a, [.tup ks, y] => ∃ kvs ep, G a = some (.dit kvs ep) ∧ keyOk (.tup ks) ∧ kvs.length < sizeLine ∧ (∀ d, valT kvs (.tup ks) = some d → Q d G) ∧ (valT kvs (.tup ks) = none → ∀ ep', Q y (st G a (.dit (kvs ++ [(.tup ks, y)]) ep')))
  | _, _ => False
def ditD (x : D) (G : Hd) : Prop := match x with
  | .ref a => ∃ kvs ep, G a = some (.dit kvs ep)
  | _ => False
def dDm (r : RMd) (to : TEd) (t : TAd) : TEd := fun w σ G Q => to w σ G fun x G1 => ditD x G1 ∧ t w σ G1 fun ds G2 => r x ds G2 Q
section
variable {X : Cx} {o e : Expr} {es : List Expr} {to : TEd} {tes : TAd} {name : Str} {apos cpos : Pos} {id : String} {r : RMd}
theorem de_dm (slot : Slot "dict" name id) (hty : typeOf (.builtin id) = pure (.type "method_descriptor")) (hm : MtM X id (liftM (kt X) r)) (ho : DE X o to) (ha : DA X (e :: es) tes)
    (hbase : attributeBase o name X.env (eval o X.env) = eval o X.env) (hline : (apos.endLine == cpos.line) = true) (hs : (e :: es).all unstarE = true)
    (hfew : ((backTo cpos (starEach (e :: es) X.env)).all (fun x => !x.1) && (backToKw cpos (keywordEach [] X.env)).all (fun x => x.1.isSome)
      && decide ((e :: es).length + ([] : List Keyword).length + (if ([] : List Keyword).isEmpty then 0 else 1) < 30)) = true) : DE X (.Call (.Attribute o name apos) (e :: es) [] cpos) (dDm r to tes) := fun W tk => by
  simp only [List.all_cons, Bool.and_eq_true] at hs
  refine PEi (pe_bmW PySem.F.plainAttrs_dict slot hty hm (ho W tk) (ha W tk) hbase hfew hline (star_ok hs.1) (plain_ok hs.2)) fun σ H Q ⟨σd, G, q, w, sr, gr, h, cl, cw⟩ => ?_
  refine ⟨σd, G, _, w, sr, gr, h, fun v d H1 G1 t1 gr1 r1 ⟨ty, h1⟩ => ⟨?_, σd, G1, _, w, sr.mono t1, gr1, h1, fun vs ds H2 G2 t2 gr2 r2 h2 =>
    ⟨d, ds, G2, q, r1.mono t2, r2, gr2, h2, cl.mono (t1.trans t2)⟩, cw.mono t1⟩, cw⟩
  unfold ditD at ty
  split at ty
  · obtain ⟨kvs, ep, eg⟩ := ty
    cases r1
    obtain ⟨xs, ha, _⟩ := gr1 _ _ eg
    exact ⟨rfl, _, xs, ep, rfl, ha⟩
  · exact ty.elim
theorem md_get (hu : X.A.units + 10 < cLine) : MtM X "dict.get" (liftM (kt X) getD) := by
  intro pins s σ H x vs v us Q I rx rv ⟨dx, ds, G, q, r1, rs, gr, h, cl⟩
  unfold getD at h
  split at h
  · obtain ⟨kvs, ep, eg, ko, h⟩ := h
    cases r1
    obtain ⟨kv, yv, rfl, rk, ry⟩ := rs.two
    obtain ⟨xs, ha, rxs⟩ := gr _ _ eg
    obtain ⟨dd, hz, hs0⟩ := dit_of I ha rxs
    obtain ⟨nk, hk, hdp⟩ := keyOk_ok ko
    obtain ⟨b, ws, rfl, sb, rb⟩ := rk.tup_inv
    cases rv with
    | cons q1 q2 =>
      cases q2 with
      | cons q2 q3 =>
        cases q3
        cases (show v = Value.ref _ from rx)
        rw [show _ = Value.ref _ from q1]
        refine getOr_keyed (knd := nestedKind X.prog X.w) (k := nk) (by show X.A.units + 1 + 8 < cLine; omega) ⟨nest_of I hk rk rfl, hdp⟩ hs0 ⟨xs, dd, rfl⟩ ?_
        rw [valueAt_pairsH]
        obtain ⟨i1, i2⟩ := rxs.val hk
        cases e : valT kvs _ with
        | none =>
          rw [e] at h
          rw [i2 e]
          exact ⟨yv, H, I.tok _, q2, cl _ _ _ _ Tm.refl gr ry h⟩
        | some d =>
          rw [e] at h
          obtain ⟨p, v', hp, rv', rel⟩ := i1 d e
          rw [hp]
          exact ⟨v', H, I.tok _, rel, cl _ _ _ _ Tm.refl gr rv' h⟩
  · exact h.elim
end
end S
set_option Elab.async false
set_option linter.all false
set_option maxRecDepth 100000
set_option maxHeartbeats 4000000
namespace S
open PySem PySem.Spec L2
open PyProof.Rows hiding St
/-! ## dicts whose keys are whole numbers -/
def valK (kvs : List (Int × D)) (i : Int) : Option D := (kvs.find? fun kv => decide (kv.1 = i)).map (·.2)
def putK (kvs : List (Int × D)) (i : Int) (d : D) : List (Int × D) := if kvs.any (fun kv => decide (kv.1 = i)) then kvs.map (fun kv => if kv.1 = i then (kv.1, d) else kv) else kvs ++ [(i, d)]
theorem putK_len {kvs : List (Int × D)} {i : Int} {d : D} : (putK kvs i d).length ≤ kvs.length + 1 := by
  unfold putK; split
  · simp
  · simp
section
variable {K : Kt} {H : Hp}
theorem DikR.len : ∀ {kvs : List (Int × D)} {xs : List (Int × Value)}, DikR K H kvs xs → kvs.length = xs.length
  | _, _, .nil => rfl
  | _, _, .cons _ _ q => by simp [DikR.len q]
theorem DikR.val {i : Int} : ∀ {kvs : List (Int × D)} {xs : List (Int × Value)}, DikR K H kvs xs → (∀ d, valK kvs i = some d → ∃ u v, valueAt xs i = some u ∧ Rp K H d v ∧ RelV v u) ∧ (valK kvs i = none → valueAt xs i = none)
  | _, _, .nil => ⟨fun d h => (by cases h), fun _ => rfl⟩
  | _, _, @DikR.cons _ _ j d v u r s h1 h2 q => by
    obtain ⟨i1, i2⟩ := DikR.val (i := i) q
    by_cases e : j = i
    · refine ⟨fun d' hd => ?_, fun hd => ?_⟩
      · simp [valK, List.find?_cons, e] at hd
        subst hd
        exact ⟨u, v, by simp [valueAt, List.find?_cons, e], h1, h2⟩
      · simp [valK, List.find?_cons, e] at hd
    · refine ⟨fun d' hd => ?_, fun hd => ?_⟩
      · have hd : valK r i = some d' := by simpa [valK, List.find?_cons, e] using hd
        obtain ⟨u, v, e1, e2⟩ := i1 d' hd
        exact ⟨u, v, by simpa [valueAt, List.find?_cons, e] using e1, e2⟩
      · have hd : valK r i = none := by simpa [valK, List.find?_cons, e] using hd
        simpa [valueAt, List.find?_cons, e] using i2 hd
theorem DikR.isS {i : Int} {kvs : List (Int × D)} {xs : List (Int × Value)} (r : DikR K H kvs xs) : (valK kvs i).isSome = (valueAt xs i).isSome := by
  obtain ⟨i1, i2⟩ := r.val (i := i)
  cases e : valK kvs i with
  | none => rw [i2 e]; rfl
  | some d => obtain ⟨u, v, e1, _⟩ := i1 d e; rw [e1]; rfl
theorem DikR.any {i : Int} : ∀ {kvs : List (Int × D)} {xs : List (Int × Value)}, DikR K H kvs xs → (kvs.any fun kv => decide (kv.1 = i)) = xs.any fun kv => decide (kv.1 = i)
  | _, _, .nil => rfl
  | _, _, .cons _ _ q => by simp only [List.any_cons, DikR.any q]
theorem DikR.repl {i : Int} {d : D} {v : V} {u : Value} (hd : Rp K H d v) (hv : RelV v u) : ∀ {kvs : List (Int × D)} {xs : List (Int × Value)}, DikR K H kvs xs → DikR K H (kvs.map fun kv => if kv.1 = i then (kv.1, d) else kv) (xs.map fun kv => if kv.1 = i then (kv.1, u) else kv)
  | _, _, .nil => .nil
  | _, _, @DikR.cons _ _ j d' v' u' r s h1 h2 q => by
    have ih := DikR.repl (i := i) hd hv q
    rw [List.map_cons, List.map_cons]
    by_cases e : j = i
    · simp only [e, if_true]
      exact .cons hd hv ih
    · simp only [e, if_false]
      exact .cons h1 h2 ih
theorem DikR.snoc {i : Int} {d : D} {v : V} {u : Value} (hd : Rp K H d v) (hv : RelV v u) : ∀ {kvs : List (Int × D)} {xs : List (Int × Value)}, DikR K H kvs xs → DikR K H (kvs ++ [(i, d)]) (xs ++ [(i, u)])
  | _, _, .nil => .cons hd hv .nil
  | _, _, .cons h1 h2 q => .cons h1 h2 (DikR.snoc hd hv q)
theorem DikR.put {i : Int} {d : D} {v : V} {u : Value} {kvs : List (Int × D)} {xs : List (Int × Value)} (r : DikR K H kvs xs) (hd : Rp K H d v) (hv : RelV v u) : DikR K H (putK kvs i d) (stored xs i u) := by
  unfold putK stored
  rw [r.any]
  split
  · exact r.repl hd hv
  · exact r.snoc hd hv
theorem DikR.get : ∀ {kvs : List (Int × D)} {xs : List (Int × Value)} {i : Nat} {y : Int × Value}, DikR K H kvs xs → xs[i]? = some y → ∃ p v, kvs[i]? = some p ∧ p.1 = y.1 ∧ Rp K H p.2 v ∧ RelV v y.2
  | _, _, i, _, .nil, h => by simp at h
  | _, _, 0, _, .cons h1 h2 _, h => by simp at h; subst h; exact ⟨_, _, rfl, rfl, h1, h2⟩
  | _, _, i + 1, _, .cons _ _ q, h => by simp at h; simpa using DikR.get q h
end
theorem prs_get {P : Program} {w : World} : ∀ {es : List DictEntry} {xs : List (Int × Value)} {i : Nat} {e : DictEntry}, Pairs (intKind P w) es xs → es[i]? = some e → ∃ y t, xs[i]? = some y ∧ e.key = .int y.1 t ∧ e.val = y.2
  | _, _, i, _, .nil, h => by simp at h
  | _, _, 0, _, .cons h1 h2 _, h => by
    simp at h; subst h
    obtain ⟨t, ht⟩ := Value.isInt_shape h1
    exact ⟨_, t, rfl, ht, h2⟩
  | _, _, i + 1, _, .cons _ _ q, h => by simp at h; simpa using prs_get q h
section
variable {X : Cx} {pins : List (Addr × Obj)} {σ : St} {H : Hp} {s : Shared}
theorem dik_of (I : L2.Inv X pins σ H s) {a : Addr} {xs : List (Int × Value)} {ep : Nat} (e : H a = some (DikO X.prog X.w a xs ep)) :
    s.heap.DictOf (intKind X.prog X.w) a xs ∧ xs.length ≤ sizeLine ∧ (a == sysModules) = false := by
  obtain ⟨⟨l, hs, o, es, h1, h2, h3, h4, h5, h6⟩, _⟩ := I.hok a _ e
  exact ⟨⟨o, es, ep, h1, h2, h3, h4, h5, h6⟩, l, hs⟩
end
theorem dikO_ok {P : Program} {w : World} {H : Hp} {h : Heap} {a : Addr} {xs : List (Int × Value)} {ep : Nat} (p : DikP P w a xs ep h) : ObjOk P w H h a (DikO P w a xs ep) := by
  obtain ⟨l, hs, o, es, h1, r⟩ := id p
  refine ⟨p, ⟨o, h1⟩, ?_⟩
  rintro g1 g2 ⟨l, hs, o, es, e1, r⟩ k
  exact ⟨l, hs, o, es, k o e1, r⟩
def dKnew : TEd := fun _ _ G Q => ∀ p, G p = none → Q (.ref p) (st G p (.dik [] 0))
theorem dikO_new {P : Program} {w : World} {H : Hp} (h : Heap) (hb : sysModules < h.objs.size) : ObjOk P w H (h.push { cls := .type "dict", data := .dict #[] }) h.objs.size (DikO P w h.objs.size [] 0) :=
  dikO_ok ⟨Nat.zero_le _, beq_eq_false_iff_ne.mpr (Ne.symm (Nat.ne_of_lt hb)), _, #[], Heap.get?_push_size _ rfl, ⟨rfl, rfl, rfl⟩, rfl, fun _ he => by simp at he, Pairs.nil, List.nodup_nil⟩
section
variable {X : Cx} {pos : Pos}
theorem pe_knewD : PE X (.Dict [] [] pos) (fun _ H Q => ∀ p, H p = none → Q (.ref p) (upd H p (DikO X.prog X.w p [] 0))) := ⟨fun pins s σ H Q I h =>
  wpAny_Dict_empty ⟨.ref s.heap.objs.size, _, I.laid (a := s.heap.objs.size) (o := DikO X.prog X.w s.heap.objs.size [] 0) (t' := s.toks) (fun _ _ q => Heap.get?_push_of_some _ q) (Nat.le_refl _) (dikO_new s.heap I.big), rfl, h _ (I.hok.fresh (Nat.le_refl _))⟩⟩
theorem de_knew : DE X (.Dict [] [] pos) dKnew := fun W tk => PEi pe_knewD fun σ H Q ⟨σd, G, q, w, sr, gr, h, cl, cw⟩ p hp =>
  cl _ _ _ _ (Tm.new hp) (gr.new (u := .dik [] 0) hp ⟨[], upd_same, .nil⟩) (.ref p) (h p (gr.free hp))
/-! d[i] -/
def ixK : R2d := fun x y G Q => match x, y with
  | .ref a, .int i => (∃ xs, seqG G a xs ∧ ∃ d, atI xs i = some d ∧ Q d G) ∨ ∃ kvs ep, G a = some (.dik kvs ep) ∧ ∃ d, valK kvs i = some d ∧ Q d G
  | x, y => ixD x y G Q
theorem ix_dik {value slice : Expr} {pins : List (Addr × Obj)} {s : Shared} {σ : St} {H : Hp} {a : Addr} {i : Int} {u : Value} {G : Hd} {kvs : List (Int × D)} {ep : Nat} {d : D} {q : Qd} {Q : VK} (I : L2.Inv X pins σ H s) (ry : RelV (.int i) u)
    (gr : GR (kt X) G H) (e : G a = some (.dik kvs ep)) (hv : valK kvs i = some d) (h : q d G) (cl : CQ (kt X) H Q q) (hs : subscripted slice false (.ref a) u = operate [.ref a, u] (getItem (.ref a) u)) :
    wpAny (model X.prog X.w) X.A (subscriptTail value slice (.ref a) u) (EP X pins σ Q) X.xe s := by
  obtain ⟨xs, ha, r⟩ := gr _ _ e
  obtain ⟨dd, hl, hs0⟩ := dik_of I ha
  obtain ⟨t, rfl⟩ := ry
  obtain ⟨p, v, hp, rv, rel⟩ := (r.val (i := i)).1 d hv
  have hT : s.TypeIs (.ref a) "dict" := dd.typeIs
  unfold subscriptTail
  refine wpAny_bind ?_
  rw [getitemInPython_of_ne hT.not_modules]
  refine wpAny_bind (wpAny_specialOf hT PySem.F.slot_dict_getitem.lookup ?_)
  have get : wpAny (model X.prog X.w) X.A (getItem (.ref a) (.int i t)) (EP X pins σ Q) X.xe s :=
    wpAny_getItem_of (knd := intKind X.prog X.w) (k := i) (intKind_is _ _ i t) dd.mapOf hp ⟨v, H, I.tok _, rel, cl _ _ _ _ Tm.refl gr rv h⟩
  have fin : wpAny (model X.prog X.w) X.A (subscripted slice false (.ref a) (.int i t)) (fun r s₃ => wpAny (model X.prog X.w) X.A (letTemporaryGo value (.ref a) r >>= fun _ => pure r) (EP X pins σ Q) X.xe s₃) X.xe s := by
    rw [hs]
    exact wpAny_operating (wpAny_mono get (fun r s₃ h₃ => wpAny_bind (wpAny_letTemporaryGo (wpAny_pure h₃))) fun _ _ x => x)
  first
    | exact wpAny_pure (wpAny_bind fin)
    | exact wpAny_bind (wpAny_pure (wpAny_bind fin))
    | exact wpAny_bind fin
theorem ixk (hu : X.A.units + 9 < cLine) : IxR X (lift2 (kt X) ixK) := by
  intro value slice pins s σ H x y v u Q I rx ry ⟨dx, dy, G, q, r1, r2, gr, h, cl⟩ hs
  unfold ixK at h
  split at h
  · rcases h with ⟨xs, sq, d, e, h⟩ | ⟨kvs, ep, e, d, hv, h⟩
    · cases r1; cases r2
      obtain ⟨vs, sa, ra⟩ := seq_of gr sq
      obtain ⟨z, ez, rz⟩ := atI_rps ra e
      exact ix_list value slice pins s σ H _ _ v u Q I rx ry ⟨_, vs, _, z, rfl, rfl, sa, ez, cl _ _ _ _ Tm.refl gr rz h⟩ hs
    · cases r1; cases r2
      cases (show v = Value.ref _ from rx)
      exact ix_dik I ry gr e hv h cl hs
  · exact ixd hu value slice pins s σ H x y v u Q I rx ry ⟨_, _, G, q, r1, r2, gr, h, cl⟩ hs
theorem de_ixK {a b : Expr} {ta tb : TEd} {pos : Pos} (hu : X.A.units + 9 < cLine) (ha : DE X a ta) (hb : DE X b tb) (hs : PlainIx b) : DE X (.Subscript a b pos) (dOp ixK ta tb) := fun W tk =>
  PEi (pe_ix (ixk hu) (ha W tk) (hb W tk) hs) op_read
/-! d[i] = v -/
def setK : D → D → D → Hd → (Hd → Prop) → Prop := fun o i v G Q => setD o i v G Q ∨ ∃ a k, o = .ref a ∧ i = .int k ∧ ∃ kvs ep, G a = some (.dik kvs ep) ∧ kvs.length < sizeLine ∧ ∀ ep', Q (st G a (.dik (putK kvs k v) ep'))
theorem dik_put {pins : List (Addr × Obj)} {s : Shared} {σ : St} {H : Hp} {a : Addr} {i : Int} {G : Hd} {kvs : List (Int × D)} {ep : Nat} {d : D} {vv : V} {u2 : Value} {xs : List (Int × Value)} {h' : Heap} {tk : Nat} (I : L2.Inv X pins σ H s) (ha : H a = some (DikO X.prog X.w a xs ep)) (r : DikR (kt X) H kvs xs) (gr : GR (kt X) G H)
    (r3 : Rp (kt X) H d vv) (rv : RelV vv u2) (hl : kvs.length < sizeLine) (dd' : h'.DictOf (intKind X.prog X.w) a (stored xs i u2)) (hs : Heap.SameBut a s.heap h') :
    ∃ H' ep', L2.Inv X pins σ H' { s with heap := h', toks := tk } ∧ Tm (kt X) H H' ∧ GR (kt X) (st G a (.dik (putK kvs i d) ep')) H' := by
  obtain ⟨o, es, ep', h1, h2, h3, h4, h5, h6⟩ := dd'
  obtain ⟨_, _, hs0⟩ := dik_of I ha
  have rp := r.put (i := i) r3 rv
  have hl2 : (stored xs i u2).length ≤ sizeLine := by rw [← rp.len]; have := putK_len (kvs := kvs) (i := i) (d := d); omega
  have t : Tm (kt X) H (upd H a (DikO X.prog X.w a (stored xs i u2) ep')) := Tm.put fun u q => by rw [ha] at q; cases q; exact fun z => z
  exact ⟨_, ep', d_write I (by rw [ha]; exact True.intro) hs ⟨o, h1⟩ (dikO_ok ⟨hl2, hs0, o, es, h1, h2, h3, h4, h5, h6⟩), t, gr.set (u := .dik (putK kvs i d) ep') t ⟨_, upd_same, rp.mono t⟩⟩
theorem psetk (hu : X.A.units + 9 < cLine) : PSet X (lift3 (kt X) setK) := by
  intro pins s σ H o i v ov iv u Q I ro ri rv ⟨d1, d2, d3, G, q, r1, r2, r3, gr, h, cl⟩
  rcases h with h | ⟨a, k, rfl, rfl, kvs, ep, e, hl, h⟩
  · exact psetd hu pins s σ H o i v ov iv u Q I ro ri rv ⟨d1, d2, d3, G, q, r1, r2, r3, gr, h, cl⟩
  · cases r1; cases r2
    cases (show ov = Value.ref _ from ro)
    obtain ⟨t, rfl⟩ := ri
    obtain ⟨xs, ha, r⟩ := gr _ _ e
    obtain ⟨dd, hz, hs0⟩ := dik_of I ha
    refine wpAny_setItem_pairs (knd := intKind X.prog X.w) (hsz := hz) (k := k) (intKind_is _ _ k t) dd fun h' dd' hs => ?_
    obtain ⟨H', ep', I', t, gr'⟩ := dik_put (tk := s.toks + 1) I ha r gr r3 rv hl dd' hs
    exact ⟨H', I', cl _ _ t gr' (h ep')⟩
/-! in -/
def inJ (neg : Bool) : R2d := fun x y G Q => inD neg x y G Q ∨ ∃ a i, x = .int i ∧ y = .ref a ∧ ∃ kvs ep, G a = some (.dik kvs ep) ∧ Q (.bl (neg ^^ (valK kvs i).isSome)) G
theorem od_inJ (neg : Bool) (hu : X.A.units + 64 < cLine) (hu2 : X.A.units + 65 < cLine) : OpD X (compareOp (if neg then .NotIn else .In)) (inJ neg) := by
  intro pins s σ H x y v u Q I rx ry ⟨dx, dy, G, q, r1, r2, gr, h, cl⟩
  rcases h with h | ⟨a, i, rfl, rfl, kvs, ep, e, h⟩
  · exact od_inB neg hu hu2 pins s σ H x y v u Q I rx ry ⟨dx, dy, G, q, r1, r2, gr, h, cl⟩
  · cases r1; cases r2
    cases (show u = Value.ref _ from ry)
    obtain ⟨t, rfl⟩ := rx
    obtain ⟨xs, ha, r⟩ := gr _ _ e
    obtain ⟨dd, hz, hs0⟩ := dik_of I ha
    rw [r.isS] at h
    cases neg with
    | false => exact wpAny_in_of (knd := intKind X.prog X.w) (k := i) (intKind_is _ _ i t) hs0 dd.mapOf ⟨.bl _, H, I.tok _, rfl, cl _ _ _ _ Tm.refl gr (.bl _) (by simpa using h)⟩
    | true => exact wpAny_notIn_of (knd := intKind X.prog X.w) (k := i) (intKind_is _ _ i t) hs0 dd.mapOf ⟨.bl _, H, I.tok _, rfl, cl _ _ _ _ Tm.refl gr (.bl _) (by rw [xor_t] at h; exact h)⟩
end
/-! ## methods of such a dict -/
def dikD (x : D) (G : Hd) : Prop := match x with
  | .ref a => ∃ kvs ep, G a = some (.dik kvs ep)
  | _ => False
def tyJ (X : Cx) (x : V) (H : Hp) : Prop := ∃ p xs ep, x = .ref p ∧ H p = some (DikO X.prog X.w p xs ep)
def tBMJ (X : Cx) (r : V → List V → Hp → VK → Prop) (to : TE) (t : TA) : TE := fun σ H Q => to σ H fun x H1 => tyJ X x H1 ∧ t σ H1 fun xs H2 => r x xs H2 Q
def dKm (r : RMd) (to : TEd) (t : TAd) : TEd := fun w σ G Q => to w σ G fun x G1 => dikD x G1 ∧ t w σ G1 fun ds G2 => r x ds G2 Q
section
variable {X : Cx} {o e : Expr} {es : List Expr} {to : TE} {t : TA} {name : Str} {apos cpos : Pos} {id : String} {r : V → List V → Hp → VK → Prop}
theorem tyJ_is {pins : List (Addr × Obj)} {σ : St} {H : Hp} {s : Shared} {x : V} {v : Value} (I : L2.Inv X pins σ H s) (q : RelV x v) (ty : tyJ X x H) : s.TypeIs v "dict" ∧ ∀ a, v = .ref a → ∃ ob, s.heap.get? a = some ob ∧ ob.dict = none := by
  obtain ⟨p, xs, ep, rfl, h⟩ := ty
  cases (show v = Value.ref p from q)
  obtain ⟨dd, _⟩ := dik_of I h
  obtain ⟨o, es, ep, h1, h2, _⟩ := id dd
  exact ⟨dd.typeIs, noDict_rfl h1 h2.2.1⟩
theorem pe_bmJ (slot : Slot "dict" name id) (hty : typeOf (.builtin id) = pure (.type "method_descriptor")) (hm : MtR X id r) (ho : PE X o to) (ha : PA X (e :: es) t)
    (hbase : attributeBase o name X.env (eval o X.env) = eval o X.env)
    (hfew : ((backTo cpos (starEach (e :: es) X.env)).all (fun x => !x.1) && (backToKw cpos (keywordEach [] X.env)).all (fun x => x.1.isSome)
      && decide ((e :: es).length + ([] : List Keyword).length + (if ([] : List Keyword).isEmpty then 0 else 1) < 30)) = true)
    (hline : (apos.endLine == cpos.line) = true) (hs : starEach (e :: es) X.env = (false, eval e X.env) :: starEach es X.env) (hplain : (backTo cpos (starEach es X.env)).any (·.1) = false) :
    PE X (.Call (.Attribute o name apos) (e :: es) [] cpos) (tBMJ X r to t) := by
  refine ⟨fun pins s σ H Q I h => ?_⟩
  refine wpAny_Call_method_late hbase hfew hline rfl (thn (ho.run pins s σ H _ I h) fun v s1 ⟨x, H1, I1, r1, ty, q1⟩ => ?_)
  obtain ⟨h1, h2⟩ := tyJ_is I1 r1 ty
  refine ⟨"dict", id, PySem.F.plainAttrs_dict, slot, hty, h1, h2, ?_⟩
  have hA := ha.run cpos pins s1 σ H1 _ I1 q1
  rw [hs] at hA ⊢
  refine Calls.callWith_builtin (by show (false || (backTo cpos (starEach es X.env)).any (·.1)) = false; rw [hplain] <;> rfl) (Calls.evalArgs_plain ?_)
  exact thn hA fun us s2 ⟨vs, H2, I2, r2, q2⟩ => hm pins s2 σ H2 x vs v us Q I2 r1 r2 q2
end
section
variable {X : Cx} {o e : Expr} {es : List Expr} {to : TEd} {tes : TAd} {name : Str} {apos cpos : Pos} {id : String} {r : RMd}
theorem dik_ty {σ : St} {v : V} {d : D} {H1 : Hp} {G1 : Hd} (gr1 : GR (kt X) G1 H1) (r1 : Rp (kt X) H1 d v) (ty : dikD d G1) : tyJ X v H1 := by
  unfold dikD at ty
  split at ty
  · obtain ⟨kvs, ep, eg⟩ := ty
    cases r1
    obtain ⟨xs, ha, _⟩ := gr1 _ _ eg
    exact ⟨_, xs, ep, rfl, ha⟩
  · exact ty.elim
theorem de_km (slot : Slot "dict" name id) (hty : typeOf (.builtin id) = pure (.type "method_descriptor")) (hm : MtM X id (liftM (kt X) r)) (ho : DE X o to) (ha : DA X (e :: es) tes)
    (hbase : attributeBase o name X.env (eval o X.env) = eval o X.env) (hline : (apos.endLine == cpos.line) = true) (hs : (e :: es).all unstarE = true)
    (hfew : ((backTo cpos (starEach (e :: es) X.env)).all (fun x => !x.1) && (backToKw cpos (keywordEach [] X.env)).all (fun x => x.1.isSome)
      && decide ((e :: es).length + ([] : List Keyword).length + (if ([] : List Keyword).isEmpty then 0 else 1) < 30)) = true) : DE X (.Call (.Attribute o name apos) (e :: es) [] cpos) (dKm r to tes) := fun W tk => by
  simp only [List.all_cons, Bool.and_eq_true] at hs
  refine PEi (pe_bmJ slot hty hm (ho W tk) (ha W tk) hbase hfew hline (star_ok hs.1) (plain_ok hs.2)) fun σ H Q ⟨σd, G, q, w, sr, gr, h, cl, cw⟩ => ?_
  exact ⟨σd, G, _, w, sr, gr, h, fun v d H1 G1 t1 gr1 r1 ⟨ty, h1⟩ => ⟨dik_ty (σ := σ) gr1 r1 ty, σd, G1, _, w, sr.mono t1, gr1, h1, fun vs ds H2 G2 t2 gr2 r2 h2 =>
    ⟨d, ds, G2, q, r1.mono t2, r2, gr2, h2, cl.mono (t1.trans t2)⟩, cw.mono t1⟩, cw⟩
/-- d.get(i, x) -/
def getK : RMd := fun x ds G Q => match x, ds with
  | .ref a, [.int i, y] => ∃ kvs ep, G a = some (.dik kvs ep) ∧ Q ((valK kvs i).getD y) G
  | _, _ => False
/-- d.setdefault(i, x) -/
def sdfK : RMd := fun x ds G Q => match x, ds with
  | .ref a, [.int i, y] => ∃ kvs ep, G a = some (.dik kvs ep) ∧ kvs.length < sizeLine ∧ (∀ d, valK kvs i = some d → Q d G) ∧ (valK kvs i = none → ∀ ep', Q y (st G a (.dik (putK kvs i y) ep')))
  | _, _ => False
theorem mk_get : MtM X "dict.get" (liftM (kt X) getK) := by
  intro pins s σ H x vs v us Q I rx rv ⟨dx, ds, G, q, r1, rs, gr, h, cl⟩
  unfold getK at h
  split at h
  · obtain ⟨kvs, ep, eg, h⟩ := h
    cases r1
    obtain ⟨kv, yv, rfl, rk, ry⟩ := rs.two
    cases rk
    obtain ⟨xs, ha, rxs⟩ := gr _ _ eg
    obtain ⟨dd, hz, hs0⟩ := dik_of I ha
    cases rv with
    | cons q1 q2 =>
      cases q2 with
      | cons q2 q3 =>
        cases q3
        rename_i i y u1 u2
        cases (show v = Value.ref _ from rx)
        obtain ⟨t, rfl⟩ := q1
        refine call_meetsIn PySem.F.slot_dict_get dd.typeIs PySem.F.entry_dict_get (PySem.F.args_dict_get_3 _ _ _) (meets_dict_get_default (intKind X.prog X.w) _ (intKind_is _ _ _ t) hs0 _) ⟨_, dd.mapOf, ?_⟩
        obtain ⟨i1, i2⟩ := rxs.val
        cases e : valK kvs _ with
        | none =>
          rw [e] at h
          rw [i2 e]
          exact ⟨yv, H, I.tok _, q2, cl _ _ _ _ Tm.refl gr ry h⟩
        | some d =>
          rw [e] at h
          obtain ⟨p, v', hp, rv', rel⟩ := i1 d e
          rw [hp]
          exact ⟨v', H, I.tok _, rel, cl _ _ _ _ Tm.refl gr rv' h⟩
  · exact h.elim
theorem mk_setdefault : MtM X "dict.setdefault" (liftM (kt X) sdfK) := by
  intro pins s σ H x vs v us Q I rx rv ⟨dx, ds, G, q, r1, rs, gr, h, cl⟩
  unfold sdfK at h
  split at h
  · obtain ⟨kvs, ep, eg, hl, h1, h2⟩ := h
    cases r1
    obtain ⟨kv, yv, rfl, rk, ry⟩ := rs.two
    cases rk
    obtain ⟨xs, ha, rxs⟩ := gr _ _ eg
    obtain ⟨dd, hz, hs0⟩ := dik_of I ha
    cases rv with
    | cons q1 q2 =>
      cases q2 with
      | cons q2 q3 =>
        cases q3
        cases (show v = Value.ref _ from rx)
        obtain ⟨t, rfl⟩ := q1
        obtain ⟨i1, i2⟩ := rxs.val
        refine call_meetsIn PySem.F.slot_dict_setdefault dd.typeIs PySem.F.entry_dict_setdefault (PySem.F.args_dict_setdefault_3 _ _ _) (kt_meets_setdefault (intKind X.prog X.w) _ (intKind_is _ _ _ t) hs0 _) ⟨_, dd, hz, fun u hu => ?_, fun hn h' dd' hs => ?_⟩
        · cases e : valK kvs _ with
          | none => rw [i2 e] at hu; cases hu
          | some d =>
            obtain ⟨p, v', hp, rv', rel⟩ := i1 d e
            rw [hp] at hu; cases hu
            exact ⟨v', H, I.tok _, rel, cl _ _ _ _ Tm.refl gr rv' (h1 d e)⟩
        · cases e : valK kvs _ with
          | some d =>
            obtain ⟨p, v', hp, _⟩ := i1 d e
            rw [hp] at hn; cases hn
          | none =>
            obtain ⟨H', ep', I', t', gr'⟩ := dik_put (tk := s.toks + 1) I ha rxs gr ry q2 hl dd' hs
            exact ⟨yv, H', I', q2, cl _ _ _ _ t' gr' (ry.mono t') (h2 e ep')⟩
  · exact h.elim
end
/-! d.pop(i) -/
def dropK (kvs : List (Int × D)) (i : Int) : List (Int × D) := kvs.filter fun kv => decide (kv.1 ≠ i)
theorem DikR.drop {K : Kt} {H : Hp} {i : Int} : ∀ {kvs : List (Int × D)} {xs : List (Int × Value)}, DikR K H kvs xs → DikR K H (dropK kvs i) (without xs i)
  | _, _, .nil => .nil
  | _, _, @DikR.cons _ _ j d v u r s h1 h2 q => by
    have ih := DikR.drop (i := i) q
    unfold dropK without at ih ⊢
    rw [List.filter_cons, List.filter_cons]
    by_cases e : j = i
    · simp only [e, ne_eq, not_true_eq_false, decide_false, Bool.false_eq_true, if_false]
      exact ih
    · simp only [ne_eq, e, not_false_eq_true, decide_true, if_true]
      exact .cons h1 h2 ih
def popK : RMd := fun x ds G Q => match x, ds with
  | .ref a, [.int i] => ∃ kvs ep, G a = some (.dik kvs ep) ∧ ∃ d, valK kvs i = some d ∧ ∀ ep', Q d (st G a (.dik (dropK kvs i) ep'))
  | _, _ => False
theorem mk_pop {X : Cx} : MtM X "dict.pop" (liftM (kt X) popK) := by
  intro pins s σ H x vs v us Q I rx rv ⟨dx, ds, G, q, r1, rs, gr, h, cl⟩
  unfold popK at h
  split at h
  · obtain ⟨kvs, ep, eg, d, hd, h⟩ := h
    cases r1
    obtain ⟨kv, rfl, rk⟩ := rs.one
    cases rk
    obtain ⟨xs, ha, rxs⟩ := gr _ _ eg
    obtain ⟨dd, hz, hs0⟩ := dik_of I ha
    obtain ⟨u, rfl, ru⟩ := rv.one
    obtain ⟨t, rfl⟩ := ru
    cases (show v = Value.ref _ from rx)
    obtain ⟨p, v', hp, rv', rel⟩ := (rxs.val).1 d hd
    refine call_meetsIn PySem.F.slot_dict_pop dd.typeIs PySem.F.entry_dict_pop (PySem.F.args_dict_pop_2 _ _) (meets_dict_pop_there (intKind X.prog X.w) _ (intKind_is _ _ _ t) [] (.inl rfl) rfl) ⟨_, p, dd, hz, hp, fun h' dd' hs => ?_⟩
    obtain ⟨o, es, ep', h1, h2, h3, h4, h5, h6⟩ := dd'
    rename_i a i
    have rp := rxs.drop (i := i)
    have hl2 : (without xs i).length ≤ sizeLine := Nat.le_trans (List.length_filter_le _ _) hz
    have t : Tm (kt X) H (upd H a (DikO X.prog X.w a (without xs i) ep')) := Tm.put fun u q => by rw [ha] at q; cases q; exact fun z => z
    exact ⟨v', upd H a (DikO X.prog X.w a (without xs i) ep'), d_write I (by rw [ha]; exact True.intro) hs ⟨o, h1⟩ (dikO_ok ⟨hl2, hs0, o, es, h1, h2, h3, h4, h5, h6⟩), rel, cl _ _ _ _ t (gr.set (u := .dik (dropK kvs i) ep') t ⟨_, upd_same, rp.mono t⟩) (rv'.mono t) (h ep')⟩
  · exact h.elim
/-! ## for i, x in d.items() -/
def Itik (P : Program) (w : World) (d : Addr) (ep n : Nat) : It :=
  ⟨fun i H => ∃ xs, H d = some (DikO P w d xs ep) ∧ xs.length = n ∧ ∃ y v, xs[i]? = some y ∧ RelV v y.2,
   fun i H x H' => ∃ T v, x = .ref T ∧ H T = none ∧ ∀ ys, H d = some (DikO P w d ys ep) → ∃ y, ys[i]? = some y ∧ RelV v y.2 ∧ H' = upd H T (.tup [.int y.1, v]),
   fun i H => (∃ xs, H d = some (DikO P w d xs ep) ∧ xs.length = n) ∧ n ≤ i⟩
theorem prs_size {P : Program} {w : World} {es : Array DictEntry} {xs : List (Int × Value)} (h : Pairs (intKind P w) es.toList xs) : es.size = xs.length := by
  rw [← Array.length_toList]; exact h.length
theorem turn_itemsK {P : Program} {w : World} {K : PySem.W.Frag} {elts : List Expr} {kk : Nat} {tpos : Pos} {d : Addr} {ep n : Nat} (it : Addr) : Turn P w K (.Tuple elts kk tpos) (Itik P w d ep n) [it] it (fun i h => ∃ ok ov, IsItemIter h it d i n ep ok ov) where
  mem := by simp
  obj := fun i h st b hb => by
    have e : b = it := by simpa using hb
    subst e
    obtain ⟨ok, ov, e⟩ := st
    exact ⟨_, e, fun v z => nomatch z⟩
  keep := fun i h h' st k => let ⟨ok, ov, e⟩ := st; ⟨ok, ov, k it (by simp) _ e⟩
  item := by
    intro X hP hw hK hc i pins s σ H E I hf st hg
    subst hP hw hK
    obtain ⟨xs, hd, hn, y, v, hy, rv⟩ := hg
    obtain ⟨⟨_, _, o, es, h1, h2, h3, h4, h5, h6⟩, _⟩ := I.hok d _ hd
    have hsz : es.size = n := by rw [prs_size h5]; exact hn
    have hlt2 : i < es.size := by
      have := (List.getElem?_eq_some_iff.mp hy).1; omega
    have key : ∀ ys, H d = some (DikO X.prog X.w d ys ep) → ∃ y t, ys[i]? = some y ∧ es[i].key = .int y.1 t ∧ es[i].val = y.2 := fun ys hy => by
      obtain ⟨⟨_, _, o', es', g1, g2, g3, g4, g5, g6⟩, _⟩ := I.hok d _ hy
      rw [h1] at g1; cases g1
      rw [h3] at g3; cases g3
      exact prs_get g5 (by rw [Array.getElem?_toList, Array.getElem?_eq_getElem hlt2])
    obtain ⟨y', t, hy', ky, vy⟩ := key xs hd
    rw [hy] at hy'; cases hy'
    obtain ⟨ok, ov, he⟩ := st
    rw [← hsz] at he
    have hlt : it < s.heap.objs.size := Heap.lt_size he
    refine DT.nextI he ⟨o, h1, h2, h3⟩ hlt2 fun h' ho hT hz hk => ?_
    refine ⟨_, rfl, wpAny_letOwnedTupleGo_items (s := { s with heap := h' }) ho fun h'' he' sb => ?_⟩
    have hT2 : h''.get? s.heap.objs.size = some { cls := .type "tuple", data := .seq #[es[i].key, es[i].val] } := (sb.2 _ (Nat.ne_of_gt hlt)).trans hT
    have new : ObjOk X.prog X.w (upd H s.heap.objs.size (.tup [.int y.1, v])) h'' s.heap.objs.size (.tup [.int y.1, v]) :=
      ⟨by show 2 ≤ sizeLine; decide, [es[i].key, es[i].val], .cons ⟨t, ky⟩ (.cons (by rw [vy]; exact rv) .nil), ⟨_, hT2, rfl, _, rfl⟩⟩
    have I1 : L2.Inv X pins σ (upd H s.heap.objs.size (.tup [.int y.1, v])) { s with heap := h'' } :=
      I.turnedNew (t' := s.toks) (ch := [it]) (fun b ob hb e => (sb.2 b (by simpa using hb)).trans (hk b ob (by simpa using hb) e)) hf (Nat.le_refl _) new
    refine ⟨.ref s.heap.objs.size, _, I1, rfl, ⟨s.heap.objs.size, v, rfl, I.hok.fresh (Nat.le_refl _), fun ys hys => ?_⟩, ⟨es[i].key, es[i].val, ?_⟩, fun b hb => ?_⟩
    · obtain ⟨z, t', hz1, kz, vz⟩ := key ys hys
      rw [ky] at kz
      have kz' : y.1 = z.1 := by injection kz
      exact ⟨z, hz1, by rw [← vz, vy]; exact rv, by rw [kz']⟩
    · rw [← hsz]; exact he'
    · have e : b = it := by simpa using hb
      rw [e, upd_ne (Nat.ne_of_lt hlt)]
      exact (hf it (by simp)).1
  done := by
    intro X hP hw hK hc i pins s σ H E I hf st hg
    subst hP hw hK
    obtain ⟨⟨xs, hd, hn⟩, hi⟩ := hg
    obtain ⟨f0, f1, f2, f3, f4, f5⟩ := hf it (by simp)
    obtain ⟨⟨_, _, o, es, h1, h2, h3, h4, h5, h6⟩, _⟩ := I.hok d _ hd
    have hsz : es.size = n := by rw [prs_size h5]; exact hn
    obtain ⟨ok, ov, he⟩ := st
    rw [← hsz] at he
    exact DT.endI (I.ok.hd hc) he ⟨o, h1, h2, h3⟩ (by omega) fun h' eb => ⟨rfl, I.turned (t' := s.toks) (fun b ob hb e => eb b ob hb e) f0 f1 f3 f4 f5⟩
  self := fun A i s Q E st h => let ⟨_, _, e⟩ := st; PySem.W.kcp_self e h
def pairJ (p : Int × D) : D := .tup [.int p.1, p.2]
def itj (d : D) (G : Hd) (R : List D → (Hd → Prop) → Hd → Prop) : Prop := match d with
  | .ref a => ∃ kvs ep, G a = some (.dik kvs ep) ∧ R (kvs.map pairJ) (fun G2 => G2 a = some (.dik kvs ep)) G
  | _ => False
def dItJ (te : TEd) : TId := fun w σ G R => te w σ G fun d G1 => itj d G1 R
section
variable {X : Cx} {e : Expr} {te : TEd} {apos cpos tpos : Pos} {elts : List Expr} {kk : Nat}
theorem pi_itemsJ {td : TE} (he : PE X e td) (hbase : attributeBase e "items" X.env (eval e X.env) = eval e X.env) (hline : (apos.endLine == cpos.line) = true) :
    PI X (.Tuple elts kk tpos) (.Call (.Attribute e "items" apos) [] [] cpos) (fun σ H R => td σ H fun x H1 => ∃ d xs ep, x = .ref d ∧ H1 d = some (DikO X.prog X.w d xs ep) ∧ R (Itik X.prog X.w d ep xs.length) H1) := by
  refine ⟨fun pins s σ H R I h => ?_⟩
  refine wpAny_Call_method (T := "dict") (id := "dict.items") hbase rfl hline PySem.F.plainAttrs_dict PySem.F.slot_dict_items PySem.F.type_dict_items (thn (he.run pins s σ H _ I h) fun u s1 ⟨x, H1, I1, rx, d, xs, ep, ex, hd, q⟩ => ?_)
  subst ex
  obtain rfl : u = Value.ref d := rx
  obtain ⟨⟨_, hs, o, es, h1, h2, h3, h4, h5, h6⟩, _⟩ := I1.hok d _ hd
  have hm : DT.Raw s1.heap d es ep := ⟨o, h1, h2, h3⟩
  refine ⟨hm.typeIs, noDict_rfl h1 h2.2.1, ?_⟩
  have I2 : L2.Inv X pins σ H1 { s1 with heap := s1.heap.push { cls := .type "dict_items", data := .fields #[.ref d] } } := I1.kept (t' := s1.toks) fun b ob q => Heap.get?_push_of_some _ q
  have fin : wpAny (model X.prog X.w) X.A (pyIter (.ref s1.heap.objs.size)) (PIE X pins σ (.Tuple elts kk tpos) R) X.xe { s1 with heap := s1.heap.push { cls := .type "dict_items", data := .fields #[.ref d] } } := by
    refine DT.iterI (d := d) (es := es) (ep := ep) ⟨_, Heap.get?_push_size _ rfl, rfl, rfl⟩ (hm.push _) (pi_one (tk := s1.toks) I2 _ (turn_itemsK _) ⟨.none, .none, ?_⟩ q)
    rw [← prs_size h5]
    exact Heap.get?_push_size _ rfl
  show wpAny _ _ (callWith cpos (.builtin "dict.items") [.ref d] [] []) _ X.xe s1
  exact method_meetsIn PySem.F.slot_dict_items PySem.F.entry_dict_items rfl (PySem.evalArgs_none ⟨rfl, hm.typeIs, PySem.F.args_dict_items_1 _, _, DT.meetsItems (es := es) (ep := ep) hs, hm, fin⟩)
theorem di_itemsJ (he : DE X e te) (hbase : ∀ m, attributeBase e m X.env (eval e X.env) = eval e X.env) (hline : (apos.endLine == cpos.line) = true) : DI X (.Tuple elts kk tpos) (.Call (.Attribute e "items" apos) [] [] cpos) (dItJ te) := fun W tk =>
  PIi (pi_itemsJ (he W tk) (hbase _) hline) fun σ H R ⟨σd, G, r, w, sr, gr, h, ok, cw⟩ => ⟨σd, G, _, w, sr, gr, h, fun v d H1 G1 t1 gr1 r1 h1 => by
    simp only [itj] at h1
    split at h1
    · rename_i a
      obtain ⟨kvs, ep, eg, h1⟩ := h1
      cases r1
      obtain ⟨xs, ha, rx⟩ := gr1 _ _ eg
      refine ⟨a, xs, ep, rfl, ha, ok _ _ _ _ _ t1 gr1 ?_ h1⟩
      intro i H2 G2 t2 gr2 st
      obtain ⟨ys, hy, ry⟩ := gr2 _ _ st
      have l1 := rx.len
      have l2 := ry.len
      rw [List.length_map]
      refine ⟨fun hi => ?_, fun hi => ⟨⟨ys, hy, by omega⟩, by omega⟩⟩
      obtain ⟨y, ey⟩ : ∃ y, ys[i]? = some y := ⟨_, List.getElem?_eq_getElem (by omega)⟩
      obtain ⟨p, v, ep', ek, rq, rv⟩ := ry.get ey
      refine ⟨⟨ys, hy, by omega, y, v, ey, rv⟩, fun x H3 ⟨T, v', ex, hT, hx⟩ => ?_⟩
      subst ex
      obtain ⟨z, ez, rz, e3⟩ := hx ys hy
      rw [ey] at ez; cases ez
      cases relV_inj rz rv
      subst e3
      have tt : Tm (kt X) H2 (upd H2 T (.tup [.int y.1, v])) := Tm.new hT
      exact ⟨tt, gr2.keep hT, pairJ p, by rw [List.getElem?_map, ep']; rfl, .tup (.inl (.inl upd_same)) (.cons (by rw [ek]; exact .int _) (.cons (rq.mono tt) .nil))⟩
    · exact h1.elim, cw⟩
end
/-! ## sorted(d.items()) -/
def sortedJ (x : D) (G : Hd) (Q : Qd) : Prop := match x with
  | .ref a => ∃ kvs ep, G a = some (.dik kvs ep) ∧ SrtOk G (kvs.map pairJ) ∧ ∀ p, G p = none → Q (.ref p) (st G p (.lst (srt (kvs.map pairJ))))
  | _ => False
section
variable {X : Cx} {e : Expr} {te : TEd} {p1 apos cpos pos : Pos}
theorem Tm.sub {K : Kt} {H H' : Hp} (h : ∀ b o, H b = some o → H' b = some o) : Tm K H H' where
  t := fun b vs q => by
    rcases q with (q | ⟨ob, q⟩) | q
    · exact .inl (.inl (h _ _ q))
    · exact .inl (.inr ⟨ob, h _ _ q⟩)
    · exact .inr q
  l := fun b vs q => by
    rcases q with ⟨ob, q⟩ | q
    · exact .inl ⟨ob, h _ _ q⟩
    · exact .inr q
theorem GR.sub {K : Kt} {G : Hd} {H H' : Hp} (g : GR K G H) (h : ∀ b o, H b = some o → H' b = some o) : GR K G H' := fun a o e => by
  have k := g a o e
  cases q : H a with
  | none => exact absurd q k.there
  | some u => exact k.mono (Tm.sub h) ((h a u q).trans q.symm)
def rSrtJ (X : Cx) : List V → Hp → VK → Prop := fun vs H Q => ∃ (p a : Addr) (kvs : List (Int × D)) (ep : Nat) (G : Hd) (q : Qd), vs = [.ref p] ∧ H p = some (DX.itemsO p a) ∧ GR (kt X) G H ∧ G a = some (.dik kvs ep) ∧ SrtOk G (kvs.map pairJ) ∧
  (∀ l, G l = none → q (.ref l) (st G l (.lst (srt (kvs.map pairJ))))) ∧ CQ (kt X) H Q q
theorem call_srtJ (hc : X.calm = true) (hu : X.A.units + 65 < cLine) : CallR X (.builtin "sorted") (rSrtJ X) := by
  intro pins s σ H xs us Q I r hh
  obtain ⟨p, a, kvs, ep, G, q, rfl, hp, gr, eg, so, h, cl⟩ := hh
  obtain rfl := Vals.ref1 r
  have view : s.heap.IsItemsView p a := (show ObjOk X.prog X.w H s.heap p (DX.itemsO p a) from I.hok p _ hp).1
  obtain ⟨ys, ha, ry⟩ := gr _ _ eg
  obtain ⟨⟨hz, hs0, o, es, ho, hx, hdat, hks, hps, hnd⟩, _⟩ := I.hok a _ ha
  have l2 : es.size = ys.length := prs_size hps
  have l1 := ry.len
  refine DT.sortedI (es := es) (ep := ep) (I.ok.hd hc) view ⟨o, ho, hx, hdat⟩ (by omega) fun h' tk as hk hlt hl hG => ?_
  have nd : as.Nodup := List.Pairwise.imp (fun h => Nat.ne_of_lt h) hG.rise
  -- the pairs that were made
  have pr : ∀ (j : Nat) (b : Addr), as[j]? = some b → ∃ (kv : Int × D) (v : V) (kx : Value) (u : Value), kvs[j]? = some kv ∧ Rp (kt X) H kv.2 v ∧ RelV (.int kv.1) kx ∧ RelV v u ∧ h'.get? b = some { cls := .type "tuple", data := .seq #[kx, u] } := by
    intro j b hj
    obtain ⟨en, he, hg⟩ := hG.pairs j b hj
    obtain ⟨y, t, ey, ek, ev⟩ := prs_get hps (by rw [Array.getElem?_toList]; exact he)
    obtain ⟨kv, v, e1, e2, e3, e4⟩ := ry.get ey
    exact ⟨kv, v, en.key, en.val, e1, e3, ⟨t, by rw [ek, e2]⟩, by rw [ev]; exact e4, hg⟩
  have I1 : L2.Inv X pins σ H { s with heap := h', toks := tk } := I.kept (t' := tk) hk
  obtain ⟨H1, I2, g1, qt⟩ := DX.takeT (P := fun b vs => ∃ (j : Nat) (kv : Int × D) (v : V), as[j]? = some b ∧ kvs[j]? = some kv ∧ Rp (kt X) H kv.2 v ∧ vs = [.int kv.1, v]) I as H I1 nd fun b hb => by
    obtain ⟨j, hj⟩ := List.mem_iff_getElem?.mp hb
    obtain ⟨kv, v, kx, u, e1, e2, e3, e4, e5⟩ := pr j b hj
    refine ⟨Nat.le_of_lt (hG.above b hb), I.hok.fresh (Nat.le_of_lt (hG.above b hb)), [.int kv.1, v], ⟨j, kv, v, hj, e1, e2, rfl⟩, fun H2 => ⟨by show 2 ≤ sizeLine; decide, [kx, u], .cons e3 (.cons e4 .nil), ⟨_, e5, rfl, _, rfl⟩⟩⟩
  have t1 : Tm (kt X) H H1 := Tm.sub g1
  have gr1 : GR (kt X) G H1 := gr.sub g1
  have lak : as.length = kvs.length := by omega
  have each : PySem.W.EachIs (fun u x => ∃ v, Rp (kt X) H1 x v ∧ RelV v u) (as.map Value.ref) (kvs.map pairJ) := by
    have key : ∀ (as' : List Addr) (kvs' : List (Int × D)), as'.length = kvs'.length → (∀ (j : Nat) b kv, as'[j]? = some b → kvs'[j]? = some kv → Rp (kt X) H1 (pairJ kv) (.ref b)) → PySem.W.EachIs (fun u x => ∃ v, Rp (kt X) H1 x v ∧ RelV v u) (as'.map Value.ref) (kvs'.map pairJ) := by
      intro as'
      induction as' with
      | nil => intro kvs' l _; cases kvs' with | nil => exact .nil | cons _ _ => cases l
      | cons b r ih =>
        intro kvs' l h
        cases kvs' with
        | nil => cases l
        | cons kv kr => exact .cons ⟨.ref b, h 0 b kv rfl rfl, rfl⟩ (ih kr (by simpa using l) fun j b kv e1 e2 => h (j + 1) b kv (by simpa using e1) (by simpa using e2))
    refine key as kvs lak fun j b kv e1 e2 => ?_
    obtain ⟨vs, ⟨j', kv', v, e3, e4, e5, rfl⟩, e6⟩ := qt b (List.mem_of_getElem? e1)
    have ej : j' = j := (List.getElem?_inj (List.getElem?_eq_some_iff.mp e3).1 nd).mp (e3.trans e1.symm)
    subst ej
    rw [e2] at e4; cases e4
    exact .tup (.inl (.inl e6)) (.cons (.int _) (.cons (e5.mono t1) .nil))
  -- what they read as
  have er : PySem.W.EachIs (fun u x => ∃ as, Reads h' u (toPy x) as) (as.map Value.ref) (kvs.map pairJ) := by
    have key : ∀ (us : List Value) (xs : List D), PySem.W.EachIs (fun u x => ∃ v, Rp (kt X) H1 x v ∧ RelV v u) us xs → Dds G xs xs → PySem.W.EachIs (fun u x => ∃ as, Reads h' u (toPy x) as) us xs := by
      intro us xs e
      induction e with
      | nil => exact fun _ => .nil
      | cons hh _ ih =>
        intro dd
        cases dd with
        | cons d ds =>
          obtain ⟨v, r1, r2⟩ := hh
          exact .cons (Dp.reads I2 _ v _ (d.dp gr1 r1) r2) (ih ds)
    exact key _ _ each so.dd
  have hob : (h'.push { cls := .type "list", data := .seq (as.map Value.ref).toArray }).get? h'.objs.size = some (seqObj "list" (as.map Value.ref).toArray 0) := Heap.get?_push_size _ rfl
  have kb : ∀ b o, h'.get? b = some o → (h'.push { cls := .type "list", data := .seq (as.map Value.ref).toArray }).get? b = some o := fun b o e => Heap.get?_push_of_some _ e
  have ne0 : ∀ b o, h'.get? b = some o → b ≠ h'.objs.size := fun b o e => Nat.ne_of_lt (Heap.lt_size e)
  generalize hh2 : h'.push { cls := .type "list", data := .seq (as.map Value.ref).toArray } = h2 at hob kb ⊢
  have er' : PySem.W.EachIs (fun u x => ∃ as', Reads (PySem.W.sortingHeap h2 h'.objs.size (as.map Value.ref)) u (toPy x) as') (as.map Value.ref) (kvs.map pairJ) :=
    er.mono fun u x ⟨as', r⟩ => ⟨as', PyProof.Rows.Reads.keeps (fun b o e => (PySem.W.sortingHeap_old (ne0 b o e) (kb b o e))) r⟩
  have hal : PySem.W.AllAlike ((kvs.map pairJ).map toPy) := by
    intro d hd d' hd'
    obtain ⟨x, hx, rfl⟩ := List.mem_map.mp hd
    obtain ⟨y, hy, rfl⟩ := List.mem_map.mp hd'
    exact so.al x hx y hy
  have hsk : PySem.W.Sortable ((kvs.map pairJ).map toPy) := by
    rcases so.st with h | h
    · refine .inl fun d hd => ?_
      obtain ⟨x, hx, rfl⟩ := List.mem_map.mp hd
      obtain ⟨y, r, rfl⟩ := h x hx
      exact ⟨_, _, rfl⟩
    · refine .inr fun d hd => ?_
      obtain ⟨x, hx, rfl⟩ := List.mem_map.mp hd
      obtain ⟨i, rfl⟩ := h x hx
      exact ⟨fun z => (by cases z), fun _ z => (by cases z)⟩
  have hub : ∀ b, b ∈ kvs.map pairJ → X.A.in1.units + 1 + (toPy b).depth < cLine := by
    intro b hb
    have h1 := py_depth b
    have h2 := deps_mem b hb
    have h3 := so.dp
    show X.A.units + 1 + 1 + (toPy b).depth < cLine
    omega
  refine wpAny_call_entry PyProof.Rows.slot_list_sort ⟨_, hob, rfl⟩ PyProof.Rows.entry_list_sort
    (PySem.W.list_sort_vals (s := { s with heap := h2, toks := tk }) (κ := PySem.W.dataKind (PySem.W.sortingHeap h2 h'.objs.size (as.map Value.ref)) ((kvs.map pairJ).map toPy)) hob
      (PySem.W.SortsAt.data (s := { s with heap := PySem.W.sortingHeap h2 h'.objs.size (as.map Value.ref), toks := tk }) (PySem.W.each_map (R := fun u x => ∃ as', Reads (PySem.W.sortingHeap h2 h'.objs.size (as.map Value.ref)) u x as') toPy er') hal hsk (PySem.W.bound_map hub))
      (by rw [List.length_map]; omega) ⟨.none, rfl, ?_⟩) (PyProof.Rows.args_list_sort _)
  have eo := PySem.W.sortVals_data (h' := PySem.W.sortingHeap h2 h'.objs.size (as.map Value.ref)) false each er' hal
  generalize hout : PySem.W.sortVals _ false (as.map Value.ref) (as.map Value.ref) = out at eo ⊢
  have kF : ∀ b o, h'.get? b = some o → (sortedHeap h2 h'.objs.size (as.map Value.ref) out.toArray).get? b = some o := fun b o e => (PyProof.Rows.sortedHeap_old (ne0 b o e) (Heap.lt_size (kb b o e))).trans (kb b o e)
  obtain ⟨eF, heF⟩ := PyProof.Rows.sortedHeap_at (vs := as.map Value.ref) (out := out.toArray) hob
  have I3 : L2.Inv X pins σ H1 { s with heap := sortedHeap h2 h'.objs.size (as.map Value.ref) out.toArray, toks := tk } := I2.kept (t' := tk) kF
  have hn0 : H1 h'.objs.size = none := I2.hok.fresh (Nat.le_refl _)
  obtain ⟨vs, rvs, vvs⟩ := each_back eo
  have hlen : vs.length ≤ sizeLine := by rw [← rvs.length, List.length_mergeSort]; exact so.len
  have tn : Tm (kt X) H1 (upd H1 h'.objs.size (.lst vs)) := Tm.new hn0
  have I4 : L2.Inv X pins σ (upd H1 h'.objs.size (.lst vs)) { s with heap := sortedHeap h2 h'.objs.size (as.map Value.ref) out.toArray, toks := tk } :=
    I3.take (h' := sortedHeap h2 h'.objs.size (as.map Value.ref) out.toArray) (t' := tk) (fun b ob _ e => e) (I2.fpOk (Nat.le_refl _) hn0) ⟨hlen, out, eF, vvs, heF⟩
  exact ⟨.ref h'.objs.size, _, I4, rfl, cl _ _ _ _ (t1.trans tn) (gr1.new (u := .lst (srt (kvs.map pairJ))) hn0 ⟨_, upd_same, rvs.mono tn⟩) (.ref _) (h _ (gr1.free hn0))⟩
/-- d.items() as a value -/
theorem pe_itemsJ {o : Expr} {to : TE} (ho : PE X o to) (hbase : attributeBase o "items" X.env (eval o X.env) = eval o X.env) (hline : (apos.endLine == cpos.line) = true) :
    PE X (.Call (.Attribute o "items" apos) [] [] cpos) (fun σ H Q => to σ H fun x H1 => ∃ a xs ep, x = .ref a ∧ H1 a = some (DikO X.prog X.w a xs ep) ∧ ∀ p, H1 p = none → Q (.ref p) (upd H1 p (DX.itemsO p a))) := by
  refine ⟨fun pins s σ H Q I h => ?_⟩
  refine wpAny_Call_method0_late hbase hline (thn (ho.run pins s σ H _ I h) fun v s1 ⟨x, H1, I1, r1, a, xs, ep, ex, ha, q1⟩ => ?_)
  subst ex
  obtain ⟨h1, h2⟩ := tyJ_is I1 r1 ⟨a, xs, ep, rfl, ha⟩
  refine ⟨"dict", "dict.items", PySem.F.plainAttrs_dict, PySem.F.slot_dict_items, PySem.F.type_dict_items, h1, h2, Calls.callWith_builtin rfl (PySem.evalArgs_none ?_)⟩
  cases (show v = Value.ref a from r1)
  obtain ⟨dd, hz, hs0⟩ := dik_of I1 ha
  obtain ⟨o, es, ep', g1, g2, g3, _⟩ := id dd
  refine DT.callItems (es := es) (ep := ep') hs0 ⟨o, g1, g2, g3⟩ ?_
  have hf : H1 s1.heap.objs.size = none := I1.hok.fresh (Nat.le_refl _)
  exact ⟨.ref s1.heap.objs.size, upd H1 s1.heap.objs.size (DX.itemsO s1.heap.objs.size a), I1.laid (t' := s1.toks) (fun b u e => Heap.get?_push_of_some _ e) (Nat.le_refl _) (DX.itemsO_ok (Heap.get?_push_size _ rfl)), rfl, q1 _ hf⟩
theorem de_srtJ (hc : X.calm = true) (hu : X.A.units + 65 < cLine) (he : DE X e te) (hbase : ∀ m, attributeBase e m X.env (eval e X.env) = eval e X.env) (hline : (apos.endLine == cpos.line) = true) (hg : Gl X "sorted") (hm : X.mg "sorted" = none) :
    DE X (.Call (.Name "sorted" p1) [.Call (.Attribute e "items" apos) [] [] cpos] [] pos) (dUn sortedJ te) := fun W tk =>
  PEi (pe_callB (call_srtJ hc hu) hg hm (by first | exact PyProof.Rows.boot_sorted | exact PySem.boot_sorted | decide +kernel) (pa_cons (pe_itemsJ (he W tk) (hbase _) hline) pa_nil rfl)) fun σ H Q ⟨σd, G, q, w, sr, gr, h, cl, cw⟩ => by
    refine ⟨σd, G, _, w, sr, gr, h, fun v d H1 G1 t1 gr1 r1 h1 => ?_, cw⟩
    cases d with
    | ref a =>
      obtain ⟨kvs, ep, eg, so, h1⟩ := h1
      cases r1
      obtain ⟨ys, ha, ry⟩ := gr1 _ _ eg
      exact ⟨_, ys, ep, rfl, ha, fun p hp => ⟨p, _, kvs, ep, G1, q, rfl, upd_same, gr1.keep hp, eg, so, h1, cl.mono (t1.trans (Tm.new hp))⟩⟩
    | _ => exact False.elim h1
end
/-! ## sorted(xs): told data, lists within it too -/
def srtBy (ts : List (D × D)) : List D := (ts.mergeSort (PySem.W.dataLe false fun t => toPy t.2)).map (·.1)
def sortedG : RCd := fun ds G Q => match ds with
  | [.ref a] => ∃ ts : List (D × D), seqG G a (ts.map (·.1)) ∧ Dds G (ts.map (·.1)) (ts.map (·.2)) ∧ SrtOkG (ts.map (·.2)) ∧ ∀ p, G p = none → Q (.ref p) (st G p (.lst (srtBy ts)))
  | _ => False
section
variable {X : Cx}
theorem each_backG {K : Kt} {H : Hp} : ∀ {out : List Value} {ys : List (D × D)}, PySem.W.EachIs (fun u t => ∃ v, Rp K H t.1 v ∧ RelV v u) out ys → ∃ vs, Rps K H (ys.map (·.1)) vs ∧ Vals vs out
  | _, _, .nil => ⟨[], .nil, .nil⟩
  | _, _, .cons ⟨v, h1, h2⟩ e => by
    obtain ⟨vs, h3, h4⟩ := each_backG e
    exact ⟨v :: vs, .cons h1 h3, .cons h2 h4⟩
theorem bd_sortedG (hu : X.A.units + 65 < cLine) : CalB X (.builtin "sorted") sortedG := by
  intro pins s σ H vs us Q I r ⟨ds, G, q, rs, gr, h, cl⟩
  unfold sortedG at h
  split at h
  · obtain ⟨v, rfl, r1⟩ := rs.one
    cases r1
    obtain ⟨ts, sq, dd, so, h⟩ := h
    obtain ⟨ws, sa, ra⟩ := seq_of gr sq
    obtain ⟨its, rv, hl, _⟩ := I.list sa
    rw [Vals.ref1 r]
    have hal : PySem.W.AllAlike (ts.map fun t => toPy t.2) := by
      intro d hd d' hd'
      obtain ⟨x, hx, rfl⟩ := List.mem_map.mp hd
      obtain ⟨y, hy, rfl⟩ := List.mem_map.mp hd'
      exact so.al _ (List.mem_map.mpr ⟨x, hx, rfl⟩) _ (List.mem_map.mpr ⟨y, hy, rfl⟩)
    have hk : PySem.W.Sortable (ts.map fun t => toPy t.2) := by
      rcases so.st with h | h
      · refine .inl fun d hd => ?_
        obtain ⟨x, hx, rfl⟩ := List.mem_map.mp hd
        obtain ⟨y, r, e⟩ := h _ (List.mem_map.mpr ⟨x, hx, rfl⟩)
        rw [e]; exact ⟨_, _, rfl⟩
      · refine .inr fun d hd => ?_
        obtain ⟨x, hx, rfl⟩ := List.mem_map.mp hd
        obtain ⟨i, e⟩ := h _ (List.mem_map.mpr ⟨x, hx, rfl⟩)
        rw [e]; exact ⟨fun z => (by cases z), fun _ z => (by cases z)⟩
    have hlt : ts.length ≤ sizeLine := by have := so.len; rwa [List.length_map] at this
    refine PySem.W.sorted_data (bs := ts) (enc := fun t => toPy t.2) (R := fun u t => ∃ v, Rp (kt X) H t.1 v ∧ RelV v u) (vs := its) (by simpa using hl.isList) (each_rpG ra rv) (each_readsG I gr ra rv dd) hal hk hlt (fun b hb => ?_) fun out lo eo => ?_
    · have h1 := py_depth b.2
      have h2 := deps_mem b.2 (List.mem_map.mpr ⟨b, hb, rfl⟩ : b.2 ∈ ts.map (·.2))
      have h3 := so.dp
      omega
    · obtain ⟨ep, he'⟩ := PyProof.Rows.sortedAll_at s.heap its out.toArray
      obtain ⟨vs, h1, h2⟩ := each_backG eo
      have hn := I.hok.fresh (Nat.le_succ s.heap.objs.size)
      have hlen : vs.length ≤ sizeLine := by
        rw [← h1.length, List.length_map, List.length_mergeSort]; exact hlt
      refine ⟨.ref _, upd H (s.heap.objs.size + 1) (.lst vs), I.laid (t' := s.toks) (fun _ _ => PyProof.Rows.sortedAll_old) (Nat.le_succ _) ⟨hlen, out, ep, h2, by simpa using he'⟩, rfl, ?_⟩
      exact cl _ _ _ _ (Tm.new hn) (gr.new (u := .lst (srtBy ts)) hn ⟨_, upd_same, h1.mono (Tm.new hn)⟩) (.ref _) (h _ (gr.free hn))
  · exact h.elim
end
/-! ## a < b < c < d, as a test -/
section
variable {X : Cx} {a b c d : Expr} {pos : Pos}
def tChain3 (r r' r'' : R2) (ta tb tc td : TE) : TT := fun σ H Q => ta σ H fun x H1 => tb σ H1 fun y H2 => r x y H2 fun z H3 => ∃ k, z = .bl k ∧
  (if k = true then tc σ H3 fun w' H4 => r' y w' H4 fun z2 H5 => ∃ k2, z2 = .bl k2 ∧ (if k2 = true then td σ H5 fun u H6 => r'' w' u H6 fun z3 H7 => ∃ k3, z3 = .bl k3 ∧ Q k3 H7 else Q false H5) else Q false H3)
theorem pt_chain3 {op op' op'' : CmpOp} {r r' r'' : R2} {ta tb tc td : TE} (ho : OpR X (compareOp op) r) (ho' : OpR X (compareOp op') r') (ho'' : OpR X (compareOp op'') r'') (ha : PE X a ta) (hb : PE X b tb) (hc : PE X c tc) (hd : PE X d td)
    (hm : lastMarks [op, op', op''] [b, c, d] = false) : PT X (.Compare a [op, op', op''] [b, c, d] pos) (tChain3 r r' r'' ta tb tc td) := by
  refine ⟨fun pins s σ H Q I h => ?_⟩
  refine isTrue_chain (thn (ha.run pins s σ H _ I h) fun v s1 ⟨x, H1, I1, r1, q1⟩ => test_link (thn (hb.run pins s1 σ H1 _ I1 q1) fun u s2 ⟨y, H2, I2, r2, q2⟩ =>
    thn (ho pins s2 σ H2 x y v u _ I2 r1 r2 q2) fun d s3 ⟨z, H3, I3, r3, k, e, q3⟩ => ?_)) hm
  subst e
  cases r3
  refine wpAny_truthy_bool ?_
  cases k with
  | false => exact ite_ff ⟨H3, I3, q3⟩
  | true =>
    refine ite_tt (test_link (thn (hc.run pins s3 σ H3 _ I3 q3) fun w' s4 ⟨z', H4, I4, r4, q4⟩ => thn (ho' pins s4 σ H4 y z' u w' _ I4 r2 r4 q4) fun d' s5 ⟨z2, H5, I5, r5, k2, e2, q5⟩ => ?_))
    subst e2
    cases r5
    refine wpAny_truthy_bool ?_
    cases k2 with
    | false => exact ite_ff ⟨H5, I5, q5⟩
    | true =>
      refine ite_tt (test_last (thn (hd.run pins s5 σ H5 _ I5 q5) fun w2 s6 ⟨z3, H6, I6, r6, q6⟩ => thn (ho'' pins s6 σ H6 z' z3 w' w2 _ I6 r4 r6 q6) fun d' s7 ⟨z4, H7, I7, r7, k3, e3, q7⟩ => ?_))
      subst e3
      cases r7
      exact wpAny_truthy_bool ⟨H7, I7, q7⟩
def dChain3 (r r' r'' : D → D → Hd → Qd → Prop) (ta tb tc td : TEd) : TTd := fun w σ G Q => ta w σ G fun x G1 => tb w σ G1 fun y G2 => r x y G2 fun z G3 => ∃ k, z = .bl k ∧
  Br k (tc w σ G3 fun u G4 => r' y u G4 fun z2 G5 => ∃ k2, z2 = .bl k2 ∧ Br k2 (td w σ G5 fun v G6 => r'' u v G6 fun z3 G7 => ∃ k3, z3 = .bl k3 ∧ Q k3 G7) (Q false G5)) (Q false G3)
theorem dt_chain3 {op op' op'' : CmpOp} {r r' r'' : D → D → Hd → Qd → Prop} {ta tb tc td : TEd} (ho : OpD X (compareOp op) r) (ho' : OpD X (compareOp op') r') (ho'' : OpD X (compareOp op'') r'') (ha : DE X a ta) (hb : DE X b tb) (hc : DE X c tc) (hd : DE X d td)
    (hm : lastMarks [op, op', op''] [b, c, d] = false) : DT X (.Compare a [op, op', op''] [b, c, d] pos) (dChain3 r r' r'' ta tb tc td) := fun W tk => PTi (pt_chain3 ho ho' ho'' (ha W tk) (hb W tk) (hc W tk) (hd W tk) hm) fun σ H Q ⟨σd, G, q, w, sr, gr, h, cl, cw⟩ => by
  refine ⟨σd, G, _, w, sr, gr, h, fun v d H1 G1 t1 gr1 r1 h1 => ?_, cw⟩
  refine ⟨σd, G1, _, w, sr.mono t1, gr1, h1, fun v2 d2 H2 G2 t2 gr2 r2 h2 => ?_, cw.mono t1⟩
  have t12 := t1.trans t2
  refine ⟨d, d2, G2, _, r1.mono t2, r2, gr2, h2, fun v3 d3 H3 G3 t3 gr3 r3 ⟨k, e, h3⟩ => ?_⟩
  subst e
  have t13 := t12.trans t3
  refine ⟨k, r3.bl_inv, h3.ite (fun h3 => ?_) fun h3 => cl _ _ _ t13 gr3 h3⟩
  refine ⟨σd, G3, _, w, sr.mono t13, gr3, h3, fun v4 d4 H4 G4 t4 gr4 r4 h4 => ?_, cw.mono t13⟩
  have t14 := t13.trans t4
  refine ⟨d2, d4, G4, _, r2.mono (t3.trans t4), r4, gr4, h4, fun v5 d5 H5 G5 t5 gr5 r5 ⟨k2, e2, h5⟩ => ?_⟩
  subst e2
  have t15 := t14.trans t5
  refine ⟨k2, r5.bl_inv, h5.ite (fun h5 => ?_) fun h5 => cl _ _ _ t15 gr5 h5⟩
  refine ⟨σd, G5, _, w, sr.mono t15, gr5, h5, fun v6 d6 H6 G6 t6 gr6 r6 h6 => ?_, cw.mono t15⟩
  have t16 := t15.trans t6
  refine ⟨d4, d6, G6, _, r4.mono (t5.trans t6), r6, gr6, h6, fun v7 d7 H7 G7 t7 gr7 r7 ⟨k3, e3, h7⟩ => ?_⟩
  subst e3
  exact ⟨k3, r7.bl_inv, cl _ _ _ (t16.trans t7) gr7 h7⟩
end
end S
set_option Elab.async false
set_option linter.all false
set_option maxRecDepth 100000
set_option maxHeartbeats 4000000
namespace S
open PySem PySem.Spec L2
open PyProof.Rows hiding St
/-! ## for k in d, the keys whole numbers -/
def Itkk (P : Program) (w : World) (d : Addr) (ep n : Nat) : It :=
  ⟨fun i H => (∃ xs, H d = some (DikO P w d xs ep) ∧ xs.length = n) ∧ i < n, fun i H x H' => H' = H ∧ ∀ xs, H d = some (DikO P w d xs ep) → ∃ y, xs[i]? = some y ∧ x = .int y.1, fun i H => (∃ xs, H d = some (DikO P w d xs ep) ∧ xs.length = n) ∧ n ≤ i⟩
theorem turn_keysK {P : Program} {w : World} {K : PySem.W.Frag} {tg : Expr} {d : Addr} {ep n : Nat} (it : Addr) : Turn P w K tg (Itkk P w d ep n) [it] it (fun i h => h.IsKeyIter it d i n ep) where
  mem := by simp
  obj := fun i h st b hb => by
    have e : b = it := by simpa using hb
    subst e
    obtain ⟨oi, e, c, dd⟩ := st
    exact ⟨oi, e, fun v z => by rw [dd] at z; cases z⟩
  keep := fun i h h' st k => st.at fun oi e => k it (by simp) oi e
  item := by
    intro X hP hw hK hc i pins s σ H E I hf st hg
    subst hP hw hK
    obtain ⟨⟨xs, hd, hn⟩, hi⟩ := hg
    obtain ⟨f0, f1, f2, f3, f4, f5⟩ := hf it (by simp)
    obtain ⟨⟨_, _, o, es, h1, h2, h3, h4, h5, h6⟩, _⟩ := I.hok d _ hd
    have hsz : es.size = n := by rw [prs_size h5]; exact hn
    have hlt : i < es.size := by omega
    refine next_key_item st h1 h3 hsz (Array.getElem?_eq_getElem hlt) fun h' st' sb => ?_
    have I1 : L2.Inv X pins σ H { s with heap := h' } := I.turned (t' := s.toks) (fun b ob hb e => (sb.2 b hb).trans e) f0 f1 f3 f4 f5
    obtain ⟨oi, e, c, dd⟩ := id st'
    have key : ∀ ys, H d = some (DikO X.prog X.w d ys ep) → ∃ y t, ys[i]? = some y ∧ es[i].key = .int y.1 t := fun ys hy => by
      obtain ⟨⟨_, _, o', es', g1, g2, g3, g4, g5, g6⟩, _⟩ := I.hok d _ hy
      rw [h1] at g1; cases g1
      rw [h3] at g3; cases g3
      obtain ⟨y, t, e1, e2, _⟩ := prs_get g5 (by rw [Array.getElem?_toList, Array.getElem?_eq_getElem hlt])
      exact ⟨y, t, e1, e2⟩
    obtain ⟨y, t, hy, ky⟩ := key xs hd
    refine ⟨es[i].key, rfl, go_of (s := { s with heap := h' }) e c dd (by decide) ⟨.int y.1, H, I1, ⟨t, ky⟩, ⟨rfl, fun ys hys => ?_⟩, st', fun b hb => (hf b hb).1⟩⟩
    obtain ⟨z, t', hz, kz⟩ := key ys hys
    rw [ky] at kz
    have kz' : y.1 = z.1 := by injection kz
    exact ⟨z, hz, by rw [kz']⟩
  done := by
    intro X hP hw hK hc i pins s σ H E I hf st hg
    subst hP hw hK
    obtain ⟨⟨xs, hd, hn⟩, hi⟩ := hg
    obtain ⟨f0, f1, f2, f3, f4, f5⟩ := hf it (by simp)
    obtain ⟨⟨_, _, o, es, h1, h2, h3, h4, h5, h6⟩, _⟩ := I.hok d _ hd
    have hsz : es.size = n := by rw [prs_size h5]; exact hn
    exact next_key_end (I.ok.hd hc) st h1 h3 hsz hi fun h' eb => ⟨rfl, I.turned (t' := s.toks) (fun b ob hb e => eb b ob hb e) f0 f1 f3 f4 f5⟩
  self := fun A i s Q E st h => by
    refine wpAny_pyIter_slot st.typeIs PySem.F.slot_dict_keyiterator_iter (wpAny_call_entry PySem.F.slot_dict_keyiterator_iter st.typeIs PySem.F.entry_dict_keyiterator_iter ?_ (PySem.F.args_dict_keyiterator_iter_1 _))
    show wpAny _ _ (ret (.ref it)) _ _ s
    exact wpAny_pure ⟨_, rfl, "dict_keyiterator", _, st.typeIs, PySem.F.slot_dict_keyiterator_next.lookup, h⟩
/-- the keys of a dict of whole numbers, one behind another -/
def itl (d : D) (G : Hd) (R : List D → (Hd → Prop) → Hd → Prop) : Prop := match d with
  | .ref a => ∃ kvs ep, G a = some (.dik kvs ep) ∧ R (kvs.map fun p => .int p.1) (fun G2 => ∃ kvs' ep', G2 a = some (.dik kvs' ep') ∧ ep' = ep ∧ kvs'.map (·.1) = kvs.map (·.1)) G
  | _ => False
def dItL (te : TEd) : TId := fun w σ G R => te w σ G fun d G1 => itl d G1 R
section
variable {X : Cx} {tg e : Expr} {te : TEd}
theorem pi_keysK {td : TE} (he : PE X e td) : PI X tg e (fun σ H R => td σ H fun x H1 => ∃ d xs ep, x = .ref d ∧ H1 d = some (DikO X.prog X.w d xs ep) ∧ R (Itkk X.prog X.w d ep xs.length) H1) := by
  refine ⟨fun pins s σ H R I h => ?_⟩
  refine thn (he.run pins s σ H _ I h) fun u s1 ⟨x, H1, I1, rx, d, xs, ep, ex, hd, q⟩ => ?_
  subst ex
  obtain rfl : u = Value.ref d := rx
  obtain ⟨⟨_, hs, o, es, h1, h2, h3, h4, h5, h6⟩, _⟩ := I1.hok d _ hd
  refine iter_keys hs h1 h2 h3 (pi_one (tk := s1.toks) I1 _ (turn_keysK _) ⟨_, Heap.get?_push_size _ rfl, rfl, ?_⟩ q)
  rw [prs_size h5] <;> rfl
theorem di_keysK (he : DE X e te) : DI X tg e (dItL te) := fun W tk =>
  PIi (pi_keysK (he W tk)) fun σ H R ⟨σd, G, r, w, sr, gr, h, ok, cw⟩ => ⟨σd, G, _, w, sr, gr, h, fun v d H1 G1 t1 gr1 r1 h1 => by
    simp only [itl] at h1
    split at h1
    · rename_i a
      obtain ⟨kvs, ep, eg, h1⟩ := h1
      cases r1
      obtain ⟨xs, ha, rx⟩ := gr1 _ _ eg
      refine ⟨a, xs, ep, rfl, ha, ok _ _ _ _ _ t1 gr1 ?_ h1⟩
      intro i H2 G2 t2 gr2 st
      obtain ⟨kvs', ep', st, rfl, ek⟩ := st
      obtain ⟨ys, hy, ry⟩ := gr2 _ _ st
      have l1 := rx.len
      have l2 := ry.len
      have l3 : kvs'.length = kvs.length := by have := congrArg List.length ek; simpa using this
      rw [List.length_map]
      refine ⟨fun hi => ⟨⟨⟨ys, hy, by omega⟩, by omega⟩, fun x H3 ⟨e3, hx⟩ => ?_⟩, fun hi => ⟨⟨ys, hy, by omega⟩, by omega⟩⟩
      subst e3
      obtain ⟨y, ey, rfl⟩ := hx ys hy
      obtain ⟨p, v, ep2, ek2, _⟩ := ry.get ey
      have e5 : (kvs.map (·.1))[i]? = some y.1 := by rw [← ek, List.getElem?_map, ep2, ← ek2]; rfl
      refine ⟨Tm.refl, gr2, .int y.1, ?_, .int _⟩
      rw [List.getElem?_map] at e5 ⊢
      obtain ⟨q, eq, e6⟩ := Option.map_eq_some_iff.mp e5
      rw [eq]
      show some (D.int q.1) = _
      rw [e6]
    · exact h1.elim, cw⟩
end
end S
set_option Elab.async false
set_option linter.all false
set_option maxRecDepth 100000
set_option maxHeartbeats 4000000
namespace S
open PySem PySem.Spec L2
open PyProof.Rows hiding St
/-! ## the facts on a law's exceptions -/
def subN (j : Nat) (c : Str) : Bool := decide (c = "BenchError") || decide (c = excN j)
structure EcJ (K : PySem.W.Frag) (et : List Str) (j : Nat) : Prop where
  q : PySem.W.excIn K (He.ga K (excN j)) He.veBase "ValueError.__new__" = true
  kp : PySem.W.keepIn K (.ref (He.ga K (excN j))) = true
  sb : PySem.W.subIn K (.ref (He.ga K (excN j))) (.type "BaseException") = some true
  ty : PySem.W.typeIn K (.ref (He.ga K (excN j))) = some (.type "type")
  ex : ExcC K (He.ga K (excN j))
  kit : ∀ c ∈ et, PySem.W.kitOne K (.ref (He.ga K (excN j))) (.ref (He.ga K c)) = some (subN j c)
  kitV : PySem.W.kitOne K (.ref (He.ga K (excN j))) (.type "ValueError") = some true
  exm : ∀ c ∈ et, PySem.W.exmOne K (.ref (He.ga K (excN j))) (.ref (He.ga K c)) = some (subN j c)
def EcK (K : PySem.W.Frag) (ec : List Nat) (et : List Str) : Prop := ∀ j ∈ ec, EcJ K et j
theorem EcK.nil {K : PySem.W.Frag} {et : List Str} : EcK K [] et := fun _ h => by cases h
def eqV (a b : Option (Option Value)) : Bool := decide (a = b)
def ecJB (K : PySem.W.Frag) (et : List Str) (j : Nat) : Bool :=
  PySem.W.excIn K (He.ga K (excN j)) He.veBase "ValueError.__new__" && (PySem.W.keepIn K (.ref (He.ga K (excN j))) && (decide (PySem.W.subIn K (.ref (He.ga K (excN j))) (.type "BaseException") = some true) && (decide (PySem.W.typeIn K (.ref (He.ga K (excN j))) = some (.type "type")) &&
  (eqV (PySem.W.findIn K (.ref (He.ga K (excN j))) "__getattribute__") (some (some (.builtin "BaseException.__getattribute__"))) && (eqV (PySem.W.findIn K (.ref (He.ga K (excN j))) "__getattr__") (some none) && (PySem.W.hasDictIn K (He.ga K (excN j)) &&
  (eqV (PySem.W.findIn K (.ref (He.ga K (excN j))) "__class__") (some (some (.builtin "object.__class__"))) && (eqV (PySem.W.specialIn K (.builtin "object.__class__") "__get__") (some (some (.builtin "getset_descriptor.__get__"))) && (decide (PySem.W.takesIn K (.builtin "object.__class__") = some true) && (decide (PySem.W.mroIn K (He.ga K (excN j)) (.type "object") = some true) &&
  ((et.all fun c => decide (PySem.W.kitOne K (.ref (He.ga K (excN j))) (.ref (He.ga K c)) = some (subN j c))) && (decide (PySem.W.kitOne K (.ref (He.ga K (excN j))) (.type "ValueError") = some true) && (et.all fun c => decide (PySem.W.exmOne K (.ref (He.ga K (excN j))) (.ref (He.ga K c)) = some (subN j c)))))))))))))))
def ecB (ec : List Nat) (et : List Str) (K : PySem.W.Frag) : Bool := ec.all (ecJB K et)
theorem ecB_ok {K : PySem.W.Frag} {ec : List Nat} {et : List Str} (h : ecB ec et K = true) : EcK K ec et := by
  intro j hj
  have h := List.all_eq_true.mp h j hj
  unfold ecJB at h
  simp only [Bool.and_eq_true, decide_eq_true_eq, List.all_eq_true, eqV] at h
  obtain ⟨h1, h2, h3, h4, h5, h6, h7, h8, h9, h10, h11, h12, h13, h14⟩ := h
  exact ⟨h1, h2, h3, h4, ⟨h5, h6, h3, h7, h8, h9, h10, h11⟩, h12, h13, h14⟩
/-- a head's facts, with a look at the exceptions -/
abbrev AlX : Type := He.AlD × Bool
end S
set_option Elab.async false
set_option linter.all false
set_option maxRecDepth 100000
set_option maxHeartbeats 4000000
namespace S
open PySem PySem.Spec L2
open PyProof.Rows hiding St
/-! ## things of the program's classes: attributes, methods, making -/
theorem attrs_nodup : attrs.Nodup := by decide +kernel
theorem attrs_len : attrs.length = 39 := by decide +kernel
theorem nodup_sub_len {α : Type} [DecidableEq α] : ∀ {l m : List α}, l.Nodup → (∀ x ∈ l, x ∈ m) → l.length ≤ m.length
  | [], _, _, _ => Nat.zero_le _
  | a :: l, m, nd, h => by
    have ha := h a List.mem_cons_self
    have nd' := List.nodup_cons.mp nd
    have i := nodup_sub_len (m := m.erase a) nd'.2 fun x hx => (List.mem_erase_of_ne fun (e : x = a) => nd'.1 (by subst e; exact hx)).mpr (h x (List.mem_cons_of_mem _ hx))
    have := List.length_pos_of_mem ha
    rw [List.length_erase_of_mem ha] at i
    simp only [List.length_cons]
    omega
theorem putF_keys (f : Str) (v : V) : ∀ fs : List (Str × V), (putF f v fs).map (·.1) = if f ∈ fs.map (·.1) then fs.map (·.1) else fs.map (·.1) ++ [f]
  | [] => by simp [putF]
  | (g, x) :: r => by
    have ih := putF_keys f v r
    unfold putF
    by_cases e : g = f
    · subst e; simp
    · rw [if_neg e, List.map_cons, ih]
      by_cases q : f ∈ r.map (·.1)
      · have q2 : f ∈ ((g, x) :: r).map (·.1) := by rw [List.map_cons]; exact List.mem_cons_of_mem _ q
        rw [if_pos q, if_pos q2]; rfl
      · have q2 : f ∉ ((g, x) :: r).map (·.1) := by
          rw [List.map_cons]
          intro z
          rcases List.mem_cons.mp z with z | z
          · exact e z.symm
          · exact q z
        rw [if_neg q, if_neg q2]; rfl
theorem putF_nodup {f : Str} {v : V} {fs : List (Str × V)} (h : (fs.map (·.1)).Nodup) : ((putF f v fs).map (·.1)).Nodup := by
  rw [putF_keys]
  split
  · exact h
  · rename_i q
    rw [List.nodup_append]
    exact ⟨h, by simp, fun a ha b hb e => q (by simp at hb; subst hb; subst e; exact ha)⟩
def updF (fs : Nat → Option D) (i : Nat) (d : D) : Nat → Option D := fun j => if j = i then some d else fs j
@[simp] theorem updF_same {fs : Nat → Option D} {i : Nat} {d : D} : updF fs i d i = some d := by simp [updF]
theorem updF_ne {fs : Nat → Option D} {i j : Nat} {d : D} (h : j ≠ i) : updF fs i d j = fs j := by simp [updF, h]
/-- an attribute of a class's things -/
def ClF (X : Cx) (c i : Nat) (f : Str) : Prop := attrs[i]? = some f ∧ Cls X.K (He.ga X.K (clsName c)) ∧ NoAttr X.K (He.ga X.K (clsName c)) f
/-- a method of a class -/
def MetC (X : Cx) (c : Nat) (m : Str) (sp : DSp) : Prop := Cls X.K (He.ga X.K (clsName c)) ∧ m ∉ attrs ∧ ∃ f fd ps k, Meth X.K (He.ga X.K (clsName c)) m f ∧ FnG X.prog X.w (kt X) X.mg X.base (L2N.CX X.prog X.w) k f fd ps (liftSp (kt X) sp) ∧ Rm k X.A ∧ Binds (kt X) fd ps []
/-- a class to be called -/
def MkC (X : Cx) (x : Str) (c : Nat) (sp : DSp) : Prop := X.mg x = some (.ref (He.ga X.K (clsName c))) ∧ ∃ f fd ps k, Mk X.K (He.ga X.K (clsName c)) f ∧ FnG X.prog X.w (kt X) X.mg X.base (L2N.CX X.prog X.w) k f fd ps (liftSp (kt X) sp) ∧ Rm (k + 1) X.A ∧ Binds (kt X) fd ps []
def dFld (c i : Nat) (ta : TEd) : TEd := fun w σ G Q => ta w σ G fun d G1 => ∃ a fs v, d = .ref a ∧ G1 a = some (.obj c fs) ∧ fs i = some v ∧ Q v G1
def dSetF (c i : Nat) (to tv : TEd) : TSd := fun w E σ G => tv w σ G fun y G1 => to w σ G1 fun d G2 => ∃ a fs, d = .ref a ∧ G2 a = some (.obj c fs) ∧ E.nx σ (st G2 a (.obj c (updF fs i y)))
def dMeth (c : Nat) (sp : DSp) (ta : TEd) (t : TAd) : TEd := fun w σ G Q => ta w σ G fun d G1 => ∃ a fs, d = .ref a ∧ G1 a = some (.obj c fs) ∧ t w σ G1 fun ds G2 => sp (.ref a :: ds) G2 Q fun i d G3 => w i d σ G3
def dMake (c : Nat) (sp : DSp) (t : TAd) : TEd := fun w σ G Q => t w σ G fun ds G1 => ∀ p, G1 p = none → sp (.ref p :: ds) (st G1 p (.obj c fun _ => none)) (fun d G2 => d = .non ∧ Q (.ref p) G2) fun i d G2 => w i d σ G2
section
variable {X : Cx} {c i : Nat} {f m x : Str} {o e v : Expr} {es : List Expr} {ta to tv : TEd} {tes : TAd} {pos apos p : Pos} {sp : DSp}
theorem de_fld (k : ClF X c i f) (he : DE X e ta) (hb : attributeBase e f X.env (eval e X.env) = eval e X.env) : DE X (.Attribute e f pos) (dFld c i ta) := fun W tk =>
  PEi (pe_fld (he W tk) hb) fun σ H Q ⟨σd, G, q, w, sr, gr, h, cl, cw⟩ => ⟨σd, G, _, w, sr, gr, h, fun v d H1 G1 t1 gr1 r1 ⟨a, fs, y, e1, e2, e3, h1⟩ => by
    subst e1
    obtain rfl := r1.ref_inv
    obtain ⟨dx, fv, z1, z2, z3, z4⟩ := gr1 a _ e2
    have z5 := z4 i f k.1
    rw [e3] at z5
    cases e4 : fv.lookup f with
    | none => rw [e4] at z5; exact False.elim z5
    | some u =>
      rw [e4] at z5
      exact ⟨a, _, dx, fv, u, rfl, z1, k.2.1, k.2.2, e4, cl _ _ _ _ t1 gr1 z5 h1⟩, cw⟩
theorem obj_set {K : Kt} {H : Hp} {G : Hd} {a : Addr} {fs : Nat → Option D} {y : D} {u : V} (hf : attrs[i]? = some f) (gr : GR K G H) (e : G a = some (.obj c fs)) (r : Rp K H y u) :
    ∃ dx fv, H a = some (.ins (He.ga K (clsName c)) dx fv) ∧ fv.length < 1000 ∧ Tm K H (upd H a (.ins (He.ga K (clsName c)) dx (putF f u fv))) ∧ GR K (st G a (.obj c (updF fs i y))) (upd H a (.ins (He.ga K (clsName c)) dx (putF f u fv))) := by
  obtain ⟨dx, fv, z1, z2, z3, z4⟩ := gr a _ e
  have tm : Tm K H (upd H a (.ins (He.ga K (clsName c)) dx (putF f u fv))) := Tm.put fun w q => by rw [z1] at q; cases q; exact fun z => z
  have hl := nodup_sub_len z2 z3
  rw [attrs_len, List.length_map] at hl
  refine ⟨dx, fv, z1, by omega, tm, gr.set tm ⟨dx, _, upd_same, putF_nodup z2, fun g hg => ?_, fun j g hj => ?_⟩⟩
  · rw [putF_keys] at hg
    split at hg
    · exact z3 g hg
    · rcases List.mem_append.mp hg with hg | hg
      · exact z3 g hg
      · simp at hg; subst hg; exact List.mem_of_getElem? hf
  · rw [lookup_putF]
    by_cases q : g = f
    · subst q
      have ij : j = i := (List.getElem?_inj (List.getElem?_eq_some_iff.mp hj).1 attrs_nodup).mp (hj.trans hf.symm)
      subst ij
      rw [if_pos rfl, updF_same]
      exact r.mono tm
    · have ij : j ≠ i := fun e => q (by subst e; rw [hj] at hf; exact Option.some.inj hf)
      rw [if_neg q, updF_ne ij]
      exact (z4 j g hj).mono tm
theorem ds_setf (k : ClF X c i f) (ho : DE X o to) (hv : DE X v tv) (hs : plainE v = true) : DS X (.Assign [.Attribute o f apos] v pos) (dSetF c i to tv) := fun W tk =>
  PSi (ps_fld (ho W tk) (hv W tk) (swaps_ok hs)) fun E σ H ⟨σd, G, e, w, sr, gr, h, cl, cw⟩ => ⟨σd, G, _, w, sr, gr, h, fun u y H1 G1 t1 gr1 r1 h1 =>
    ⟨σd, G1, _, w, sr.mono t1, gr1, h1, fun ov d H2 G2 t2 gr2 r2 ⟨a, fs, e1, e2, h2⟩ => by
      subst e1
      obtain rfl := r2.ref_inv
      obtain ⟨dx, fv, z1, z2, tm, z3⟩ := obj_set k.1 gr2 e2 (r1.mono t2)
      exact ⟨a, _, dx, fv, rfl, z1, k.2.1, k.2.2, z2, cl.nx _ _ _ _ ((t1.trans t2).trans tm) (sr.mono ((t1.trans t2).trans tm)) z3 h2⟩, cw.mono t1⟩, cw⟩
def dAugF (c i : Nat) (to tv : TEd) : TSd := fun w E σ G => to w σ G fun d G1 => ∃ a fs n, d = .ref a ∧ G1 a = some (.obj c fs) ∧ fs i = some (.int n) ∧ tv w σ G1 fun y G2 => ∃ m fs2, y = .int m ∧ G2 a = some (.obj c fs2) ∧ E.nx σ (st G2 a (.obj c (updF fs2 i (.int (n + m)))))
theorem ds_augf (k : ClF X c i f) (ho : DE X o to) (hv : DE X v tv) : DS X (.AugAssign (.Attribute o f apos) .Add v pos) (dAugF c i to tv) := fun W tk =>
  PSi (ps_fldaug (ho W tk) (hv W tk) in_add) fun E σ H ⟨σd, G, e, w, sr, gr, h, cl, cw⟩ => ⟨σd, G, _, w, sr, gr, h, fun ov d H1 G1 t1 gr1 r1 ⟨a, fs, n, e1, e2, e3, h1⟩ => by
    subst e1
    obtain rfl := r1.ref_inv
    obtain ⟨dx, fv, z1, z2, z3, z4⟩ := gr1 a _ e2
    have z5 := z4 i f k.1
    rw [e3] at z5
    cases e4 : fv.lookup f with
    | none => rw [e4] at z5; exact False.elim z5
    | some u =>
      rw [e4] at z5
      have z6 : Rp (kt X) H1 (.int n) u := z5
      cases z6
      refine ⟨a, _, dx, fv, .int n, rfl, z1, k.2.1, k.2.2, e4, σd, G1, _, w, sr.mono t1, gr1, h1, fun v2 y H2 G2 t2 gr2 r2 ⟨m, fs2, e5, e6, h2⟩ => ?_, cw.mono t1⟩
      subst e5
      cases r2
      obtain ⟨dx2, fv2, y1, y2, tm, y3⟩ := obj_set (y := .int (n + m)) (u := .int (n + m)) k.1 gr2 e6 (.int _)
      exact ⟨n, m, rfl, rfl, dx2, fv2, y1, y2, cl.nx _ _ _ _ ((t1.trans t2).trans tm) (sr.mono ((t1.trans t2).trans tm)) y3 h2⟩, cw⟩
def gFld (K : PySem.W.Frag) (ta : TE) (f : Str) : TG := fun v σ H Q => ta σ H fun x H1 => ∃ a C dx fs, x = .ref a ∧ H1 a = some (.ins C dx fs) ∧ Cls K C ∧ NoAttr K C f ∧ fs.length < 1000 ∧ Q σ (upd H1 a (.ins C dx (putF f v fs)))
theorem pg_fld {ta : TE} (ha : PE X o ta) : PG X (.Attribute o f pos) (gFld X.K ta f) := by
  refine ⟨fun pins s σ H v u Q I r h => PySem.W.kas_attr (thn (ha.run pins s σ H _ I h) fun ov s1 ⟨x, H1, I1, rx, a, C, dx, fs, ex, ea, c, n, l, q⟩ => ?_)⟩
  subst ex
  obtain rfl : ov = Value.ref a := rx
  exact setattr_ok I1 ea c n l r fun s3 I3 => ⟨σ, _, I3, q⟩
def dgFld (c i : Nat) (to : TEd) : TGd := fun w v σ G Q => to w σ G fun d G1 => ∃ a fs, d = .ref a ∧ G1 a = some (.obj c fs) ∧ Q σ (st G1 a (.obj c (updF fs i v)))
theorem dg_fld (k : ClF X c i f) (ho : DE X o to) : DG X (.Attribute o f pos) [] (dgFld c i to) := fun W tk =>
  PGi (pg_fld (ho W tk)) fun v σ H Q ⟨d, σd, G, q, w, rv, sr, gr, h, cl, cw⟩ => ⟨σd, G, _, w, sr, gr, h, fun v1 d1 H1 G1 t1 gr1 r1 ⟨a, fs, e1, e2, h1⟩ => by
    subst e1
    obtain rfl := r1.ref_inv
    obtain ⟨dx, fv, z1, z2, tm, z3⟩ := obj_set k.1 gr1 e2 (rv.mono t1)
    exact ⟨a, _, dx, fv, rfl, z1, k.2.1, k.2.2, z2, cl _ _ _ _ (t1.trans tm) Ag.refl (sr.mono (t1.trans tm)) z3 h1⟩, cw⟩
theorem look_none {fv : List (Str × V)} {m : Str} (h : ∀ f ∈ fv.map (·.1), f ∈ attrs) (hm : m ∉ attrs) : fv.lookup m = none := by
  cases e : fv.lookup m with
  | none => rfl
  | some u =>
    refine absurd (h m ?_) hm
    clear h
    induction fv with
    | nil => cases e
    | cons p r ih =>
      obtain ⟨g, y⟩ := p
      rw [List.lookup] at e
      split at e
      · rename_i q; rw [List.map_cons]; exact List.mem_cons.mpr (.inl (eq_of_beq q))
      · rw [List.map_cons]; exact List.mem_cons_of_mem _ (ih e)
theorem mcall_of {M : Model} {A : Around} {E : Value → Shared → Prop} {s : Shared} {env : Env} {o : Expr} {m : Str} {apos pos : Pos} {args : List Expr} {Q : Value → Shared → Prop} (hbase : attributeBase o m env (eval o env) = eval o env)
    (hfew : ((backTo pos (starEach args env)).all (fun x => !x.1) && (backToKw pos (keywordEach [] env)).all (fun x => x.1.isSome)
      && decide (args.length + ([] : List Keyword).length + (if ([] : List Keyword).isEmpty then 0 else 1) < 30)) = true) (hline : (apos.endLine == pos.line) = true)
    (h : wpAny M A (eval o env) (fun ov s₁ => wpAny M A (getMethod ov m (do return (← importBound o env).getD true)) (fun fx s₂ => wpAny M A (callWith pos fx.1 fx.2 (backTo pos (starEach args env)) (backToKw pos (keywordEach [] env))) Q E s₂) E s₁) E s) :
    wpAny M A (eval (.Call (.Attribute o m apos) args [] pos) env) Q E s := by
  rw [arm_eval_Call, hbase]
  refine wpAny_bind (wpAny_mono h (fun ov s₁ h₁ => ?_) fun _ _ e => e)
  refine wpAny_bind (wpAny_standAt ?_)
  have hform : methodCallForm (args.length + ([] : List Keyword).length) (backTo pos (starEach args env)) (backToKw pos (keywordEach [] env)) = true := hfew
  have hpos : methodCallPos true o env apos pos = pure pos := by unfold methodCallPos; simp [hline]
  have hcal : ∀ ov, calleeOf true o env ov m = getMethod ov m (do return (← importBound o env).getD true) := fun _ => rfl
  unfold methodCall
  rw [hform, hcal]
  refine wpAny_bind (wpAny_holding (wpAny_mono h₁ (fun f s₂ h₂ => ?_) fun _ _ x => x))
  exact wpAny_bind (wpAny_of_eq hpos h₂)
theorem de_meth (k : MetC X c m sp) (he : DE X o to) (ha : DA X (e :: es) tes) (hb : attributeBase o m X.env (eval o X.env) = eval o X.env) (hl : (apos.endLine == pos.line) = true) (hs : (e :: es).all unstarE = true) (hn : es.length < 20) :
    DE X (.Call (.Attribute o m apos) (e :: es) [] pos) (dMeth c sp to tes) := fun W tk => ⟨fun pins s σ H Q I ⟨σd, G, q, w, sr, gr, h, cl, cw⟩ => by
  obtain ⟨kc, km, f, fd, ps, j, kM, F, hr, hbd⟩ := k
  have hs' := hs
  simp only [List.all_cons, Bool.and_eq_true] at hs
  refine mcall_of hb (few_ok hs' hn) hl (thn ((he W tk).run pins s σ H (fun v H1 => ∃ d G1, Tm (kt X) H H1 ∧ GR (kt X) G1 H1 ∧ Rp (kt X) H1 d v ∧ ∃ a fs, d = .ref a ∧ G1 a = some (.obj c fs) ∧ tes w σd G1 fun ds G2 => sp (.ref a :: ds) G2 q fun i d G3 => w i d σd G3) I ⟨σd, G, _, w, sr, gr, h, fun v d H1 G1 t1 gr1 r1 h1 => ⟨d, G1, t1, gr1, r1, h1⟩, cw⟩) fun u s1 ⟨v, H1, I1, r1, d, G1, t1, gr1, rd, a, fs, e1, e2, h1⟩ => ?_)
  subst e1
  obtain rfl := rd.ref_inv
  obtain rfl : u = Value.ref a := r1
  obtain ⟨dx, fv, z1, z2, z3, z4⟩ := gr1 a _ e2
  refine getmeth_ok I1 z1 kc kM (look_none z3 km) ?_
  refine PySem.W.callWith_K (first := [.ref a]) (h₀ := X.base) I.ok.mod.kin kM.kp (thn ((ha W tk).run pos pins s1 σ _ (fun vs H2 => liftSp (kt X) sp (.ref a :: vs) H2 Q (WE W σ)) I1 ?_) fun us s2 ⟨vs, H2, I2, r, q⟩ => ⟨I2.kIn, run_G F hr hbd (L2N.passAt tk σ) I2 (.cons (show L2.RelV (V.ref a) (Value.ref a) from rfl) r) q⟩) (star_ok hs.1) (plain_ok hs.2)
  exact ⟨σd, G1, _, w, sr.mono t1, gr1, h1, fun vs ds H2 G2 t2 gr2 r2 h2 => ⟨_, G2, q, _, .cons (.ref a) r2, gr2, h2, cl.mono (t1.trans t2), fun i d G' H' cls od t3 gr3 ex h3 => cw i d σd σ G' H' cls od ((t1.trans t2).trans t3) (sr.mono ((t1.trans t2).trans t3)) gr3 ex h3⟩, cw.mono t1⟩⟩
theorem de_meth0 (k : MetC X c m sp) (he : DE X o to) (hb : attributeBase o m X.env (eval o X.env) = eval o X.env) (hl : (apos.endLine == pos.line) = true) :
    DE X (.Call (.Attribute o m apos) [] [] pos) (dMeth c sp to dNil) := fun W tk => ⟨fun pins s σ H Q I ⟨σd, G, q, w, sr, gr, h, cl, cw⟩ => by
  obtain ⟨kc, km, f, fd, ps, j, kM, F, hr, hbd⟩ := k
  refine mcall_of hb (by rfl) hl (thn ((he W tk).run pins s σ H (fun v H1 => ∃ d G1, Tm (kt X) H H1 ∧ GR (kt X) G1 H1 ∧ Rp (kt X) H1 d v ∧ ∃ a fs, d = .ref a ∧ G1 a = some (.obj c fs) ∧ dNil w σd G1 fun ds G2 => sp (.ref a :: ds) G2 q fun i d G3 => w i d σd G3) I ⟨σd, G, _, w, sr, gr, h, fun v d H1 G1 t1 gr1 r1 h1 => ⟨d, G1, t1, gr1, r1, h1⟩, cw⟩) fun u s1 ⟨v, H1, I1, r1, d, G1, t1, gr1, rd, a, fs, e1, e2, h1⟩ => ?_)
  subst e1
  obtain rfl := rd.ref_inv
  obtain rfl : u = Value.ref a := r1
  obtain ⟨dx, fv, z1, z2, z3, z4⟩ := gr1 a _ e2
  refine getmeth_ok I1 z1 kc kM (look_none z3 km) ?_
  refine PySem.W.callWith_K0 (first := [.ref a]) I1.kIn kM.kp (run_G (us := [.ref a]) (vs := [.ref a]) (E := WE W) F hr hbd (L2N.passAt tk σ) I1 (.cons (show L2.RelV (V.ref a) (Value.ref a) from rfl) .nil) ?_)
  exact ⟨_, G1, q, _, .cons (.ref a) .nil, gr1, h1, cl.mono t1, fun i d G' H' cls od t3 gr3 ex h3 => cw i d σd σ G' H' cls od (t1.trans t3) (sr.mono (t1.trans t3)) gr3 ex h3⟩⟩
theorem run_makeS {C f : Addr} {fd : FuncData} {ps : List Str} {k : Nat} {Sp0 : Sp} {pins : List (Addr × Obj)} {σ : St} {H : Hp} {s : Shared} {Q : VK} {E : St → XK} {us : List Value} {vs : List V} (M : Mk X.K C f) (F : FnG X.prog X.w X.K X.mg X.base (L2N.CX X.prog X.w) k f fd ps Sp0) (hr : Rm (k + 1) X.A) (hb : Binds X.K fd ps [])
    (hx : PassesAt (L2N.CX X.prog X.w) X σ (E σ)) (I : Inv X pins σ H s) (r : Vals vs us)
    (h : ∀ x dx, H x = none → H dx = none → dx ≠ x → Sp0 (.ref x :: vs) (upd (upd H dx (.own x)) x (.ins C dx [])) (fun v H2 => v = .non ∧ Q (.ref x) H2) (E σ)) :
    wpAny (model X.prog X.w) X.A (call (.ref C) us) (EP X pins σ Q) X.xe s := by
  have hq := h (s.heap.objs.size + 1) s.heap.objs.size (I.hok.fresh (Nat.le_succ _)) (I.hok.fresh (Nat.le_refl _)) (Nat.ne_of_lt (Nat.lt_succ_self _))
  have I2 := Inv.made (C := C) I
  have r2 : Vals (V.ref (s.heap.objs.size + 1) :: vs) (Value.ref (s.heap.objs.size + 1) :: us) := .cons rfl r
  have hl : (Value.ref (s.heap.objs.size + 1) :: us).length = ps.length := by
    have e := r2.length
    rw [F.len _ _ _ _ hq] at e
    exact e.symm
  have b := hb _ (Value.ref (s.heap.objs.size + 1) :: us) I2.kIn (by rw [List.append_nil]; exact hl)
  rw [List.append_nil] at b
  refine wpAny_call (make_map (f := f) I.kIn M.makes M.init (beq_iff_eq.mp M.fn) (codeAny_mono (F.run _ X.stack _ _ ⟨Value.ref (s.heap.objs.size + 1) :: us, []⟩ (Value.ref (s.heap.objs.size + 1) :: us) _ _ (E σ) (hr.make C us [])
    (I2.env0.make C us []) b r2 hq) fun r s' hq' => ?_))
  cases r with
  | error e => exact hx pins _ _ e s' I2 hq'
  | ok fl =>
    cases fl with
    | ret u =>
      obtain ⟨v, H', I3, rv, ev, q3⟩ := I2.after hq'
      subst ev
      exact ⟨rv, ⟨V.ref (s.heap.objs.size + 1), H', I3, rfl, q3⟩⟩
    | next => exact False.elim hq'
    | brk => exact False.elim hq'
    | cont => exact False.elim hq'
theorem make_sp {c : Nat} {σd : Sd} {σ : St} {H : Hp} {G : Hd} {Q : VK} {q : Qd} {w : Wx} {W : WX} {ds : List D} {vs : List V} (sr : SR (kt X) H σd σ) (gr : GR (kt X) G H) (cl : CQ (kt X) H Q q) (cw : CW (kt X) W H w) (r : Rps (kt X) H ds vs)
    (h : ∀ p, G p = none → sp (.ref p :: ds) (st G p (.obj c fun _ => none)) (fun d G2 => d = .non ∧ q (.ref p) G2) fun i d G2 => w i d σd G2) (x dx : Addr) (hx : H x = none) (hdx : H dx = none) (ne : dx ≠ x) :
    liftSp (kt X) sp (.ref x :: vs) (upd (upd H dx (.own x)) x (.ins (He.ga X.K (clsName c)) dx [])) (fun v H2 => v = .non ∧ Q (.ref x) H2) (WE W σ) := by
  have t1 : Tm (kt X) H (upd H dx (.own x)) := Tm.new hdx
  have hx2 : upd H dx (.own x) x = none := by rw [upd_ne (Ne.symm ne)]; exact hx
  have t2 : Tm (kt X) (upd H dx (.own x)) (upd (upd H dx (.own x)) x (.ins (He.ga X.K (clsName c)) dx [])) := Tm.new hx2
  have g1 := gr.keep (o := .own x) hdx
  have g2 : GR (kt X) (st G x (.obj c fun _ => none)) _ := g1.new (o := .ins (He.ga X.K (clsName c)) dx []) (u := .obj c fun _ => none) hx2 ⟨dx, [], upd_same, .nil, by simp, fun i f _ => True.intro⟩
  refine ⟨_, _, _, _, .cons (.ref x) (r.mono (t1.trans t2)), g2, h x (gr.free hx), fun v d H' G' t gr' r' ⟨e, h'⟩ => ?_, fun i d G' H' cls od t gr' ex h' => cw i d σd σ G' H' cls od ((t1.trans t2).trans t) (sr.mono ((t1.trans t2).trans t)) gr' ex h'⟩
  subst e
  exact ⟨r'.non_inv, cl _ _ _ _ ((t1.trans t2).trans t) gr' (.ref x) h'⟩
theorem de_make (k : MkC X x c sp) (hg : Gl X x) (hd : (x == ("__debug__" : Str)) = false) (ha : DA X (e :: es) tes) (hs : (e :: es).all unstarE = true) : DE X (.Call (.Name x p) (e :: es) [] pos) (dMake c sp tes) := fun W tk => ⟨fun pins s σ H Q I ⟨σd, G, q, w, sr, gr, h, cl, cw⟩ => by
  obtain ⟨hm, f, fd, ps, j, M, F, hr, hb⟩ := k
  simp only [List.all_cons, Bool.and_eq_true] at hs
  refine wpAny_Call_Name_kw (ld_glob I hg hm ?_ hd)
  refine PySem.W.callWith_K (h₀ := X.base) I.ok.mod.kin M.kp (thn ((ha W tk).run pos pins s σ H (fun vs H1 => ∃ ds G1, Tm (kt X) H H1 ∧ GR (kt X) G1 H1 ∧ Rps (kt X) H1 ds vs ∧ ∀ p, G1 p = none → sp (.ref p :: ds) (st G1 p (.obj c fun _ => none)) (fun d G2 => d = .non ∧ q (.ref p) G2) fun i d G2 => w i d σd G2) I ⟨σd, G, _, w, sr, gr, h, fun vs ds H1 G1 t1 gr1 r1 h1 => ⟨ds, G1, t1, gr1, r1, h1⟩, cw⟩) fun us s1 ⟨vs, H1, I1, r, ds, G1, t1, gr1, rd, h1⟩ => ⟨I1.kIn, ?_⟩) (star_ok hs.1) (plain_ok hs.2)
  exact run_makeS (E := WE W) M F hr hb (L2N.passAt tk σ) I1 r (make_sp (sr.mono t1) gr1 (cl.mono t1) (cw.mono t1) rd h1)⟩
theorem de_make0 (k : MkC X x c sp) (hg : Gl X x) (hd : (x == ("__debug__" : Str)) = false) : DE X (.Call (.Name x p) [] [] pos) (dMake c sp dNil) := fun W tk => ⟨fun pins s σ H Q I ⟨σd, G, q, w, sr, gr, h, cl, cw⟩ => by
  obtain ⟨hm, f, fd, ps, j, M, F, hr, hb⟩ := k
  refine wpAny_Call_Name_kw (ld_glob I hg hm ?_ hd)
  exact PySem.W.callWith_K0 I.kIn M.kp (run_makeS (us := []) (E := WE W) M F hr hb (L2N.passAt tk σ) I .nil (make_sp sr gr cl cw .nil h))⟩
end
/-! ## a dict display of one entry, its key a tuple -/
def dDict1 (tk tv : TEd) : TEd := fun w σ G Q => ∀ p, G p = none → tk w σ (st G p (.dit [] 0)) fun x G1 => tv w σ G1 fun y G2 => G2 p = some (.dit [] 0) ∧ (∃ kd, x = .tup kd ∧ keyOk (.tup kd)) ∧ ∀ ep, Q (.ref p) (st G2 p (.dit [(x, y)] ep))
theorem de_dict1 {X : Cx} {k v : Expr} {pos : Pos} {tk tv : TEd} (hu : X.A.units + 9 < cLine) (hk : DE X k tk) (hv : DE X v tv) : DE X (.Dict [some k] [v] pos) (dDict1 tk tv) := fun W tw => ⟨fun pins s σ H Q I ⟨σd, G, q, w, sr, gr, h, cl, cw⟩ => by
  have hp := I.hok.fresh (Nat.le_refl s.heap.objs.size)
  have I0 := I.laid (a := s.heap.objs.size) (o := DitO X.prog X.w s.heap.objs.size [] 0) (t' := s.toks) (fun _ _ q => Heap.get?_push_of_some _ q) (Nat.le_refl _) (ditO_new s.heap I.big)
  have t0 : Tm (kt X) H (upd H s.heap.objs.size (DitO X.prog X.w s.heap.objs.size [] 0)) := Tm.new hp
  have g0 : GR (kt X) (st G s.heap.objs.size (.dit [] 0)) (upd H s.heap.objs.size (DitO X.prog X.w s.heap.objs.size [] 0)) := gr.new (u := .dit [] 0) hp ⟨[], upd_same, .nil⟩
  have h0 := h s.heap.objs.size (gr.free hp)
  rw [arm_eval_Dict, show (evalEachOpt [some k] X.env).zip ((evalEach [v] X.env).map fun v => do let x ← v; standAt pos; pure x) = [((eval k X.env : Sem Value), (do let x ← eval v X.env; standAt pos; pure x : Sem Value))].map (fun p => (some p.1, p.2)) from rfl, dictDisplay_pairs _ (by simp) (by simp)]
  refine wpAny_bind (wpAny_standAt (wpAny_bind (wpAny_subDictH (knd := nestedKind X.prog X.w) (Q := fun d s' => wpAny (model X.prog X.w) X.A (pure (Value.ref d)) (EP X pins σ Q) X.xe s') (by show X.A.units + 8 < cLine; omega) (by simp) ?_)))
  refine evalPairs_cons (thn ((hk W tw).run pins _ σ _ (fun x H1 => ∃ d G1, Tm (kt X) (upd H s.heap.objs.size (DitO X.prog X.w s.heap.objs.size [] 0)) H1 ∧ GR (kt X) G1 H1 ∧ Rp (kt X) H1 d x ∧ tv w σd G1 fun y G2 => G2 s.heap.objs.size = some (.dit [] 0) ∧ (∃ kd, d = .tup kd ∧ keyOk (.tup kd)) ∧ ∀ ep, q (.ref s.heap.objs.size) (st G2 s.heap.objs.size (.dit [(d, y)] ep))) I0
    ⟨σd, _, _, w, sr.mono t0, g0, h0, fun x d H1 G1 t1 g1 r1 h1 => ⟨d, G1, t1, g1, r1, h1⟩, cw.mono t0⟩) fun u1 s1 ⟨x, H1, I1, r1, d1, G1, t1, g1, rd1, h1⟩ => ?_)
  refine wpAny_bind (thn ((hv W tw).run pins _ σ _ (fun y H2 => ∃ d2 G2, Tm (kt X) H1 H2 ∧ GR (kt X) G2 H2 ∧ Rp (kt X) H2 d2 y ∧ G2 s.heap.objs.size = some (.dit [] 0) ∧ (∃ kd, d1 = .tup kd ∧ keyOk (.tup kd)) ∧ ∀ ep, q (.ref s.heap.objs.size) (st G2 s.heap.objs.size (.dit [(d1, d2)] ep))) I1
    ⟨σd, G1, _, w, sr.mono (t0.trans t1), g1, h1, fun x d H2 G2 t2 g2 r2 h2 => ⟨d, G2, t2, g2, r2, h2⟩, cw.mono (t0.trans t1)⟩) fun u2 s2 ⟨y, H2, I2, r2, d2, G2, t2, g2, rd2, hd, ⟨kd, ek, ko⟩, hq⟩ => wpAny_bind (wpAny_standAt (wpAny_pure ?_)))
  subst ek
  refine evalPairs_nil ?_
  obtain ⟨xs, ha, r⟩ := g2 _ _ hd
  obtain ⟨dd, hz, hs0⟩ := dit_of I2 ha r
  obtain ⟨nk, hnk, hdp⟩ := keyOk_ok ko
  have rk := rd1.mono t2
  obtain ⟨b, vs, rfl, sb, rb⟩ := rk.tup_inv
  cases (show u1 = Value.ref b from r1)
  cases r
  refine ⟨[(nk, b, u2)], ⟨rfl, rfl, ⟨nest_of I2 hnk rk rfl, hdp⟩, trivial⟩, dd, fun h' tk' dd' hs => wpAny_pure ?_⟩
  have e1 : storedAllH [] [(nk, b, u2)] = storedH ([] : List (NestedKey × Addr × Value)) nk b u2 := rfl
  rw [e1] at dd'
  obtain ⟨o, es, ep', z1, z2, z3, z4, z5, z6⟩ := dd'
  have rp := (DitR.nil (K := kt X) (H := H2)).put (ad := b) hnk hdp rk rd2 r2
  have hl2 : (storedH ([] : List (NestedKey × Addr × Value)) nk b u2).length ≤ sizeLine := by rw [← dit_len rp]; have := putT_len (kvs := []) (k := .tup kd) (v := d2); have := sizeLine_eq; simp at *; omega
  have t : Tm (kt X) H2 (upd H2 s.heap.objs.size (DitO X.prog X.w s.heap.objs.size (storedH [] nk b u2) ep')) := Tm.put fun u q => by rw [ha] at q; cases q; exact fun z => z
  refine ⟨.ref s.heap.objs.size, upd H2 s.heap.objs.size (DitO X.prog X.w s.heap.objs.size (storedH [] nk b u2) ep'), d_write I2 (by rw [ha]; exact True.intro) hs ⟨o, z1⟩ ⟨⟨hl2, hs0, z6, o, es, z1, z2, z3, z4⟩, ⟨o, z1⟩, ?_⟩, rfl, cl _ _ _ _ ((t0.trans t1).trans (t2.trans t)) (g2.set (u := .dit [(.tup kd, d2)] ep') t ⟨_, upd_same, rp.mono t⟩) (.ref _) (hq ep')⟩
  rintro q1 q2 ⟨l, hs, nd, o, es, e1, r⟩ k
  exact ⟨l, hs, nd, o, es, k o e1, r⟩⟩
end S
set_option Elab.async false
set_option linter.all false
set_option maxRecDepth 100000
set_option maxHeartbeats 4000000
namespace S
open PySem PySem.Spec L2
open PyProof.Rows hiding St
/-! ## list.pop, list.count -/
def popD : RMd := fun x ds G Q => match x, ds with
  | .ref a, [] => ∃ xs y, G a = some (.lst (xs ++ [y])) ∧ Q y (st G a (.lst xs))
  | .ref a, [.int i] => ∃ xs, G a = some (.lst xs) ∧ 0 ≤ i ∧ i < 2 ^ 63 ∧ ∃ y, xs[i.toNat]? = some y ∧ Q y (st G a (.lst (xs.eraseIdx i.toNat)))
  | _, _ => False
section
variable {K : Kt} {H : Hp}
theorem Rps.eraseIdx : ∀ {ds : List D} {vs : List V} (n : Nat), Rps K H ds vs → Rps K H (ds.eraseIdx n) (vs.eraseIdx n)
  | _, _, n, .nil => by simpa using Rps.nil
  | _, _, 0, .cons _ r => by simpa using r
  | _, _, n + 1, .cons h r => by simpa using Rps.cons h (Rps.eraseIdx n r)
end
section
variable {X : Cx}
theorem md_pop : MtM X "list.pop" (liftM (kt X) popD) := by
  intro pins s σ H x vs v us Q I rx rv ⟨dx, ds, G, q, r1, rs, gr, h, cl⟩
  unfold popD at h
  split at h
  · obtain ⟨xs, y, e, h⟩ := h
    cases r1
    cases rs
    obtain ⟨zs, ez, rz⟩ := gr.lst e
    have lz := rz.length
    rw [List.length_append, List.length_singleton] at lz
    obtain ⟨yv, ey, ry⟩ := rz.get (i := xs.length) (d := y) (by simp)
    have rt := rz.take xs.length
    rw [List.take_left] at rt
    have t : Tm (kt X) H (upd H _ (.lst (zs.take xs.length))) := Tm.lst ez
    refine mt_pop pins s σ H _ _ v us Q I rx rv ⟨_, zs, yv, rfl, rfl, ez, by rw [← lz]; exact ey, ?_⟩
    rw [List.dropLast_eq_take, ← lz, Nat.add_sub_cancel]
    exact cl _ _ _ _ t (gr.set (u := .lst xs) t ⟨_, upd_same, rt.mono t⟩) (ry.mono t) h
  · obtain ⟨xs, e, h0, h63, y, hy, h⟩ := h
    cases r1
    obtain ⟨iv, rfl, ri⟩ := rs.one
    cases ri
    rename_i i
    obtain ⟨zs, ez, rz⟩ := gr.lst e
    have lz := rz.length
    obtain ⟨yv, ey, ry⟩ := rz.get hy
    have hl := (List.getElem?_eq_some_iff.mp hy).1
    have hs : seqIndex? i zs.length = some i.toNat := by
      unfold seqIndex?
      rw [if_neg (show ¬ i < 0 by omega)]
      have : (decide (0 ≤ i) && decide (i < (zs.length : Int))) = true := by
        rw [Bool.and_eq_true]; exact ⟨decide_eq_true h0, decide_eq_true (by omega)⟩
      simp only [this, if_true]
    have t : Tm (kt X) H (upd H _ (.lst (zs.eraseIdx i.toNat))) := Tm.lst ez
    exact mt_popAt pins s σ H _ _ v us Q I rx rv ⟨_, zs, i, i.toNat, yv, rfl, rfl, ez, by omega, h63, hs, ey, cl _ _ _ _ t (gr.set (u := .lst _) t ⟨_, upd_same, (rz.eraseIdx _).mono t⟩) (ry.mono t) h⟩
  · exact h.elim
/-- xs.count(b), truths -/
def countD : RMd := fun x ds G Q => match x, ds with
  | .ref a, [.bl b] => ∃ bs : List Bool, seqG G a (bs.map D.bl) ∧ Q (.int (bs.count b)) G
  | _, _ => False
theorem readsAll_bls {h : Heap} : ∀ {bs : List Bool} {its : List Value}, Vals (bs.map V.bl) its → ReadsAll h its (bs.map PyData.bool) []
  | [], _, r => by cases r; exact .nil
  | b :: bs, _, r => by
    cases r with
    | cons r1 r2 =>
      cases (show _ = Value.bool b from r1)
      exact .cons (as := []) (bs := []) (.bool b) (readsAll_bls r2)
theorem count_bl (b : Bool) : ∀ bs : List Bool, (bs.map PyData.bool).countP (fun y => PyData.eqv y (.bool b)) = bs.count b
  | [] => rfl
  | c :: bs => by
    rw [List.map_cons, List.countP_cons, List.count_cons, count_bl b bs]
    cases b <;> cases c <;> rfl
theorem md_count (hu : X.A.units + 65 < cLine) : MtM X "list.count" (liftM (kt X) countD) := by
  intro pins s σ H x vs v us Q I rx rv ⟨dx, ds, G, q, r1, rs, gr, h, cl⟩
  unfold countD at h
  split at h
  · obtain ⟨bs, sq, h⟩ := h
    cases r1
    obtain ⟨bv, rfl, rb⟩ := rs.one
    cases rb
    obtain ⟨ws, sa, ra⟩ := seq_of gr sq
    rw [ra.bls] at sa
    obtain ⟨its, rvs, hl, _⟩ := I.list sa
    obtain ⟨u, rfl, ru⟩ := rv.one
    cases (show u = Value.bool _ from ru)
    cases (show v = Value.ref _ from rx)
    have pl : ∀ bs : List Bool, PyData.plainAll (bs.map PyData.bool) = true := fun bs => by
      induction bs with
      | nil => rfl
      | cons b bs ih => simp only [List.map_cons, PyData.plainAll, Bool.and_eq_true]; exact ⟨rfl, ih⟩
    refine SeqAt.count_list_data (xs := bs.map PyData.bool) (as := []) (bs := []) (d := .bool _) hl.isList (by simpa using readsAll_bls rvs) (.bool _) (pl bs) rfl ?_ ?_
    · have : min (PyData.depthAll (bs.map PyData.bool)) (PyData.bool ‹Bool›).depth ≤ 0 := Nat.min_le_right _ _
      omega
    · rw [count_bl]
      exact ⟨.int _, H, I.tok _, ⟨_, rfl⟩, cl _ _ _ _ Tm.refl gr (.int _) h⟩
  · exact h.elim
/-- xs.index(x), truths or whole numbers, x among them -/
def indexD : RMd := fun x ds G Q => match x, ds with
  | .ref a, [.bl b] => ∃ bs : List Bool, seqG G a (bs.map D.bl) ∧ b ∈ bs ∧ Q (.int (bs.idxOf b : Nat)) G
  | .ref a, [.int b] => ∃ bs : List Int, seqG G a (bs.map D.int) ∧ b ∈ bs ∧ Q (.int (bs.idxOf b : Nat)) G
  | _, _ => False
theorem readsAll_ints2 {h : Heap} : ∀ {bs : List Int} {its : List Value}, Vals (bs.map V.int) its → ReadsAll h its (bs.map PyData.int) []
  | [], _, r => by cases r; exact .nil
  | b :: bs, _, r => by
    cases r with
    | cons r1 r2 =>
      obtain ⟨t, rfl⟩ := r1
      exact .cons (as := []) (bs := []) (.int b t) (readsAll_ints2 r2)
theorem md_index (hu : X.A.units + 65 < cLine) : MtM X "list.index" (liftM (kt X) indexD) := by
  intro pins s σ H x vs v us Q I rx rv ⟨dx, ds, G, q, r1, rs, gr, h, cl⟩
  unfold indexD at h
  split at h
  · obtain ⟨bs, sq, hm, h⟩ := h
    cases r1
    obtain ⟨bv, rfl, rb⟩ := rs.one
    cases rb
    obtain ⟨ws, sa, ra⟩ := seq_of gr sq
    rw [ra.bls] at sa
    obtain ⟨its, rvs, hl, hz⟩ := I.list sa
    obtain ⟨u, rfl, ru⟩ := rv.one
    cases (show u = Value.bool _ from ru)
    cases (show v = Value.ref _ from rx)
    rw [List.length_map] at hz
    exact PySem.W.index_list_datum (vs := its) hl.isList ⟨[], (show bs.map PySem.W.Datum.toD = bs.map PyData.bool from rfl) ▸ readsAll_bls rvs⟩ ⟨[], .bool _⟩ (by show X.A.units + 1 + 0 < cLine; omega) hz hm ⟨.int _, H, I.tok _, ⟨_, rfl⟩, cl _ _ _ _ Tm.refl gr (.int _) h⟩
  · obtain ⟨bs, sq, hm, h⟩ := h
    cases r1
    obtain ⟨bv, rfl, rb⟩ := rs.one
    cases rb
    obtain ⟨ws, sa, ra⟩ := seq_of gr sq
    rw [ra.ints] at sa
    obtain ⟨its, rvs, hl, hz⟩ := I.list sa
    obtain ⟨u, rfl, ru⟩ := rv.one
    obtain ⟨t, rfl⟩ := ru
    cases (show v = Value.ref _ from rx)
    rw [List.length_map] at hz
    exact PySem.W.index_list_datum (vs := its) hl.isList ⟨[], (show bs.map PySem.W.Datum.toD = bs.map PyData.int from rfl) ▸ readsAll_ints2 rvs⟩ ⟨[], .int _ _⟩ (by show X.A.units + 1 + 0 < cLine; omega) hz hm ⟨.int _, H, I.tok _, ⟨_, rfl⟩, cl _ _ _ _ Tm.refl gr (.int _) h⟩
  · exact h.elim
end
/-! ## dicts keyed by tuples: pop, setdefault -/
def dropT (kvs : List (D × D)) (k : D) : List (D × D) := kvs.filter fun kv => !sameK kv.1 k
section
variable {K : Kt} {H : Hp}
theorem DitR.drop {k : D} {nk : NestedKey} (hk : keyN k = some nk) : ∀ {kvs : List (D × D)} {xs : List (NestedKey × Addr × Value)}, DitR K H kvs xs → DitR K H (dropT kvs k) (withoutH xs nk)
  | _, _, .nil => .nil
  | _, _, @DitR.cons _ _ kd nk' ad d' v' u' r s h1 h2 h3 h4 h5 q => by
    have ih := DitR.drop hk q
    by_cases e : nk' = nk
    · have es : sameK (.tup kd) k = true := by unfold sameK; rw [h1, hk, e]; simp
      have a1 : dropT ((.tup kd, d') :: r) k = dropT r k := by simp [dropT, es]
      have a2 : withoutH ((nk', ad, u') :: s) nk = withoutH s nk := by simp [withoutH, e]
      rw [a1, a2]; exact ih
    · have es : sameK (.tup kd) k = false := by unfold sameK; rw [h1, hk]; simp [e]
      have a1 : dropT ((.tup kd, d') :: r) k = (.tup kd, d') :: dropT r k := by simp [dropT, es]
      have a2 : withoutH ((nk', ad, u') :: s) nk = (nk', ad, u') :: withoutH s nk := by simp [withoutH, e]
      rw [a1, a2]
      exact .cons h1 h2 h3 h4 h5 ih
end
def popT : RMd := fun x ds G Q => match x, ds with
  | .ref a, [.tup ks] => ∃ kvs ep, G a = some (.dit kvs ep) ∧ keyOk (.tup ks) ∧ ∃ d, valT kvs (.tup ks) = some d ∧ ∀ ep', Q d (st G a (.dit (dropT kvs (.tup ks)) ep'))
  | _, _ => False
section
variable {X : Cx}
theorem md_popT (hu : X.A.units + 10 < cLine) : MtM X "dict.pop" (liftM (kt X) popT) := by
  intro pins s σ H x vs v us Q I rx rv ⟨dx, ds, G, q, r1, rs, gr, h, cl⟩
  unfold popT at h
  split at h
  · rename_i a ks
    obtain ⟨kvs, ep, eg, ko, d, hv, h⟩ := h
    cases r1
    obtain ⟨kv, rfl, rk⟩ := rs.one
    obtain ⟨xs, ha, r⟩ := gr _ _ eg
    obtain ⟨dd, hz, hs0⟩ := dit_of I ha r
    obtain ⟨nk, hk, hdp⟩ := keyOk_ok ko
    obtain ⟨b, ws, rfl, sb, rb⟩ := rk.tup_inv
    obtain ⟨u, rfl, ru⟩ := rv.one
    cases (show u = Value.ref b from ru)
    cases (show v = Value.ref a from rx)
    obtain ⟨p, v', hp, rv', rel⟩ := (r.val hk).1 d hv
    refine call_pop_heap (knd := nestedKind X.prog X.w) (more := []) (hsz := hz) (k := nk) (p := p) (.inl rfl) (PySem.F.args_dict_pop_2 _ _) (by show X.A.units + 1 + 8 < cLine; omega) ⟨nest_of I hk rk rfl, hdp⟩ hs0 dd hp fun h' dd' hs => ?_
    obtain ⟨o, es, ep', h1, h2, h3, h4, h5, h6⟩ := dd'
    have rp := r.drop hk
    have hl2 : (withoutH xs nk).length ≤ sizeLine := Nat.le_trans (List.length_filter_le _ _) hz
    have t : Tm (kt X) H (upd H a (DitO X.prog X.w a (withoutH xs nk) ep')) := Tm.put fun u q => by rw [ha] at q; cases q; exact fun z => z
    refine ⟨v', upd H a (DitO X.prog X.w a (withoutH xs nk) ep'), d_write I (by rw [ha]; exact True.intro) hs ⟨o, h1⟩ ⟨⟨hl2, hs0, h6, o, es, h1, h2, h3, h4⟩, ⟨o, h1⟩, ?_⟩, rel, cl _ _ _ _ t (gr.set (u := .dit (dropT kvs (.tup ks)) ep') t ⟨_, upd_same, rp.mono t⟩) (rv'.mono t) (h ep')⟩
    rintro g1 g2 ⟨l, hs, nd, o, es, e1, r⟩ k
    exact ⟨l, hs, nd, o, es, k o e1, r⟩
  · exact h.elim
theorem md_setd (hu : X.A.units + 10 < cLine) : MtM X "dict.setdefault" (liftM (kt X) setdD) := by
  intro pins s σ H x vs v us Q I rx rv ⟨dx, ds, G, q, r1, rs, gr, h, cl⟩
  unfold setdD at h
  split at h
  · rename_i a ks y
    obtain ⟨kvs, ep, eg, ko, hl, hs1, hs2⟩ := h
    cases r1
    obtain ⟨kv, yv, rfl, rk, ry⟩ := rs.two
    obtain ⟨xs, ha, r⟩ := gr _ _ eg
    obtain ⟨dd, hz, hs0⟩ := dit_of I ha r
    obtain ⟨nk, hk, hdp⟩ := keyOk_ok ko
    obtain ⟨b, ws, rfl, sb, rb⟩ := rk.tup_inv
    obtain ⟨u, u2, rfl, ru, ru2⟩ := rv.two
    cases (show u = Value.ref b from ru)
    cases (show v = Value.ref a from rx)
    obtain ⟨i1, i2⟩ := r.val hk
    refine call_setdefault_heap (knd := nestedKind X.prog X.w) (hsz := hz) (k := nk) (by show X.A.units + 1 + 8 < cLine; omega) ⟨nest_of I hk rk rfl, hdp⟩ hs0 dd (fun p hp => ?_) fun hn h' dd' hs => ?_
    · cases e : valT kvs (.tup ks) with
      | none => rw [i2 e] at hp; cases hp
      | some d =>
        obtain ⟨p', v', hp', rv', rel⟩ := i1 d e
        rw [hp] at hp'; cases hp'
        exact ⟨v', H, I.tok _, rel, cl _ _ _ _ Tm.refl gr rv' (hs1 d e)⟩
    · cases e : valT kvs (.tup ks) with
      | some d => obtain ⟨p', v', hp', _⟩ := i1 d e; rw [hn] at hp'; cases hp'
      | none =>
        obtain ⟨o, es, ep', h1, h2, h3, h4, h5, h6⟩ := dd'
        have rp := r.put (ad := b) hk hdp rk ry ru2
        have e2 : putT kvs (.tup ks) y = kvs ++ [(.tup ks, y)] := by unfold putT; rw [e]; rfl
        have el := dit_len rp
        have hl2 : (storedH xs nk b u2).length ≤ sizeLine := by rw [← el]; have := putT_len (kvs := kvs) (k := .tup ks) (v := y); omega
        rw [e2] at rp
        have t : Tm (kt X) H (upd H a (DitO X.prog X.w a (storedH xs nk b u2) ep')) := Tm.put fun u q => by rw [ha] at q; cases q; exact fun z => z
        refine ⟨yv, upd H a (DitO X.prog X.w a (storedH xs nk b u2) ep'), d_write I (by rw [ha]; exact True.intro) hs ⟨o, h1⟩ ⟨⟨hl2, hs0, h6, o, es, h1, h2, h3, h4⟩, ⟨o, h1⟩, ?_⟩, ru2, cl _ _ _ _ t (gr.set (u := .dit _ ep') t ⟨_, upd_same, rp.mono t⟩) (ry.mono t) (hs2 e ep')⟩
        rintro g1 g2 ⟨l, hs, nd, o, es, e1, r⟩ k
        exact ⟨l, hs, nd, o, es, k o e1, r⟩
  · exact h.elim
end
end S
set_option Elab.async false
set_option linter.all false
set_option maxRecDepth 100000
set_option maxHeartbeats 4000000
namespace PySem.W
open PySem PySem.Calls PyProof.Rows PyProof.V PySem.Spec
theorem sorted_src {prog : Program} {w : World} {A : Around} {E Q : Value → Shared → Prop} {s : Shared} {T : String} {r d : Addr} {n : Nat} {P : Nat → Value → Prop} {OK : Heap → Prop} (K : KdlSrc prog w T r d n P OK) (hh : A.handled = none) (ok : OK s.heap) (hn : n ≤ sizeLine)
    (h : ∀ (h2 : Heap) (tk : Nat) (vs : List Value), (∀ b o, s.heap.get? b = some o → h2.get? b = some o) → vs.length = n → (∀ (j : Nat) (v : Value), vs[j]? = some v → P j v) →
      wpAny (model prog w) A.in1 (call (.builtin "list.sort") [.ref h2.objs.size]) (fun _ s2 => Q (.ref h2.objs.size) s2) E { s with heap := h2.push { cls := .type "list", data := .seq vs.toArray }, toks := tk }) :
    wpAny (model prog w) A (call (.builtin "sorted") [.ref r]) Q E s := by
  refine call_function_entry kind_sorted plain_sorted entry_sorted (args_sorted1 _) ?_
  unfold Builtin.«sorted»
  refine wpAny_bind (m := checkCount "sorted" 1 1 _) (wpAny_pure (wpAny_bind (kdu_collect (A := A.in1) K hh ok hn fun h2 tk acc k it => ?_)))
  have l : acc.toList.length = n := by rw [Array.length_toList]; exact it.1
  refine wpAny_bind (wpAny_newList (wpAny_bind (wpAny_holding (wpAny_mono (h h2 tk acc.toList k l fun j v e => it.2 j v (by rw [← Array.getElem?_toList]; exact e)) (fun _ s2 x => wpAny_pure ⟨_, rfl, x⟩) fun _ _ e => e))) (by omega))
end PySem.W
namespace S
open PySem PySem.Spec L2
open PyProof.Rows hiding St
/-! ## sorted over a dict's keys -/
section
variable {X : Cx}
/-- the sort of a new list of told data -/
theorem sort_fin {pins : List (Addr × Obj)} {s : Shared} {σ : St} {H : Hp} {G : Hd} {xs : List D} {us : List Value} {h2 : Heap} {tk : Nat} {q : Qd} {Q : VK} (hu : X.A.units + 65 < cLine) (I : L2.Inv X pins σ H { s with heap := h2, toks := tk }) (gr : GR (kt X) G H)
    (each : PySem.W.EachIs (fun u x => ∃ v, Rp (kt X) H x v ∧ RelV v u) us xs) (so : SrtOk G xs) (h : ∀ p, G p = none → q (.ref p) (st G p (.lst (srt xs)))) (cl : CQ (kt X) H Q q) :
    wpAny (model X.prog X.w) X.A.in1 (call (.builtin "list.sort") [.ref h2.objs.size]) (fun _ s2 => EP X pins σ Q (.ref h2.objs.size) s2) X.xe { s with heap := h2.push { cls := .type "list", data := .seq us.toArray }, toks := tk } := by
  have er : PySem.W.EachIs (fun u x => ∃ as, Reads h2 u (toPy x) as) us xs := by
    have key : ∀ (us : List Value) (xs : List D), PySem.W.EachIs (fun u x => ∃ v, Rp (kt X) H x v ∧ RelV v u) us xs → Dds G xs xs → PySem.W.EachIs (fun u x => ∃ as, Reads h2 u (toPy x) as) us xs := by
      intro us xs e
      induction e with
      | nil => exact fun _ => .nil
      | cons hh _ ih =>
        intro dd
        cases dd with
        | cons d ds =>
          obtain ⟨v, r1, r2⟩ := hh
          exact .cons (Dp.reads I _ v _ (d.dp gr r1) r2) (ih ds)
    exact key _ _ each so.dd
  have hob : (h2.push { cls := .type "list", data := .seq us.toArray }).get? h2.objs.size = some (seqObj "list" us.toArray 0) := Heap.get?_push_size _ rfl
  have kb : ∀ b o, h2.get? b = some o → (h2.push { cls := .type "list", data := .seq us.toArray }).get? b = some o := fun b o e => Heap.get?_push_of_some _ e
  have ne0 : ∀ b o, h2.get? b = some o → b ≠ h2.objs.size := fun b o e => Nat.ne_of_lt (Heap.lt_size e)
  generalize h2.push { cls := .type "list", data := .seq us.toArray } = h3 at hob kb ⊢
  have er' : PySem.W.EachIs (fun u x => ∃ as', Reads (PySem.W.sortingHeap h3 h2.objs.size us) u (toPy x) as') us xs :=
    er.mono fun u x ⟨as', r⟩ => ⟨as', PyProof.Rows.Reads.keeps (fun b o e => (PySem.W.sortingHeap_old (ne0 b o e) (kb b o e))) r⟩
  have hal : PySem.W.AllAlike (xs.map toPy) := by
    rintro d hd d' hd'
    obtain ⟨x, hx, rfl⟩ := List.mem_map.mp hd
    obtain ⟨y, hy, rfl⟩ := List.mem_map.mp hd'
    exact so.al x hx y hy
  have hsk : PySem.W.Sortable (xs.map toPy) := by
    rcases so.st with z | z
    · refine .inl fun d hd => ?_
      obtain ⟨x, hx, rfl⟩ := List.mem_map.mp hd
      obtain ⟨y, r, rfl⟩ := z x hx
      exact ⟨_, _, rfl⟩
    · refine .inr fun d hd => ?_
      obtain ⟨x, hx, rfl⟩ := List.mem_map.mp hd
      obtain ⟨i, rfl⟩ := z x hx
      exact ⟨fun z => (by cases z), fun _ z => (by cases z)⟩
  have hub : ∀ b, b ∈ xs → X.A.in1.units + 1 + (toPy b).depth < cLine := by
    intro b hb
    have h1 := py_depth b
    have h2 := deps_mem b hb
    have h3 := so.dp
    show X.A.units + 1 + 1 + (toPy b).depth < cLine
    omega
  have lus : us.length = xs.length := each.length
  refine wpAny_call_entry PyProof.Rows.slot_list_sort ⟨_, hob, rfl⟩ PyProof.Rows.entry_list_sort
    (PySem.W.list_sort_vals (s := { s with heap := h3, toks := tk }) (κ := PySem.W.dataKind (PySem.W.sortingHeap h3 h2.objs.size us) (xs.map toPy)) hob
      (PySem.W.SortsAt.data (s := { s with heap := PySem.W.sortingHeap h3 h2.objs.size us, toks := tk }) (PySem.W.each_map (R := fun u x => ∃ as', Reads (PySem.W.sortingHeap h3 h2.objs.size us) u x as') toPy er') hal hsk (PySem.W.bound_map hub))
      (by rw [lus]; exact so.len) ⟨.none, rfl, ?_⟩) (PyProof.Rows.args_list_sort _)
  have eo := PySem.W.sortVals_data (h' := PySem.W.sortingHeap h3 h2.objs.size us) false each er' hal
  generalize PySem.W.sortVals _ false us us = out at eo ⊢
  have kF : ∀ b o, h2.get? b = some o → (sortedHeap h3 h2.objs.size us out.toArray).get? b = some o := fun b o e => (PyProof.Rows.sortedHeap_old (ne0 b o e) (Heap.lt_size (kb b o e))).trans (kb b o e)
  obtain ⟨eF, heF⟩ := PyProof.Rows.sortedHeap_at (vs := us) (out := out.toArray) hob
  have I3 : L2.Inv X pins σ H { s with heap := sortedHeap h3 h2.objs.size us out.toArray, toks := tk } := I.kept (t' := tk) kF
  have hn0 : H h2.objs.size = none := I.hok.fresh (Nat.le_refl _)
  obtain ⟨vs, rvs, vvs⟩ := each_back eo
  have hlen : vs.length ≤ sizeLine := by rw [← rvs.length, List.length_mergeSort]; exact so.len
  have tn : Tm (kt X) H (upd H h2.objs.size (.lst vs)) := Tm.new hn0
  have I4 : L2.Inv X pins σ (upd H h2.objs.size (.lst vs)) { s with heap := sortedHeap h3 h2.objs.size us out.toArray, toks := tk } :=
    I3.take (h' := sortedHeap h3 h2.objs.size us out.toArray) (t' := tk) (fun b ob _ e => e) (I.fpOk (Nat.le_refl _) hn0) ⟨hlen, out, eF, vvs, heF⟩
  exact ⟨.ref h2.objs.size, _, I4, rfl, cl _ _ _ _ tn (gr.new (u := .lst (srt xs)) hn0 ⟨_, upd_same, rvs.mono tn⟩) (.ref _) (h _ (gr.free hn0))⟩
/-- sorted(d), keys that are tuples -/
def sortedT : RCd := fun ds G Q => match ds with
  | [.ref a] => ∃ kvs ep, G a = some (.dit kvs ep) ∧ SrtOk G (kvs.map (·.1)) ∧ ∀ p, G p = none → Q (.ref p) (st G p (.lst (srt (kvs.map (·.1)))))
  | _ => False
/-- sorted(d), keys that are whole numbers -/
def sortedI : RCd := fun ds G Q => match ds with
  | [.ref a] => ∃ kvs ep, G a = some (.dik kvs ep) ∧ SrtOk G (kvs.map fun p => D.int p.1) ∧ ∀ p, G p = none → Q (.ref p) (st G p (.lst (srt (kvs.map fun p => D.int p.1))))
  | _ => False
theorem each_of {R : Value → D → Prop} : ∀ {us : List Value} {xs : List D}, us.length = xs.length → (∀ (j : Nat) u x, us[j]? = some u → xs[j]? = some x → R u x) → PySem.W.EachIs R us xs
  | [], [], _, _ => .nil
  | u :: us, x :: xs, l, h => .cons (h 0 u x rfl rfl) (each_of (by simpa using l) fun j u x e1 e2 => h (j + 1) u x (by simpa using e1) (by simpa using e2))
  | [], _ :: _, l, _ => by cases l
  | _ :: _, [], l, _ => by cases l
theorem bd_sortedT (hc : X.calm = true) (hu : X.A.units + 65 < cLine) : CalB X (.builtin "sorted") sortedT := by
  intro pins s σ H vs us Q I r ⟨ds, G, q, rs, gr, h, cl⟩
  unfold sortedT at h
  split at h
  · rename_i a
    obtain ⟨kvs, ep, eg, so, h⟩ := h
    obtain ⟨v, rfl, r1⟩ := rs.one
    cases r1
    obtain ⟨u, rfl, ru⟩ := r.one
    cases (show u = Value.ref a from ru)
    obtain ⟨xs, ha, rx⟩ := gr _ _ eg
    obtain ⟨⟨hz, hs, _, o, es, ho, hx, hdt, he⟩, _⟩ := I.hok a _ ha
    have l1 : es.size = xs.length := size_e he
    have l2 := dit_len rx
    refine PySem.W.sorted_src (kdl_raw hs hx hdt) (I.ok.hd hc) ho (by omega) fun h2 tk vs2 kp lv it => ?_
    refine sort_fin hu (I.kept (t' := tk) kp) gr (each_of (by rw [List.length_map]; omega) fun j u x e1 e2 => ?_) so h cl
    obtain ⟨en, hen, hv⟩ := it j u e1
    have e3 : es.toList[j]? = some en := by rw [Array.getElem?_toList]; exact hen
    rw [he, List.getElem?_map] at e3
    obtain ⟨y, ey, hy⟩ := Option.map_eq_some_iff.mp e3
    obtain ⟨p, v, ep', h1, h2, h3⟩ := ditR_at rx ey
    rw [List.getElem?_map, ep'] at e2
    cases e2
    subst hv
    refine ⟨.ref y.2.1, h1, ?_⟩
    rw [← hy]
    rfl
  · exact h.elim
theorem bd_sortedI (hc : X.calm = true) (hu : X.A.units + 65 < cLine) : CalB X (.builtin "sorted") sortedI := by
  intro pins s σ H vs us Q I r ⟨ds, G, q, rs, gr, h, cl⟩
  unfold sortedI at h
  split at h
  · rename_i a
    obtain ⟨kvs, ep, eg, so, h⟩ := h
    obtain ⟨v, rfl, r1⟩ := rs.one
    cases r1
    obtain ⟨u, rfl, ru⟩ := r.one
    cases (show u = Value.ref a from ru)
    obtain ⟨ys, ha, ry⟩ := gr _ _ eg
    obtain ⟨⟨hz, hs0, o, es, ho, hx, hdat, hks, hps, hnd⟩, _⟩ := I.hok a _ ha
    have l2 : es.size = ys.length := prs_size hps
    have l1 := ry.len
    refine PySem.W.sorted_src (kdl_raw hs0 hx hdat) (I.ok.hd hc) ho (by omega) fun h2 tk vs2 kp lv it => ?_
    refine sort_fin hu (I.kept (t' := tk) kp) gr (each_of (by rw [List.length_map]; omega) fun j u x e1 e2 => ?_) so h cl
    obtain ⟨en, hen, hv⟩ := it j u e1
    obtain ⟨y, t, ey, ek, ev⟩ := prs_get hps (by rw [Array.getElem?_toList]; exact hen)
    obtain ⟨kv, v, z1, z2, z3, z4⟩ := ry.get ey
    rw [List.getElem?_map, z1] at e2
    cases e2
    subst hv
    exact ⟨.int kv.1, .int _, ⟨t, by rw [ek, z2]⟩⟩
  · exact h.elim
end
/-! ## dict of a list of pairs -/
def mergeT (kvs ps : List (D × D)) : List (D × D) := ps.foldl (fun acc p => putT acc p.1 p.2) kvs
def pairD (p : D × D) : D := .tup [p.1, p.2]
def dictP : RCd := fun ds G Q => match ds with
  | [.ref a] => ∃ ps : List (D × D), seqG G a (ps.map pairD) ∧ (∀ p ∈ ps, ∃ kd, p.1 = .tup kd ∧ keyOk (.tup kd)) ∧ ∀ p ep, G p = none → Q (.ref p) (st G p (.dit (mergeT [] ps) ep))
  | _ => False
section
variable {K : Kt} {H : Hp}
theorem DitR.merge : ∀ {ps : List (D × D)} {ts : List (NestedKey × Addr × Value)} {kvs : List (D × D)} {xs : List (NestedKey × Addr × Value)}, DitR K H kvs xs → DitR K H ps ts → DitR K H (mergeT kvs ps) (storedAllH xs ts)
  | [], _, _, _, r, q => by cases q; exact r
  | p :: ps, _, kvs, xs, r, q => by
    cases q with
    | cons h1 h2 h3 h4 h5 q =>
      have z := DitR.merge (ps := ps) (r.put h1 h2 h3 h4 h5) q
      exact z
theorem trip_of {h : Heap} : ∀ {ps : List (D × D)} {its : List Value}, its.length = ps.length → (∀ (j : Nat) p, ps[j]? = some p → ∃ (b : Addr) (kd : List D) (nk : NestedKey) (c : Addr) (yv : V) (yu : Value), its[j]? = some (Value.ref b) ∧ p.1 = .tup kd ∧ keyN (.tup kd) = some nk ∧ nk.depth ≤ 8 ∧ Rp K H p.1 (.ref c) ∧ Rp K H p.2 yv ∧ RelV yv yu ∧ h.IsTuple b #[Value.ref c, yu]) →
    ∃ ts : List (NestedKey × Addr × Value), DitR K H ps ts ∧ ∀ (j : Nat) y, ts[j]? = some y → ∃ b, its[j]? = some (Value.ref b) ∧ h.IsTuple b #[Value.ref y.2.1, y.2.2]
  | [], _, _, _ => ⟨[], .nil, fun j y e => by simp at e⟩
  | p :: ps, [], l, _ => by cases l
  | p :: ps, it :: its, l, hh => by
    obtain ⟨b, kd, nk, c, yv, yu, e1, e2, e3, e4, e5, e6, e7, e8⟩ := hh 0 p rfl
    obtain ⟨ts, r, e⟩ := trip_of (ps := ps) (its := its) (by simpa using l) fun j q eq => hh (j + 1) q (by simpa using eq)
    obtain ⟨k, v⟩ := p
    simp only at e2 e5 e6
    subst e2
    refine ⟨(nk, c, yu) :: ts, .cons e3 e4 e5 e6 e7 r, fun j y ey => ?_⟩
    cases j with
    | zero =>
      have : y = (nk, c, yu) := by simpa using ey.symm
      subst this
      exact ⟨b, e1, e8⟩
    | succ j => 
      obtain ⟨b', z1, z2⟩ := e j y (by simpa using ey)
      exact ⟨b', by simpa using z1, z2⟩
end
theorem mergeT_len : ∀ {ps kvs : List (D × D)}, (mergeT kvs ps).length ≤ kvs.length + ps.length
  | [], _ => by simp [mergeT]
  | p :: ps, kvs => by
    have h1 := mergeT_len (ps := ps) (kvs := putT kvs p.1 p.2)
    have h2 := putT_len (kvs := kvs) (k := p.1) (v := p.2)
    show (mergeT (putT kvs p.1 p.2) ps).length ≤ _
    rw [List.length_cons]; omega
section
variable {X : Cx}
theorem bd_dictP (hc : X.calm = true) (hu : X.A.units + 65 < cLine) : CalB X (.type "dict") dictP := by
  intro pins s σ H vs us Q I r ⟨ds, G, q, rs, gr, h, cl⟩
  unfold dictP at h
  split at h
  · rename_i a
    obtain ⟨ps, sq, ko, h⟩ := h
    obtain ⟨v, rfl, r1⟩ := rs.one
    cases r1
    obtain ⟨u, rfl, ru⟩ := r.one
    cases (show u = Value.ref a from ru)
    obtain ⟨ws, sa, ra⟩ := seq_of gr sq
    obtain ⟨its, rv, hl, hz⟩ := I.list sa
    have lw := ra.length
    have li := rv.length
    rw [List.length_map] at lw
    -- each pair, by its address
    have each : ∀ (j : Nat) (p : D × D), ps[j]? = some p → ∃ (b : Addr) (kd : List D) (nk : NestedKey) (c : Addr) (yv : V) (yu : Value), its[j]? = some (Value.ref b) ∧ p.1 = .tup kd ∧ keyN (.tup kd) = some nk ∧ nk.depth ≤ 8 ∧ Rp (kt X) H p.1 (.ref c) ∧ Rp (kt X) H p.2 yv ∧ RelV yv yu ∧ s.heap.IsTuple b #[Value.ref c, yu] := by
      intro j p ep
      obtain ⟨w, ew, rw_⟩ := ra.get (i := j) (d := pairD p) (by rw [List.getElem?_map, ep]; rfl)
      obtain ⟨b, vs2, rfl, sb, rb⟩ := rw_.tup_inv
      obtain ⟨kv, yv, rfl, rk, ry⟩ := rb.two
      obtain ⟨kd, ek, ok⟩ := ko p (List.mem_of_getElem? ep)
      obtain ⟨nk, hk, hd⟩ := keyOk_ok ok
      obtain ⟨c, vs3, rfl, sc, rc⟩ := (ek ▸ rk : Rp (kt X) H (.tup kd) kv).tup_inv
      obtain ⟨u2, eu, ru2⟩ := rv.get ew
      cases (show u2 = Value.ref b from ru2)
      obtain ⟨its2, rv2, hl2, _⟩ := I.tuple sb
      obtain ⟨cu, yu, rfl, rcu, ryu⟩ := rv2.two
      cases (show cu = Value.ref c from rcu)
      exact ⟨b, kd, nk, c, yv, yu, eu, ek, hk, hd, rk, ry, ryu, by obtain ⟨o, z1, z2, n, z3⟩ := hl2; exact ⟨o, z1, z2, n, by simpa using z3⟩⟩
    obtain ⟨ts, rt, et⟩ := trip_of (ps := ps) (its := its) (by omega) each
    have lt := dit_len rt
    have pl : PlainSeq "list" s.heap a its.toArray := hl
    let Ts : Nat → Addr := fun j => match its[j]? with
      | some (Value.ref b) => b
      | _ => 0
    have pit : PairItems s.heap its.toArray Ts (ts.map fun y => (Value.ref y.2.1, y.2.2)) := by
      refine ⟨by rw [List.length_map, List.size_toArray]; omega, fun j k v e => ?_⟩
      rw [List.getElem?_map] at e
      obtain ⟨y, ey, e2⟩ := Option.map_eq_some_iff.mp e
      cases e2
      obtain ⟨b, z1, z2⟩ := et j y ey
      have eT : Ts j = b := by show (match its[j]? with | some (Value.ref b) => b | _ => 0) = b; rw [z1]
      rw [eT]
      exact ⟨by rw [List.getElem?_toArray]; exact z1, .inl z2⟩
    have big := I.big
    refine call_dict_pairsH (knd := nestedKind X.prog X.w) (ps := ts) (PairArg.list a its.toArray Ts (ts.map fun y => (Value.ref y.2.1, y.2.2))) (I.ok.hd hc) (by show X.A.units + 1 + 1 + 8 < cLine; omega) ⟨pl, pit⟩ ⟨by rw [List.length_map], fun i key v e => ?_⟩ (fun h' hk x hx => ?_) (by rw [List.length_map]; omega) fun h' tk dd' kp => ?_
    · have e' : (ts.map fun y => (Value.ref y.2.1, y.2.2))[i]? = some (key, v) := e
      rw [List.getElem?_map] at e'
      obtain ⟨y, ey, e2⟩ := Option.map_eq_some_iff.mp e'
      cases e2
      exact ⟨_, _, ey, rfl⟩
    · exact nestedKind_stays.stays (fun b o _ _ e _ => hk b o (Nat.ne_of_lt (Heap.lt_size e)) (by simp) e) (dit_is I rt x hx)
    · obtain ⟨o, es, ep', h1, h2, h3, h4, h5, h6⟩ := dd'
      have hn := I.hok.fresh (Nat.le_refl s.heap.objs.size)
      have rp := (DitR.nil (K := kt X) (H := H)).merge rt
      have hl2 : (storedAllH ([] : List (NestedKey × Addr × Value)) ts).length ≤ sizeLine := by
        rw [← dit_len rp]
        have := mergeT_len (ps := ps) (kvs := [])
        simp only [List.length_nil] at this
        omega
      have t : Tm (kt X) H (upd H s.heap.objs.size (DitO X.prog X.w s.heap.objs.size (storedAllH [] ts) ep')) := Tm.new hn
      refine ⟨.ref s.heap.objs.size, _, I.laid (t' := tk) (a := s.heap.objs.size) (o := DitO X.prog X.w s.heap.objs.size (storedAllH [] ts) ep') (fun b u e => kp b u (by simp) e) (Nat.le_refl _) ⟨⟨hl2, ?_, h6, o, es, h1, h2, h3, h4⟩, ⟨o, h1⟩, ?_⟩, rfl, cl _ _ _ _ t (gr.new (u := .dit (mergeT [] ps) ep') hn ⟨_, upd_same, rp.mono t⟩) (.ref _) (h _ ep' (gr.free hn))⟩
      · exact beq_eq_false_iff_ne.mpr (Nat.ne_of_gt big)
      · rintro g1 g2 ⟨l, hs, nd, o, es, e1, r⟩ k
        exact ⟨l, hs, nd, o, es, k o e1, r⟩
  · exact h.elim
end
end S
set_option Elab.async false
set_option linter.all false
set_option maxRecDepth 100000
set_option maxHeartbeats 4000000
namespace S
open PySem PySem.Spec L2
open PyProof.Rows hiding St
/-! ## texts: their methods, f-strings -/
theorem Rps.strs {K : Kt} {H : Hp} : ∀ {xs : List Str} {vs : List V}, Rps K H (xs.map D.str) vs → vs = xs.map V.str
  | [], _, r => by cases r; rfl
  | x :: xs, _, r => by
    cases r with
    | cons h r => cases h; rw [Rps.strs r]; rfl
theorem rps_strs {K : Kt} {H : Hp} : ∀ xs : List Str, Rps K H (xs.map D.str) (xs.map V.str)
  | [] => .nil
  | x :: xs => .cons (.str x) (rps_strs xs)
def joinD : RMd := fun x ds G Q => match x, ds with
  | .str a, [.ref p] => ∃ ys : List Str, seqG G p (ys.map D.str) ∧ (ys.map (·.length)).sum + ys.length * a.length ≤ 16777216 ∧ Q (.str (Txt.join a ys)) G
  | _, _ => False
def splitD : RMd := fun x ds G Q => match x, ds with
  | .str a, [.str b] => (b.length == 0) = false ∧ a.length + 2 ≤ sizeLine ∧ ∀ p, G p = none → Q (.ref p) (st G p (.lst ((Txt.split a b).map D.str)))
  | _, _ => False
def partD : RMd := fun x ds G Q => match x, ds with
  | .str a, [.str b] => (b.length == 0) = false ∧ a.length ≤ sizeLine ∧ Q (.tup [.str (Txt.partition a b).1, .str (Txt.partition a b).2.1, .str (Txt.partition a b).2.2]) G
  | _, _ => False
def stripD : RMd := fun x ds G Q => match x, ds with
  | .str a, [.str b] => a.length ≤ sizeLine ∧ Q (.str (Txt.stripChars a b)) G
  | _, _ => False
def findD : RMd := fun x ds G Q => match x, ds with
  | .str a, [.str b] => Q (.int (Txt.find a b)) G
  | _, _ => False
def countT : RMd := fun x ds G Q => match x, ds with
  | .str a, [.str b] => Q (.int (Txt.count a b)) G
  | _, _ => False
def indexT : RMd := fun x ds G Q => match x, ds with
  | .str a, [.str b] => ∃ (i : Nat) (rest : List Nat), Builtin.Str.occurrences a b 0 a.length 1 = i :: rest ∧ Q (.int (i : Nat)) G
  | _, _ => False
section
variable {X : Cx}
theorem md_join : MtM X "str.join" (liftM (kt X) joinD) := by
  intro pins s σ H x vs v us Q I rx rv ⟨dx, ds, G, q, r1, rs, gr, h, cl⟩
  unfold joinD at h
  split at h
  · obtain ⟨ys, sq, hz, h⟩ := h
    cases r1
    obtain ⟨y, rfl, ry⟩ := rs.one
    cases ry
    obtain ⟨ws, sa, ra⟩ := seq_of gr sq
    rw [ra.strs] at sa
    exact mt_join pins s σ H _ _ v us Q I rx rv ⟨_, _, ys, rfl, rfl, .inl sa, hz, cl _ _ _ _ Tm.refl gr (.str _) h⟩
  · exact h.elim
theorem md_split : MtM X "str.split" (liftM (kt X) splitD) := by
  intro pins s σ H x vs v us Q I rx rv ⟨dx, ds, G, q, r1, rs, gr, h, cl⟩
  unfold splitD at h
  split at h
  · rename_i a b
    obtain ⟨hb, hz, h⟩ := h
    cases r1
    obtain ⟨y, rfl, ry⟩ := rs.one
    cases ry
    refine mt_split pins s σ H _ _ v us Q I rx rv ⟨_, _, rfl, rfl, hb, hz, fun p hp => ?_⟩
    have t := Tm.new (K := kt X) (o := .lst ((Txt.split a b).map V.str)) hp
    exact cl _ _ _ _ t (gr.new (u := .lst ((Txt.split a b).map D.str)) hp ⟨_, upd_same, rps_strs _⟩) (.ref p) (h p (gr.free hp))
  · exact h.elim
theorem md_part : MtM X "str.partition" (liftM (kt X) partD) := by
  intro pins s σ H x vs v us Q I rx rv ⟨dx, ds, G, q, r1, rs, gr, h, cl⟩
  unfold partD at h
  split at h
  · obtain ⟨hb, hz, h⟩ := h
    cases r1
    obtain ⟨y, rfl, ry⟩ := rs.one
    cases ry
    refine mt_partition pins s σ H _ _ v us Q I rx rv ⟨_, _, rfl, rfl, hb, hz, fun p hp => ?_⟩
    exact cl _ _ _ _ (Tm.new hp) (gr.keep hp) (.tup (.inl (.inl upd_same)) (.cons (.str _) (.cons (.str _) (.cons (.str _) .nil)))) h
  · exact h.elim
theorem md_strip : MtM X "str.strip" (liftM (kt X) stripD) := by
  intro pins s σ H x vs v us Q I rx rv ⟨dx, ds, G, q, r1, rs, gr, h, cl⟩
  unfold stripD at h
  split at h
  · obtain ⟨hz, h⟩ := h
    cases r1
    obtain ⟨y, rfl, ry⟩ := rs.one
    cases ry
    exact mt_stripChars pins s σ H _ _ v us Q I rx rv ⟨_, _, rfl, rfl, hz, cl _ _ _ _ Tm.refl gr (.str _) h⟩
  · exact h.elim
theorem md_find : MtM X "str.find" (liftM (kt X) findD) := by
  intro pins s σ H x vs v us Q I rx rv ⟨dx, ds, G, q, r1, rs, gr, h, cl⟩
  unfold findD at h
  split at h
  · cases r1
    obtain ⟨y, rfl, ry⟩ := rs.one
    cases ry
    exact mt_find pins s σ H _ _ v us Q I rx rv ⟨_, _, rfl, rfl, cl _ _ _ _ Tm.refl gr (.int _) h⟩
  · exact h.elim
theorem md_countT : MtM X "str.count" (liftM (kt X) countT) := by
  intro pins s σ H x vs v us Q I rx rv ⟨dx, ds, G, q, r1, rs, gr, h, cl⟩
  unfold countT at h
  split at h
  · cases r1
    obtain ⟨y, rfl, ry⟩ := rs.one
    cases ry
    exact mt_count pins s σ H _ _ v us Q I rx rv ⟨_, _, rfl, rfl, cl _ _ _ _ Tm.refl gr (.int _) h⟩
  · exact h.elim
theorem md_indexT : MtM X "str.index" (liftM (kt X) indexT) := by
  intro pins s σ H x vs v us Q I rx rv ⟨dx, ds, G, q, r1, rs, gr, h, cl⟩
  unfold indexT at h
  split at h
  · obtain ⟨i, rest, ho, h⟩ := h
    cases r1
    obtain ⟨y, rfl, ry⟩ := rs.one
    cases ry
    exact mt_sindex pins s σ H _ _ v us Q I rx rv ⟨_, _, i, rest, rfl, rfl, ho, cl _ _ _ _ Tm.refl gr (.int _) h⟩
  · exact h.elim
/-! f-strings -/
def fmtD : D → Hd → Qd → Prop := fun x G Q => match x with
  | .str y => y.length ≤ sizeLine ∧ Q (.str y) G
  | .int i => i.natAbs < 10 ^ 500 ∧ Q (.str (toString i)) G
  | _ => False
def dFmt (te : TEd) : TEd := fun w σ G Q => te w σ G fun x G1 => fmtD x G1 Q
theorem de_fmt {e : Expr} {te : TEd} {pos : Pos} (he : DE X e te) : DE X (.FormattedValue e (-1) none pos) (dFmt te) := fun W tk =>
  PEi (pe_fmt (he W tk)) fun σ H Q ⟨σd, G, q, w, sr, gr, h, cl, cw⟩ => ⟨σd, G, _, w, sr, gr, h, fun v d H1 G1 t1 gr1 r1 h1 => by
    change fmtD d G1 q at h1
    unfold fmtD at h1
    split at h1
    · cases r1
      exact .inl ⟨_, rfl, h1.1, cl _ _ _ _ t1 gr1 (.str _) h1.2⟩
    · cases r1
      exact .inr ⟨_, rfl, log_small (Nat.le_refl _) h1.1, cl _ _ _ _ t1 gr1 (.str _) h1.2⟩
    · exact h1.elim, cw⟩
def jsD (acc : Str) (k : Str → Hd → Prop) : D → Hd → Prop := fun x G => match x with
  | .str y => (acc ++ y).length ≤ sizeLine ∧ k (acc ++ y) G
  | _ => False
def dJs : List TEd → Str → TEd
  | [], acc => fun w σ G Q => Q (.str acc) G
  | t :: ts, acc => fun w σ G Q => t w σ G (jsD acc fun a G1 => dJs ts a w σ G1 Q)
inductive DJ (X : Cx) : List Expr → List TEd → Prop where
  | nil : DJ X [] []
  | cons {e : Expr} {t : TEd} {es : List Expr} {ts : List TEd} (h : DE X e t) (r : DJ X es ts) : DJ X (e :: es) (t :: ts)
theorem DJ.pj {es : List Expr} {ts : List TEd} (h : DJ X es ts) (W : WX) (tk : L2N.Takes X W) : PJ X es (ts.map fun t => liftE (kt X) W t) := by
  induction h with
  | nil => exact .nil
  | cons h r ih => exact .cons (h W tk) ih
theorem js_read {K : Kt} {W : WX} : ∀ (ts : List TEd) (acc : Str) (σ : St) (H : Hp) (Q : VK), liftE K W (dJs ts acc) σ H Q → tJs (ts.map fun t => liftE K W t) acc σ H fun out H1 => Q (.str out) H1
  | [], acc, σ, H, Q, ⟨σd, G, q, w, sr, gr, h, cl, cw⟩ => cl _ _ _ _ Tm.refl gr (.str _) h
  | t :: ts, acc, σ, H, Q, ⟨σd, G, q, w, sr, gr, h, cl, cw⟩ => ⟨σd, G, _, w, sr, gr, h, fun v d H1 G1 t1 gr1 r1 h1 => by
    change jsD acc (fun a G1 => dJs ts a w σd G1 q) d G1 at h1
    unfold jsD at h1
    split at h1
    · cases r1
      exact ⟨_, rfl, h1.1, js_read ts _ σ H1 Q ⟨σd, G1, q, w, sr.mono t1, gr1, h1.2, cl.mono t1, cw.mono t1⟩⟩
    · exact h1.elim, cw⟩
theorem de_joined {v1 v2 : Expr} {rest : List Expr} {ts : List TEd} {pos : Pos} (h : DJ X (v1 :: v2 :: rest) ts) : DE X (.JoinedStr (v1 :: v2 :: rest) pos) (dJs ts Str.empty) := fun W tk =>
  PEi (pe_joined (h.pj W tk)) fun σ H Q q => js_read ts Str.empty σ H Q q
end
end S
set_option Elab.async false
set_option linter.all false
set_option maxRecDepth 100000
set_option maxHeartbeats 4000000
namespace S
open PySem PySem.Spec L2
open PyProof.Rows hiding St
/-! ## defs that an except suite calls with the exception in hand -/
/-- the exception that is handled, by its class -/
structure HotJ (K : PySem.W.Frag) (A : Around) (j : Nat) (p : Addr × Obj) : Prop where
  h : L2H.Hot1 A p
  z : Zc (.ref (He.ga K (excN j))) none p.2
structure FnE (P : Program) (w : World) (K : PySem.W.Frag) (mg : Str → Option Value) (base : Heap) (CX : CXT) (k : Nat) (f : Addr) (fd : FuncData) (ps : List Str) (sp : Nat → Addr → Sp) : Prop where
  len : ∀ j a vs H Q E, sp j a vs H Q E → vs.length = ps.length
  run : ∀ (j : Nat) (A : Around) (outer : List Env) (s : Shared) (H : Hp) (args : Args) (us : List Value) (vs : List V) (Q : VK) (E : XK) (p : Addr × Obj), L2H.RoomH k A → HotJ K A j p → L2H.PinOk outer H s p → Env0 P w K mg base A outer s H → BindsTo s fd args (ps.zip us) → Vals vs us →
    sp j p.1 vs H Q E → codeAny (model P w) A (.call (.ref f) args) (CR CX outer P w H s Q E) s
theorem FnE.mono {P : Program} {w : World} {K : PySem.W.Frag} {mg : Str → Option Value} {base : Heap} {CX : CXT} {i k : Nat} {f : Addr} {fd : FuncData} {ps : List Str} {sp : Nat → Addr → Sp} (F : FnE P w K mg base CX i f fd ps sp) (l : i ≤ k) : FnE P w K mg base CX k f fd ps sp :=
  ⟨F.len, fun j A o s H as us vs Q E p h => F.run j A o s H as us vs Q E p (h.mono l)⟩
section
variable {X : Cx} {CX : CXT} {k j : Nat} {f : Addr} {fd : FuncData} {ps : List Str} {sp : Nat → Addr → Sp} {E : St → XK} {x : Str} {q pos : Pos} {e : Expr} {es : List Expr} {t : TA} {pe : Addr × Obj}
theorem run_E {pins : List (Addr × Obj)} {σ : St} {H : Hp} {s : Shared} {Q : VK} {us : List Value} {vs : List V} (F : FnE X.prog X.w X.K X.mg X.base CX k f fd ps sp) (hr : L2H.RoomH k X.A) (hot : HotJ X.K X.A j pe) (hp : pe ∈ X.pn) (hb : Binds X.K fd ps []) (hx : PassesAt CX X σ (E σ))
    (I : Inv X pins σ H s) (r : Vals vs us) (h : sp j pe.1 vs H Q (E σ)) : wpAny (model X.prog X.w) X.A (call (.ref f) us) (EP X pins σ Q) X.xe s := by
  have hl : us.length = ps.length := by rw [← r.length]; exact F.len _ _ _ _ _ _ h
  have b := hb s us I.kIn (by rw [List.append_nil]; exact hl)
  rw [List.append_nil] at b
  have P1 := I.pin pe (List.mem_append_left _ hp)
  have hpin : L2H.PinOk X.stack H s pe := ⟨P1.1, P1.2.1, fun hm => (List.mem_cons.mp (I.stkSub pe.1 hm)).elim P1.2.2.1 P1.2.2.2.1, P1.2.2.2.2⟩
  refine wpAny_call (codeAny_mono (F.run j X.A X.stack s H ⟨us, []⟩ us vs Q (E σ) pe hr hot hpin I.env0 b r h) fun r s' hq => ?_)
  cases r with
  | error e => exact hx pins H s e s' I hq
  | ok fl =>
    cases fl with
    | ret u => exact I.after hq
    | next => exact False.elim hq
    | brk => exact False.elim hq
    | cont => exact False.elim hq
theorem pe_callE (F : FnE X.prog X.w X.K X.mg X.base CX k f fd ps sp) (hr : L2H.RoomH k X.A) (hot : HotJ X.K X.A j pe) (hp : pe ∈ X.pn) (hg : Gl X x) (hm : X.mg x = some (.ref f)) (hk : PySem.W.keepIn X.K (.ref f) = true) (hb : Binds X.K fd ps []) (hx : ∀ σ, PassesAt CX X σ (E σ))
    (ha : PA X (e :: es) t) (hdb : (x == ("__debug__" : Str)) = false) (he : starEach (e :: es) X.env = (false, eval e X.env) :: starEach es X.env) (hpl : (backTo pos (starEach es X.env)).any (·.1) = false) :
    PE X (.Call (.Name x q) (e :: es) [] pos) (tCallS (sp j pe.1) E t) := by
  refine ⟨fun pins s σ H Q I h => ?_⟩
  refine wpAny_Call_Name_kw (ld_glob I hg hm ?_ hdb)
  refine PySem.W.callWith_K (h₀ := X.base) I.ok.mod.kin hk (thn (ha.run pos pins s σ H _ I h) fun us s1 ⟨vs, H1, I1, r, q⟩ => ⟨I1.kIn, ?_⟩) he hpl
  exact run_E F hr hot hp hb (hx σ) I1 r q
end
/-- .. by its promise -/
structure CalE (X : Cx) (name : Str) (sp : Nat → Addr → DSp) : Prop where
  ex : ∃ f fd ps k, FnE X.prog X.w (kt X).1 X.mg X.base (L2N.CX X.prog X.w) k f fd ps (fun j a => liftSp (kt X) (sp j a)) ∧ L2H.RoomH k X.A ∧ X.mg name = some (.ref f) ∧ PySem.W.keepIn X.K (.ref f) = true ∧ Binds X.K fd ps []
/-- what an except suite, and a def called there, know of the exception -/
structure Hj (X : Cx) (et : List Str) (j : Nat) (a : Addr) : Prop where
  is : ∃ oe, (a, oe) ∈ X.pn ∧ HotJ X.K X.A j (a, oe)
section
variable {X : Cx} {e o : Expr} {es : List Expr} {tes : TAd} {pos p apos : Pos} {sp : Nat → Addr → DSp} {x : Str} {et : List Str} {j : Nat} {a : Addr}
theorem de_callE (c : CalE X x sp) (hj : Hj X et j a) (hg : Gl X x) (hd : (x == ("__debug__" : Str)) = false) (ha : DA X (e :: es) tes) (hs : (e :: es).all unstarE = true) : DE X (.Call (.Name x p) (e :: es) [] pos) (dCall (sp j a) tes) := fun W tk => by
  obtain ⟨f, fd, ps, k, F, hr, hm, hk, hb⟩ := c.ex
  obtain ⟨oe, hp, hot⟩ := hj.is
  simp only [List.all_cons, Bool.and_eq_true] at hs
  refine PEi (pe_callE F hr hot hp hg hm hk hb (fun σ => L2N.passAt tk σ) (ha W tk) hd (star_ok hs.1) (plain_ok hs.2)) fun σ H Q ⟨σd, G, q, w, sr, gr, h, cl, cw⟩ => ?_
  exact ⟨σd, G, _, w, sr, gr, h, fun vs ds H1 G1 t1 gr1 r1 h1 => ⟨ds, G1, q, _, r1, gr1, h1, cl.mono t1, fun i d G' H' cls od t2 gr2 ex h2 => cw i d σd σ G' H' cls od (t1.trans t2) (sr.mono (t1.trans t2)) gr2 ex h2⟩, cw⟩
end
end S
set_option Elab.async false
set_option linter.all false
set_option maxRecDepth 100000
set_option maxHeartbeats 4000000
namespace S
open PySem PySem.Spec L2
open PyProof.Rows hiding St
/-! ## from the text to its reading -/
inductive BI where
  | len | isi | list | tuple | all | any | sum | max | min | abs | int | sorted | repr | str | dict | minl | maxl | suml
  deriving DecidableEq
def BI.name : BI → Str
  | .len => "len" | .isi => "isinstance" | .list => "list" | .tuple => "tuple" | .all => "all" | .any => "any" | .sum => "sum" | .max => "max" | .min => "min" | .abs => "abs" | .int => "int" | .sorted => "sorted" | .repr => "repr" | .str => "str" | .dict => "dict" | .minl => "min" | .maxl => "max" | .suml => "sum"
def BI.r : BI → RCd
  | .len => lenD | .isi => isiD | .list => listD | .tuple => tupleD | .all => allD | .any => anyD | .sum => sumD | .max => maxD | .min => minD | .abs => absD | .int => intBD | .sorted => sortedD | .repr => reprD | .str => strOfD | .dict => dictP | .minl => minLD | .maxl => maxLD | .suml => sumLD
/-- what a global name stands for -/
inductive GI where
  | fn (sp : DSp) | cst (d : D) | bi (b : BI) | ty (n : String) | rng | enum | zip | exc | fv (sp : DSp) | cl (c : Nat) (sp : DSp) | fe (sp : Nat → Addr → DSp)
def GIok (X : Cx) (x : Str) : GI → Prop
  | .fn sp => Cal X x sp
  | .cst d => ∃ v u, X.mg x = some u ∧ RelV v u ∧ ∀ H, Rp (kt X) H d v
  | .bi b => X.mg x = none ∧ x = b.name
  | .ty n => X.mg x = none ∧ bootBuiltins x = some (.type n) ∧ x ≠ "__name__"
  | .rng => X.mg x = none ∧ x = "range"
  | .enum => X.mg x = none ∧ x = "enumerate"
  | .zip => X.mg x = none ∧ x = "zip"
  | .exc => X.mg x = some (.ref (He.ga X.K x))
  | .fv sp => Cal X x sp ∧ X.mg x = some (.ref (He.ga X.K x))
  | .cl c sp => MkC X x c sp
  | .fe sp => CalE X x sp
structure CC where
  N : List Str
  sc : Scope
  fx : Str → Bool
  gl : List (Str × GI)
  dn : List Str := []
  ec : List Nat := []
  et : List Str := []
  kd : Bool := false
  fl : List (Str × Nat × Nat) := []
  mt : List (Str × Nat × DSp) := []
structure Gd (X : Cx) (cc : CC) : Prop where
  N : X.N = cc.N
  nd : X.N.Nodup
  sc : X.env.scope = cc.sc
  calm : X.calm = true
  fx : ∀ x, cc.fx x = true → X.fn x = true
  hu : X.A.units + 65 < cLine
  gd : X.A.guards = some []
  gl : ∀ x g, cc.gl.lookup x = some g → GIok X x g
  ec : EcK X.K cc.ec cc.et
  fl : ∀ f c i, cc.fl.lookup f = some (c, i) → ClF X c i f
  mt : ∀ m c sp, (m, c, sp) ∈ cc.mt → MetC X c m sp
def ixOf (x : Str) : List Str → Nat → Option Nat
  | [], _ => none
  | y :: r, i => if y = x then some i else ixOf x r (i + 1)
theorem ixOf_ok {x : Str} : ∀ {l : List Str} {k i : Nat}, ixOf x l k = some i → k ≤ i ∧ l[i - k]? = some x
  | [], _, _, h => by cases h
  | y :: r, k, i, h => by
    unfold ixOf at h
    split at h
    · rename_i e
      cases h
      exact ⟨Nat.le_refl _, by simp [e]⟩
    · obtain ⟨h1, h2⟩ := ixOf_ok h
      refine ⟨by omega, ?_⟩
      have e : i - k = (i - (k + 1)) + 1 := by omega
      rw [e]
      simpa using h2
def visK : Option NameKind → Bool
  | some .local => true
  | some .cell => true
  | some .free => true
  | _ => false
def okName (x : Str) : Bool := !(x == ("__debug__" : Str)) && !(x == ("__classdict__" : Str)) && !(x == ("__name__" : Str))
/-- a name's slot, to be read -/
def slotR (cc : CC) (x : Str) : Option Nat := if visK (cc.sc.names.lookup x) && okName x then ixOf x cc.N 0 else none
/-- .. to be stored -/
def slotW (cc : CC) (x : Str) : Option Nat := match cc.sc.names.lookup x with
  | some .local => ixOf x cc.N 0
  | some .cell => if cc.fx x then ixOf x cc.N 0 else none
  | _ => none
def globG (cc : CC) (x : Str) : Option GI := match cc.sc.names.lookup x with
  | some .globalImplicit => if okName x then cc.gl.lookup x else none
  | _ => none
section
variable {X : Cx} {cc : CC} {x : Str} {i : Nat} {pos : Pos}
theorem okName_ok (h : okName x = true) : (x == ("__debug__" : Str)) = false ∧ (x == ("__classdict__" : Str)) = false ∧ x ≠ "__name__" := by
  unfold okName at h
  simp only [Bool.and_eq_true, Bool.not_eq_true'] at h
  exact ⟨h.1.1, h.1.2, fun e => by have := h.2; rw [e] at this; simp at this⟩
theorem slotR_of (gN : X.N = cc.N) (gsc : X.env.scope = cc.sc) (h : slotR cc x = some i) : DE X (.Name x pos) (dVar i) := by
  unfold slotR at h
  split at h
  · rename_i c
    rw [Bool.and_eq_true] at c
    obtain ⟨h1, h2, _⟩ := okName_ok c.2
    obtain ⟨_, h3⟩ := ixOf_ok h
    refine de_var (by rw [gN]; simpa using h3) ?_ h1 h2
    have c1 := c.1
    rw [← gsc] at c1
    unfold Vis
    unfold visK at c1
    split at c1 <;> first | (rename_i e; exact .inl e) | (rename_i e; exact .inr (.inl e)) | (rename_i e; exact .inr (.inr e)) | cases c1
  · cases h
theorem slotR_ok (g : Gd X cc) (h : slotR cc x = some i) : DE X (.Name x pos) (dVar i) := slotR_of g.N g.sc h
theorem slotW_of (gN : X.N = cc.N) (gsc : X.env.scope = cc.sc) (gfx : ∀ x, cc.fx x = true → X.fn x = true) (h : slotW cc x = some i) : X.N[i]? = some x ∧ Loc X.env.scope x ∧ (X.fn x = true ∨ X.env.scope.names.lookup x = some .local) := by
  unfold slotW at h
  split at h
  · rename_i e
    obtain ⟨_, h3⟩ := ixOf_ok h
    rw [gN, gsc]
    exact ⟨by simpa using h3, .inl e, .inr e⟩
  · rename_i e
    split at h
    · rename_i c
      obtain ⟨_, h3⟩ := ixOf_ok h
      rw [gN, gsc]
      exact ⟨by simpa using h3, .inr e, .inl (gfx x c)⟩
    · cases h
  · cases h
theorem slotW_ok (g : Gd X cc) (h : slotW cc x = some i) : X.N[i]? = some x ∧ Loc X.env.scope x ∧ (X.fn x = true ∨ X.env.scope.names.lookup x = some .local) := slotW_of g.N g.sc g.fx h
theorem globG_ok {gi : GI} (g : Gd X cc) (h : globG cc x = some gi) : Gl X x ∧ (x == ("__debug__" : Str)) = false ∧ x ≠ "__name__" ∧ GIok X x gi := by
  unfold globG at h
  split at h
  · rename_i e
    split at h
    · rename_i c
      obtain ⟨h1, h2, h3⟩ := okName_ok c
      exact ⟨by unfold Gl Env.kindOf; rw [g.sc]; exact e, h1, h3, g.gl x gi h⟩
    · cases h
  · cases h
end
def cName (cc : CC) (x : Str) : Option TEd := match slotR cc x with
  | some i => some (dVar i)
  | none => match globG cc x with
    | some (.cst d) => some (dC d)
    | some (.ty n) => some (dC (.ty n))
    | some (.bi .list) => some (dC (.ty "list"))
    | some (.bi .tuple) => some (dC (.ty "tuple"))
    | some (.bi .int) => some (dC (.ty "int"))
    | some (.bi .str) => some (dC (.ty "str"))
    | some (.bi .dict) => some (dC (.ty "dict"))
    | some .exc => some (dC (.fn x))
    | some (.fv _) => some (dC (.fn x))
    | _ => none
theorem de_ty {X : Cx} {x : Str} {n : String} {pos : Pos} (hg : Gl X x) (hd : (x == ("__debug__" : Str)) = false) (hn : x ≠ "__name__") (hm : X.mg x = none) (hb : bootBuiltins x = some (.type n)) : DE X (.Name x pos) (dC (.ty n)) :=
  de_c (v := .ty n) (pe_bltn hg hm hb rfl hn hd) fun _ => .ty n
theorem cName_ok {X : Cx} {cc : CC} {x : Str} {t : TEd} {pos : Pos} (g : Gd X cc) (h : cName cc x = some t) : DE X (.Name x pos) t := by
  unfold cName at h
  split at h
  · rename_i e; cases h; exact slotR_ok g e
  · split at h
    · rename_i e; cases h
      obtain ⟨h1, h2, h3, v, u, h4, h5, h6⟩ := globG_ok g e
      exact de_c (pe_glob h1 h4 h5 h2) h6
    · rename_i e; cases h
      obtain ⟨h1, h2, h3, h4, h5, h6⟩ := globG_ok g e
      exact de_ty h1 h2 h3 h4 h5
    · rename_i e; cases h
      obtain ⟨h1, h2, h3, h4, rfl⟩ := globG_ok g e
      exact de_ty h1 h2 h3 h4 (by first | exact PyProof.Rows.boot_list | exact PySem.boot_list)
    · rename_i e; cases h
      obtain ⟨h1, h2, h3, h4, rfl⟩ := globG_ok g e
      exact de_ty h1 h2 h3 h4 (by first | exact PyProof.Rows.boot_tuple | exact PySem.boot_tuple)
    · rename_i e; cases h
      obtain ⟨h1, h2, h3, h4, rfl⟩ := globG_ok g e
      exact de_ty h1 h2 h3 h4 (by first | exact PyProof.Rows.boot_int | exact PySem.boot_int)
    · rename_i e; cases h
      obtain ⟨h1, h2, h3, h4, rfl⟩ := globG_ok g e
      exact de_ty h1 h2 h3 h4 PyProof.Rows.boot_str
    · rename_i e; cases h
      obtain ⟨h1, h2, h3, h4, rfl⟩ := globG_ok g e
      exact de_ty h1 h2 h3 h4 PyProof.Rows.boot_dict
    · rename_i e; cases h
      obtain ⟨h1, h2, h3, h4⟩ := globG_ok g e
      exact de_c (v := .ref (He.ga X.K x)) (pe_glob h1 h4 rfl h2) fun H => .fn x
    · rename_i e; cases h
      obtain ⟨h1, h2, h3, _, h4⟩ := globG_ok g e
      exact de_c (v := .ref (He.ga X.K x)) (pe_glob h1 h4 rfl h2) fun H => .fn x
    · cases h
/-! a def held in a local -/
def fvAt (gl : List (Str × GI)) (f : Str) : Option DSp := match gl.lookup f with
  | some (.fv sp) => some sp
  | _ => none
def dCallV (i : Nat) (S : Str → Option DSp) (t : TAd) : TEd := fun w σ G Q => ∃ f sp, σ[i]? = some (some (.fn f)) ∧ S f = some sp ∧ t w σ G fun ds G1 => sp ds G1 Q fun i d G2 => w i d σ G2
theorem de_callV {X : Cx} {cc : CC} {x : Str} {i : Nat} {p pos : Pos} {e : Expr} {es : List Expr} {tes : TAd} (g : Gd X cc) (h : slotR cc x = some i) (ha : DA X (e :: es) tes) (hs : (e :: es).all unstarE = true) : DE X (.Call (.Name x p) (e :: es) [] pos) (dCallV i (fvAt cc.gl) tes) := fun W tk => ⟨fun pins s σ H Q I ⟨σd, G, q, w, sr, gr, ⟨f, sp, hi, hL, h2⟩, cl, cw⟩ => by
  have hl : cc.gl.lookup f = some (.fv sp) := by
    unfold fvAt at hL
    split at hL
    · rename_i e; cases hL; exact e
    · cases hL
  obtain ⟨c, hm⟩ := g.gl f _ hl
  obtain ⟨fa, fd, ps, k, F, hr, hm', hk, hb⟩ := c.ex
  have ef : fa = He.ga X.K f := by rw [hm] at hm'; cases hm'; rfl
  subst ef
  obtain ⟨v, hv, rv⟩ := sr.at_ i _ hi
  have ev : v = .ref (He.ga X.K f) := by cases rv; rfl
  subst ev
  simp only [List.all_cons, Bool.and_eq_true] at hs
  have hvar : PE X (.Name x p) (fun σ H Q => ∃ v, σ[i]? = some (some v) ∧ Q v H) := by
    unfold slotR at h
    split at h
    · rename_i c
      rw [Bool.and_eq_true] at c
      obtain ⟨h1, h2, _⟩ := okName_ok c.2
      obtain ⟨_, h3⟩ := ixOf_ok h
      refine pe_var (by rw [g.N]; simpa using h3) ?_ h1 h2
      have c1 := c.1
      rw [← g.sc] at c1
      unfold Vis
      unfold visK at c1
      split at c1 <;> first | (rename_i e; exact .inl e) | (rename_i e; exact .inr (.inl e)) | (rename_i e; exact .inr (.inr e)) | cases c1
    · cases h
  refine wpAny_Call_Name_kw (thn (hvar.run pins s σ H (fun v H1 => v = .ref (He.ga X.K f) ∧ H1 = H) I ⟨_, hv, rfl, rfl⟩) fun u s1 ⟨v, H1, I1, r1, q1⟩ => ?_)
  obtain ⟨rfl, rfl⟩ := q1
  cases r1
  refine PySem.W.callWith_K (h₀ := X.base) I.ok.mod.kin hk (thn ((ha W tk).run pos pins s1 σ _ (fun vs H2 => liftSp (kt X) sp vs H2 Q (WE W σ)) I1 ?_) fun us s2 ⟨vs, H2, I2, r, q⟩ => ⟨I2.kIn, run_G F hr hb (L2N.passAt tk σ) I2 r q⟩) (star_ok hs.1) (plain_ok hs.2)
  exact ⟨σd, G, _, w, sr, gr, h2, fun vs ds H1 G1 t1 gr1 r1 h1 => ⟨ds, G1, q, _, r1, gr1, h1, cl.mono t1, fun i d G' H' cls od t2 gr2 ex h2 => cw i d σd σ G' H' cls od (t1.trans t2) (sr.mono (t1.trans t2)) gr2 ex h2⟩, cw⟩⟩
/-! operators -/
def opRd : Operator → Option R2d
  | .Add => some addD | .Sub => some subD | .Mult => some mulD | .Mod => some modD | .FloorDiv => some divD | .Pow => some powD | _ => none
theorem opRd_ok {X : Cx} : ∀ {op : Operator} {r : R2d}, opRd op = some r → OpD X (binaryOp op) r
  | .Add, _, h => by cases h; exact od_add
  | .Sub, _, h => by cases h; exact od_sub
  | .Mult, _, h => by cases h; exact od_mul
  | .Mod, _, h => by cases h; exact od_mod
  | .FloorDiv, _, h => by cases h; exact od_div
  | .Pow, _, h => by cases h; exact od_pow
def cmpRd : CmpOp → Option R2d
  | .Eq => some (eqR false) | .NotEq => some (eqR true) | .Lt => some ltD | .LtE => some leD | .Gt => some gtD | .GtE => some geD | .Is => some (isND false) | .IsNot => some (isND true) | .In => some (inD false) | .NotIn => some (inD true)
theorem cmpRd_ok {X : Cx} (hu2 : X.A.units + 65 < cLine) {op : CmpOp} {r : R2d} (h : cmpRd op = some r) : OpD X (compareOp op) r := by
  have hu : X.A.units + 64 < cLine := by omega
  cases op <;> cases h
  · exact od_eq hu
  · exact od_ne hu
  · exact od_lt hu2
  · exact od_le
  · exact od_gt
  · exact od_ge
  · exact od_is
  · exact od_isnot
  · exact od_inB false hu hu2
  · exact od_inB true hu hu2
theorem BI_ok {X : Cx} {cc : CC} (g : Gd X cc) {x : Str} {p pos : Pos} {e : Expr} {es : List Expr} {tes : TAd} {b : BI} (h : globG cc x = some (.bi b)) (ha : DA X (e :: es) tes) (hs : (e :: es).all unstarE = true) : DE X (.Call (.Name x p) (e :: es) [] pos) (dBi b.r tes) := by
  obtain ⟨h1, h2, h3, h4, rfl⟩ := globG_ok g h
  cases b with
  | len => exact de_bi bd_len h1 h4 (by first | exact PyProof.Rows.boot_len | exact PySem.boot_len) ha h3 h2 hs
  | isi => exact de_bi bd_isi h1 h4 (by first | exact PyProof.Rows.boot_isinstance | exact PySem.boot_isinstance) ha h3 h2 hs
  | list => exact de_bty bd_list h1 h4 (by first | exact PyProof.Rows.boot_list | exact PySem.boot_list) ha h3 h2 hs
  | tuple => exact de_bty bd_tuple h1 h4 (by first | exact PyProof.Rows.boot_tuple | exact PySem.boot_tuple) ha h3 h2 hs
  | all => exact de_bi (bd_all g.calm) h1 h4 (by first | exact PyProof.Rows.boot_all | exact PySem.boot_all) ha h3 h2 hs
  | any => exact de_bi (bd_any g.calm) h1 h4 (by first | exact PyProof.Rows.boot_any | exact PySem.boot_any) ha h3 h2 hs
  | sum => exact de_bi (bd_sum g.calm) h1 h4 (by first | exact PyProof.Rows.boot_sum | exact PySem.boot_sum) ha h3 h2 hs
  | max => exact de_bi (bd_max g.calm g.hu) h1 h4 (by first | exact PyProof.Rows.boot_max | exact PySem.boot_max) ha h3 h2 hs
  | min => exact de_bi (bd_min g.calm g.hu) h1 h4 (by first | exact PyProof.Rows.boot_min | exact PySem.boot_min) ha h3 h2 hs
  | abs => exact de_bi bd_abs h1 h4 (by first | exact PyProof.Rows.boot_abs | exact PySem.boot_abs) ha h3 h2 hs
  | int => exact de_bty bd_int h1 h4 (by first | exact PyProof.Rows.boot_int | exact PySem.boot_int) ha h3 h2 hs
  | sorted => exact de_bi (bd_sorted g.hu) h1 h4 (by first | exact PyProof.Rows.boot_sorted | exact PySem.boot_sorted | decide +kernel) ha h3 h2 hs
  | repr => exact de_bi (bd_repr g.hu g.gd) h1 h4 PyProof.Rows.boot_repr ha h3 h2 hs
  | str => exact de_bty (bd_strOf g.hu g.gd) h1 h4 PyProof.Rows.boot_str ha h3 h2 hs
  | suml => exact de_bi (bd_sumL g.calm) h1 h4 (by first | exact PyProof.Rows.boot_sum | exact PySem.boot_sum) ha h3 h2 hs
  | maxl => exact de_bi (bd_maxL g.calm g.hu) h1 h4 (by first | exact PyProof.Rows.boot_max | exact PySem.boot_max) ha h3 h2 hs
  | minl => exact de_bi (bd_minL g.calm g.hu) h1 h4 (by first | exact PyProof.Rows.boot_min | exact PySem.boot_min) ha h3 h2 hs
  | dict => exact de_bty (bd_dictP g.calm g.hu) h1 h4 PyProof.Rows.boot_dict ha h3 h2 hs
def biR : Bool → BI → RCd
  | true, .sorted => sortedG
  | _, b => b.r
theorem biR_ok {X : Cx} {cc : CC} (g : Gd X cc) {k : Bool} {x : Str} {p pos : Pos} {e : Expr} {es : List Expr} {tes : TAd} {b : BI} (h : globG cc x = some (.bi b)) (ha : DA X (e :: es) tes) (hs : (e :: es).all unstarE = true) : DE X (.Call (.Name x p) (e :: es) [] pos) (dBi (biR k b) tes) := by
  unfold biR
  split
  · obtain ⟨h1, h2, h3, h4, rfl⟩ := globG_ok g h
    exact de_bi (bd_sortedG g.hu) h1 h4 (by first | exact PyProof.Rows.boot_sorted | exact PySem.boot_sorted | decide +kernel) ha h3 h2 hs
  · exact BI_ok g h ha hs
/-! lists of parts -/
def mapA (f : Expr → Option TEd) : List Expr → Option TAd
  | [] => some dNil
  | e :: es => match f e, mapA f es with
    | some t, some u => some (dCons t u)
    | _, _ => none
def isTupE : Expr → Bool
  | .Tuple .. => true
  | _ => false
def boV (f : Expr → Option TEd) (op : BoolOp) : List Expr → Option TEd
  | [] => none
  | [a] => f a
  | a :: b :: r => match f a, boV f op (b :: r) with
    | some t, some u => some (match op with
      | .And => dAndV t u
      | .Or => if (isTupE b && r.isEmpty) = true then dOrW t u else dOrV t u)
    | _, _ => none
def boT (f : Expr → Option TTd) (op : BoolOp) : List Expr → Option TTd
  | [] => none
  | [a] => f a
  | a :: b :: r => match f a, boT f op (b :: r) with
    | some t, some u => some (match op with
      | .And => dAnd t u
      | .Or => dOr t u)
    | _, _ => none
section
variable {X : Cx} {f : Expr → Option TEd} {fT : Expr → Option TTd}
theorem mapA_ok (hf : ∀ e t, f e = some t → DE X e t ∧ unstarE e = true) : ∀ {es : List Expr} {t : TAd}, mapA f es = some t → DA X es t ∧ es.all unstarE = true
  | [], _, h => by cases h; exact ⟨da_nil, rfl⟩
  | e :: es, _, h => by
    unfold mapA at h
    split at h
    · rename_i h1 h2; cases h
      obtain ⟨a1, a2⟩ := hf _ _ h1
      obtain ⟨b1, b2⟩ := mapA_ok hf h2
      exact ⟨da_cons a1 b1 a2, by simp [a2, b2]⟩
    · cases h
theorem boV_ok (hf : ∀ e t, f e = some t → DE X e t ∧ unstarE e = true) {op : BoolOp} {pos : Pos} : ∀ {es : List Expr} {t : TEd}, boV f op es = some t → DE X (.BoolOp op es pos) t
  | [], _, h => by cases h
  | [a], _, h => de_one (hf _ _ h).1
  | a :: b :: r, _, h => by
    unfold boV at h
    split at h
    · rename_i h1 h2; cases h
      cases op with
      | And => exact de_and (hf _ _ h1).1 (boV_ok hf h2)
      | Or =>
        show DE X _ (if (isTupE b && r.isEmpty) = true then _ else _)
        split
        · exact de_orW (hf _ _ h1).1 (boV_ok hf h2)
        · exact de_or (hf _ _ h1).1 (boV_ok hf h2)
    · cases h
theorem boT_ok (hf : ∀ e t, fT e = some t → DT X e t) {op : BoolOp} {pos : Pos} : ∀ {es : List Expr} {t : TTd}, boT fT op es = some t → DW X (.BoolOp op es pos) t
  | [], _, h => by cases h
  | [a], _, h => by
    cases op with
    | And => exact dw_and1 (hf _ _ h)
    | Or => exact dw_or1 (hf _ _ h)
  | a :: b :: r, _, h => by
    unfold boT at h
    split at h
    · rename_i h1 h2; cases h
      cases op with
      | And => exact dw_and (hf _ _ h1) (boT_ok hf h2)
      | Or => exact dw_or (hf _ _ h1) (boT_ok hf h2)
    · cases h
end
/-! targets -/
def mapG (f : Expr → Option (List Nat × TGd)) : List Expr → Option (List Nat × TGsd)
  | [] => some ([], dgNil)
  | e :: es => match f e, mapG f es with
    | some (sl, t), some (sl', u) => some (sl ++ sl', dgCons t u)
    | _, _ => none
/-- by what a def's dicts are keyed -/
def setR : Bool → D → D → D → Hd → (Hd → Prop) → Prop
  | true => setK
  | false => setD
theorem psetr {X : Cx} (hu : X.A.units + 9 < cLine) : ∀ b, PSet X (lift3 (kt X) (setR b))
  | true => psetk hu
  | false => psetd hu
def ixR : Bool → R2d
  | true => ixK
  | false => ixD
theorem de_ixR {X : Cx} {a b : Expr} {ta tb : TEd} {pos : Pos} (hu : X.A.units + 9 < cLine) (ha : DE X a ta) (hb : DE X b tb) (hs : PlainIx b) : ∀ k, DE X (.Subscript a b pos) (dOp (ixR k) ta tb)
  | true => de_ixK hu ha hb hs
  | false => de_ix hu ha hb hs
def newR : Bool → TEd
  | true => dKnew
  | false => dDnew
theorem de_newR {X : Cx} {pos : Pos} : ∀ k, DE X (.Dict [] [] pos) (newR k)
  | true => de_knew
  | false => de_dnew
def itR : Bool → TEd → TId
  | true => dItJ
  | false => dItI
def cmpRdK (k : Bool) (op : CmpOp) : Option R2d := match k, op with
  | true, .In => some (inJ false)
  | true, .NotIn => some (inJ true)
  | _, op => cmpRd op
theorem cmpRdK_ok {X : Cx} (hu2 : X.A.units + 65 < cLine) {k : Bool} {op : CmpOp} {r : R2d} (h : cmpRdK k op = some r) : OpD X (compareOp op) r := by
  unfold cmpRdK at h
  split at h
  · cases h; exact od_inJ false (by omega) hu2
  · cases h; exact od_inJ true (by omega) hu2
  · exact cmpRd_ok hu2 h
def cTg (cc : CC) (f : Expr → Option TEd) : Nat → Expr → Option (List Nat × TGd)
  | 0, _ => none
  | n + 1, e => match e with
    | .Name x _ => match slotW cc x with
      | some i => some ([i], dgName i)
      | none => none
    | .Tuple es _ _ => match mapG (cTg cc f n) es with
      | some (sl, t) => some (sl, dgTup es.length t)
      | none => none
    | .Subscript o i _ => if plainE i then (match f o, f i with
      | some to, some ti => some ([], dgSub to ti (setR cc.kd))
      | _, _ => none) else none
    | .Attribute o x _ => match cc.fl.lookup x, f o with
      | some (c, i), some to => some ([], dgFld c i to)
      | _, _ => none
    | _ => none
theorem assign_ok {env : Env} : ∀ {es : List Expr}, es.all unstarE = true → (assignEach es env).length = es.length ∧ (assignEach es env).findIdx? (·.1) = none
  | [], _ => ⟨rfl, rfl⟩
  | e :: es, h => by
    simp only [List.all_cons, Bool.and_eq_true] at h
    have e1 : assignEach (e :: es) env = (false, assign e env) :: assignEach es env := by
      cases e <;> first | rfl | cases h.1
    obtain ⟨h1, h2⟩ := assign_ok (env := env) h.2
    rw [e1]
    refine ⟨by simp [h1], ?_⟩
    rw [List.findIdx?_cons]
    simp [h2]
section
variable {X : Cx} {cc : CC} {f : Expr → Option TEd}
theorem mapG_ok {f : Expr → Option (List Nat × TGd)} (hf : ∀ e sl t, f e = some (sl, t) → DG X e sl t ∧ unstarE e = true) : ∀ {es : List Expr} {sl : List Nat} {t : TGsd}, mapG f es = some (sl, t) → DGs X es sl t ∧ es.all unstarE = true
  | [], _, _, h => by cases h; exact ⟨dgs_nil, rfl⟩
  | e :: es, _, _, h => by
    unfold mapG at h
    split at h
    · rename_i h1 h2; cases h
      obtain ⟨a1, a2⟩ := hf _ _ _ h1
      obtain ⟨b1, b2⟩ := mapG_ok hf h2
      refine ⟨dgs_cons a1 b1 ?_, by simp [a2, b2]⟩
      cases e <;> first | rfl | cases a2
    · cases h
theorem cTg_ok (g : Gd X cc) (hf : ∀ e t, f e = some t → DE X e t ∧ unstarE e = true) : ∀ {n : Nat} {e : Expr} {sl : List Nat} {t : TGd}, cTg cc f n e = some (sl, t) → DG X e sl t ∧ unstarE e = true
  | 0, _, _, _, h => by cases h
  | n + 1, e, _, _, h => by
    unfold cTg at h
    split at h
    · split at h
      · rename_i hs; cases h
        obtain ⟨h1, h2, h3⟩ := slotW_ok g hs
        exact ⟨dg_name g.nd h1 h2 h3, rfl⟩
      · cases h
    · split at h
      · rename_i hs; cases h
        obtain ⟨h1, h2⟩ := mapG_ok (fun e sl t => cTg_ok g hf) hs
        obtain ⟨a1, a2⟩ := assign_ok (env := X.env) h2
        exact ⟨dg_tup g.calm h1 a1 a2, rfl⟩
      · cases h
    · split at h
      · rename_i hp
        split at h
        · rename_i h1 h2; cases h
          exact ⟨dg_sub (hf _ _ h1).1 (hf _ _ h2).1 (psetr (by have := g.hu; omega) _) hp, rfl⟩
        · cases h
      · cases h
    · split at h
      · rename_i h1 h2; cases h
        exact ⟨dg_fld (g.fl _ _ _ h1) (hf _ _ h2).1, rfl⟩
      · cases h
    · cases h
end
end S
set_option Elab.async false
set_option linter.all false
set_option maxRecDepth 100000
set_option maxHeartbeats 4000000
namespace S
open PySem PySem.Spec L2
open PyProof.Rows hiding St
def ownOf (N : List Str) (scope : Scope) : List (Str × Nat) := scope.names.filterMap fun p => match p.2 with
  | .local => (ixOf p.1 N 0).map fun i => (p.1, i)
  | .cell => (ixOf p.1 N 0).map fun i => (p.1, i)
  | _ => none
def inBlk (cc : CC) (scope : Scope) : CC := ⟨cc.N, relS scope cc.sc, fun x => scope.names.lookup x == some .cell, cc.gl, cc.dn, cc.ec, cc.et, cc.kd, cc.fl, cc.mt⟩
def subB (sl : List Nat) (own : List (Str × Nat)) : Bool := sl.all fun j => (own.map (·.2)).contains j
def isSet : Expr → Bool
  | .Set .. => true
  | _ => false
def optP (f : Expr → Option TEd) : Option Expr → Option TOd
  | none => some dNoPart
  | some e => match f e with
    | some t => some (dPart t)
    | none => none
/-- a built-in type's method by its name: the type, what it does -/
def mthd (m : Str) : Option (String × RMd) := if m = "append" then some ("list", appendD) else if m = "extend" then some ("list", extendD) else if m = "pop" then some ("list", popD) else if m = "count" then some ("list", countD) else if m = "index" then some ("list", indexD) else if m = "join" then some ("str", joinD) else if m = "split" then some ("str", splitD) else if m = "partition" then some ("str", partD) else if m = "strip" then some ("str", stripD) else if m = "find" then some ("str", findD) else none
/-- .. behind the mark "#x": count and index of a text -/
def mthdX (b : Bool) (m : Str) : Option (String × RMd) := match b with
  | true => if m = "count" then some ("str", countT) else if m = "index" then some ("str", indexT) else mthd m
  | false => mthd m
/-- .. without arguments -/
def mth0 (m : Str) : Option (String × RMd) := if m = "clear" then some ("list", clearD) else if m = "reverse" then some ("list", revsD) else if m = "pop" then some ("list", popD) else none
/-- list(range(..)): its parts -/
def lrOf (cc : CC) (x : Str) (e : Expr) (es : List Expr) : Option (Expr × Option Expr) := match globG cc x, es with
  | some (.bi .list), [] => match e with
    | .Call (.Name y _) [a] [] _ => match globG cc y with
      | some .rng => some (a, none)
      | _ => none
    | .Call (.Name y _) [a, b] [] _ => match globG cc y with
      | some .rng => some (a, some b)
      | _ => none
    | _ => none
  | _, _ => none
/-- len(set(..)) -/
def lsOf (cc : CC) (x : Str) (e : Expr) (es : List Expr) : Option Expr := match globG cc x, es with
  | some (.bi .len), [] => match e with
    | .Call (.Name y _) [a] [] _ => match globG cc y with
      | some (.ty n) => if n = "set" then some a else none
      | _ => none
    | _ => none
  | _, _ => none
/-- a new dict that may take keys of either kind -/
def dXnew : TEd := fun w σ G Q => dKnew w σ G Q ∨ dDnew w σ G Q
def newX : Bool → Bool → TEd
  | true, _ => dXnew
  | false, k => newR k
theorem de_newX {X : Cx} {pos : Pos} : ∀ m k, DE X (.Dict [] [] pos) (newX m k)
  | true, _ => fun W tk => ⟨fun pins s σ H Q I ⟨σd, G, q, w, sr, gr, h, cl, cw⟩ => by
    rcases h with h | h
    · exact (de_newR true W tk).run pins s σ H Q I ⟨σd, G, q, w, sr, gr, h, cl, cw⟩
    · exact (de_newR false W tk).run pins s σ H Q I ⟨σd, G, q, w, sr, gr, h, cl, cw⟩⟩
  | false, k => de_newR k
/-- a built-in function of a dict by its name -/
def isDn (cc : CC) : Expr → Bool
  | .Name y _ => cc.dn.contains y
  | .Attribute _ f _ => cc.dn.contains f
  | .Call (.Name y _) _ [] _ => cc.dn.contains y
  | _ => false
def dnB (cc : CC) (x : Str) (e : Expr) (es : List Expr) : Option RCd := match es with
  | [] => if isDn cc e then (match globG cc x with
    | some (.bi .list) => some listK
    | some (.bi .sorted) => some (if cc.kd then sortedI else sortedT)
    | _ => none) else none
  | _ => none
/-- a dict's method by its name -/
def dmth (dn : Bool) (m : Str) : Option RMd := if m = "get" then some getD else if m = "setdefault" then some setdD else if m = "pop" then (if dn then some popT else none) else none
theorem lkp_mem {α : Type} {m : Str} {v : α} : ∀ {l : List (Str × α)}, l.lookup m = some v → (m, v) ∈ l
  | [], h => by cases h
  | (k, u) :: l, h => by
    rw [List.lookup_cons] at h
    split at h
    · rename_i q; cases h; cases eq_of_beq q; exact List.mem_cons_self
    · exact List.mem_cons_of_mem _ (lkp_mem h)
/-- a method that two classes have -/
def mt2 : List (Str × Nat × DSp) → Str → Nat → Option (Nat × DSp)
  | [], _, _ => none
  | (k, c', sp) :: l, m, c => if k = m then (if c' = c then mt2 l m c else some (c', sp)) else mt2 l m c
theorem mt2_mem {m : Str} {c c' : Nat} {sp : DSp} : ∀ {l : List (Str × Nat × DSp)}, mt2 l m c = some (c', sp) → (m, c', sp) ∈ l
  | [], h => by cases h
  | (k, c2, sp2) :: l, h => by
    unfold mt2 at h
    split at h
    · rename_i e; subst e
      split at h
      · exact List.mem_cons_of_mem _ (mt2_mem h)
      · cases h; exact List.mem_cons_self
    · exact List.mem_cons_of_mem _ (mt2_mem h)
def dOrE (t u : TEd) : TEd := fun w σ G Q => t w σ G Q ∨ u w σ G Q
theorem de_orE {X : Cx} {e : Expr} {t u : TEd} (h1 : DE X e t) (h2 : DE X e u) : DE X e (dOrE t u) := fun W tk => ⟨fun pins s σ H Q I ⟨σd, G, q, w, sr, gr, h, cl, cw⟩ => by
  rcases h with h | h
  · exact (h1 W tk).run pins s σ H Q I ⟨σd, G, q, w, sr, gr, h, cl, cw⟩
  · exact (h2 W tk).run pins s σ H Q I ⟨σd, G, q, w, sr, gr, h, cl, cw⟩⟩
def dMeths (mt : List (Str × Nat × DSp)) (m : Str) (c : Nat) (sp : DSp) (to : TEd) (t : TAd) : TEd := match mt2 mt m c with
  | none => dMeth c sp to t
  | some (c', sp') => dOrE (dMeth c sp to t) (dMeth c' sp' to t)
theorem dMeths_ok {X : Cx} {e : Expr} {mt : List (Str × Nat × DSp)} {m : Str} {c : Nat} {sp : DSp} {to : TEd} {t : TAd} (hm : (m, c, sp) ∈ mt) (h : ∀ c sp, (m, c, sp) ∈ mt → DE X e (dMeth c sp to t)) : DE X e (dMeths mt m c sp to t) := by
  unfold dMeths
  split
  · exact h _ _ hm
  · rename_i q; exact de_orE (h _ _ hm) (h _ _ (mt2_mem q))
def dmthK (k dn : Bool) (m : Str) : Option (Bool × RMd) := match k with
  | true => if m = "get" then some (true, getK) else if m = "setdefault" then some (true, sdfK) else if m = "pop" then some (true, popK) else none
  | false => match dmth dn m with
    | some r => some (false, r)
    | none => none
def dmR : Bool → RMd → TEd → TAd → TEd
  | true => dKm
  | false => dDm
/-- sorted(d.items()): d -/
def srtOf (cc : CC) (x : Str) (e : Expr) (es : List Expr) : Option Expr := match cc.kd, globG cc x, es, e with
  | true, some (.bi .sorted), [], .Call (.Attribute o m apos) [] [] cpos => if m = "items" && apos.endLine == cpos.line then some o else none
  | _, _, _, _ => none
/-- the keys of a dict, whole numbers behind the mark "#k" -/
def itKR : Bool → TEd → TId
  | true => dItL
  | false => dItK
def isSub : Expr → Bool
  | .Subscript .. => true
  | _ => false
def itVR (b : Bool) (t : TEd) : TId := match b with
  | true => dItL t
  | false => dItV t
/-- a name behind the mark "#t": a dict whose keys are tuples -/
def isTn (cc : CC) : Expr → Bool
  | .Name x _ => (cc.dn.dropWhile fun y : Str => !(y == ("#t" : Str))).contains x
  | _ => false
theorem di_itKR {X : Cx} {tg e : Expr} {te : TEd} (he : DE X e te) : ∀ b, DI X tg e (itKR b te)
  | true => di_keysK he
  | false => di_keysD he
theorem di_itVR {X : Cx} {tg e : Expr} {te : TEd} (he : DE X e te) : ∀ b, DI X tg e (itVR b te)
  | true => di_keysK he
  | false => di_v he
def mapL (f : Expr → Option TEd) : List Expr → Option (List TEd)
  | [] => some []
  | e :: es => match f e, mapL f es with
    | some t, some u => some (t :: u)
    | _, _ => none
theorem mapL_ok {X : Cx} {f : Expr → Option TEd} (hf : ∀ e t, f e = some t → DE X e t ∧ unstarE e = true) : ∀ {es : List Expr} {ts : List TEd}, mapL f es = some ts → DJ X es ts
  | [], _, h => by cases h; exact .nil
  | e :: es, _, h => by
    unfold mapL at h
    split at h
    · rename_i h1 h2; cases h
      exact .cons (hf _ _ h1).1 (mapL_ok hf h2)
    · cases h
mutual
def compE : Nat → CC → Expr → Option TEd
  | 0, _, _ => none
  | n + 1, cc, e => match e with
    | .Constant (.int i) _ _ => some (dC (.int i))
    | .Constant (.bool b) _ _ => some (dC (.bl b))
    | .Constant .none _ _ => some (dC .non)
    | .Constant (.str x) _ _ => some (dC (.str x))
    | .Name x _ => cName cc x
    | .BinOp a op b _ => match opRd op, compE n cc a, compE n cc b with
      | some r, some ta, some tb => some (dOp r ta tb)
      | _, _, _ => none
    | .UnaryOp .Not a _ => match compE n cc a with
      | some t => some (dNotV t)
      | none => none
    | .UnaryOp .USub a _ => match compE n cc a with
      | some t => some (dUn negD t)
      | none => none
    | .BoolOp op es _ => boV (compE n cc) op es
    | .Compare a [op] [b] _ => match cmpRdK cc.kd op, compE n cc a, compE n cc b with
      | some r, some ta, some tb => some (dOp r ta tb)
      | _, _, _ => none
    | .Compare a [op, op'] [b, c] _ => match cmpRd op, cmpRd op', compE n cc a, compE n cc b, compE n cc c with
      | some r, some r', some ta, some tb, some tc => some (dChain r r' ta tb tc)
      | _, _, _, _, _ => none
    | .IfExp c a b _ => match compT n cc c, compE n cc a, compE n cc b with
      | some t, some ta, some tb => some (dIfE t ta tb)
      | _, _, _ => none
    | .Dict [] [] _ => some (newX (cc.dn.contains "*") cc.kd)
    | .Dict [some k] [v] _ => match compE n cc k, compE n cc v with
      | some t, some u => some (dDict1 t u)
      | _, _ => none
    | .Dict (some k :: k2 :: ks) vs _ => match litKV (some k :: k2 :: ks) vs with
      | some kvs => if nodupS kvs && !kvs.isEmpty && decide (kvs.length ≤ 15) then some (dLitE kvs) else none
      | none => none
    | .Attribute o f _ => match cc.fl.lookup f, compE n cc o with
      | some (c, i), some t => some (dFld c i t)
      | _, _ => none
    | .Call (.Name x _) [] [] _ => if x = "super" then none else (match globG cc x with
      | some (.cl c sp) => some (dMake c sp dNil)
      | some (.fn sp) => some (dCall sp dNil)
      | _ => none)
    | .Tuple es _ _ => match mapA (compE n cc) es with
      | some t => some (dTup t)
      | none => none
    | .List es _ => match mapA (compE n cc) es with
      | some t => some (dLst t)
      | none => none
    | .Subscript o (.Slice lo hi none _) _ => match compE n cc o, optP (compE n cc) lo, optP (compE n cc) hi with
      | some t, some tl, some th => some (dSl t tl th)
      | _, _, _ => none
    | .Subscript o (.Slice none none (some (.UnaryOp .USub (.Constant (.int 1) _ _) _)) _) _ => match compE n cc o with
      | some t => some (dUn revD t)
      | none => none
    | .Subscript (.Dict ks vs _) i _ => if plainE i then (match litKV ks vs, compE n cc i with
      | some kvs, some ti => if nodupS kvs && !kvs.isEmpty && decide (kvs.length ≤ 15) then some (dDix kvs ti) else none
      | _, _ => none) else none
    | .Subscript o i _ => if plainE i then (match compE n cc o, compE n cc i with
      | some to, some ti => some (dOp (ixR cc.kd) to ti)
      | _, _ => none) else none
    | .Call (.Name x _) (e :: es) [] _ => match lsOf cc x e es with
     | some a => match compE n cc a with
      | some t => some (dUn lsetD t)
      | none => none
     | none => match srtOf cc x e es with
     | some o => match compE n cc o with
      | some t => some (dUn sortedJ t)
      | none => none
     | none => match dnB cc x e es with
     | some r => match mapA (compE n cc) (e :: es) with
      | some t => some (dBi r t)
      | none => none
     | none => match lrOf cc x e es with
      | some (a, none) => match compE n cc a with
        | some t => some (dUn lr1 t)
        | none => none
      | some (a, some b) => match compE n cc a, compE n cc b with
        | some t, some u => some (dOp lr2 t u)
        | _, _ => none
      | none => match slotR cc x with
       | some i => match mapA (compE n cc) (e :: es) with
        | some t => some (dCallV i (fvAt cc.gl) t)
        | none => none
       | none => match globG cc x, mapA (compE n cc) (e :: es) with
        | some (.fn sp), some t => some (dCall sp t)
        | some (.bi b), some t => some (dBi (biR cc.kd b) t)
        | some (.cl c sp), some t => some (dMake c sp t)
        | _, _ => none
    | .Call (.Attribute o m apos) [] [] cpos => if apos.endLine == cpos.line then (match cc.mt.lookup m with
      | some (c, sp) => (match compE n cc o with
        | some to => some (dMeths cc.mt m c sp to dNil)
        | none => none)
      | none => match compE n cc o, mth0 m with
        | some to, some (T, r) => some (dBm0 T r to)
        | _, _ => none) else none
    | .Call (.Attribute o m apos) (e :: es) [] cpos => if apos.endLine == cpos.line && decide (es.length < 20) then (match cc.mt.lookup m with
      | some (c, sp) => (match compE n cc o, mapA (compE n cc) (e :: es) with
        | some to, some t => some (dMeths cc.mt m c sp to t)
        | _, _ => none)
      | none => match dmthK (cc.kd && !isTn cc o) (isDn cc o) m with
      | some (b, r) => match compE n cc o, mapA (compE n cc) (e :: es) with
        | some to, some t => some (dmR b r to t)
        | _, _ => none
      | none => match compE n cc o, mthdX (cc.dn.contains "#x") m, mapA (compE n cc) (e :: es) with
        | some to, some (T, r), some t => some (dBm T r to t)
        | _, _, _ => none) else none
    | .Call (.Name x _) [e] [⟨some k, .Constant (.int i) _ _, _⟩] _ => if k = "default" then (match globG cc x, compE n cc e with
      | some (.bi .min), some t => some (dUn (minDf i) t)
      | _, _ => none) else none
    | .FormattedValue e c none _ => if c = -1 then (match compE n cc e with
      | some t => some (dFmt t)
      | none => none) else none
    | .JoinedStr (v1 :: v2 :: rest) _ => match mapL (compE n cc) (v1 :: v2 :: rest) with
      | some ts => some (dJs ts Str.empty)
      | none => none
    | .ListComp elt [⟨tg, iter, ifs, 0⟩] scope _ => match compI n cc tg iter, cTg (inBlk cc scope) (compE n (inBlk cc scope)) n tg, compF n (inBlk cc scope) ifs, compE n (inBlk cc scope) elt with
      | some it, some (sl, g), some tt, some te => if blkC cc.N cc.sc scope (ownOf cc.N scope) && subB sl (ownOf cc.N scope) && !isSet iter then some (dLc it g tt te ((ownOf cc.N scope).map (·.2))) else none
      | _, _, _, _ => none
    | _ => none
def compT : Nat → CC → Expr → Option TTd
  | 0, _, _ => none
  | n + 1, cc, e => match e with
    | .UnaryOp .Not a _ => match compT n cc a with
      | some t => some (dNot t)
      | none => none
    | .BoolOp op es _ => boT (compT n cc) op es
    | .IfExp .. => none
    | .Compare a [op] [b] _ => match cmpRdK cc.kd op, compE n cc a, compE n cc b with
      | some r, some ta, some tb => some (dB (dOp r ta tb))
      | _, _, _ => none
    | .Compare a [op, op'] [b, c] _ => match cmpRd op, cmpRd op', compE n cc a, compE n cc b, compE n cc c with
      | some r, some r', some ta, some tb, some tc => some (dB (dChain r r' ta tb tc))
      | _, _, _, _, _ => none
    | .Compare a [op, op', op''] [b, c, d] _ => match cmpRd op, cmpRd op', cmpRd op'', compE n cc a, compE n cc b, compE n cc c, compE n cc d with
      | some r, some r', some r'', some ta, some tb, some tc, some td => some (dChain3 r r' r'' ta tb tc td)
      | _, _, _, _, _, _, _ => none
    | .Compare .. => none
    | _ => match compE n cc e with
      | some t => some (dB t)
      | none => none
def compF : Nat → CC → List Expr → Option TTd
  | 0, _, _ => none
  | n + 1, cc, ifs => match ifs with
    | [] => some dYes
    | [c] => compT n cc c
    | _ => none
def compI : Nat → CC → Expr → Expr → Option TId
  | 0, _, _, _ => none
  | n + 1, cc, tg, e => match e with
    | .Call (.Name x _) args [] _ => match globG cc x, args with
      | some .rng, [a] => match mapA (compE n cc) [a] with
        | some t => some (dRng rng1 t)
        | none => none
      | some .rng, [a, b] => match mapA (compE n cc) [a, b] with
        | some t => some (dRng rng2 t)
        | none => none
      | some .rng, [a, b, c] => match mapA (compE n cc) [a, b, c] with
        | some t => some (dRng rng3 t)
        | none => none
      | some .enum, [a] => match tg, mapA (compE n cc) [a] with
        | .Tuple .., some t => some (dWalk enumR t)
        | _, _ => none
      | some .zip, [a, b] => match tg, mapA (compE n cc) [a, b] with
        | .Tuple .., some t => some (dWalk zipR t)
        | _, _ => none
      | _, _ => match compE n cc e with
        | some t => if cc.dn.contains x then some (itKR (cc.dn.contains "#k") t) else some (dItV t)
        | none => none
    | .Call (.Attribute o m apos) [] [] cpos => if m = "items" then (match tg, compE n cc o with
      | .Tuple .., some t => if apos.endLine == cpos.line then some (itR cc.kd t) else none
      | _, _ => none) else (match compE n cc e with
      | some t => some (dItV t)
      | none => none)
    | .Attribute o f p => match compE n cc (.Attribute o f p) with
      | some t => if cc.dn.contains f then some (itKR (cc.dn.contains "#k") t) else some (dItV t)
      | none => none
    | .Name x p => match compE n cc (.Name x p) with
      | some t => if cc.dn.contains x then some (itKR (cc.dn.contains "#k") t) else some (dItV t)
      | none => none
    | _ => match compE n cc e with
      | some t => some (itVR (isSub e && cc.dn.contains "#s") t)
      | none => none
end
theorem ixOf_at {x : Str} {N : List Str} {i : Nat} (h : ixOf x N 0 = some i) : N[i]? = some x := by simpa using (ixOf_ok h).2
theorem blk_gd {X : Cx} {cc : CC} {scope : Scope} (g : Gd X cc) (s : Shared) (H : Hp) (C : Addr) (cl : List (Str × Addr)) (fp : List Addr) : Gd (Blk X scope s H C cl fp) (inBlk cc scope) where
  N := g.N
  nd := g.nd
  sc := by
    show relabel scope X.env = relS scope cc.sc
    rw [← g.sc]
    rfl
  calm := g.calm
  fx := fun x h => h
  hu := g.hu
  gd := g.gd
  gl := fun x gi h => by
    have := g.gl x gi h
    cases gi with
    | fn sp => exact ⟨this.ex⟩
    | fv sp => exact ⟨⟨this.1.ex⟩, this.2⟩
    | fe sp => exact ⟨this.ex⟩
    | _ => exact this
  ec := g.ec
  fl := fun f c i h => g.fl f c i h
  mt := fun m c sp h => g.mt m c sp h
theorem mthdU_ok {X : Cx} (hu : X.A.units + 65 < cLine) {m : Str} {T : String} {r : RMd} (h : mthd m = some (T, r)) {o e : Expr} {es : List Expr} {to : TEd} {tes : TAd} {apos cpos : Pos} (ho : DE X o to) (ha : DA X (e :: es) tes) (hs : (e :: es).all unstarE = true)
    (hb : ∀ m, attributeBase o m X.env (eval o X.env) = eval o X.env) (hl : (apos.endLine == cpos.line) = true) (hn : es.length < 20) : DE X (.Call (.Attribute o m apos) (e :: es) [] cpos) (dBm T r to tes) := by
  unfold mthd at h
  split at h
  · rename_i em; cases h; subst em
    exact de_bm PySem.F.plainAttrs_list PySem.F.slot_list_append PySem.F.type_list_append md_append ho ha (hb _) hl hs (few_ok hs hn)
  · skip
    split at h
    · rename_i em; cases h; subst em
      exact de_bm PySem.F.plainAttrs_list PySem.F.slot_list_extend PySem.F.type_list_extend md_extend ho ha (hb _) hl hs (few_ok hs hn)
    · skip
      split at h
      · rename_i em; cases h; subst em
        exact de_bm PySem.F.plainAttrs_list PySem.F.slot_list_pop PySem.F.type_list_pop md_pop ho ha (hb _) hl hs (few_ok hs hn)
      · skip
        split at h
        · rename_i em; cases h; subst em
          exact de_bm PySem.F.plainAttrs_list PySem.F.slot_list_count PySem.F.type_list_count (md_count hu) ho ha (hb _) hl hs (few_ok hs hn)
        · skip
          split at h
          · rename_i em; cases h; subst em
            exact de_bm PySem.F.plainAttrs_list PySem.F.slot_list_index PySem.F.type_list_index (md_index hu) ho ha (hb _) hl hs (few_ok hs hn)
          · skip
            split at h
            · rename_i em; cases h; subst em
              exact de_bm PySem.F.plainAttrs_str PySem.F.slot_str_join PySem.F.type_str_join md_join ho ha (hb _) hl hs (few_ok hs hn)
            · skip
              split at h
              · rename_i em; cases h; subst em
                exact de_bm PySem.F.plainAttrs_str PySem.F.slot_str_split PySem.F.type_str_split md_split ho ha (hb _) hl hs (few_ok hs hn)
              · skip
                split at h
                · rename_i em; cases h; subst em
                  exact de_bm PySem.F.plainAttrs_str PySem.F.slot_str_partition PySem.F.type_str_partition md_part ho ha (hb _) hl hs (few_ok hs hn)
                · skip
                  split at h
                  · rename_i em; cases h; subst em
                    exact de_bm PySem.F.plainAttrs_str PySem.F.slot_str_strip PySem.F.type_str_strip md_strip ho ha (hb _) hl hs (few_ok hs hn)
                  · skip
                    split at h
                    · rename_i em; cases h; subst em
                      exact de_bm PySem.F.plainAttrs_str PySem.F.slot_str_find PySem.F.type_str_find md_find ho ha (hb _) hl hs (few_ok hs hn)
                    · skip
                      cases h
theorem mthd_ok {X : Cx} {cc : CC} (g : Gd X cc) {m : Str} {T : String} {r : RMd} (h : mthd m = some (T, r)) {o e : Expr} {es : List Expr} {to : TEd} {tes : TAd} {apos cpos : Pos} (ho : DE X o to) (ha : DA X (e :: es) tes) (hs : (e :: es).all unstarE = true)
    (hb : ∀ m, attributeBase o m X.env (eval o X.env) = eval o X.env) (hl : (apos.endLine == cpos.line) = true) (hn : es.length < 20) : DE X (.Call (.Attribute o m apos) (e :: es) [] cpos) (dBm T r to tes) := mthdU_ok g.hu h ho ha hs hb hl hn
theorem mthdX_ok {X : Cx} {cc : CC} (g : Gd X cc) {b : Bool} {m : Str} {T : String} {r : RMd} (h : mthdX b m = some (T, r)) {o e : Expr} {es : List Expr} {to : TEd} {tes : TAd} {apos cpos : Pos} (ho : DE X o to) (ha : DA X (e :: es) tes) (hs : (e :: es).all unstarE = true)
    (hb : ∀ m, attributeBase o m X.env (eval o X.env) = eval o X.env) (hl : (apos.endLine == cpos.line) = true) (hn : es.length < 20) : DE X (.Call (.Attribute o m apos) (e :: es) [] cpos) (dBm T r to tes) := by
  unfold mthdX at h
  split at h
  · split at h
    · rename_i em; cases h; subst em
      exact de_bm PySem.F.plainAttrs_str PySem.F.slot_str_count PySem.F.type_str_count md_countT ho ha (hb _) hl hs (few_ok hs hn)
    · split at h
      · rename_i em; cases h; subst em
        exact de_bm PySem.F.plainAttrs_str PySem.F.slot_str_index PySem.F.type_str_index md_indexT ho ha (hb _) hl hs (few_ok hs hn)
      · exact mthd_ok g h ho ha hs hb hl hn
  · exact mthd_ok g h ho ha hs hb hl hn
theorem mth0_ok {X : Cx} {m : Str} {T : String} {r : RMd} (h : mth0 m = some (T, r)) {o : Expr} {to : TEd} {apos cpos : Pos} (ho : DE X o to)
    (hb : ∀ m, attributeBase o m X.env (eval o X.env) = eval o X.env) (hl : (apos.endLine == cpos.line) = true) : DE X (.Call (.Attribute o m apos) [] [] cpos) (dBm0 T r to) := by
  unfold mth0 at h
  split at h
  · rename_i em; cases h; subst em
    exact de_bm0 PySem.F.plainAttrs_list PySem.F.slot_list_clear PySem.F.type_list_clear md_clear ho (hb _) hl
  · split at h
    · rename_i em; cases h; subst em
      exact de_bm0 PySem.F.plainAttrs_list PySem.F.slot_list_reverse PySem.F.type_list_reverse md_reverse ho (hb _) hl
    · split at h
      · rename_i em; cases h; subst em
        exact de_bm0 PySem.F.plainAttrs_list PySem.F.slot_list_pop PySem.F.type_list_pop md_pop ho (hb _) hl
      · cases h
theorem dmth_ok {X : Cx} {cc : CC} (g : Gd X cc) {dn : Bool} {m : Str} {r : RMd} (h : dmth dn m = some r) {o e : Expr} {es : List Expr} {to : TEd} {tes : TAd} {apos cpos : Pos} (ho : DE X o to) (ha : DA X (e :: es) tes) (hs : (e :: es).all unstarE = true)
    (hb : ∀ m, attributeBase o m X.env (eval o X.env) = eval o X.env) (hl : (apos.endLine == cpos.line) = true) (hn : es.length < 20) : DE X (.Call (.Attribute o m apos) (e :: es) [] cpos) (dDm r to tes) := by
  unfold dmth at h
  split at h
  · rename_i em; cases h; subst em
    exact de_dm PySem.F.slot_dict_get PySem.F.type_dict_get (md_get (by have := g.hu; omega)) ho ha (hb _) hl hs (few_ok hs hn)
  · split at h
    · rename_i em; cases h; subst em
      exact de_dm PySem.F.slot_dict_setdefault PySem.F.type_dict_setdefault (md_setd (by have := g.hu; omega)) ho ha (hb _) hl hs (few_ok hs hn)
    · split at h
      · rename_i em; subst em
        split at h
        · cases h
          exact de_dm PySem.F.slot_dict_pop PySem.F.type_dict_pop (md_popT (by have := g.hu; omega)) ho ha (hb _) hl hs (few_ok hs hn)
        · cases h
      · cases h
theorem dmthK_ok {X : Cx} {cc : CC} (g : Gd X cc) {k dn : Bool} {m : Str} {b : Bool} {r : RMd} (h : dmthK k dn m = some (b, r)) {o e : Expr} {es : List Expr} {to : TEd} {tes : TAd} {apos cpos : Pos} (ho : DE X o to) (ha : DA X (e :: es) tes) (hs : (e :: es).all unstarE = true)
    (hb : ∀ m, attributeBase o m X.env (eval o X.env) = eval o X.env) (hl : (apos.endLine == cpos.line) = true) (hn : es.length < 20) : DE X (.Call (.Attribute o m apos) (e :: es) [] cpos) (dmR b r to tes) := by
  cases k with
  | true =>
    unfold dmthK at h
    dsimp only at h
    split at h
    · rename_i em; cases h; subst em
      exact de_km PySem.F.slot_dict_get PySem.F.type_dict_get mk_get ho ha (hb _) hl hs (few_ok hs hn)
    · split at h
      · rename_i em; cases h; subst em
        exact de_km PySem.F.slot_dict_setdefault PySem.F.type_dict_setdefault mk_setdefault ho ha (hb _) hl hs (few_ok hs hn)
      · split at h
        · rename_i em; cases h; subst em
          exact de_km PySem.F.slot_dict_pop PySem.F.type_dict_pop mk_pop ho ha (hb _) hl hs (few_ok hs hn)
        · cases h
  | false =>
    unfold dmthK at h
    dsimp only at h
    split at h
    · rename_i e1; cases h
      exact dmth_ok g e1 ho ha hs hb hl hn
    · cases h
theorem srtOf_ok {cc : CC} {x : Str} {e : Expr} {es : List Expr} {o : Expr} (h : srtOf cc x e es = some o) : es = [] ∧ globG cc x = some (.bi .sorted) ∧ ∃ apos cpos, (apos.endLine == cpos.line) = true ∧ e = .Call (.Attribute o "items" apos) [] [] cpos := by
  unfold srtOf at h
  split at h
  · have h1 : globG cc x = some (.bi .sorted) := by assumption
    split at h
    · rename_i hc; cases h
      rw [Bool.and_eq_true, decide_eq_true_eq] at hc
      obtain ⟨rfl, hl⟩ := hc
      exact ⟨rfl, h1, _, _, hl, rfl⟩
    · cases h
  · cases h
theorem base_call {x m : Str} {p pos : Pos} {env : Env} {whole : Sem Value} (hx : ¬ x = "super") : attributeBase (.Call (.Name x p) [] [] pos) m env whole = whole := by
  unfold attributeBase
  have e : (x != "super") = true := by simpa using hx
  simp [e]
theorem base_ok {cc : CC} {n : Nat} {o : Expr} {t : TEd} {env : Env} (h : compE n cc o = some t) (m : Str) : attributeBase o m env (eval o env) = eval o env := by
  cases o with
  | Call f args kw pos =>
    cases f with
    | Name x p =>
      cases args with
      | nil =>
        cases kw with
        | cons k ks => rfl
        | nil =>
          cases n with
          | zero => unfold compE at h; cases h
          | succ n =>
            unfold compE at h
            dsimp only at h
            split at h
            · cases h
            · rename_i hx
              exact base_call hx
      | cons a r => rfl
    | _ => rfl
  | _ => rfl
theorem plainIx_ok {b : Expr} (h : plainE b = true) : PlainIx b := by
  cases b <;> first | (intro _ _; rfl) | cases h
theorem noSl_ok {i : Expr} (h : plainE i = true) : NoSl i := by
  cases i <;> first | (intro _ _; rfl) | cases h
theorem nomarkE {n : Nat} {cc : CC} {b : Expr} {t : TEd} {op : CmpOp} (h : compE n cc b = some t) : behindInMarks op b = false := by
  cases b with
  | Set elts k pos => cases n <;> (unfold compE at h; cases h)
  | _ => rfl
theorem folded_ok {e : Expr} {env : Env} (h : isSet e = false) (x : Value) : foldedSetIterable e env x = pure x := by
  cases e <;> first | rfl | cases h
theorem lsOf_ok {cc : CC} {x : Str} {e : Expr} {es : List Expr} {a : Expr} (h : lsOf cc x e es = some a) : es = [] ∧ globG cc x = some (.bi .len) ∧ ∃ y p2 p3, globG cc y = some (.ty "set") ∧ e = .Call (.Name y p2) [a] [] p3 := by
  unfold lsOf at h
  split at h
  · rename_i h1
    split at h
    · split at h
      · rename_i h2
        split at h
        · rename_i h3; cases h; subst h3; exact ⟨rfl, h1, _, _, _, h2, rfl⟩
        · cases h
      · cases h
    · cases h
  · cases h
theorem lrOf_ok {cc : CC} {x : Str} {e : Expr} {es : List Expr} {a : Expr} {ob : Option Expr} (h : lrOf cc x e es = some (a, ob)) : es = [] ∧ globG cc x = some (.bi .list) ∧ ∃ y p2 p3, globG cc y = some .rng ∧ e = .Call (.Name y p2) (a :: ob.toList) [] p3 := by
  unfold lrOf at h
  split at h
  · rename_i h1
    split at h
    · split at h
      · rename_i h2; cases h; exact ⟨rfl, h1, _, _, _, h2, rfl⟩
      · cases h
    · split at h
      · rename_i h2; cases h; exact ⟨rfl, h1, _, _, _, h2, rfl⟩
      · cases h
    · cases h
  · cases h
theorem dnB_ok {X : Cx} {cc : CC} (g : Gd X cc) {x : Str} {p pos : Pos} {e : Expr} {es : List Expr} {tes : TAd} {r : RCd} (h : dnB cc x e es = some r) (ha : DA X (e :: es) tes) (hs : (e :: es).all unstarE = true) : DE X (.Call (.Name x p) (e :: es) [] pos) (dBi r tes) := by
  unfold dnB at h
  split at h
  · split at h
    · split at h
      · rename_i hb; cases h
        obtain ⟨h1, h2, h3, h4, rfl⟩ := globG_ok g hb
        exact de_bty (bd_listK g.calm) h1 h4 (by first | exact PyProof.Rows.boot_list | exact PySem.boot_list) ha h3 h2 hs
      · rename_i hb; cases h
        obtain ⟨h1, h2, h3, h4, rfl⟩ := globG_ok g hb
        cases cc.kd with
        | true => exact de_bi (bd_sortedI g.calm g.hu) h1 h4 (by first | exact PyProof.Rows.boot_sorted | exact PySem.boot_sorted | decide +kernel) ha h3 h2 hs
        | false => exact de_bi (bd_sortedT g.calm g.hu) h1 h4 (by first | exact PyProof.Rows.boot_sorted | exact PySem.boot_sorted | decide +kernel) ha h3 h2 hs
      · cases h
    · cases h
  · cases h
def Ok1 (n : Nat) : Prop := ∀ (cc : CC) (e : Expr) (t : TEd) (X : Cx), Gd X cc → compE n cc e = some t → DE X e t ∧ unstarE e = true
def Ok2 (n : Nat) : Prop := ∀ (cc : CC) (e : Expr) (t : TTd) (X : Cx), Gd X cc → compT n cc e = some t → DT X e t
def Ok3 (n : Nat) : Prop := ∀ (cc : CC) (ifs : List Expr) (t : TTd) (X : Cx), Gd X cc → compF n cc ifs = some t → (ifs = [] ∧ t = dYes) ∨ ∃ c, ifs = [c] ∧ DT X c t
def Ok4 (n : Nat) : Prop := ∀ (cc : CC) (tg e : Expr) (t : TId) (X : Cx), Gd X cc → compI n cc tg e = some t → DI X tg e t
theorem optP_ok {X : Cx} {f : Expr → Option TEd} (hf : ∀ e t, f e = some t → DE X e t ∧ unstarE e = true) : ∀ {o : Option Expr} {t : TOd}, optP f o = some t → DO' X o t
  | none, _, h => by cases h; exact do_none
  | some e, _, h => by
    simp only [optP] at h
    split at h
    · rename_i h1; cases h; exact do_some (hf _ _ h1).1
    · cases h
theorem subB_ok {sl : List Nat} {own : List (Str × Nat)} (h : subB sl own = true) : ∀ j, j ∈ sl → j ∈ own.map (·.2) := by
  intro j hj
  have := List.all_eq_true.mp h j hj
  simpa using this
set_option maxHeartbeats 16000000 in
theorem comp_ok1 {n : Nat} (i1 : Ok1 n) (i2 : Ok2 n) (i3 : Ok3 n) (i4 : Ok4 n) : Ok1 (n + 1) := by
  intro cc e t X g h
  have k := fun e t => i1 cc e t X g
  unfold compE at h
  split at h
  · cases h; exact ⟨de_c pe_int fun _ => .int _, rfl⟩
  · cases h; exact ⟨de_c pe_bl fun _ => .bl _, rfl⟩
  · cases h; exact ⟨de_c pe_non fun _ => .non, rfl⟩
  · cases h; exact ⟨de_c pe_str fun _ => .str _, rfl⟩
  · exact ⟨cName_ok g h, rfl⟩
  · split at h
    · rename_i h1 h2 h3; cases h; exact ⟨de_op (opRd_ok h1) (k _ _ h2).1 (k _ _ h3).1, rfl⟩
    · cases h
  · split at h
    · rename_i h1; cases h; exact ⟨de_not (k _ _ h1).1, rfl⟩
    · cases h
  · split at h
    · rename_i h1; cases h; exact ⟨de_un ud_neg (k _ _ h1).1, rfl⟩
    · cases h
  · exact ⟨boV_ok k h, rfl⟩
  · split at h
    · rename_i h1 h2 h3; cases h
      exact ⟨de_cmp (cmpRdK_ok g.hu h1) (k _ _ h2).1 (k _ _ h3).1 (nomarkE h3), rfl⟩
    · cases h
  · split at h
    · rename_i h1 h2 h3 h4 h5; cases h
      exact ⟨de_chain (cmpRd_ok g.hu h1) (cmpRd_ok g.hu h2) (k _ _ h3).1 (k _ _ h4).1 (k _ _ h5).1 (nomarkE h5), rfl⟩
    · cases h
  · split at h
    · rename_i h1 h2 h3; cases h; exact ⟨de_ifExp (i2 cc _ _ X g h1) (k _ _ h2).1 (k _ _ h3).1, rfl⟩
    · cases h
  · cases h; exact ⟨de_newX _ _, rfl⟩
  · split at h
    · rename_i h1 h2; cases h; exact ⟨de_dict1 (by have := g.hu; omega) (k _ _ h1).1 (k _ _ h2).1, rfl⟩
    · cases h
  · split at h
    · rename_i h1
      split at h
      · rename_i hc
        cases h
        simp only [Bool.and_eq_true] at hc
        exact ⟨de_lit h1 hc.1.1 (fun e => by rw [e] at hc; simp at hc) (of_decide_eq_true hc.2), rfl⟩
      · cases h
    · cases h
  · split at h
    · rename_i h1 h2; cases h; exact ⟨de_fld (g.fl _ _ _ h1) (k _ _ h2).1 (base_ok h2 _), rfl⟩
    · cases h
  · split at h
    · cases h
    · split at h
      · rename_i h1; cases h
        obtain ⟨b1, b2, b3, b4⟩ := globG_ok g h1
        exact ⟨de_make0 b4 b1 b2, rfl⟩
      · rename_i h1; cases h
        obtain ⟨b1, b2, b3, b4⟩ := globG_ok g h1
        exact ⟨de_call0 b4 b1 b2, rfl⟩
      · cases h
  · split at h
    · rename_i h1; cases h; exact ⟨de_tup (mapA_ok k h1).1, rfl⟩
    · cases h
  · split at h
    · rename_i h1; cases h; exact ⟨de_lst (mapA_ok k h1).1, rfl⟩
    · cases h
  · split at h
    · rename_i h1 h2 h3; cases h; exact ⟨de_slice (k _ _ h1).1 (optP_ok k h2) (optP_ok k h3), rfl⟩
    · cases h
  · split at h
    · rename_i h1; cases h; exact ⟨de_rev (k _ _ h1).1, rfl⟩
    · cases h
  · split at h
    · rename_i hp
      split at h
      · rename_i h1 h2
        split at h
        · rename_i hc; cases h
          rw [Bool.and_eq_true, Bool.and_eq_true] at hc
          exact ⟨de_dix (by have := g.hu; omega) h1 hc.1.1 (fun e => by rw [e] at hc; simp at hc) (of_decide_eq_true hc.2) (k _ _ h2).1 (noSl_ok hp), rfl⟩
        · cases h
      · cases h
    · cases h
  · split at h
    · rename_i hp
      split at h
      · rename_i h1 h2; cases h; exact ⟨de_ixR (by have := g.hu; omega) (k _ _ h1).1 (k _ _ h2).1 (plainIx_ok hp) _, rfl⟩
      · cases h
    · cases h
  · split at h
    · rename_i hl
      obtain ⟨rfl, h1, y, p2, p3, h2, rfl⟩ := lsOf_ok hl
      obtain ⟨b1, b2, b3, b4, rfl⟩ := globG_ok g h1
      obtain ⟨c1, c2, c3, c4, c5, c6⟩ := globG_ok g h2
      split at h
      · rename_i ha; cases h
        obtain ⟨k1, k2⟩ := k _ _ ha
        exact ⟨de_lset g.calm (by have := g.hu; omega) b1 b4 c1 c4 c2 c3 c5 k1 k2, rfl⟩
      · cases h
    split at h
    · rename_i hd
      obtain ⟨rfl, h1, apos, cpos, hl, rfl⟩ := srtOf_ok hd
      obtain ⟨b1, b2, b3, b4, rfl⟩ := globG_ok g h1
      split at h
      · rename_i h2; cases h
        exact ⟨de_srtJ g.calm g.hu (k _ _ h2).1 (base_ok h2) hl b1 b4, rfl⟩
      · cases h
    split at h
    · rename_i hd
      split at h
      · rename_i h2; cases h
        obtain ⟨a1, a2⟩ := mapA_ok k h2
        exact ⟨dnB_ok g hd a1 a2, rfl⟩
      · cases h
    split at h
    · rename_i hl
      obtain ⟨rfl, h1, y, p2, p3, h2, rfl⟩ := lrOf_ok hl
      obtain ⟨b1, b2, b3, b4, rfl⟩ := globG_ok g h1
      obtain ⟨c1, c2, c3, c4, rfl⟩ := globG_ok g h2
      split at h
      · rename_i ha; cases h
        obtain ⟨k1, k2⟩ := k _ _ ha
        exact ⟨de_lrg1 g.calm b1 b4 c1 c4 k1 k2, rfl⟩
      · cases h
    · rename_i hl
      obtain ⟨rfl, h1, y, p2, p3, h2, rfl⟩ := lrOf_ok hl
      obtain ⟨b1, b2, b3, b4, rfl⟩ := globG_ok g h1
      obtain ⟨c1, c2, c3, c4, rfl⟩ := globG_ok g h2
      split at h
      · rename_i ha hb; cases h
        obtain ⟨k1, k2⟩ := k _ _ ha
        obtain ⟨k3, k4⟩ := k _ _ hb
        exact ⟨de_lrg2 g.calm b1 b4 c1 c4 k1 k3 k2 k4, rfl⟩
      · cases h
    · split at h
      · rename_i hsl
        split at h
        · rename_i h2; cases h
          obtain ⟨a1, a2⟩ := mapA_ok k h2
          exact ⟨de_callV g hsl a1 a2, rfl⟩
        · cases h
      split at h
      · rename_i h1 h2; cases h
        obtain ⟨a1, a2⟩ := mapA_ok k h2
        obtain ⟨b1, b2, b3, b4⟩ := globG_ok g h1
        exact ⟨de_call b4 b1 b2 a1 a2, rfl⟩
      · rename_i h1 h2; cases h
        obtain ⟨a1, a2⟩ := mapA_ok k h2
        exact ⟨biR_ok g h1 a1 a2, rfl⟩
      · rename_i h1 h2; cases h
        obtain ⟨a1, a2⟩ := mapA_ok k h2
        obtain ⟨b1, b2, b3, b4⟩ := globG_ok g h1
        exact ⟨de_make b4 b1 b2 a1 a2, rfl⟩
      · cases h
  · split at h
    · rename_i hc
      split at h
      · rename_i hm
        split at h
        · rename_i h1; cases h
          exact ⟨dMeths_ok (lkp_mem hm) fun c sp z => de_meth0 (g.mt _ _ _ z) (k _ _ h1).1 (base_ok h1 _) hc, rfl⟩
        · cases h
      split at h
      · rename_i h1 h2; cases h
        exact ⟨mth0_ok h2 (k _ _ h1).1 (base_ok h1) hc, rfl⟩
      · cases h
    · cases h
  · split at h
    · rename_i hc
      rw [Bool.and_eq_true] at hc
      split at h
      · rename_i hm
        split at h
        · rename_i h1 h3; cases h
          obtain ⟨a1, a2⟩ := mapA_ok k h3
          exact ⟨dMeths_ok (lkp_mem hm) fun c sp z => de_meth (g.mt _ _ _ z) (k _ _ h1).1 a1 (base_ok h1 _) hc.1 a2 (of_decide_eq_true hc.2), rfl⟩
        · cases h
      split at h
      · rename_i hm
        split at h
        · rename_i h1 h3; cases h
          obtain ⟨a1, a2⟩ := mapA_ok k h3
          exact ⟨dmthK_ok g hm (k _ _ h1).1 a1 a2 (base_ok h1) hc.1 (of_decide_eq_true hc.2), rfl⟩
        · cases h
      split at h
      · rename_i h1 h2 h3; cases h
        obtain ⟨a1, a2⟩ := mapA_ok k h3
        exact ⟨mthdX_ok g h2 (k _ _ h1).1 a1 a2 (base_ok h1) hc.1 (of_decide_eq_true hc.2), rfl⟩
      · cases h
    · cases h
  · split at h
    · rename_i hk; subst hk
      split at h
      · rename_i h1 h2; cases h
        obtain ⟨b1, b2, b3, b4, rfl⟩ := globG_ok g h1
        obtain ⟨k1, k2⟩ := k _ _ h2
        exact ⟨de_minDf g.calm g.hu b1 b4 (by first | exact PyProof.Rows.boot_min | exact PySem.boot_min) k1 b3 b2 k2, rfl⟩
      · cases h
    · cases h
  · split at h
    · rename_i hc; subst hc
      split at h
      · rename_i h1; cases h; exact ⟨de_fmt (k _ _ h1).1, rfl⟩
      · cases h
    · cases h
  · split at h
    · rename_i h1; cases h; exact ⟨de_joined (mapL_ok k h1), rfl⟩
    · cases h
  · split at h
    · rename_i h1 h2 h3 h4
      split at h
      · rename_i hc; cases h
        rw [Bool.and_eq_true, Bool.and_eq_true] at hc
        obtain ⟨⟨c1, c2⟩, c3⟩ := hc
        refine ⟨de_lc g.calm g.nd (i4 cc _ _ _ X g h1) (blkOk_by (by rw [g.N, g.sc]; exact c1)) (subB_ok c2) (fun s H C cl fp => ?_) (fun s H C cl fp => ?_) (fun s H C cl fp => ?_) (folded_ok (by simpa using c3)), rfl⟩
        · exact (cTg_ok (blk_gd g s H C cl fp) (fun e t => i1 _ e t _ (blk_gd g s H C cl fp)) h2).1
        · exact i3 _ _ _ _ (blk_gd g s H C cl fp) h3
        · exact (i1 _ _ _ _ (blk_gd g s H C cl fp) h4).1
      · cases h
    · cases h
  · cases h
theorem comp_ok2 {n : Nat} (i1 : Ok1 n) (i2 : Ok2 n) : Ok2 (n + 1) := by
  intro cc e t X g h
  have k := fun e t => i1 cc e t X g
  unfold compT at h
  split at h
  · split at h
    · rename_i h1; cases h; exact dt_not (i2 _ _ _ _ g h1)
    · cases h
  · exact dw_pt (boT_ok (fun e t => i2 cc e t X g) h)
  · cases h
  · split at h
    · rename_i h1 h2 h3; cases h
      exact dt_cmp (cmpRdK_ok g.hu h1) (k _ _ h2).1 (k _ _ h3).1 (nomarkE h3)
    · cases h
  · split at h
    · rename_i h1 h2 h3 h4 h5; cases h
      exact dt_chain (cmpRd_ok g.hu h1) (cmpRd_ok g.hu h2) (k _ _ h3).1 (k _ _ h4).1 (k _ _ h5).1 (nomarkE h5)
    · cases h
  · split at h
    · rename_i h1 h2 h3 h4 h5 h6 h7; cases h
      exact dt_chain3 (cmpRd_ok g.hu h1) (cmpRd_ok g.hu h2) (cmpRd_ok g.hu h3) (k _ _ h4).1 (k _ _ h5).1 (k _ _ h6).1 (k _ _ h7).1 (nomarkE h7)
    · cases h
  · cases h
  · rename_i n1 n2 n3 n4 n5 n5b n6
    split at h
    · rename_i h1; cases h
      refine dt_val (k _ _ h1).1 ?_
      cases e with
      | BoolOp op es p => exact absurd rfl (n2 op es p)
      | IfExp a b c p => exact absurd rfl (n3 a b c p)
      | Compare a ops cs p => exact absurd rfl (n6 a ops cs p)
      | UnaryOp op a p =>
        cases op with
        | Not => exact absurd rfl (n1 a p)
        | _ => intro _; rfl
      | _ => intro _; rfl
    · cases h
theorem comp_ok3 {n : Nat} (i2 : Ok2 n) : Ok3 (n + 1) := by
  intro cc ifs t X g h
  unfold compF at h
  split at h
  · cases h; exact .inl ⟨rfl, rfl⟩
  · exact .inr ⟨_, rfl, i2 _ _ _ _ g h⟩
  · cases h
theorem comp_ok4 {n : Nat} (i1 : Ok1 n) : Ok4 (n + 1) := by
  intro cc tg e t X g h
  have k := fun e t => i1 cc e t X g
  unfold compI at h
  split at h
  · split at h
    · rename_i hg
      split at h
      · rename_i h1; cases h
        obtain ⟨a1, a2⟩ := mapA_ok k h1
        obtain ⟨b1, b2, b3, b4, rfl⟩ := globG_ok g hg
        exact di_rng1 b1 b4 a1 (by simpa using a2)
      · cases h
    · rename_i hg
      split at h
      · rename_i h1; cases h
        obtain ⟨a1, a2⟩ := mapA_ok k h1
        obtain ⟨b1, b2, b3, b4, rfl⟩ := globG_ok g hg
        exact di_rng2 b1 b4 a1 a2
      · cases h
    · rename_i hg
      split at h
      · rename_i h1; cases h
        obtain ⟨a1, a2⟩ := mapA_ok k h1
        obtain ⟨b1, b2, b3, b4, rfl⟩ := globG_ok g hg
        exact di_rng3 b1 b4 a1 a2
      · cases h
    · rename_i hg
      split at h
      · rename_i h1; cases h
        obtain ⟨a1, a2⟩ := mapA_ok k h1
        obtain ⟨b1, b2, b3, b4, rfl⟩ := globG_ok g hg
        exact di_enum b1 b4 a1 (by simpa using a2)
      · cases h
    · rename_i hg
      split at h
      · rename_i h1; cases h
        obtain ⟨a1, a2⟩ := mapA_ok k h1
        obtain ⟨b1, b2, b3, b4, rfl⟩ := globG_ok g hg
        exact di_zip b1 b4 a1 a2
      · cases h
    · split at h
      · rename_i h1
        split at h
        · cases h; exact di_itKR (k _ _ h1).1 _
        · cases h; exact di_v (k _ _ h1).1
      · cases h
  · split at h
    · rename_i hm; subst hm
      split at h
      · rename_i h1
        split at h
        · rename_i hl; cases h
          cases cc.kd with
          | true => exact di_itemsJ (k _ _ h1).1 (base_ok h1) hl
          | false => exact di_itemsD (k _ _ h1).1 (base_ok h1) hl
        · cases h
      · cases h
    · split at h
      · rename_i h1; cases h; exact di_v (k _ _ h1).1
      · cases h
  · split at h
    · rename_i h1
      split at h
      · cases h; exact di_itKR (k _ _ h1).1 _
      · cases h; exact di_v (k _ _ h1).1
    · cases h
  · split at h
    · rename_i h1
      split at h
      · cases h; exact di_itKR (k _ _ h1).1 _
      · cases h; exact di_v (k _ _ h1).1
    · cases h
  · split at h
    · rename_i h1; cases h; exact di_itVR (k _ _ h1).1 _
    · cases h
theorem comp_all : ∀ n, Ok1 n ∧ Ok2 n ∧ Ok3 n ∧ Ok4 n
  | 0 => by
    refine ⟨?_, ?_, ?_, ?_⟩
    · intro cc e t X g h; simp [compE] at h
    · intro cc e t X g h; simp [compT] at h
    · intro cc e t X g h; simp [compF] at h
    · intro cc tg e t X g h; simp [compI] at h
  | n + 1 => let ⟨a, b, c, d⟩ := comp_all n; ⟨comp_ok1 a b c d, comp_ok2 a b, comp_ok3 b, comp_ok4 a⟩
end S
set_option Elab.async false
set_option linter.all false
set_option maxRecDepth 100000
set_option maxHeartbeats 4000000
namespace S
open PySem PySem.Spec L2
open PyProof.Rows hiding St
/-! ## exceptions: isinstance of the one in hand -/
def isxD (et : List Str) (j : Nat) (a : Addr) : RCd := fun ds G Q => match ds with
  | [.ref b, .fn c] => b = a ∧ c ∈ et ∧ Q (.bl (subN j c)) G
  | [.ref b, .ty n] => b = a ∧ n = "ValueError" ∧ Q (.bl true) G
  | [.ref b, .tup cs] => b = a ∧ ∃ xs : List Str, cs = xs.map D.fn ∧ (∀ c ∈ xs, c ∈ et) ∧ Q (.bl (xs.any (subN j))) G
  | _ => False
theorem kit_any {K : PySem.W.Frag} {et : List Str} {j : Nat} (C : EcJ K et j) : ∀ {xs : List Str}, (∀ c ∈ xs, c ∈ et) → PySem.W.kitAny K (.ref (He.ga K (excN j))) (xs.map fun c => .ref (He.ga K c)) = some (xs.any (subN j))
  | [], _ => rfl
  | x :: xs, h => by
    have e := C.kit x (h x List.mem_cons_self)
    have ih := kit_any C (xs := xs) fun c hc => h c (List.mem_cons_of_mem _ hc)
    simp only [List.map_cons, PySem.W.kitAny, e, List.any_cons]
    cases subN j x
    · simp [ih]
    · simp
theorem fns_vals {K : Kt} {H : Hp} : ∀ {xs : List Str} {vs : List V} {us : List Value}, Rps K H (xs.map D.fn) vs → Vals vs us → us = xs.map fun c => .ref (He.ga K c)
  | [], _, _, r, q => by cases r; cases q; rfl
  | x :: xs, _, _, r, q => by
    rw [List.map_cons] at r
    cases r with
    | cons r rs =>
      cases q with
      | cons q qs =>
        cases r
        rw [fns_vals rs qs]
        rw [show _ = Value.ref _ from q]; rfl
theorem bx_isi {X : Cx} {et : List Str} {j : Nat} {a : Addr} {oe : Obj} (C : EcJ X.K et j) (hp : (a, oe) ∈ X.pn) (hz : Zc (.ref (He.ga X.K (excN j))) none oe) (hf : ∃ vs, oe.data = .fields vs) : CalB X (.builtin "isinstance") (isxD et j a) := by
  intro pins s σ H vs us Q I r ⟨ds, G, q, rs, gr, h, cl⟩
  obtain ⟨hget, _⟩ := I.pin (a, oe) (List.mem_append.mpr (.inl hp))
  obtain ⟨fs, hv⟩ := hf
  have J : PySem.W.InstAt s.heap a oe (He.ga X.K (excN j)) none := by
    obtain ⟨oc, od, oda, osl⟩ := oe
    obtain ⟨h1, h2⟩ := hz
    dsimp only at h1 h2 hv
    subst h1 h2 hv
    exact ⟨hget, rfl, rfl, trivial⟩
  have Z := PySem.W.handS_kitx_exc (x := a) (ox := oe) C.ex.hg C.ex.hk C.ex.hs C.ex.hd C.ex.ha C.ex.hn C.ex.ht C.ex.hm
  have fin : ∀ {b : Bool}, q (.bl b) G → ∀ tk, EP X pins σ Q (.bool b) { s with toks := tk } := fun {b} h tk => ⟨.bl b, H, I.kept (t' := tk) fun _ _ z => z, rfl, cl _ _ _ _ Tm.refl gr (.bl b) h⟩
  unfold isxD at h
  split at h
  · obtain ⟨rfl, hc, h⟩ := h
    obtain ⟨v1, v2, rfl, r1, r2⟩ := rs.two
    cases r1; cases r2
    cases r with
    | cons q1 q2 =>
      cases q2 with
      | cons q2 q3 =>
        cases q3
        rw [show _ = Value.ref _ from q1, show _ = Value.ref _ from q2]
        exact PySem.W.kia_one Z I.kIn J (C.kit _ hc) (fun z => nomatch z) (fin h)
  · obtain ⟨rfl, rfl, h⟩ := h
    obtain ⟨v1, v2, rfl, r1, r2⟩ := rs.two
    cases r1; cases r2
    cases r with
    | cons q1 q2 =>
      cases q2 with
      | cons q2 q3 =>
        cases q3
        rw [show _ = Value.ref _ from q1, show _ = Value.type _ from q2]
        exact PySem.W.kia_one Z I.kIn J C.kitV (fun z => nomatch z) (fin h)
  · obtain ⟨rfl, xs, rfl, hc, h⟩ := h
    obtain ⟨v1, v2, rfl, r1, r2⟩ := rs.two
    cases r1
    obtain ⟨tp, ws, rfl, sa, ra⟩ := r2.tup_inv
    cases r with
    | cons q1 q2 =>
      cases q2 with
      | cons q2 q3 =>
        cases q3
        rw [show _ = Value.ref _ from q1, show _ = Value.ref _ from q2]
        obtain ⟨its, rv, ⟨⟨oc, od, dt, sl⟩, h1, h2, n, h3⟩, _⟩ := I.tuple sa
        simp only at h2 h3
        subst h2 h3
        have e := fns_vals ra rv
        exact PySem.W.kia_tup Z I.kIn J (its := its) h1 (by rw [e]; exact kit_any C hc) (fun z => nomatch z) (fin h)
  · exact h.elim
/-! ## what an except suite may hold -/
def gnf (X : Cx) (x : Str) : GI → Prop
  | .fn _ => True
  | .fv _ => True
  | .cl _ _ => True
  | g => GIok X x g
structure Gx (X : Cx) (cc : CC) : Prop where
  N : X.N = cc.N
  nd : X.N.Nodup
  sc : X.env.scope = cc.sc
  fx : ∀ x, cc.fx x = true → X.fn x = true
  hu : X.A.units + 65 < cLine
  gl : ∀ x g, cc.gl.lookup x = some g → gnf X x g
theorem globX_ok {X : Cx} {cc : CC} {x : Str} {gi : GI} (g : Gx X cc) (h : globG cc x = some gi) : Gl X x ∧ (x == ("__debug__" : Str)) = false ∧ x ≠ "__name__" ∧ gnf X x gi := by
  unfold globG at h
  split at h
  · rename_i e
    split at h
    · rename_i c
      obtain ⟨h1, h2, h3⟩ := okName_ok c
      exact ⟨by unfold Gl Env.kindOf; rw [g.sc]; exact e, h1, h3, g.gl x gi h⟩
    · cases h
  · cases h
def cNameX (cc : CC) (x : Str) : Option TEd := match slotR cc x with
  | some i => some (dVar i)
  | none => match globG cc x with
    | some .exc => some (dC (.fn x))
    | some (.ty n) => some (dC (.ty n))
    | _ => none
theorem cNameX_ok {X : Cx} {cc : CC} {x : Str} {t : TEd} {pos : Pos} (g : Gx X cc) (h : cNameX cc x = some t) : DE X (.Name x pos) t := by
  unfold cNameX at h
  split at h
  · rename_i e; cases h; exact slotR_of g.N g.sc e
  · split at h
    · rename_i e; cases h
      obtain ⟨h1, h2, h3, h4⟩ := globX_ok g e
      exact de_c (v := .ref (He.ga X.K x)) (pe_glob h1 h4 rfl h2) fun H => .fn x
    · rename_i e; cases h
      obtain ⟨h1, h2, h3, h4, h5, h6⟩ := globX_ok g e
      exact de_ty h1 h2 h3 h4 h5
    · cases h
mutual
def compXE : Nat → CC → Nat → Addr → Expr → Option TEd
  | 0, _, _, _, _ => none
  | n + 1, cc, j, a, e => match e with
    | .Constant (.int i) _ _ => some (dC (.int i))
    | .Constant (.bool b) _ _ => some (dC (.bl b))
    | .Constant .none _ _ => some (dC .non)
    | .Constant (.str x) _ _ => some (dC (.str x))
    | .Name x _ => cNameX cc x
    | .UnaryOp .Not e _ => match compXE n cc j a e with
      | some t => some (dNotV t)
      | none => none
    | .UnaryOp .USub e _ => match compXE n cc j a e with
      | some t => some (dUn negD t)
      | none => none
    | .BinOp e op b _ => match opRd op, compXE n cc j a e, compXE n cc j a b with
      | some r, some ta, some tb => some (dOp r ta tb)
      | _, _, _ => none
    | .Compare e [op] [b] _ => match cmpRd op, compXE n cc j a e, compXE n cc j a b with
      | some r, some ta, some tb => some (dOp r ta tb)
      | _, _, _ => none
    | .Subscript o i _ => if plainE i then (match compXE n cc j a o, compXE n cc j a i with
      | some to, some ti => some (dOp ixD to ti)
      | _, _ => none) else none
    | .Call (.Attribute (.Name v p2) m apos) (e :: es) [] cpos => if apos.endLine == cpos.line && decide (es.length < 20) then (match compXE n cc j a (.Name v p2), mthd m, mapA (compXE n cc j a) (e :: es) with
      | some to, some (T, r), some t => some (dBm T r to t)
      | _, _, _ => none) else none
    | .BoolOp op es _ => boV (compXE n cc j a) op es
    | .IfExp c e f _ => match compXT n cc j a c, compXE n cc j a e, compXE n cc j a f with
      | some t, some ta, some tb => some (dIfE t ta tb)
      | _, _, _ => none
    | .Tuple es _ _ => match mapA (compXE n cc j a) es with
      | some t => some (dTup t)
      | none => none
    | .List es _ => match mapA (compXE n cc j a) es with
      | some t => some (dLst t)
      | none => none
    | .Call (.Name x _) (e :: es) [] _ => match globG cc x, mapA (compXE n cc j a) (e :: es) with
      | some (.bi .isi), some t => some (dBi (isxD cc.et j a) t)
      | some (.bi .int), some t => some (dBi intBD t)
      | some (.fe sp), some t => some (dCall (sp j a) t)
      | _, _ => none
    | _ => none
def compXT : Nat → CC → Nat → Addr → Expr → Option TTd
  | 0, _, _, _, _ => none
  | n + 1, cc, j, a, e => match e with
    | .UnaryOp .Not e _ => match compXT n cc j a e with
      | some t => some (dNot t)
      | none => none
    | .BoolOp op es _ => boT (compXT n cc j a) op es
    | .IfExp .. => none
    | .Compare e [op] [b] _ => match cmpRd op, compXE n cc j a e, compXE n cc j a b with
      | some r, some ta, some tb => some (dB (dOp r ta tb))
      | _, _, _ => none
    | .Compare .. => none
    | _ => match compXE n cc j a e with
      | some t => some (dB t)
      | none => none
end
theorem nomarkX {n : Nat} {cc : CC} {j : Nat} {a : Addr} {b : Expr} {t : TEd} {op : CmpOp} (h : compXE n cc j a b = some t) : behindInMarks op b = false := by
  cases b with
  | Set elts k pos => cases n <;> (unfold compXE at h; cases h)
  | _ => rfl
/-- what a suite knows of its exception -/
structure Hx (X : Cx) (et : List Str) (j : Nat) (a : Addr) : Prop where
  is : CalB X (.builtin "isinstance") (isxD et j a)
  hot : Hj X et j a
def Xk1 (n : Nat) : Prop := ∀ (cc : CC) (e : Expr) (t : TEd) (X : Cx) (j : Nat) (a : Addr), Gx X cc → Hx X cc.et j a → compXE n cc j a e = some t → DE X e t ∧ unstarE e = true
def Xk2 (n : Nat) : Prop := ∀ (cc : CC) (e : Expr) (t : TTd) (X : Cx) (j : Nat) (a : Addr), Gx X cc → Hx X cc.et j a → compXT n cc j a e = some t → DT X e t
theorem compX_ok1 {n : Nat} (i1 : Xk1 n) (i2 : Xk2 n) : Xk1 (n + 1) := by
  intro cc e t X j a g hi h
  have k := fun e t => i1 cc e t X j a g hi
  unfold compXE at h
  split at h
  · cases h; exact ⟨de_c pe_int fun _ => .int _, rfl⟩
  · cases h; exact ⟨de_c pe_bl fun _ => .bl _, rfl⟩
  · cases h; exact ⟨de_c pe_non fun _ => .non, rfl⟩
  · cases h; exact ⟨de_c pe_str fun _ => .str _, rfl⟩
  · exact ⟨cNameX_ok g h, rfl⟩
  · split at h
    · rename_i h1; cases h; exact ⟨de_not (k _ _ h1).1, rfl⟩
    · cases h
  · split at h
    · rename_i h1; cases h; exact ⟨de_un ud_neg (k _ _ h1).1, rfl⟩
    · cases h
  · split at h
    · rename_i h1 h2 h3; cases h; exact ⟨de_op (opRd_ok h1) (k _ _ h2).1 (k _ _ h3).1, rfl⟩
    · cases h
  · split at h
    · rename_i h1 h2 h3; cases h
      exact ⟨de_cmp (cmpRd_ok g.hu h1) (k _ _ h2).1 (k _ _ h3).1 (nomarkX h3), rfl⟩
    · cases h
  · split at h
    · rename_i hp
      split at h
      · rename_i h1 h2; cases h; exact ⟨de_ix (by have := g.hu; omega) (k _ _ h1).1 (k _ _ h2).1 (plainIx_ok hp), rfl⟩
      · cases h
    · cases h
  · split at h
    · rename_i hc
      rw [Bool.and_eq_true] at hc
      split at h
      · rename_i h1 h2 h3; cases h
        obtain ⟨a1, a2⟩ := mapA_ok k h3
        exact ⟨mthdU_ok g.hu h2 (k _ _ h1).1 a1 a2 (fun _ => rfl) hc.1 (of_decide_eq_true hc.2), rfl⟩
      · cases h
    · cases h
  · exact ⟨boV_ok k h, rfl⟩
  · split at h
    · rename_i h1 h2 h3; cases h; exact ⟨de_ifExp (i2 cc _ _ X j a g hi h1) (k _ _ h2).1 (k _ _ h3).1, rfl⟩
    · cases h
  · split at h
    · rename_i h1; cases h; exact ⟨de_tup (mapA_ok k h1).1, rfl⟩
    · cases h
  · split at h
    · rename_i h1; cases h; exact ⟨de_lst (mapA_ok k h1).1, rfl⟩
    · cases h
  · split at h
    · rename_i h1 h2; cases h
      obtain ⟨a1, a2⟩ := mapA_ok k h2
      obtain ⟨b1, b2, b3, b4, rfl⟩ := globX_ok g h1
      exact ⟨de_bi hi.is b1 b4 (by first | exact PyProof.Rows.boot_isinstance | exact PySem.boot_isinstance) a1 b3 b2 a2, rfl⟩
    · rename_i h1 h2; cases h
      obtain ⟨a1, a2⟩ := mapA_ok k h2
      obtain ⟨b1, b2, b3, b4, rfl⟩ := globX_ok g h1
      exact ⟨de_bty bd_int b1 b4 (by first | exact PyProof.Rows.boot_int | exact PySem.boot_int) a1 b3 b2 a2, rfl⟩
    · rename_i h1 h2; cases h
      obtain ⟨a1, a2⟩ := mapA_ok k h2
      obtain ⟨b1, b2, b3, b4⟩ := globX_ok g h1
      exact ⟨de_callE b4 hi.hot b1 b2 a1 a2, rfl⟩
    · cases h
  · cases h
theorem compX_ok2 {n : Nat} (i1 : Xk1 n) (i2 : Xk2 n) : Xk2 (n + 1) := by
  intro cc e t X j a g hi h
  unfold compXT at h
  split at h
  · split at h
    · rename_i h1; cases h; exact dt_not (i2 _ _ _ _ _ _ g hi h1)
    · cases h
  · exact dw_pt (boT_ok (fun e t => i2 cc e t X j a g hi) h)
  · cases h
  · split at h
    · rename_i h1 h2 h3; cases h
      exact dt_cmp (cmpRd_ok g.hu h1) (i1 cc _ _ X j a g hi h2).1 (i1 cc _ _ X j a g hi h3).1 (nomarkX h3)
    · cases h
  · cases h
  · rename_i n1 n2 n3 n4 n5
    split at h
    · rename_i h1; cases h
      refine dt_val (i1 cc _ _ X j a g hi h1).1 ?_
      cases e with
      | BoolOp op es p => exact absurd rfl (n2 op es p)
      | IfExp a b c p => exact absurd rfl (n3 a b c p)
      | Compare a ops cs p => exact absurd rfl (n5 a ops cs p)
      | UnaryOp op a p =>
        cases op with
        | Not => exact absurd rfl (n1 a p)
        | _ => intro _; rfl
      | _ => intro _; rfl
    · cases h
theorem compX_all : ∀ n, Xk1 n ∧ Xk2 n
  | 0 => by
    refine ⟨?_, ?_⟩
    · intro cc e t X j a g hi h; simp [compXE] at h
    · intro cc e t X j a g hi h; simp [compXT] at h
  | n + 1 => let ⟨a, b⟩ := compX_all n; ⟨compX_ok1 a b, compX_ok2 a b⟩
end S
set_option Elab.async false
set_option linter.all false
set_option maxRecDepth 100000
set_option maxHeartbeats 4000000
namespace S
open PySem PySem.Spec L2
open PyProof.Rows hiding St
/-! ## raise, try .. except -/
def dRaise (i : Nat) : TSd := fun w _ σ G => w i .non σ G
theorem ds_raise {X : Cx} {et : List Str} {i j : Nat} {x m : Str} {p p2 pos pos' : Pos} (hx : excN i = x) (hc : X.calm = true) (C : EcJ X.K et i) (hi : i ≠ 18) (gC : X.mg x = some (.ref (He.ga X.K x))) (hg : Gl X x) (hdb : (x == ("__debug__" : Str)) = false) :
    DS X (.Raise (some (.Call (.Name x p) [.Constant (.str m) j p2] [] pos)) none pos') (dRaise i) := fun W tk => by
  subst hx
  exact PSi (L2N.ps_raise hc tk (L2N.pmk_own (x := excN i) (m := m) (j := j) (p := p) (p2 := p2) (pos := pos) PySem.F.excBase_ValueError C.q gC C.kp (raises_own C.sb C.ty) hg hdb)) fun E σ H ⟨σd, G, e, w, sr, gr, h, cl, cw⟩ =>
    cw i .non σd σ G H _ none Tm.refl sr gr ⟨rfl, .inl ⟨hi, rfl, rfl⟩⟩ h
def dFail : TSd := fun _ _ _ _ => False
def ecOk (ec : List Nat) (j : Nat) : Bool := ec.contains j && j != 18
def dTryAs (ec : List Nat) (c : Str) (k : Nat) (tb : TSd) (ts : Nat → Addr → TSd) : TSd := fun w E σ G => tb (fun j d σ1 G1 => ecOk ec j = true ∧ Br (subN j c) (∀ a, G1 a = none → ts j a W0 { nx := fun σ2 G2 => E.nx (σ2.set k none) G2, rt := E.rt, bk := fun σ2 G2 => E.bk (σ2.set k none) G2, ct := fun σ2 G2 => E.ct (σ2.set k none) G2 } (σ1.set k (some (.ref a))) G1) (w j d σ1 G1)) E σ G
def dMany (j : Nat) (E : En) (σ : Sd) (G : Hd) (o : Prop) : List (Str × (Nat → Addr → TSd)) → Prop
  | [] => o
  | (c, ts) :: r => Br (subN j c) (∀ a, G a = none → ts j a W0 E σ G) (dMany j E σ G o r)
def dTryM (ec : List Nat) (l : List (Str × (Nat → Addr → TSd))) (tb : TSd) : TSd := fun w E σ G => tb (fun j d σ1 G1 => ecOk ec j = true ∧ dMany j E σ1 G1 (w j d σ1 G1) l) E σ G
theorem ecOk_ok {ec : List Nat} {j : Nat} (h : ecOk ec j = true) : j ∈ ec ∧ j ≠ 18 := by
  unfold ecOk at h
  rw [Bool.and_eq_true] at h
  exact ⟨by simpa using h.1, by simpa using h.2⟩
theorem SR.unset {K : Kt} {H : Hp} {σd : Sd} {σ : St} (s : SR K H σd σ) (i : Nat) : SR K H (σd.set i none) (σ.set i none) := by
  refine ⟨by simp [s.len], fun j e h => ?_⟩
  by_cases hj : i = j
  · subst hj
    have hl : i < σd.length := by
      have := (List.getElem?_eq_some_iff.mp h).1
      simpa using this
    rw [List.getElem?_set_self hl] at h
    cases h
  · rw [List.getElem?_set_ne hj] at h ⊢
    exact s.at_ j e h
def tsL (K : Kt) (ec : List Nat) (tsd : Nat → Addr → TSd) : Addr → Value → Option Addr → TS := fun a cls d E σ H => ∃ j, ecOk ec j = true ∧ cls = .ref (He.ga K (excN j)) ∧ d = none ∧ liftS K (fun _ _ _ _ => False) (tsd j a) E σ H
/-! the clauses' readings -/
section
variable {K : Kt} {W : WX} {ec : List Nat} {et : List Str} {tb : TSd}
theorem exr_plain {H : Hp} {j : Nat} {d : D} {cls : Value} {od : Option Addr} (h : ExR K H j d cls od) (hj : j ≠ 18) : cls = .ref (He.ga K (excN j)) ∧ od = none := by
  obtain ⟨h1, ⟨_, h2, _⟩ | ⟨h2, _⟩⟩ := h
  · exact ⟨h1, h2⟩
  · exact absurd h2 hj
theorem tryAs_read {c : Str} {k : Nat} {ts : Nat → Addr → TSd} (C : EcK K.K ec et) (hc : c ∈ et) (E : Ends) (σ : St) (H : Hp) (h : liftS K W (dTryAs ec c k tb ts) E σ H) : liftS K (wAs K.K (.ref (He.ga K c)) k (tsL K ec ts) W E) tb E σ H := by
  obtain ⟨σd, G, e, w, sr, gr, h, cl, cw⟩ := h
  refine ⟨σd, G, e, _, sr, gr, h, cl, fun j d σ1d σ1 G1 H1 cls od t1 sr1 gr1 ex ⟨hj, hb⟩ => ?_⟩
  obtain ⟨h1, h2⟩ := ecOk_ok hj
  obtain ⟨rfl, rfl⟩ := exr_plain ex h2
  refine ⟨subN j c, (C j h1).exm c hc, fun hs a ha => ?_, fun hs => cw j d σ1d σ1 G1 H1 _ _ t1 sr1 gr1 ex (hb.2 hs)⟩
  have q := hb.1 hs a (gr1.free ha)
  refine ⟨j, hj, rfl, rfl, _, G1, _, W0, sr1.set k (.ref a), gr1, q, ?_, cw0⟩
  exact ⟨fun a b H5 G5 m5 s5 g5 q => cl.nx _ _ _ _ (t1.trans m5) (s5.unset k) g5 q, fun v d H5 G5 m5 => cl.rt v d H5 G5 (t1.trans m5), fun a b H5 G5 m5 s5 g5 q => cl.bk _ _ _ _ (t1.trans m5) (s5.unset k) g5 q, fun a b H5 G5 m5 s5 g5 q => cl.ct _ _ _ _ (t1.trans m5) (s5.unset k) g5 q⟩
def lM (K : Kt) (ec : List Nat) (l : List (Str × (Nat → Addr → TSd))) : List (Value × (Addr → Value → Option Addr → TS)) := l.map fun p => (.ref (He.ga K p.1), tsL K ec p.2)
theorem tryM_read {l : List (Str × (Nat → Addr → TSd))} (C : EcK K.K ec et) (hc : ∀ p ∈ l, p.1 ∈ et) (E : Ends) (σ : St) (H : Hp) (h : liftS K W (dTryM ec l tb) E σ H) : liftS K (wMany K.K W E (lM K ec l)) tb E σ H := by
  obtain ⟨σd, G, e, w, sr, gr, h, cl, cw⟩ := h
  refine ⟨σd, G, e, _, sr, gr, h, cl, fun j d σ1d σ1 G1 H1 cls od t1 sr1 gr1 ex ⟨hj, hb⟩ => ?_⟩
  obtain ⟨h1, h2⟩ := ecOk_ok hj
  obtain ⟨rfl, rfl⟩ := exr_plain ex h2
  have key : ∀ {l : List (Str × (Nat → Addr → TSd))}, (∀ p ∈ l, p.1 ∈ et) → dMany j e σ1d G1 (w j d σ1d G1) l → wMany K.K W E (lM K ec l) (.ref (He.ga K (excN j))) none σ1 H1 := by
    intro l hc hb
    induction l with
    | nil => exact cw j d σ1d σ1 G1 H1 _ _ t1 sr1 gr1 ex hb
    | cons p r ih =>
      obtain ⟨c, ts⟩ := p
      refine ⟨subN j c, (C j h1).exm c (hc _ List.mem_cons_self), fun hs a ha => ?_, fun hs => ih (fun p hp => hc p (List.mem_cons_of_mem _ hp)) (hb.2 hs)⟩
      exact ⟨j, hj, rfl, rfl, σ1d, G1, e, W0, sr1, gr1, hb.1 hs a (gr1.free ha), cl.mono t1, cw0⟩
  exact key hc hb
end
end S
set_option Elab.async false
set_option linter.all false
set_option maxRecDepth 100000
set_option maxHeartbeats 4000000
namespace S
open PySem PySem.Spec L2
open PyProof.Rows hiding St
/-! ## three local names at once -/
def prs3 (i j l : Nat) (ds : List D) (σ : Sd) (k : Sd → Prop) : Prop := match ds with
  | [x, y, z] => k (((σ.set i (some x)).set j (some y)).set l (some z))
  | _ => False
def dPar3 (i j l : Nat) (t : TAd) : TSd := fun w E σ G => t w σ G fun ds G1 => prs3 i j l ds σ fun s => E.nx s G1
theorem par3_eq {t : TAd} {w : Wx} {E : En} {σ : Sd} {G : Hd} {i j l : Nat} : dPar3 i j l t w E σ G = t w σ G fun ds G1 => prs3 i j l ds σ fun s => E.nx s G1 := rfl
theorem prs3_3 {σ : Sd} {k : Sd → Prop} {i j l : Nat} {x y z : D} : prs3 i j l [x, y, z] σ k = k (((σ.set i (some x)).set j (some y)).set l (some z)) := rfl
section
variable {X : Cx} {a b c : Expr} {tes : TAd} {pos : Pos}
theorem ds_par3 {i j l : Nat} {x y z : Str} {px py pz pt : Pos} {kt k2 pt2} (hc : X.calm = true) (hN : X.N.Nodup) (hi : X.N[i]? = some x) (hj : X.N[j]? = some y) (hl : X.N[l]? = some z) (hij : i ≠ j) (hil : i ≠ l) (hjl : j ≠ l)
    (hx : X.env.scope.names.lookup x = some .local) (hy : X.env.scope.names.lookup y = some .local) (hz : X.env.scope.names.lookup z = some .local) (ha : DA X [a, b, c] tes)
    (hw : swappedStores [.Tuple [.Name x px, .Name y py, .Name z pz] kt pt] (.Tuple [a, b, c] k2 pt2) X.env = pure (some [x, y, z])) :
    DS X (.Assign [.Tuple [.Name x px, .Name y py, .Name z pz] kt pt] (.Tuple [a, b, c] k2 pt2) pos) (dPar3 i j l tes) := fun W tk =>
  PSi (ps_par3 hc hN hi hj hl hij hil hjl hx hy hz (ha W tk) hw) fun E σ H ⟨σd, G, e, w, sr, gr, h, cl, cw⟩ => ⟨σd, G, _, w, sr, gr, h, fun vs ds H1 G1 t1 gr1 r1 h1 => by
    cases r1 with
    | nil => exact False.elim h1
    | cons r1 rs =>
      cases rs with
      | nil => exact False.elim h1
      | cons r2 rs =>
        cases rs with
        | nil => exact False.elim h1
        | cons r3 rs =>
          cases rs with
          | cons _ _ => exact False.elim h1
          | nil => exact ⟨_, _, _, rfl, cl.nx _ _ _ _ t1 ((((sr.mono t1).set i r1).set j r2).set l r3) gr1 h1⟩, cw⟩
def parOk3 (cc : CC) (x y z : Str) (px py pz : Pos) (a b c : Expr) : Bool :=
  (decide (cc.sc.names.lookup x = some .local) && decide (cc.sc.names.lookup y = some .local) && decide (cc.sc.names.lookup z = some .local)) && (decide (x ≠ y) && decide (x ≠ z) && decide (y ≠ z)) && (py.line == px.line && pz.line == px.line) && (unstarE a && unstarE b && unstarE c) && (!([a, b, c].all (foldedForSure 8)) && !([a, b, c].all (constantsAlone 8)))
theorem par3_ok {cc : CC} {x y z : Str} {px py pz pt p2 : Pos} {kt k2 : Nat} (hs : X.env.scope = cc.sc) (hk : X.env.scope.kind = .function) (h : parOk3 cc x y z px py pz a b c = true) :
    (X.env.scope.names.lookup x = some .local ∧ X.env.scope.names.lookup y = some .local ∧ X.env.scope.names.lookup z = some .local) ∧ (x ≠ y ∧ x ≠ z ∧ y ≠ z) ∧
    swappedStores [.Tuple [.Name x px, .Name y py, .Name z pz] kt pt] (.Tuple [a, b, c] k2 p2) X.env = pure (some [x, y, z]) := by
  unfold parOk3 at h
  simp only [Bool.and_eq_true, decide_eq_true_eq, Bool.not_eq_true'] at h
  obtain ⟨⟨⟨⟨⟨⟨h1, h2⟩, h3⟩, ⟨n1, n2⟩, n3⟩, l1, l2⟩, ⟨u1, u2⟩, u3⟩, g1, g2⟩ := h
  rw [← hs] at h1 h2 h3
  refine ⟨⟨h1, h2, h3⟩, ⟨n1, n2, n3⟩, ?_⟩
  have kx : X.env.kindOf x = some .local := h1
  have ky : X.env.kindOf y = some .local := h2
  have kz : X.env.kindOf z = some .local := h3
  have hb : X.env.blockKind = .function := by unfold Env.blockKind; rw [hk]; rfl
  have c1 : (X.env.kindOf x == some NameKind.local && px.line == px.line) = true := by rw [kx]; simp
  have c2 : (X.env.kindOf y == some NameKind.local && py.line == px.line) = true := by rw [ky, l1]; rfl
  have c3 : (X.env.kindOf z == some NameKind.local && pz.line == px.line) = true := by rw [kz, l2]; rfl
  have d1 : (y == x) = false := by simp [Ne.symm n1]
  have d2 : (z == x) = false := by simp [Ne.symm n2]
  have d3 : (z == y) = false := by simp [Ne.symm n3]
  have nm : ∀ l : List Str, l = [x, y, z] → (l.length != 3 || l.eraseDups.length != l.length) = false := by
    intro l e
    subst e
    simp [List.eraseDups_cons, d1, d2, d3]
  unfold swappedStores
  dsimp only
  rw [if_neg (by rw [hb]; intro z; exact absurd z (by simp))]
  rw [if_neg]
  · have fm : ∀ f : Expr → Option Str, f (.Name x px) = some x → f (.Name y py) = some y → f (.Name z pz) = some z → [Expr.Name x px, Expr.Name y py, Expr.Name z pz].filterMap f = [x, y, z] := by
      intro f q1 q2 q3
      rw [List.filterMap_cons_some q1, List.filterMap_cons_some q2, List.filterMap_cons_some q3]; rfl
    rw [fm _ (if_pos c1) (if_pos c2) (if_pos c3)]
    rw [if_neg (by have q := nm [x, y, z] rfl; intro z; exact absurd (q.symm.trans z) (by decide)), if_neg (by rw [g1]; decide), if_neg (by rw [g2]; decide)]
  · simp only [List.any_cons, List.any_nil, Bool.or_false, Bool.or_eq_true]
    rintro (z | z | z)
    · cases a <;> first | exact absurd (show false = true from z) (by decide) | exact absurd (show false = true from u1) (by decide)
    · cases b <;> first | exact absurd (show false = true from z) (by decide) | exact absurd (show false = true from u2) (by decide)
    · cases c <;> first | exact absurd (show false = true from z) (by decide) | exact absurd (show false = true from u3) (by decide)
end
end S
set_option Elab.async false
set_option linter.all false
set_option maxRecDepth 100000
set_option maxHeartbeats 4000000
namespace S
open PySem PySem.Spec L2
open PyProof.Rows hiding St
/-! ## statements -/
structure Gs (X : Cx) (cc : CC) : Prop extends Gd X cc where
  hp : PassesOwn (model X.prog X.w) X.A X.env X.xe
  kind : X.env.scope.kind = .function
  stk : X.stack = X.env :: X.outer
  frm : X.env.frame = some X.env.locals
def mapS (f : Stmt → Option TSd) : List Stmt → Option TSd
  | [] => some dNext
  | [s] => f s
  | s :: t :: r => match f s, mapS f (t :: r) with
    | some a, some b => some (dSeq a b)
    | _, _ => none
/-- name = [.. for ..] on one line, the name a local: stored within the comprehension's frame -/
def inLc (cc : CC) (x : Str) (p : Pos) (e : Expr) : Bool := match e with
  | .ListComp _ _ sc pos => (cc.sc.names.lookup x == some .local) && p.line == pos.line && !(sc.names.any fun (n, k) => n == x && (k == .local || k == .cell))
  | _ => false
def isTup : Expr → Bool
  | .Tuple .. => true
  | _ => false
def isName : Expr → Bool
  | .Name .. => true
  | _ => false
def parOk (cc : CC) (x y : Str) (px py : Pos) (a b : Expr) : Bool :=
  decide (cc.sc.names.lookup x = some .local) && decide (cc.sc.names.lookup y = some .local) && decide (x ≠ y) && py.line == px.line && unstarE a && unstarE b && !([a, b].all (foldedForSure 8)) && !([a, b].all (constantsAlone 8))
def compXS : Nat → CC → Nat → Addr → Stmt → Option TSd
  | 0, _, _, _, _ => none
  | n + 1, cc, j, a, s => match s with
    | .Return (some e) _ => match compXE n cc j a e with
      | some t => some (dRet t)
      | none => none
    | .Return none _ => some dRetN
    | .Pass _ => some dNext
    | .If c u v _ => match compXT n cc j a c, mapS (compXS n cc j a) u, mapS (compXS n cc j a) v with
      | some t, some u, some v => some (dIf t u v)
      | _, _, _ => none
    | .Assign [.Name x _] e _ => if plainE e then (match slotW cc x, compXE n cc j a e with
      | some i, some t => some (dAsg t (dgName i))
      | _, _ => none) else none
    | _ => none
def suiteR (n : Nat) (cc : CC) (ss : List Stmt) (j : Nat) (a : Addr) : TSd := (mapS (compXS n cc j a) ss).getD dFail
/-- a clause's class -/
def clsOf (cc : CC) (x : Str) : Bool := match globG cc x with
  | some .exc => cc.et.contains x
  | _ => false
def slotL (cc : CC) (x : Str) : Option Nat := match cc.sc.names.lookup x with
  | some .local => ixOf x cc.N 0
  | _ => none
def hdsC (n : Nat) (cc : CC) : List ExceptHandler → Option (List (Str × (Nat → Addr → TSd)))
  | [] => some []
  | .ExceptHandler (some (.Name x _)) none (b :: suite) _ :: r => if clsOf cc x then (match hdsC n cc r with
    | some l => some ((x, suiteR n cc (b :: suite)) :: l)
    | none => none) else none
  | _ => none
def isLc : Expr → Bool
  | .ListComp .. => true
  | _ => false
/-- a name that is no local: no swap of stores -/
def notLoc (cc : CC) (es : List Expr) : Bool := es.any fun x => match x with
  | .Name id _ => !(cc.sc.names.lookup id == some .local)
  | _ => true
def compS : Nat → CC → Stmt → Option TSd
  | 0, _, _ => none
  | n + 1, cc, s => match s with
    | .Expr e _ => if plainE e then (match compE n cc e with
      | some t => some (dDrop t)
      | none => none) else none
    | .Return (some e) _ => match compE n cc e with
      | some t => some (dRet t)
      | none => none
    | .Return none _ => some dRetN
    | .Pass _ => some dNext
    | .Break _ => some dBreak
    | .Continue _ => some dCont
    | .If c a b _ => match compT n cc c, mapS (compS n cc) a, mapS (compS n cc) b with
      | some t, some u, some v => some (dIf t u v)
      | _, _, _ => none
    | .For tg iter body [] _ => if isSet iter then none else (match compI n cc tg iter, cTg cc (compE n cc) n tg, mapS (compS n cc) body with
      | some it, some (_, g), some b => some (dFor it g b)
      | _, _, _ => none)
    | .While c body [] _ => match compT n cc c, mapS (compS n cc) body with
      | some t, some b => some (dWhile t b)
      | _, _ => none
    | .Assign [.Name x p] (.ListComp elt [⟨tg, iter, ifs, 0⟩] scope pos2) pos => match slotW cc x, compI n cc tg iter, cTg (inBlk cc scope) (compE n (inBlk cc scope)) n tg, compF n (inBlk cc scope) ifs, compE n (inBlk cc scope) elt with
      | some i, some it, some (sl, g), some tt, some te => if blkC cc.N cc.sc scope (ownOf cc.N scope) && subB sl (ownOf cc.N scope) && !isSet iter then some (dAsg (dLc it g tt te ((ownOf cc.N scope).map (·.2))) (dgName i)) else none
      | _, _, _, _, _ => none
    | .Assign [.Name x _] e _ => if plainE e then (match slotW cc x, compE n cc e with
      | some i, some t => some (dAsg t (dgName i))
      | _, _ => none) else none
    | .Assign [.Tuple [.Name x px, .Name y py] kt pt] (.Tuple [a, b] k2 p2) _ => if parOk cc x y px py a b then (match ixOf x cc.N 0, ixOf y cc.N 0, mapA (compE n cc) [a, b] with
      | some i, some j, some t => some (dPar i j t)
      | _, _, _ => none) else if notLoc cc [.Name x px, .Name y py] then (match compE n cc (.Tuple [a, b] k2 p2), cTg cc (compE n cc) n (.Tuple [.Name x px, .Name y py] kt pt) with
      | some t, some (_, g) => some (dAsg t g)
      | _, _ => none) else none
    | .Assign [.Tuple [.Name x px, .Name y py, .Name z pz] kt pt] (.Tuple [a, b, c] k2 p2) _ => if parOk3 cc x y z px py pz a b c then (match ixOf x cc.N 0, ixOf y cc.N 0, ixOf z cc.N 0, mapA (compE n cc) [a, b, c] with
      | some i, some j, some l, some t => some (dPar3 i j l t)
      | _, _, _, _ => none) else if notLoc cc [.Name x px, .Name y py, .Name z pz] then (match compE n cc (.Tuple [a, b, c] k2 p2), cTg cc (compE n cc) n (.Tuple [.Name x px, .Name y py, .Name z pz] kt pt) with
      | some t, some (_, g) => some (dAsg t g)
      | _, _ => none) else none
    | .Assign [.Tuple es k p] e _ => if (plainE e || isLc e) && (!isTup e || es.any fun x => !isName x) then (match compE n cc e, cTg cc (compE n cc) n (.Tuple es k p) with
      | some t, some (_, g) => some (dAsg t g)
      | _, _ => none) else none
    | .Assign [.Subscript o i p] e _ => if plainE e then (match compE n cc e, cTg cc (compE n cc) n (.Subscript o i p) with
      | some t, some (_, g) => some (dAsg t g)
      | _, _ => none) else none
    | .Assign [.Attribute o f _] e _ => if plainE e then (match cc.fl.lookup f, compE n cc o, compE n cc e with
      | some (c, i), some to, some te => some (dSetF c i to te)
      | _, _, _ => none) else none
    | .Raise (some (.Call (.Name x _) [.Constant (.str _) _ _] [] _)) none _ => match globG cc x, ixOf x excNames 0 with
      | some .exc, some i => if ecOk cc.ec i then some (dRaise i) else none
      | _, _ => none
    | .Try body [.ExceptHandler (some (.Name x _)) (some nm) (b :: suite) _] [] [] _ => match slotL cc nm, mapS (compS n cc) body with
      | some k, some tb => if clsOf cc x then some (dTryAs cc.ec x k tb (suiteR n cc (b :: suite))) else none
      | _, _ => none
    | .Try body (h :: hds) [] [] _ => match hdsC n cc (h :: hds), mapS (compS n cc) body with
      | some l, some tb => some (dTryM cc.ec l tb)
      | _, _ => none
    | .AugAssign (.Name x _) .Add e _ => match slotW cc x, compE n cc e with
      | some i, some t => some (dAug i t (intD (fun _ _ => True) fun i j => .int (i + j)))
      | _, _ => none
    | .AugAssign (.Attribute o f _) .Add e _ => match cc.fl.lookup f, compE n cc o, compE n cc e with
      | some (c, i), some to, some te => some (dAugF c i to te)
      | _, _, _ => none
    | _ => none
theorem mapS_ok {X : Cx} {f : Stmt → Option TSd} (hf : ∀ s t, f s = some t → DS X s t) : ∀ {ss : List Stmt} {t : TSd}, mapS f ss = some t → DSs X ss t
  | [], _, h => by cases h; exact ds_nil
  | [s], _, h => ds_one (hf _ _ h)
  | s :: u :: r, _, h => by
    simp only [mapS] at h
    split at h
    · rename_i h1 h2; cases h; exact ds_cons (hf _ _ h1) (mapS_ok hf h2)
    · cases h
theorem filterMap_short {α β : Type} {f : α → Option β} : ∀ {l : List α}, (l.any fun x => (f x).isNone) = true → (l.filterMap f).length < l.length
  | [], h => by cases h
  | a :: r, h => by
    rw [List.any_cons, Bool.or_eq_true] at h
    have hl := List.length_filterMap_le f r
    cases e : f a with
    | none => rw [List.filterMap_cons_none e, List.length_cons]; omega
    | some b =>
      rw [List.filterMap_cons_some e]
      rcases h with h | h
      · rw [e] at h; cases h
      · have := filterMap_short h
        rw [List.length_cons, List.length_cons]; omega
theorem swappedNone {X : Cx} {es : List Expr} {k : Nat} {p : Pos} {e : Expr} (h : (!isTup e || es.any fun x => !isName x) = true) : swappedStores [.Tuple es k p] e X.env = pure none := by
  rw [Bool.or_eq_true] at h
  cases e with
  | Tuple vs k2 p2 =>
    rcases h with h | h
    · cases h
    · unfold swappedStores
      dsimp only
      split
      · rfl
      · split
        · rfl
        · rw [if_pos]
          rw [Bool.or_eq_true]
          left
          rw [bne_iff_ne]
          refine Nat.ne_of_lt (filterMap_short ?_)
          rw [List.any_eq_true] at h ⊢
          obtain ⟨y, hy, hn⟩ := h
          refine ⟨y, hy, ?_⟩
          cases y <;> first | rfl | cases hn
  | _ => rfl
theorem swappedLoc {X : Cx} {cc : CC} {es : List Expr} {k : Nat} {p : Pos} {e : Expr} (hs : X.env.scope = cc.sc) (h : notLoc cc es = true) : swappedStores [.Tuple es k p] e X.env = pure none := by
  cases e with
  | Tuple vs k2 p2 =>
    unfold swappedStores
    dsimp only
    split
    · rfl
    · split
      · rfl
      · rw [if_pos]
        rw [Bool.or_eq_true]
        left
        rw [bne_iff_ne]
        refine Nat.ne_of_lt (filterMap_short ?_)
        unfold notLoc at h
        rw [List.any_eq_true] at h ⊢
        obtain ⟨y, hy, hn⟩ := h
        refine ⟨y, hy, ?_⟩
        cases y with
        | Name id pos =>
          have hk : (X.env.kindOf id == some NameKind.local) = false := by
            show (X.env.scope.names.lookup id == some NameKind.local) = false
            rw [hs]
            simpa using hn
          dsimp only
          rw [if_neg (by rw [hk]; simp)]
          rfl
        | _ => rfl
  | _ => rfl
theorem swapsSole_ok {env : Env} {tg e : Expr} {n : Nat} (h : plainE e = true) : swapsWithSole [tg] e n env = pure false := by
  show swapsWith e (some tg) n env = pure false
  exact swaps_ok h
theorem swapsTup_ok {env : Env} {es : List Expr} {k : Nat} {p : Pos} {e : Expr} {n : Nat} (h : (plainE e || isLc e) = true) : swapsWithSole [.Tuple es k p] e n env = pure false := by
  rw [Bool.or_eq_true] at h
  rcases h with h | h
  · exact swapsSole_ok h
  · cases e <;> first | rfl | cases h
theorem par_ok {X : Cx} {cc : CC} {x y : Str} {px py pt p2 : Pos} {kt k2 : Nat} {a b : Expr} (hs : X.env.scope = cc.sc) (hk : X.env.scope.kind = .function) (h : parOk cc x y px py a b = true) : X.env.scope.names.lookup x = some .local ∧ X.env.scope.names.lookup y = some .local ∧ x ≠ y ∧
    swappedStores [.Tuple [.Name x px, .Name y py] kt pt] (.Tuple [a, b] k2 p2) X.env = pure (some [x, y]) := by
  unfold parOk at h
  simp only [Bool.and_eq_true, decide_eq_true_eq, Bool.not_eq_true'] at h
  obtain ⟨⟨⟨⟨⟨⟨⟨h1, h2⟩, h3⟩, h4⟩, h5⟩, h6⟩, h7⟩, h8⟩ := h
  rw [← hs] at h1 h2
  refine ⟨h1, h2, h3, ?_⟩
  have kx : X.env.kindOf x = some .local := h1
  have ky : X.env.kindOf y = some .local := h2
  have hb : X.env.blockKind = .function := by unfold Env.blockKind; rw [hk]; rfl
  have c1 : (X.env.kindOf x == some NameKind.local && px.line == px.line) = true := by rw [kx]; simp
  have c2 : (X.env.kindOf y == some NameKind.local && py.line == px.line) = true := by rw [ky, h4]; rfl
  have c3 : (y == x) = false := by simp [Ne.symm h3]
  have nm : ∀ l : List Str, l = [x, y] → (l.length != 2 || l.eraseDups.length != l.length) = false := by
    intro l e
    subst e
    simp [List.eraseDups_cons, c3]
  unfold swappedStores
  dsimp only
  rw [if_neg (by rw [hb]; intro z; exact absurd z (by simp))]
  rw [if_neg]
  · have fm : ∀ f : Expr → Option Str, f (.Name x px) = some x → f (.Name y py) = some y → [Expr.Name x px, Expr.Name y py].filterMap f = [x, y] := by
      intro f q1 q2
      rw [List.filterMap_cons_some q1, List.filterMap_cons_some q2]; rfl
    rw [fm _ (if_pos c1) (if_pos c2)]
    rw [if_neg (by have q := nm [x, y] rfl; intro z; exact absurd (q.symm.trans z) (by decide)), if_neg (by rw [h7]; decide), if_neg (by rw [h8]; decide)]
  · simp only [List.any_cons, List.any_nil, Bool.or_false, Bool.or_eq_true]
    rintro (z | z)
    · cases a <;> first | exact absurd (show false = true from z) (by decide) | exact absurd (show false = true from h5) (by decide)
    · cases b <;> first | exact absurd (show false = true from z) (by decide) | exact absurd (show false = true from h6) (by decide)
theorem lc_not {env : Env} {elt : Expr} {gs : List Comprehension} {sc : Scope} {p py : Pos} {x : Str} {l : Nat} {cc : CC} (hs : env.scope = cc.sc) (h : inLc cc x py (.ListComp elt gs sc p) = false) : swapsWith (.ListComp elt gs sc p) (some (.Name x py)) l env = pure false := by
  have e : (env.blockKind == .function && env.kindOf x == some .local && py.line == p.line && !(sc.names.any fun (n, k) => n == x && (k == .local || k == .cell))) = false := by
    have h' : ((cc.sc.names.lookup x == some .local) && py.line == p.line && !(sc.names.any fun (n, k) => n == x && (k == .local || k == .cell))) = false := h
    rw [← hs] at h'
    have k1 : env.kindOf x = env.scope.names.lookup x := rfl
    rw [k1, Bool.and_assoc, Bool.and_assoc]
    rw [Bool.and_assoc] at h'
    rw [h', Bool.and_false]
  unfold swapsWith
  show (pure (env.blockKind == .function && env.kindOf x == some .local && py.line == p.line && !(sc.names.any fun (n, k) => n == x && (k == .local || k == .cell))) : Sem Bool) = pure false
  rw [e]
theorem compXS_ok : ∀ (n : Nat) (cc : CC) (j : Nat) (a : Addr) (s : Stmt) (t : TSd) (X : Cx), Gx X cc → Hx X cc.et j a → compXS n cc j a s = some t → DS X s t
  | 0, _, _, _, _, _, _, _, _, h => by simp [compXS] at h
  | n + 1, cc, j, a, s, t, X, g, hi, h => by
    have ih := fun s t => compXS_ok n cc j a s t X g hi
    obtain ⟨i1, i2⟩ := compX_all n
    have k := fun e t => i1 cc e t X j a g hi
    unfold compXS at h
    split at h
    · split at h
      · rename_i h1; cases h; exact ds_ret (k _ _ h1).1
      · cases h
    · cases h; exact ds_retN
    · cases h; exact ds_pass
    · split at h
      · rename_i h1 h2 h3; cases h; exact ds_if (i2 _ _ _ _ _ _ g hi h1) (mapS_ok ih h2) (mapS_ok ih h3)
      · cases h
    · split at h
      · rename_i hp
        split at h
        · rename_i h1 h2; cases h
          obtain ⟨a1, a2, a3⟩ := slotW_of g.N g.sc g.fx h1
          exact ds_set g.nd a1 a2 a3 (k _ _ h2).1 (swaps_ok hp)
        · cases h
      · cases h
    · cases h
theorem Gs.tr {X : Cx} {cc : CC} (g : Gs X cc) {pn : List (Addr × Obj)} {xe : Value → Shared → Prop} (hp : PassesOwn (model X.prog X.w) X.A X.env xe) : Gs (X.tr pn xe) cc where
  N := g.N
  nd := g.nd
  sc := g.sc
  calm := g.calm
  fx := g.fx
  hu := g.hu
  gd := g.gd
  gl := fun x gi h => by
    have := g.gl x gi h
    cases gi with
    | fn sp => exact ⟨this.ex⟩
    | fv sp => exact ⟨⟨this.1.ex⟩, this.2⟩
    | fe sp => exact ⟨this.ex⟩
    | _ => exact this
  ec := g.ec
  fl := fun f c i h => g.fl f c i h
  mt := fun m c sp h => g.mt m c sp h
  hp := hp
  kind := g.kind
  stk := g.stk
  frm := g.frm
theorem Gs.gx {X : Cx} {cc : CC} (g : Gs X cc) {a : Addr} {pn : List (Addr × Obj)} : Gx (X.suite a pn) cc where
  N := g.N
  nd := g.nd
  sc := g.sc
  fx := g.fx
  hu := g.hu
  gl := fun x gi h => by
    have := g.gl x gi h
    cases gi with
    | fn sp => trivial
    | fv sp => trivial
    | cl c sp => trivial
    | fe sp =>
      obtain ⟨f, fd, ps, k, F, hr, r⟩ := this.ex
      exact ⟨f, fd, ps, k, F, ⟨hr.dp, hr.un⟩, r⟩
    | _ => exact this
theorem suite_ok {X : Cx} {cc : CC} (g : Gs X cc) (n : Nat) (ss : List Stmt) (a : Addr) (oe : Obj) (cls : Value) (d : Option Addr) (pn : List (Addr × Obj)) (hz : L2N.Zn cls d oe) (hf : ∃ vs, oe.data = .fields vs) :
    PSs (X.suite a ((a, oe) :: pn)) ss (tsL (kt X) cc.ec (suiteR n cc ss) a cls d) := ⟨fun pins s σ H E I ⟨j, hj, hc, hd, hl⟩ => by
  subst hc hd
  unfold suiteR at hl
  cases e : mapS (compXS n cc j a) ss with
  | none =>
    rw [e] at hl
    obtain ⟨_, _, _, _, _, _, h, _⟩ := hl
    exact h.elim
  | some t =>
    rw [e] at hl
    have hi : Hx (X.suite a ((a, oe) :: pn)) cc.et j a := ⟨bx_isi (g.ec j (ecOk_ok hj).1) List.mem_cons_self hz.zc hf, ⟨oe, List.mem_cons_self, ⟨rfl, by
      obtain ⟨vs, hv⟩ := hf
      exact ⟨vs, hv, hz.2.2 vs hv⟩⟩, hz.zc⟩⟩
    exact (mapS_ok (fun s t => compXS_ok n cc j a s t _ g.gx hi) e _ (fun _ _ ⟨_, _, _, _, _, _, _, _, _, _, _, _, _, _, _, _, z⟩ => z.elim)).run pins s σ H E I hl⟩
theorem clsOf_ok {X : Cx} {cc : CC} {x : Str} (g : Gd X cc) (h : clsOf cc x = true) : Names X x (.ref (He.ga X.K x)) ∧ x ∈ cc.et := by
  unfold clsOf at h
  split at h
  · rename_i e
    obtain ⟨h1, h2, h3, h4⟩ := globG_ok g e
    exact ⟨⟨h1, h2, .inl h4⟩, by simpa using h⟩
  · cases h
theorem slotL_ok {X : Cx} {cc : CC} {x : Str} {k : Nat} (g : Gd X cc) (h : slotL cc x = some k) : X.N[k]? = some x ∧ X.env.kindOf x = some .local := by
  unfold slotL at h
  split at h
  · rename_i e
    refine ⟨by rw [g.N]; exact ixOf_at h, ?_⟩
    show X.env.scope.names.lookup x = _
    rw [g.sc]; exact e
  · cases h
theorem hdsC_ok {X : Cx} {cc : CC} (g : Gs X cc) {n : Nat} : ∀ {hds : List ExceptHandler} {l : List (Str × (Nat → Addr → TSd))}, hdsC n cc hds = some l → L2N.HdsOk X hds (lM (kt X) cc.ec l) ∧ ∀ p ∈ l, p.1 ∈ cc.et
  | [], _, h => by cases h; exact ⟨.nil, by simp⟩
  | hd :: r, _, h => by
    unfold hdsC at h
    split at h
    · rename_i e; cases e
    · rename_i e
      cases e
      split at h
      · rename_i hc
        split at h
        · rename_i l hl
          cases h
          obtain ⟨i1, i2⟩ := hdsC_ok g hl
          obtain ⟨c1, c2⟩ := clsOf_ok g.toGd hc
          exact ⟨.cons c1 (fun a oe cls d pn hz hf => suite_ok g n _ a oe cls d pn hz hf) i1, fun p hp => by
            rcases List.mem_cons.mp hp with rfl | hp
            · exact c2
            · exact i2 p hp⟩
        · cases h
      · cases h
    · cases h
theorem compS_ok : ∀ (n : Nat) (cc : CC) (s : Stmt) (t : TSd) (X : Cx), Gs X cc → compS n cc s = some t → DS X s t
  | 0, _, _, _, _, _, h => by simp [compS] at h
  | n + 1, cc, s, t, X, g, h => by
    have ih := fun s t => compS_ok n cc s t X g
    obtain ⟨i1, i2, i3, i4⟩ := comp_all n
    have k := fun e t => i1 cc e t X g.toGd
    unfold compS at h
    split at h
    · split at h
      · rename_i hp
        split at h
        · rename_i h1; cases h; exact ds_expr (k _ _ h1).1 hp
        · cases h
      · cases h
    · split at h
      · rename_i h1; cases h; exact ds_ret (k _ _ h1).1
      · cases h
    · cases h; exact ds_retN
    · cases h; exact ds_pass
    · cases h; exact ds_break
    · cases h; exact ds_continue
    · split at h
      · rename_i h1 h2 h3; cases h; exact ds_if (i2 _ _ _ _ g.toGd h1) (mapS_ok ih h2) (mapS_ok ih h3)
      · cases h
    · split at h
      · cases h
      · rename_i hi
        split at h
        · rename_i h1 h2 h3; cases h; exact ds_for g.hp g.calm (i4 _ _ _ _ _ g.toGd h1) (cTg_ok g.toGd k h2).1 (mapS_ok ih h3) (folded_ok (by simpa using hi))
        · cases h
    · split at h
      · rename_i h1 h2; cases h; exact ds_while g.hp (i2 _ _ _ _ g.toGd h1) (mapS_ok ih h2)
      · cases h
    · rename_i x p elt tg iter ifs scope pos2 pos
      split at h
      · rename_i h0 h1 h2 h3 h4
        split at h
        · rename_i hc; cases h
          rw [Bool.and_eq_true, Bool.and_eq_true] at hc
          obtain ⟨⟨c1, c2⟩, c3⟩ := hc
          obtain ⟨a1, a2, a3⟩ := slotW_ok g.toGd h0
          have it4 := i4 cc _ _ _ X g.toGd h1
          have bo : BlkOk X.N X.env.scope scope (ownOf cc.N scope) := blkOk_by (by rw [g.N, g.sc]; exact c1)
          have fo := fun x => folded_ok (e := iter) (env := X.env) (by simpa using c3) x
          have g1 := fun s H C cl fp => (cTg_ok (blk_gd g.toGd s H C cl fp) (fun e t => i1 _ e t _ (blk_gd g.toGd s H C cl fp)) h2).1
          have g2 := fun s H C cl fp => i3 _ _ _ _ (blk_gd g.toGd s H C cl fp) h3
          have g3 := fun s H C cl fp => (i1 _ _ _ _ (blk_gd g.toGd s H C cl fp) h4).1
          cases hb : inLc cc x p (.ListComp elt [⟨tg, iter, ifs, 0⟩] scope pos2) with
          | true =>
            have hb' : ((cc.sc.names.lookup x == some .local) && p.line == pos2.line && !(scope.names.any fun (n, k) => n == x && (k == .local || k == .cell))) = true := hb
            rw [Bool.and_eq_true, Bool.and_eq_true] at hb'
            obtain ⟨⟨b1, b2⟩, b3⟩ := hb'
            have b1 : X.env.scope.names.lookup x = some .local := by rw [g.sc]; simpa using b1
            exact ds_setLc g.calm g.nd a1 b1 (sw_true g.kind b1 b2 (by simpa using b3)) it4 bo (subB_ok c2) g1 g2 g3 fo
          | false => exact ds_set g.nd a1 a2 a3 (de_lc g.calm g.nd it4 bo (subB_ok c2) g1 g2 g3 fo) (lc_not g.sc hb)
        · cases h
      · cases h
    · split at h
      · rename_i hp
        split at h
        · rename_i h1 h2; cases h
          obtain ⟨a1, a2, a3⟩ := slotW_ok g.toGd h1
          exact ds_set g.nd a1 a2 a3 (k _ _ h2).1 (swaps_ok hp)
        · cases h
      · cases h
    · split at h
      · rename_i hp
        split at h
        · rename_i h1 h2 h3; cases h
          obtain ⟨b1, b2, b3, b4⟩ := par_ok g.sc g.kind hp
          have n1 := ixOf_at h1
          have n2 := ixOf_at h2
          rw [← g.N] at n1 n2
          exact ds_par g.calm g.nd n1 n2 (fun e => b3 (by rw [e, n2] at n1; exact (Option.some.inj n1).symm)) b1 b2 (mapA_ok k h3).1 b4
        · cases h
      · split at h
        · rename_i hp
          split at h
          · rename_i h1 h2; cases h
            exact ds_asg (k _ _ h1).1 (cTg_ok g.toGd k h2).1 (swapsTup_ok rfl) (swappedLoc g.sc hp) rfl
          · cases h
        · cases h
    · split at h
      · rename_i hp
        split at h
        · rename_i h1 h2 h3 h4; cases h
          obtain ⟨⟨b1, b2, b3⟩, ⟨d1, d2, d3⟩, b4⟩ := par3_ok g.sc g.kind hp
          have n1 := ixOf_at h1
          have n2 := ixOf_at h2
          have n3 := ixOf_at h3
          rw [← g.N] at n1 n2 n3
          exact ds_par3 g.calm g.nd n1 n2 n3 (fun e => d1 (by rw [e, n2] at n1; exact (Option.some.inj n1).symm)) (fun e => d2 (by rw [e, n3] at n1; exact (Option.some.inj n1).symm)) (fun e => d3 (by rw [e, n3] at n2; exact (Option.some.inj n2).symm)) b1 b2 b3 (mapA_ok k h4).1 b4
        · cases h
      · split at h
        · rename_i hp
          split at h
          · rename_i h1 h2; cases h
            exact ds_asg (k _ _ h1).1 (cTg_ok g.toGd k h2).1 (swapsTup_ok rfl) (swappedLoc g.sc hp) rfl
          · cases h
        · cases h
    · split at h
      · rename_i hp
        rw [Bool.and_eq_true] at hp
        split at h
        · rename_i h1 h2; cases h
          exact ds_asg (k _ _ h1).1 (cTg_ok g.toGd k h2).1 (swapsTup_ok hp.1) (swappedNone hp.2) rfl
        · cases h
      · cases h
    · split at h
      · rename_i hp
        split at h
        · rename_i h1 h2; cases h
          exact ds_asg (k _ _ h1).1 (cTg_ok g.toGd k h2).1 (swapsSole_ok hp) rfl rfl
        · cases h
      · cases h
    · split at h
      · rename_i hp
        split at h
        · rename_i h1 h2 h3; cases h
          exact ds_setf (g.fl _ _ _ h1) (k _ _ h2).1 (k _ _ h3).1 hp
        · cases h
      · cases h
    · split at h
      · rename_i h1 h2
        split at h
        · rename_i hj; cases h
          obtain ⟨e1, e2⟩ := ecOk_ok hj
          obtain ⟨b1, b2, b3, b4⟩ := globG_ok g.toGd h1
          have hx := ixOf_at h2
          exact ds_raise (by unfold excN; rw [List.getD_eq_getElem?_getD, hx]; rfl) g.calm (g.ec _ e1) e2 b4 b1 b2
        · cases h
      · cases h
    · split at h
      · rename_i kk tb h1 h2
        split at h
        · rename_i hc; cases h
          obtain ⟨c1, c2⟩ := clsOf_ok g.toGd hc
          obtain ⟨l1, l2⟩ := slotL_ok g.toGd h1
          exact fun W tk => PSi (L2N.ps_try_as (tb := fun W' => liftS (kt X) W' tb) g.stk g.frm g.nd l1 l2 c1 tk (fun W' pn xe tk' hp' => mapS_ok (fun s t => compS_ok n cc s t (X.tr pn xe) (g.tr hp')) h2 W' tk') (fun a oe cls d pn hz hf => suite_ok g n _ a oe cls d pn hz hf)) fun E σ H h => tryAs_read g.ec c2 E σ H h
        · cases h
      · cases h
    · split at h
      · rename_i ll tb h1 h2; cases h
        obtain ⟨c1, c2⟩ := hdsC_ok g h1
        exact fun W tk => PSi (L2N.ps_try_many (tb := fun W' => liftS (kt X) W' tb) g.stk g.frm tk (fun W' pn xe tk' hp' => mapS_ok (fun s t => compS_ok n cc s t (X.tr pn xe) (g.tr hp')) h2 W' tk') c1) fun E σ H h => tryM_read g.ec c2 E σ H h
      · cases h
    · split at h
      · rename_i h1 h2; cases h
        obtain ⟨a1, a2, a3⟩ := slotW_ok g.toGd h1
        exact ds_aug g.nd a1 a2 a3 (k _ _ h2).1 ipd_add
      · cases h
    · split at h
      · rename_i h1 h2 h3; cases h
        exact ds_augf (g.fl _ _ _ h1) (k _ _ h2).1 (k _ _ h3).1
      · cases h
    · cases h
end S
set_option Elab.async false
set_option linter.all false
set_option maxRecDepth 100000
set_option maxHeartbeats 4000000
namespace S
open PySem PySem.Spec L2
open PyProof.Rows hiding St
/-! ## a def by its reading -/
structure CalG (P : Program) (w : World) (K : PySem.W.Frag) (mg : Str → Option Value) (base : Heap) (k : Nat) (x : Str) (sp : DSp) : Prop where
  ex : ∃ f fd ps, FnG P w K mg base (L2N.CX P w) k f fd ps (liftSp ⟨K, P, w⟩ sp) ∧ mg x = some (.ref f) ∧ PySem.W.keepIn K (.ref f) = true ∧ Binds K fd ps []
def GIg (P : Program) (w : World) (K : PySem.W.Frag) (mg : Str → Option Value) (base : Heap) (k : Nat) (x : Str) : GI → Prop
  | .fn sp => ∃ j, j ≤ k ∧ CalG P w K mg base j x sp
  | .cst d => ∃ v u, mg x = some u ∧ RelV v u ∧ ∀ H, Rp ⟨K, P, w⟩ H d v
  | .bi b => mg x = none ∧ x = b.name
  | .ty n => mg x = none ∧ bootBuiltins x = some (.type n) ∧ x ≠ "__name__"
  | .rng => mg x = none ∧ x = "range"
  | .enum => mg x = none ∧ x = "enumerate"
  | .zip => mg x = none ∧ x = "zip"
  | .exc => mg x = some (.ref (He.ga K x))
  | .fv sp => (∃ j, j ≤ k ∧ CalG P w K mg base j x sp) ∧ mg x = some (.ref (He.ga K x))
  | .cl c sp => mg x = some (.ref (He.ga K (clsName c))) ∧ ∃ f fd ps j, j + 1 ≤ k ∧ Mk K (He.ga K (clsName c)) f ∧ FnG P w K mg base (L2N.CX P w) j f fd ps (liftSp ⟨K, P, w⟩ sp) ∧ Binds K fd ps []
  | .fe sp => ∃ f fd ps j, j ≤ k ∧ FnE P w K mg base (L2N.CX P w) j f fd ps (fun j a => liftSp ⟨K, P, w⟩ (sp j a)) ∧ mg x = some (.ref f) ∧ PySem.W.keepIn K (.ref f) = true ∧ Binds K fd ps []
/-- a method by its promise -/
def MetG (P : Program) (w : World) (K : PySem.W.Frag) (mg : Str → Option Value) (base : Heap) (k : Nat) (c : Nat) (m : Str) (sp : DSp) : Prop :=
  Cls K (He.ga K (clsName c)) ∧ m ∉ attrs ∧ ∃ f fd ps, Meth K (He.ga K (clsName c)) m f ∧ FnG P w K mg base (L2N.CX P w) k f fd ps (liftSp ⟨K, P, w⟩ sp) ∧ Binds K fd ps []
def FlOk (K : PySem.W.Frag) (fl : List (Str × Nat × Nat)) : Prop := ∀ f c i, fl.lookup f = some (c, i) → attrs[i]? = some f ∧ Cls K (He.ga K (clsName c)) ∧ NoAttr K (He.ga K (clsName c)) f
def MtOk (P : Program) (w : World) (K : PySem.W.Frag) (mg : Str → Option Value) (base : Heap) (k : Nat) (mt : List (Str × Nat × DSp)) : Prop := ∀ m c sp, (m, c, sp) ∈ mt → ∃ j, j ≤ k ∧ MetG P w K mg base j c m sp
theorem FlOk.nil {K : PySem.W.Frag} : FlOk K [] := fun _ _ _ h => nomatch h
theorem FlOk.cons {K : PySem.W.Frag} {fl : List (Str × Nat × Nat)} {f : Str} {c i : Nat} (h1 : attrs[i]? = some f) (h2 : Cls K (He.ga K (clsName c))) (h3 : NoAttr K (He.ga K (clsName c)) f) (h : FlOk K fl) : FlOk K ((f, c, i) :: fl) := fun g d j e => by
  rw [List.lookup_cons] at e
  split at e
  · rename_i q; cases e; cases eq_of_beq q; exact ⟨h1, h2, h3⟩
  · exact h g d j e
theorem MtOk.nil {P : Program} {w : World} {K : PySem.W.Frag} {mg : Str → Option Value} {base : Heap} {k : Nat} : MtOk P w K mg base k [] := fun _ _ _ h => by cases h
theorem MtOk.cons {P : Program} {w : World} {K : PySem.W.Frag} {mg : Str → Option Value} {base : Heap} {k j : Nat} {mt : List (Str × Nat × DSp)} {m : Str} {c : Nat} {sp : DSp} (h1 : MetG P w K mg base j c m sp) (h2 : j ≤ k) (h : MtOk P w K mg base k mt) : MtOk P w K mg base k ((m, c, sp) :: mt) := fun n d s e => by
  rcases List.mem_cons.mp e with q | q
  · cases q; exact ⟨j, h2, h1⟩
  · exact h n d s q
theorem GIg.ok {X : Cx} {k : Nat} {x : Str} {g : GI} (hr : Rm k X.A) (h : GIg X.prog X.w X.K X.mg X.base k x g) : GIok X x g := by
  cases g with
  | fn sp =>
    obtain ⟨j, hj, ⟨f, fd, ps, F, h1, h2, h3⟩⟩ := h
    exact ⟨f, fd, ps, j, F, hr.mono hj, h1, h2, h3⟩
  | fv sp =>
    obtain ⟨⟨j, hj, ⟨f, fd, ps, F, h1, h2, h3⟩⟩, hm⟩ := h
    exact ⟨⟨f, fd, ps, j, F, hr.mono hj, h1, h2, h3⟩, hm⟩
  | cl c sp =>
    obtain ⟨hm, f, fd, ps, j, hj, M, F, h3⟩ := h
    exact ⟨hm, f, fd, ps, j, M, F, hr.mono hj, h3⟩
  | fe sp =>
    obtain ⟨f, fd, ps, j, hj, F, h1, h2, h3⟩ := h
    exact ⟨f, fd, ps, j, F, L2H.roomH_of (hr.mono hj).r, h1, h2, h3⟩
  | _ => exact h
def startD (N : List Str) (ds : List D) : Sd := ds.map some ++ List.replicate (N.length - ds.length) none
theorem SR.start {K : Kt} {H : Hp} {N : List Str} {ds : List D} {vs : List V} (r : Rps K H ds vs) : SR K H (startD N ds) (start N vs) := by
  unfold startD L2.start
  have hl := r.length
  refine ⟨by simp [hl], fun i d h => ?_⟩
  by_cases hi : i < ds.length
  · rw [List.getElem?_append_left (by simpa using hi), List.getElem?_map] at h
    cases e : ds[i]? with
    | none => rw [e] at h; cases h
    | some y =>
      rw [e] at h
      cases h
      obtain ⟨v, hv, rv⟩ := r.get e
      exact ⟨v, by rw [List.getElem?_append_left (by simpa [← hl] using hi), List.getElem?_map, hv]; rfl, rv⟩
  · rw [List.getElem?_append_right (by simpa using hi), List.getElem?_replicate] at h
    split at h <;> cases h
/-- what a def's body does, by its reading -/
def Body (t : TSd) (N : List Str) (sp : DSp) : Prop := ∀ ds G q x, sp ds G q x → t (fun i d _ G => x i d G) { nx := fun _ G => q .non G, rt := q } (startD N ds) G
abbrev ccOf (N : List Str) (sc : Scope) (gl : List (Str × GI)) (dn : List Str) (ec : List Nat := []) (et : List Str := []) (kd : Bool := false) (fl : List (Str × Nat × Nat) := []) (mt : List (Str × Nat × DSp) := []) : CC := ⟨N, sc, fun _ => true, gl, dn, ec, et, kd, fl, mt⟩
section
variable {P : Program} {w : World} {K : PySem.W.Frag} {mg : Str → Option Value} {base : Heap}
theorem un65 {k : Nat} {A : Around} (r : Room k A) : A.units + 65 < cLine := by have := r.un; omega
theorem def_ok {x qual : Str} {params : Arguments} {body : List Stmt} {scope : Scope} {f : Addr} {fd : FuncData} {N ps : List Str} {gl : List (Str × GI)} {t : TSd} {sp : DSp} {k n : Nat} {dn : List Str} {ec : List Nat} {et : List Str} {kd : Bool} {fl : List (Str × Nat × Nat)} {mt : List (Str × Nat × DSp)} (F : L2.FunD K x qual params body scope [] [] f fd) (fsc : FnScope N ps scope)
    (hc : mapS (compS n (ccOf N scope gl dn ec et kd fl mt)) body = some t) (hg : ∀ x g, gl.lookup x = some g → GIg P w K mg base k x g) (len : ∀ ds G q xx, sp ds G q xx → ds.length = ps.length) (hb : Body t N sp) (he : EcK K ec et) (hfl : FlOk K fl := by exact FlOk.nil) (hmt : MtOk P w K mg base k mt := by exact MtOk.nil) :
    FnG P w K mg base (L2N.CX P w) (k + 1) f fd ps (liftSp ⟨K, P, w⟩ sp) := by
  refine funG_ok F fsc (fun vs H Q E ⟨ds, G, q, xx, r, _, h, _⟩ => by rw [← r.length]; exact len _ _ _ _ h) fun cdv A outer s H vs Q E hr ⟨ds, G, q, xx, r, gr, h, cl, cx⟩ => ?_
  refine ⟨liftS ⟨K, P, w⟩ (fun cls d _ H => E cls d H) t, ?_, ?_⟩
  · have tk : L2N.Takes (cxOf (L2N.CX P w) P w K mg base N qual scope f cdv A outer s H E) (fun cls d _ H => E cls d H) := L2N.takes_of rfl rfl rfl rfl
    refine mapS_ok (X := cxOf (L2N.CX P w) P w K mg base N qual scope f cdv A outer s H E) (fun s t => compS_ok n (ccOf N scope gl dn ec et kd fl mt) s t _ ?_) hc _ tk
    exact { N := rfl, nd := fsc.nd, sc := rfl, calm := rfl, fx := fun _ _ => rfl, hu := un65 hr.r, gd := hr.g, gl := fun x g h => (hg x g h).ok hr, ec := he, fl := hfl, mt := fun m c sp h => let ⟨j, hj, kc, km, f, fd, ps, kM, F, kb⟩ := hmt m c sp h; ⟨kc, km, f, fd, ps, j, kM, F, hr.mono hj, kb⟩, hp := passes_of rfl, kind := fsc.kind, stk := rfl, frm := rfl }
  · refine ⟨startD N ds, G, { nx := fun _ G => q .non G, rt := q }, _, SR.start r, gr, hb ds G q xx h, ?_, fun i d σd σ G' H' cls od t sr gr ex h => cx i d G' H' cls od t gr ex h⟩
    exact ⟨fun σd σ H' G' t sr gr h => cl _ _ _ _ t gr .non h, cl, fun _ _ _ _ _ _ _ h => h.elim, fun _ _ _ _ _ _ _ h => h.elim⟩
theorem call_mk {x : Str} {params : Arguments} {body : List Stmt} {scope : Scope} {f : Addr} {fd : FuncData} {N ps : List Str} {gl : List (Str × GI)} {t : TSd} {sp : DSp} {k n : Nat} {dn : List Str} {ec : List Nat} {et : List Str} {kd : Bool} {fl : List (Str × Nat × Nat)} {mt : List (Str × Nat × DSp)} (F : L2.FunD K x x params body scope [] [] f fd) (fsc : FnScope N ps scope)
    (hc : mapS (compS n (ccOf N scope gl dn ec et kd fl mt)) body = some t) (hg : ∀ x g, gl.lookup x = some g → GIg P w K mg base k x g) (len : ∀ ds G q xx, sp ds G q xx → ds.length = ps.length) (hb : Body t N sp)
    (hm : mg x = some (.ref f)) (bd : Binds K fd ps []) (he : EcK K ec et) (hfl : FlOk K fl := by exact FlOk.nil) (hmt : MtOk P w K mg base k mt := by exact MtOk.nil) : CalG P w K mg base (k + 1) x sp := ⟨f, fd, ps, def_ok F fsc hc hg len hb he hfl hmt, hm, F.kp, bd⟩
end
/-- the law itself: of a script of ints it hands back True and raises nothing -/
def spLaw : DSp := fun ds G q _ => ∃ ns : List Int, ds = [.rl (ns.map .int)] ∧ ns.length ≤ 63 ∧ (∀ b, G b = none) ∧ ∀ G', q (.bl true) G'
theorem rps_ints {K : Kt} {H : Hp} : ∀ ns : List Int, Rps K H (ns.map D.int) (ns.map V.int)
  | [] => .nil
  | n :: ns => .cons (.int n) (rps_ints ns)
theorem law_sp {K : Kt} {H : Hp} {a : Addr} {ns : List Int} (hl : ns.length ≤ 63) (hO : Only H) (hS : SqL K H a (ns.map V.int)) : liftSp K spLaw [.ref a] H (fun v _ => v = .bl true) (fun _ _ _ => False) := by
  have s0 : Sq0 K H a (ns.map V.int) := by
    rcases hS with (h | h) | h
    · rcases hO a with z | ⟨o, xs, z⟩
      · rw [z] at h; cases h
      · rw [z] at h; cases h
    · exact .inl h
    · exact .inr h
  exact ⟨[.rl (ns.map .int)], fun _ => none, fun d _ => d = .bl true, fun _ _ _ => False, .cons (.rl s0 (rps_ints ns)) .nil, fun a o e => (by cases e), ⟨ns, rfl, hl, fun _ => rfl, fun _ => rfl⟩,
    fun v d H' G' t gr r e => (by subst e; exact r.bl_inv), fun _ _ _ _ _ _ _ _ _ z => z⟩
end S
set_option Elab.async false
set_option linter.all false
set_option maxRecDepth 100000
set_option maxHeartbeats 4000000
namespace S
open PySem PySem.Spec L2
open PyProof.Rows hiding St
/-! ## constants of the module that are tuples or texts -/
mutual
def tcD (K : PySem.W.Frag) : D → Value → Bool
  | .non, .none => true
  | .bl b, .bool c => b == c
  | .int i, .int j _ => decide (j = i)
  | .str x, .str y _ => decide (y = x)
  | .tup xs, .ref a => match K.lookup a with
    | some ⟨c, _, .seq its _, _⟩ => decide (c = .type "tuple") && (decide (its.size ≤ sizeLine) && tcDs K xs its.toList)
    | _ => false
  | _, _ => false
def tcDs (K : PySem.W.Frag) : List D → List Value → Bool
  | [], [] => true
  | x :: xs, u :: us => tcD K x u && tcDs K xs us
  | _, _ => false
end
mutual
theorem tcD_ok {K : PySem.W.Frag} {P : Program} {w : World} : ∀ (d : D) (u : Value), tcD K d u = true → ∃ v, RelV v u ∧ ∀ H, Rp ⟨K, P, w⟩ H d v
  | .non, u, h => by
    cases u with
    | none => exact ⟨.non, rfl, fun _ => .non⟩
    | _ => simp [tcD] at h
  | .bl b, u, h => by
    cases u with
    | bool c =>
      have e : b = c := by simpa [tcD] using h
      subst e
      exact ⟨.bl b, rfl, fun _ => .bl b⟩
    | _ => simp [tcD] at h
  | .int i, u, h => by
    cases u with
    | int j t =>
      have e : j = i := by simpa [tcD] using h
      subst e
      exact ⟨.int j, ⟨t, rfl⟩, fun _ => .int j⟩
    | _ => simp [tcD] at h
  | .str x, u, h => by
    cases u with
    | str y t =>
      have e : y = x := by simpa [tcD] using h
      subst e
      exact ⟨.str y, ⟨t, rfl⟩, fun _ => .str y⟩
    | _ => simp [tcD] at h
  | .tup xs, u, h => by
    cases u with
    | ref a =>
      unfold tcD at h
      cases q : K.lookup a with
      | none => rw [q] at h; cases h
      | some o =>
        obtain ⟨c, od, dt, sl⟩ := o
        rw [q] at h
        cases dt with
        | seq its n =>
          have h : (decide (c = .type "tuple") && (decide (its.size ≤ sizeLine) && tcDs K xs its.toList)) = true := h
          simp only [Bool.and_eq_true, decide_eq_true_eq] at h
          obtain ⟨h1, h2, h3⟩ := h
          obtain ⟨vs, r, k⟩ := tcDs_ok (P := P) (w := w) xs its.toList h3
          exact ⟨.ref a, rfl, fun H => .tup (.inr ⟨_, its, n, q, h1, rfl, h2, r⟩) (k H)⟩
        | _ => cases h
    | _ => simp [tcD] at h
  | .lst xs, u, h => by simp [tcD] at h
  | .ref a, u, h => by simp [tcD] at h
  | .ty n, u, h => by simp [tcD] at h
  | .fn x, u, h => by simp [tcD] at h
  | .rl xs, u, h => by simp [tcD] at h
theorem tcDs_ok {K : PySem.W.Frag} {P : Program} {w : World} : ∀ (ds : List D) (us : List Value), tcDs K ds us = true → ∃ vs, Vals vs us ∧ ∀ H, Rps ⟨K, P, w⟩ H ds vs
  | [], [], _ => ⟨[], .nil, fun _ => .nil⟩
  | [], u :: us, h => by simp [tcDs] at h
  | d :: ds, [], h => by simp [tcDs] at h
  | d :: ds, u :: us, h => by
    unfold tcDs at h
    rw [Bool.and_eq_true] at h
    obtain ⟨v, r, k⟩ := tcD_ok (P := P) (w := w) d u h.1
    obtain ⟨vs, rs, ks⟩ := tcDs_ok (P := P) (w := w) ds us h.2
    exact ⟨v :: vs, .cons r rs, fun H => .cons (k H) (ks H)⟩
end
def TcK (K : PySem.W.Frag) (tc : List (Str × D)) : Prop := ∀ p ∈ tc, ∃ u, PySem.W.nsIn K mainGlobals p.1 = some (some u) ∧ tcD K p.2 u = true
def tcB (tc : List (Str × D)) (K : PySem.W.Frag) : Bool := tc.all fun p => match PySem.W.nsIn K mainGlobals p.1 with
  | some (some u) => tcD K p.2 u
  | _ => false
theorem tcB_ok {K : PySem.W.Frag} {tc : List (Str × D)} (h : tcB tc K = true) : TcK K tc := by
  intro p hp
  have := List.all_eq_true.mp h p hp
  cases e : PySem.W.nsIn K mainGlobals p.1 with
  | none => rw [e] at this; cases this
  | some o =>
    rw [e] at this
    cases o with
    | none => cases this
    | some u => exact ⟨u, rfl, this⟩
theorem TcK.cst {K : PySem.W.Frag} {P : Program} {w : World} {h : Heap} {mg : Str → Option Value} {tc : List (Str × D)} {x : Str} {d : D} (ct : TcK K tc) (X : K.In h) (G : h.Ns mainGlobals mg) (hm : (x, d) ∈ tc) : ∃ v u, mg x = some u ∧ RelV v u ∧ ∀ H, Rp ⟨K, P, w⟩ H d v := by
  obtain ⟨u, e, k⟩ := ct _ hm
  obtain ⟨v, r, z⟩ := tcD_ok (P := P) (w := w) d u k
  exact ⟨v, u, PySem.W.mg_of X G e, r, z⟩
/-- a head's facts, with a look at the exceptions and at such constants -/
def hookT (n : Nat) (fa : List He.Fa) (fn : List He.DefD) (ec : List Nat) (et : List Str) (tc : List (Str × D)) : PySem.W.Hook where
  α := AlX
  obs := fun s => (He.obsDG n fa fn s.heap.get?, ecB ec et (He.frG s.heap.get? (He.asD s.heap.get? n)) && tcB tc (He.frG s.heap.get? (He.asD s.heap.get? n)))
  val := fun _ => (He.valD fn, true)
  says := fun _ h => ∃ K : PySem.W.Frag, K.In h ∧ He.SaysD fa fn K ∧ EcK K ec et ∧ TcK K tc
  of := fun _ _ e => ⟨_, He.frG_in, congrArg Prod.fst e, ecB_ok (Bool.and_eq_true_iff.mp (congrArg Prod.snd e)).1, tcB_ok (Bool.and_eq_true_iff.mp (congrArg Prod.snd e)).2⟩
  keeps := fun _ _ _ ⟨K, hK, c⟩ k => ⟨K, PySem.W.Frag.In.keeps hK k, c⟩
def obsT (n : Nat) (fa : List He.Fa) (fn : List He.DefD) (ec : List Nat) (et : List Str) (tc : List (Str × D)) (g : Addr → Option Obj) : AlX := (He.obsDG n fa fn g, ecB ec et (He.frG g (He.asD g n)) && tcB tc (He.frG g (He.asD g n)))
theorem obsT_eq {n : Nat} {fa : List He.Fa} {fn : List He.DefD} {ec : List Nat} {et : List Str} {tc : List (Str × D)} {g : Addr → Option Obj} {s : Shared} (h : ∀ a, g a = s.heap.get? a) : obsT n fa fn ec et tc g = (hookT n fa fn ec et tc).obs s := by
  have e : g = s.heap.get? := funext h
  rw [e] <;> rfl
end S
set_option Elab.async false
set_option linter.all false
set_option maxRecDepth 100000
set_option maxHeartbeats 0
namespace S
open PySem PySem.Spec PyProof.Rows L2
def top (i : Nat) : Stmt := PySem.Challenge.pw_signbench_k81_texts_written_and_read.main.body.getD i (.Pass ⟨0, 0, 0, 0⟩)
abbrev s_is_number : Stmt := top 5
def d_is_number : He.DefD := ⟨("is_number", none), "is_number", "is_number", defArgs s_is_number, defBody s_is_number, defScope s_is_number, [], []⟩
abbrev s_are_numbers : Stmt := top 6
def d_are_numbers : He.DefD := ⟨("are_numbers", none), "are_numbers", "are_numbers", defArgs s_are_numbers, defBody s_are_numbers, defScope s_are_numbers, [], []⟩
abbrev s_is_word : Stmt := top 13
def d_is_word : He.DefD := ⟨("is_word", none), "is_word", "is_word", defArgs s_is_word, defBody s_is_word, defScope s_is_word, [], []⟩
abbrev s_is_whole : Stmt := top 17
def d_is_whole : He.DefD := ⟨("is_whole", none), "is_whole", "is_whole", defArgs s_is_whole, defBody s_is_whole, defScope s_is_whole, [], []⟩
abbrev s_is_from : Stmt := top 18
def d_is_from : He.DefD := ⟨("is_from", none), "is_from", "is_from", defArgs s_is_from, defBody s_is_from, defScope s_is_from, [], []⟩
abbrev s_is_row : Stmt := top 19
def d_is_row : He.DefD := ⟨("is_row", none), "is_row", "is_row", defArgs s_is_row, defBody s_is_row, defScope s_is_row, [], []⟩
abbrev s_with_dots : Stmt := top 23
def d_with_dots : He.DefD := ⟨("with_dots", none), "with_dots", "with_dots", defArgs s_with_dots, defBody s_with_dots, defScope s_with_dots, [], []⟩
abbrev s_piece_text : Stmt := top 24
def d_piece_text : He.DefD := ⟨("piece_text", none), "piece_text", "piece_text", defArgs s_piece_text, defBody s_piece_text, defScope s_piece_text, [], []⟩
abbrev s_number_in : Stmt := top 25
def d_number_in : He.DefD := ⟨("number_in", none), "number_in", "number_in", defArgs s_number_in, defBody s_number_in, defScope s_number_in, [], []⟩
abbrev s_numbers_in : Stmt := top 26
def d_numbers_in : He.DefD := ⟨("numbers_in", none), "numbers_in", "numbers_in", defArgs s_numbers_in, defBody s_numbers_in, defScope s_numbers_in, [], []⟩
abbrev s_is_wish : Stmt := top 28
def d_is_wish : He.DefD := ⟨("is_wish", none), "is_wish", "is_wish", defArgs s_is_wish, defBody s_is_wish, defScope s_is_wish, [], []⟩
abbrev s_show_numbers : Stmt := top 33
def d_show_numbers : He.DefD := ⟨("show_numbers", none), "show_numbers", "show_numbers", defArgs s_show_numbers, defBody s_show_numbers, defScope s_show_numbers, [], []⟩
abbrev s_show_keys : Stmt := top 34
def d_show_keys : He.DefD := ⟨("show_keys", none), "show_keys", "show_keys", defArgs s_show_keys, defBody s_show_keys, defScope s_show_keys, [], []⟩
abbrev s_show_word : Stmt := top 35
def d_show_word : He.DefD := ⟨("show_word", none), "show_word", "show_word", defArgs s_show_word, defBody s_show_word, defScope s_show_word, [], []⟩
abbrev s_show_cutting : Stmt := top 36
def d_show_cutting : He.DefD := ⟨("show_cutting", none), "show_cutting", "show_cutting", defArgs s_show_cutting, defBody s_show_cutting, defScope s_show_cutting, [], []⟩
abbrev s_show_wish : Stmt := top 37
def d_show_wish : He.DefD := ⟨("show_wish", none), "show_wish", "show_wish", defArgs s_show_wish, defBody s_show_wish, defScope s_show_wish, [], []⟩
abbrev s_keys_in : Stmt := top 38
def d_keys_in : He.DefD := ⟨("keys_in", none), "keys_in", "keys_in", defArgs s_keys_in, defBody s_keys_in, defScope s_keys_in, [], []⟩
abbrev s_read_keys_text : Stmt := top 39
def d_read_keys_text : He.DefD := ⟨("read_keys_text", none), "read_keys_text", "read_keys_text", defArgs s_read_keys_text, defBody s_read_keys_text, defScope s_read_keys_text, [], []⟩
abbrev s_read_word : Stmt := top 40
def d_read_word : He.DefD := ⟨("read_word", none), "read_word", "read_word", defArgs s_read_word, defBody s_read_word, defScope s_read_word, [], []⟩
abbrev s_read_wish : Stmt := top 41
def d_read_wish : He.DefD := ⟨("read_wish", none), "read_wish", "read_wish", defArgs s_read_wish, defBody s_read_wish, defScope s_read_wish, [], []⟩
abbrev s__law_bag : Stmt := top 43
def d__law_bag : He.DefD := ⟨("_law_bag", none), "_law_bag", "_law_bag", defArgs s__law_bag, defBody s__law_bag, defScope s__law_bag, [], []⟩
abbrev s__law_take : Stmt := top 44
def d__law_take : He.DefD := ⟨("_law_take", none), "_law_take", "_law_take", defArgs s__law_take, defBody s__law_take, defScope s__law_take, [], []⟩
abbrev s__law_dots : Stmt := top 45
def d__law_dots : He.DefD := ⟨("_law_dots", none), "_law_dots", "_law_dots", defArgs s__law_dots, defBody s__law_dots, defScope s__law_dots, [], []⟩
abbrev s__law_keys_text : Stmt := top 46
def d__law_keys_text : He.DefD := ⟨("_law_keys_text", none), "_law_keys_text", "_law_keys_text", defArgs s__law_keys_text, defBody s__law_keys_text, defScope s__law_keys_text, [], []⟩
abbrev s__law_word_text : Stmt := top 47
def d__law_word_text : He.DefD := ⟨("_law_word_text", none), "_law_word_text", "_law_word_text", defArgs s__law_word_text, defBody s__law_word_text, defScope s__law_word_text, [], []⟩
abbrev s__law_piece_text : Stmt := top 48
def d__law_piece_text : He.DefD := ⟨("_law_piece_text", none), "_law_piece_text", "_law_piece_text", defArgs s__law_piece_text, defBody s__law_piece_text, defScope s__law_piece_text, [], []⟩
abbrev s__law_wish_text : Stmt := top 49
def d__law_wish_text : He.DefD := ⟨("_law_wish_text", none), "_law_wish_text", "_law_wish_text", defArgs s__law_wish_text, defBody s__law_wish_text, defScope s__law_wish_text, [], []⟩
abbrev s__law_numbers : Stmt := top 50
def d__law_numbers : He.DefD := ⟨("_law_numbers", none), "_law_numbers", "_law_numbers", defArgs s__law_numbers, defBody s__law_numbers, defScope s__law_numbers, [], []⟩
abbrev s__law_word : Stmt := top 51
def d__law_word : He.DefD := ⟨("_law_word", none), "_law_word", "_law_word", defArgs s__law_word, defBody s__law_word, defScope s__law_word, [], []⟩
abbrev s__law_wish : Stmt := top 52
def d__law_wish : He.DefD := ⟨("_law_wish", none), "_law_wish", "_law_wish", defArgs s__law_wish, defBody s__law_wish, defScope s__law_wish, [], []⟩
abbrev s__law_cutting : Stmt := top 53
def d__law_cutting : He.DefD := ⟨("_law_cutting", none), "_law_cutting", "_law_cutting", defArgs s__law_cutting, defBody s__law_cutting, defScope s__law_cutting, [], []⟩
abbrev s__law_keys_right : Stmt := top 54
def d__law_keys_right : He.DefD := ⟨("_law_keys_right", none), "_law_keys_right", "_law_keys_right", defArgs s__law_keys_right, defBody s__law_keys_right, defScope s__law_keys_right, [], []⟩
abbrev s_law : Stmt := top 55
def d_law : He.DefD := ⟨("law", none), "law", "law", defArgs s_law, defBody s_law, defScope s_law, [], []⟩
def fn : List He.DefD := [d_is_number, d_are_numbers, d_is_word, d_is_whole, d_is_from, d_is_row, d_with_dots, d_piece_text, d_number_in, d_numbers_in, d_is_wish, d_show_numbers, d_show_keys, d_show_word, d_show_cutting, d_show_wish, d_keys_in, d_read_keys_text, d_read_word, d_read_wish, d__law_bag, d__law_take, d__law_dots, d__law_keys_text, d__law_word_text, d__law_piece_text, d__law_wish_text, d__law_numbers, d__law_word, d__law_wish, d__law_cutting, d__law_keys_right, d_law]
def fa : List He.Fa := [.glo "is_number", .glo "are_numbers", .glo "is_word", .glo "is_whole", .glo "is_from", .glo "is_row", .glo "with_dots", .glo "piece_text", .glo "number_in", .glo "numbers_in", .glo "is_wish", .glo "show_numbers", .glo "show_keys", .glo "show_word", .glo "show_cutting", .glo "show_wish", .glo "keys_in", .glo "read_keys_text", .glo "read_word", .glo "read_wish", .glo "_law_bag", .glo "_law_take", .glo "_law_dots", .glo "_law_keys_text", .glo "_law_word_text", .glo "_law_piece_text", .glo "_law_wish_text", .glo "_law_numbers", .glo "_law_word", .glo "_law_wish", .glo "_law_cutting", .glo "_law_keys_right", .glo "law", .free "ValueError", .free "abs", .free "all", .free "bool", .free "int", .free "isinstance", .free "len", .free "list", .free "max", .free "min", .free "range", .free "str", .free "tuple", .glo "BenchError", .glo "NoText", .int "MOST_SOUND" 39, .int "MOST_WORD_SOUNDS" 6, .int "MOST_WORD_SIGNS" 4, .int "MOST_WORD_SIGN" 999, .int "MOST_WORD_KIND" 7, .int "MOST_WORD_COST" 9999, .int "MOST_SIGNS" 24, .int "MOST_SIGN" 1039, .int "MOST_FIGURES" 5, .int "MOST_TYPED" 60]
abbrev R : PySem.W.OpenRow := PySem.W.OpenLaw.row PySem.Challenge.rw_signbench_k81_texts_written_and_read
def ecs : List Nat := [0, 15]
def ets : List Str := ["BenchError", "NoText"]
def tcs : List (Str × D) := [("FIGURES", .str "0123456789"), ("LETTERS", .str "abcdefghijklmnopqrstuvwxyz"), ("NONE", .str "-")]
abbrev hk : PySem.W.Hook := hookT 5 fa fn ecs ets tcs
def ob (s : PySem.W.SharedT) : AlX := obsT 5 fa fn ecs ets tcs (HandSHeadRun.getT s)
theorem ob_eq (s : PySem.W.SharedT) : ob s = hk.obs s.abs := obsT_eq (HandSHeadRun.getT_eq s)
def loose0 : List Str := ["BenchError", "FIGURES", "LETTERS", "MOST_FIGURES", "MOST_SIGN", "MOST_SIGNS", "MOST_SOUND", "MOST_TYPED", "MOST_WORD_COST", "MOST_WORD_KIND", "MOST_WORD_SIGN", "MOST_WORD_SIGNS", "MOST_WORD_SOUNDS", "NONE", "NoText", "_law_bag", "_law_cutting", "_law_dots", "_law_keys_right", "_law_keys_text", "_law_numbers", "_law_piece_text", "_law_take", "_law_wish", "_law_wish_text"]
def loose1 : List Str := ["_law_word", "_law_word_text", "are_numbers", "is_from", "is_number", "is_row", "is_whole", "is_wish", "is_word", "keys_in", "number_in", "numbers_in", "piece_text", "read_keys_text", "read_wish", "read_word", "show_cutting", "show_keys", "show_numbers", "show_wish", "show_word", "with_dots"]
abbrev loose : List Str := loose0 ++ loose1
theorem run (w : World) : HandSHeadRun.RunEq R (PySem.W.view R.prog [55]) hk ob 30000 loose w := by
  intro os
  kernel_rfl
end S
set_option Elab.async false
set_option linter.all false
set_option maxRecDepth 100000
set_option maxHeartbeats 4000000
namespace S
open PySem PySem.Spec L2
open PyProof.Rows hiding St
/-! ## heaps that grow -/
/-- all but these places stay -/
def Xt (bs : List Addr) (G G' : Hd) : Prop := ∀ a u, a ∉ bs → G a = some u → G' a = some u
abbrev Ext := Xt []
section
variable {bs cs : List Addr} {G G' G'' : Hd} {p a : Addr} {o u : GO}
theorem Xt.refl : Xt bs G G := fun _ _ _ h => h
theorem Xt.trans (h : Xt bs G G') (k : Xt bs G' G'') : Xt bs G G'' := fun a u n e => k a u n (h a u n e)
theorem Xt.weak (h : Xt bs G G') (s : ∀ a ∈ bs, a ∈ cs) : Xt cs G G' := fun a u n e => h a u (fun m => n (s a m)) e
theorem Xt.ext (h : Ext G G') : Xt cs G G' := h.weak (by simp)
theorem Xt.new (hp : G p = none) : Ext G (st G p o) := fun a u _ e => by
  rw [st_ne fun q => by rw [q, hp] at e; cases e]; exact e
theorem Xt.news (hp : G p = none) : Xt cs G (st G p o) := (Xt.new hp).ext
theorem Xt.put (h : a ∈ bs) : Xt bs G (st G a o) := fun x u n e => by
  rw [st_ne fun q => n (by rw [q]; exact h)]; exact e
/-- a place that was not there: what stands there now is nobody's -/
theorem Xt.put' (h : Xt bs G G') (hp : G p = none) : Xt bs G (st G' p o) := fun x u n e => by
  rw [st_ne fun q => by rw [q, hp] at e; cases e]; exact h x u n e
theorem Xt.get (h : Xt bs G G') (n : a ∉ bs) (e : G a = some u) : G' a = some u := h a u n e
theorem Xt.at (h : Ext G G') (e : G a = some u) : G' a = some u := h a u (by simp) e
theorem Xt.free (h : Xt bs G G') (n : p ∉ bs) (e : G' p = none) : G p = none := by
  cases q : G p with
  | none => rfl
  | some u => rw [h p u n q] at e; cases e
theorem Xt.none (h : Ext G G') (e : G' p = none) : G p = none := h.free (by simp) e
theorem Xt.seq {xs : List D} (h : Xt bs G G') (n : a ∉ bs) (e : seqG G a xs) : seqG G' a xs := e.elim (fun e => .inl (h a _ n e)) fun e => .inr (h a _ n e)
end
/-- what is hidden of a heap -/
def hide (bs : List Addr) (G : Hd) : Hd := fun a => if a ∈ bs then none else G a
theorem hide_ext {bs : List Addr} {G G' : Hd} (h : Xt bs G G') : Ext (hide bs G) (hide bs G') := fun a u _ e => by
  unfold hide at e ⊢
  split at e
  · cases e
  · rename_i n; rw [if_neg n]; exact h a u n e
theorem hide_sub {bs : List Addr} {G : Hd} : Ext (hide bs G) G := fun a u _ e => by
  unfold hide at e
  split at e
  · cases e
  · exact e
theorem hide_st_in {bs : List Addr} {G : Hd} {p : Addr} {o : GO} (h : p ∈ bs) : hide bs (st G p o) = hide bs G := by
  funext a
  unfold hide st
  by_cases e : a = p
  · subst e; simp [h]
  · simp [e]
mutual
theorem Dd.ext {G G' : Hd} (h : Ext G G') : ∀ {x d : D}, Dd G x d → Dd G' x d
  | _, _, .non => .non
  | _, _, .bl b => .bl b
  | _, _, .int i => .int i
  | _, _, .str x => .str x
  | _, _, .tup r => .tup (Dds.ext h r)
  | _, _, .lst e r => .lst (h.at e) (Dds.ext h r)
  | _, _, .rol e r => .rol (h.at e) (Dds.ext h r)
theorem Dds.ext {G G' : Hd} (h : Ext G G') : ∀ {xs ds : List D}, Dds G xs ds → Dds G' xs ds
  | _, _, .nil => .nil
  | _, _, .cons r rs => .cons (Dd.ext h r) (Dds.ext h rs)
end
/-- told data, none of it at these places -/
abbrev Dv (bs : List Addr) (G : Hd) (x d : D) : Prop := Dd (hide bs G) x d
abbrev Dvs (bs : List Addr) (G : Hd) (x d : List D) : Prop := Dds (hide bs G) x d
theorem Dv.xt {bs : List Addr} {G G' : Hd} {x d : D} (h : Xt bs G G') (k : Dv bs G x d) : Dv bs G' x d := Dd.ext (hide_ext h) k
theorem Dvs.xt {bs : List Addr} {G G' : Hd} {x d : List D} (h : Xt bs G G') (k : Dvs bs G x d) : Dvs bs G' x d := Dds.ext (hide_ext h) k
theorem Dv.dd {bs : List Addr} {G : Hd} {x d : D} (k : Dv bs G x d) : Dd G x d := Dd.ext hide_sub k
theorem Dvs.dd {bs : List Addr} {G : Hd} {x d : List D} (k : Dvs bs G x d) : Dds G x d := Dds.ext hide_sub k
section
variable {G : Hd}
theorem Dds.length : ∀ {xs ds : List D}, Dds G xs ds → xs.length = ds.length
  | _, _, .nil => rfl
  | _, _, .cons _ r => by simp [Dds.length r]
theorem Dds.get : ∀ {xs ds : List D} {i : Nat} {x : D}, Dds G xs ds → xs[i]? = some x → ∃ d, ds[i]? = some d ∧ Dd G x d
  | _, _, i, _, .nil, h => by simp at h
  | _, _, 0, _, .cons r _, h => by simp at h; exact ⟨_, rfl, h ▸ r⟩
  | _, _, i + 1, _, .cons _ r, h => by simp at h; simpa using Dds.get r h
theorem Dds.append : ∀ {xs ds ys es : List D}, Dds G xs ds → Dds G ys es → Dds G (xs ++ ys) (ds ++ es)
  | _, _, _, _, .nil, h => h
  | _, _, _, _, .cons r rs, h => .cons r (Dds.append rs h)
theorem Dds.take : ∀ {xs ds : List D} (n : Nat), Dds G xs ds → Dds G (xs.take n) (ds.take n)
  | _, _, 0, _ => by simp; exact .nil
  | _, _, _ + 1, .nil => by simp; exact .nil
  | _, _, n + 1, .cons r rs => by simp; exact .cons r (Dds.take n rs)
theorem Dds.drop : ∀ {xs ds : List D} (n : Nat), Dds G xs ds → Dds G (xs.drop n) (ds.drop n)
  | _, _, 0, h => h
  | _, _, _ + 1, .nil => by simp; exact .nil
  | _, _, n + 1, .cons r rs => by simpa using Dds.drop n rs
theorem Dds.set {x d : D} (q : Dd G x d) : ∀ {xs ds : List D} (n : Nat), Dds G xs ds → Dds G (xs.set n x) (ds.set n d)
  | _, _, _, .nil => .nil
  | _, _, 0, .cons _ rs => .cons q rs
  | _, _, n + 1, .cons r rs => .cons r (Dds.set q n rs)
theorem Dds.map_int : ∀ ns : List Int, Dds G (ns.map D.int) (ns.map D.int)
  | [] => .nil
  | n :: ns => .cons (.int n) (Dds.map_int ns)
end
/-- told data's type by the told data alone -/
def tyV : D → String
  | .non => "NoneType"
  | .bl _ => "bool"
  | .int _ => "int"
  | .str _ => "str"
  | .tup _ => "tuple"
  | .lst _ => "list"
  | _ => ""
theorem Dd.ty {G : Hd} {x d : D} (h : Dd G x d) : tyS G x = some (tyV d) := by
  cases h with
  | lst e _ => unfold tyS; simp [e, tyV]
  | rol e _ => unfold tyS; simp [e, tyV]
  | _ => rfl
theorem Dd.kn {G : Hd} {x d : D} (h : Dd G x d) : Kn G x := by unfold Kn; rw [h.ty]; rfl
def isV (d : D) (n : String) : Bool := isT (tyV d) n
theorem Dd.is {G : Hd} {x d : D} (h : Dd G x d) (n : String) : isD G x n = isV d n := by unfold isD isV; rw [h.ty]; rfl
theorem Dd.tup_inv {G : Hd} {x : D} {ds : List D} (h : Dd G x (.tup ds)) : ∃ xs, x = .tup xs ∧ Dds G xs ds := by
  cases h with
  | tup r => exact ⟨_, rfl, r⟩
theorem Dd.int_inv {G : Hd} {x : D} {i : Int} (h : Dd G x (.int i)) : x = .int i := by cases h; rfl
theorem Dd.bl_inv {G : Hd} {x : D} {i : Bool} (h : Dd G x (.bl i)) : x = .bl i := by cases h; rfl
theorem Dd.str_inv {G : Hd} {x : D} {i : Str} (h : Dd G x (.str i)) : x = .str i := by cases h; rfl
theorem Dd.non_inv {G : Hd} {x : D} (h : Dd G x .non) : x = .non := by cases h; rfl
/-! ## loops and comprehensions, by what they leave -/
def lcR (g : TGd) (tt : TTd) (te : TEd) (vs : List Nat) (σ : Sd) (Q : Qd) (xs : List D) (stay : Hd → Prop) (G1 : Hd) : Prop := ∀ p, G1 p = none → ∃ Iv : Nat → Hd → Prop, Iv 0 (st G1 p (.lst [])) ∧ (∀ i G, Iv i G → stay G) ∧
  (∀ i x G, xs[i]? = some x → Iv i G → g W0 x (wipeD σ vs) G fun σ2 G2 => tt W0 σ2 G2 fun k G3 => Br k (te W0 σ2 G3 fun y G4 => ∃ acc, G4 p = some (.lst acc) ∧ acc.length < sizeLine ∧ Iv (i + 1) (st G4 p (.lst (acc ++ [y])))) (Iv (i + 1) G3)) ∧
  ∀ G, Iv xs.length G → Q (.ref p) G
theorem dLc_eq {it : TId} {g : TGd} {tt : TTd} {te : TEd} {vs : List Nat} {w : Wx} {σ : Sd} {G : Hd} {Q : Qd} : dLc it g tt te vs w σ G Q = it w σ G (lcR g tt te vs σ Q) := rfl
def forR (g : TGd) (body : TSd) (w : Wx) (E : En) (σ : Sd) (xs : List D) (stay : Hd → Prop) (G1 : Hd) : Prop := ∃ Iv : Nat → Sd → Hd → Prop, Iv 0 σ G1 ∧ (∀ i σ G, Iv i σ G → stay G) ∧
  (∀ i x σ G, xs[i]? = some x → Iv i σ G → g w x σ G fun σ1 G2 => body w { nx := Iv (i + 1), rt := E.rt, bk := E.nx, ct := Iv (i + 1) } σ1 G2) ∧ ∀ σ G, Iv xs.length σ G → E.nx σ G
theorem dFor_eq {it : TId} {g : TGd} {b : TSd} {w : Wx} {E : En} {σ : Sd} {G : Hd} : dFor it g b w E σ G = it w σ G (forR g b w E σ) := rfl
theorem line_lt {n : Nat} (h : n ≤ 1000000) : n < sizeLine := by unfold sizeLine; omega
theorem line_le {n : Nat} (h : n ≤ 1000000) : n ≤ sizeLine := Nat.le_of_lt (line_lt h)
/-- a comprehension without a test: what holds of each item, told at its birth (without the list that grows), holds at the end -/
theorem lcR_gen {te : TEd} {vs : List Nat} {σ : Sd} {Q : Qd} {xs : List D} {stay : Hd → Prop} {G0 : Hd} {g : TGd} (bs : List Addr) (J : Hd → Prop) (R : Nat → D → Hd → Prop)
    (hJ : ∀ G G', J G → (∀ b ∈ bs, G' b = G b) → J G') (hR : ∀ i y G G', R i y G → Xt bs G G' → R i y G') (hb : ∀ b ∈ bs, G0 b ≠ none) (j0 : J G0) (hl : xs.length ≤ 1000000)
    (hs : ∀ G', Xt bs G0 G' → stay G')
    (el : ∀ i x, xs[i]? = some x → ∀ p G' Q', G0 p = none → G' p ≠ none → Xt bs G0 G' → J G' → (∀ y G'', Xt bs G' G'' → J G'' → R i y (hide [p] G'') → Q' y G'') → g W0 x (wipeD σ vs) G' fun σ2 G2 => te W0 σ2 G2 Q')
    (q : ∀ p G' ys, G0 p = none → Xt bs G0 G' → J G' → G' p = some (.lst ys) → ys.length = xs.length → (∀ i y, ys[i]? = some y → R i y (hide [p] G')) → Q (.ref p) G') : lcR g dYes te vs σ Q xs stay G0 := by
  intro p hp
  have np : p ∉ bs := fun m => hb p m hp
  have hh : ∀ (G : Hd) (o : GO), hide [p] (st G p o) = hide [p] G := fun G o => hide_st_in (by simp)
  have hx : ∀ {G G' : Hd}, Xt bs G G' → Xt bs (hide [p] G) (hide [p] G') := fun {G G'} h a u n e => by
    unfold hide at e ⊢
    split at e
    · cases e
    · rename_i m; rw [if_neg m]; exact h a u n e
  refine ⟨fun i G => i ≤ xs.length ∧ Xt bs G0 G ∧ J G ∧ ∃ ys, G p = some (.lst ys) ∧ ys.length = i ∧ ∀ k y, ys[k]? = some y → R k y (hide [p] G), ⟨Nat.zero_le _, Xt.news hp, hJ _ _ j0 fun b m => st_ne fun e => np (e ▸ m), [], st_same, rfl, fun k y h => by simp at h⟩,
    fun i G h => hs G h.2.1, ?_, fun G ⟨_, x, j, ys, e, l, r⟩ => q p G ys hp x j e l r⟩
  rintro i x G ex ⟨hi, xt, j, ys, e, l, r⟩
  have hi2 : i < xs.length := (List.getElem?_eq_some_iff.mp ex).1
  unfold dYes
  simp only [Br, true_implies, and_true, Bool.true_eq_false, false_implies]
  refine el i x ex p G _ hp (by rw [e]; simp) xt j fun y G4 x4 j4 r4 => ?_
  have e4 := x4.get np e
  refine ⟨ys, e4, line_lt (by omega), by omega, (xt.trans x4).put' hp, hJ _ _ j4 fun b m => st_ne fun z => np (z ▸ m), _, st_same, by simp [l], fun k z hz => ?_⟩
  rw [hh]
  by_cases hk : k < ys.length
  · rw [List.getElem?_append_left hk] at hz
    exact hR _ _ _ _ (r k z hz) (hx x4)
  · rw [List.getElem?_append_right (by omega)] at hz
    have e0 : k = i := by
      have := (List.getElem?_eq_some_iff.mp hz).1
      simp at this; omega
    subst e0
    simp [l] at hz
    subst hz
    exact r4
/-- .. drawn from a bag, values that keep a bound -/
theorem lcR_drawn {te : TEd} {vs : List Nat} {σ : Sd} {Q : Qd} {xs : List D} {stay : Hd → Prop} {G0 : Hd} {g : TGd} (bs : List Addr) (J : Hd → Prop) (R : Nat → D → Prop)
    (hJ : ∀ G G', J G → (∀ b ∈ bs, G' b = G b) → J G') (hb : ∀ b ∈ bs, G0 b ≠ none) (j0 : J G0) (hl : xs.length ≤ 1000000) (hs : ∀ G', Xt bs G0 G' → stay G')
    (el : ∀ i x, xs[i]? = some x → ∀ G' Q', Xt bs G0 G' → J G' → (∀ y G'', Xt bs G' G'' → J G'' → R i y → Q' y G'') → g W0 x (wipeD σ vs) G' fun σ2 G2 => te W0 σ2 G2 Q')
    (q : ∀ p G' ys, G0 p = none → Xt bs G0 G' → J G' → G' p = some (.lst ys) → ys.length = xs.length → (∀ i y, ys[i]? = some y → R i y) → Q (.ref p) G') : lcR g dYes te vs σ Q xs stay G0 :=
  lcR_gen bs J (fun i y _ => R i y) hJ (fun _ _ _ _ h _ => h) hb j0 hl hs (fun i x e p G' Q' _ _ xt j k => el i x e G' Q' xt j fun y G'' x2 j2 r => k y G'' x2 j2 r) fun p G' ys hp xt j e l r => q p G' ys hp xt j e l r
/-! ## items, by value -/
theorem seqG_lst {G : Hd} {a : Addr} {l xs : List D} (h : G a = some (.lst l)) : seqG G a xs ↔ xs = l := by
  unfold seqG; rw [h]; simp [eq_comm]
theorem ixN_of {n : Nat} {i : Int} (h0 : 0 ≤ i) (h : i < n) : ixN n i = some i.toNat := by
  unfold ixN; grind
theorem atI_of {α : Type} {xs : List α} {i : Int} (h0 : 0 ≤ i) (h : i < xs.length) : atI xs i = xs[i.toNat]? := by
  unfold atI; rw [ixN_of h0 h]; rfl
theorem br_t {A B : Prop} : Br true A B = A := propext ⟨fun h => h.1 rfl, fun h => ⟨fun _ => h, fun z => by cases z⟩⟩
theorem br_f {A B : Prop} : Br false A B = B := propext ⟨fun h => h.2 rfl, fun h => ⟨(fun z => by cases z), fun _ => h⟩⟩
theorem rep_z {α : Type} {x : α} : List.replicate 0 x = [] := rfl
theorem rep_s {α : Type} {n : Nat} {x : α} : List.replicate (n + 1) x = x :: List.replicate n x := rfl
theorem seq_st {G : Hd} {a : Addr} {l xs : List D} : seqG (st G a (.lst l)) a xs = (xs = l) := propext (seqG_lst st_same)
section
variable {α : Type} {a b c d : α} {r : List α}
theorem atI_0 : atI (a :: r) 0 = some a := by
  rw [atI_of (by decide) (by simp only [List.length_cons]; omega)]; rfl
theorem atI_1 : atI (a :: b :: r) 1 = some b := by
  rw [atI_of (by decide) (by simp only [List.length_cons]; omega)]; rfl
theorem atI_2 : atI (a :: b :: c :: r) 2 = some c := by
  rw [atI_of (by decide) (by simp only [List.length_cons]; omega)]; rfl
theorem atI_3 : atI (a :: b :: c :: d :: r) 3 = some d := by
  rw [atI_of (by decide) (by simp only [List.length_cons]; omega)]; rfl
end
section
variable {n : Nat}
theorem ixN_0 : ixN (n + 1) 0 = some 0 := by rw [ixN_of (by decide) (by omega)]; rfl
theorem ixN_1 : ixN (n + 1 + 1) 1 = some 1 := by rw [ixN_of (by decide) (by omega)]; rfl
theorem ixN_2 : ixN (n + 1 + 1 + 1) 2 = some 2 := by rw [ixN_of (by decide) (by omega)]; rfl
theorem ixN_3 : ixN (n + 1 + 1 + 1 + 1) 3 = some 3 := by rw [ixN_of (by decide) (by omega)]; rfl
end
theorem tc_int : tyNames.contains "int" = true := by decide +kernel
theorem tc_bool : tyNames.contains "bool" = true := by decide +kernel
theorem tc_str : tyNames.contains "str" = true := by decide +kernel
theorem tc_tup : tyNames.contains "tuple" = true := by decide +kernel
theorem tc_lst : tyNames.contains "list" = true := by decide +kernel
theorem tc_dic : tyNames.contains "dict" = true := by decide +kernel
theorem tc_non : tyNames.contains "NoneType" = true := by decide +kernel
theorem atI_ints {ns : List Int} {i : Int} (h0 : 0 ≤ i) (h : i < ns.length) : ∃ z, atI (ns.map D.int) i = some (.int z) := by
  rw [atI_of h0 (by simpa using h), List.getElem?_map]
  exact ⟨_, by rw [List.getElem?_eq_getElem (by omega)]; rfl⟩
theorem log_le {i : Int} (h0 : 0 ≤ i) (h : i < 2 ^ 200) : i.natAbs.log2 < 200 := by
  by_cases z : i.natAbs = 0
  · rw [z]; decide
  · exact (Nat.log2_lt z).mpr (by omega)
theorem mulW {i j : Int} (h0 : 0 ≤ i) (h : i < 2 ^ 200) (k0 : 0 ≤ j) (k : j < 2 ^ 200) : CMulW i j := by
  have := log_le h0 h
  have := log_le k0 k
  unfold CMulW; omega
theorem divW {i j : Int} (k0 : 0 < j) (k : j < 2 ^ 200) : CDivW i j := ⟨k0, by have := log_le (Int.le_of_lt k0) k; omega⟩
theorem rngL_some {lo c : Int} {n i : Nat} {x : D} (h : (rngL lo c n)[i]? = some x) : i < n ∧ x = .int (lo + i * c) := by
  have hi : i < n := by
    have := (List.getElem?_eq_some_iff.mp h).1
    rwa [rngL_length] at this
  rw [rngL_get hi] at h
  cases h
  exact ⟨hi, rfl⟩
theorem rngL_some1 {lo : Int} {n i : Nat} {x : D} (h : (rngL lo 1 n)[i]? = some x) : i < n ∧ x = .int (lo + i) := by
  obtain ⟨h1, h2⟩ := rngL_some h
  exact ⟨h1, by rw [h2, Int.mul_one]⟩
theorem rngL_some0 {n i : Nat} {x : D} (h : (rngL 0 1 n)[i]? = some x) : i < n ∧ x = .int i := by
  obtain ⟨h1, h2⟩ := rngL_some1 h
  exact ⟨h1, by rw [h2, Int.zero_add]⟩
/-- a law's bag -/
def Bag (G : Hd) (b : Addr) : Prop := ∃ c m, G b = some (.lst [.int c, .int m]) ∧ 0 ≤ c ∧ 0 ≤ m ∧ m < 2147483647
theorem Bag.some {G : Hd} {b : Addr} (h : Bag G b) : G b ≠ none := by obtain ⟨c, m, e, _⟩ := h; rw [e]; simp
theorem Bag.eq {G G' : Hd} {b : Addr} (h : Bag G b) (e : G' b = G b) : Bag G' b := by obtain ⟨c, m, e1, r⟩ := h; exact ⟨c, m, by rw [e, e1], r⟩
theorem Bag.xt {G G' : Hd} {b : Addr} {bs : List Addr} (h : Bag G b) (x : Xt bs G G') (n : b ∉ bs) : Bag G' b := by obtain ⟨c, m, e1, r⟩ := h; exact ⟨c, m, x b _ n e1, r⟩
theorem Bag.ext {G G' : Hd} {b : Addr} (h : Bag G b) (x : Ext G G') : Bag G' b := h.xt x (by simp)
/-! ## good told data: how deep, how wide -/
def gd (m : Nat) : Nat → D → Prop
  | _, .non => True
  | _, .bl _ => True
  | _, .int _ => True
  | _, .str x => PySem.PyData.strOk x = true ∧ x.length ≤ m
  | n + 1, .tup xs => xs.length ≤ m ∧ ∀ x ∈ xs, gd m n x
  | n + 1, .lst xs => xs.length ≤ m ∧ ∀ x ∈ xs, gd m n x
  | _, _ => False
theorem gd_tup {m n : Nat} {xs : List D} : gd m (n + 1) (.tup xs) ↔ xs.length ≤ m ∧ ∀ x ∈ xs, gd m n x := by simp only [gd]
theorem gd_lst {m n : Nat} {xs : List D} : gd m (n + 1) (.lst xs) ↔ xs.length ≤ m ∧ ∀ x ∈ xs, gd m n x := by simp only [gd]
theorem gd.weak : ∀ {n m n' m' : Nat} {d : D}, gd m n d → n ≤ n' → m ≤ m' → gd m' n' d
  | n, m, n', m', d, h, hn, hm => by
    cases d with
    | tup xs =>
      cases n with
      | zero => simp only [gd] at h
      | succ n =>
        obtain ⟨k, rfl⟩ : ∃ k, n' = k + 1 := ⟨n' - 1, by omega⟩
        rw [gd_tup] at h ⊢
        exact ⟨by omega, fun x hx => gd.weak (h.2 x hx) (by omega) hm⟩
    | lst xs =>
      cases n with
      | zero => simp only [gd] at h
      | succ n =>
        obtain ⟨k, rfl⟩ : ∃ k, n' = k + 1 := ⟨n' - 1, by omega⟩
        rw [gd_lst] at h ⊢
        exact ⟨by omega, fun x hx => gd.weak (h.2 x hx) (by omega) hm⟩
    | str x => cases n <;> cases n' <;> (simp only [gd] at h ⊢; exact ⟨h.1, by omega⟩)
    | non => cases n' <;> simp only [gd]
    | bl => cases n' <;> simp only [gd]
    | int => cases n' <;> simp only [gd]
    | _ => cases n <;> simp only [gd] at h
theorem okDs_of : ∀ {xs : List D}, (∀ x ∈ xs, okD x = true) → okDs xs = true
  | [], _ => rfl
  | x :: xs, h => by simp only [okDs, Bool.and_eq_true]; exact ⟨h x List.mem_cons_self, okDs_of fun y hy => h y (List.mem_cons_of_mem _ hy)⟩
theorem deps_of {n : Nat} : ∀ {xs : List D}, (∀ x ∈ xs, dep x ≤ n) → deps xs ≤ n
  | [], _ => Nat.zero_le _
  | x :: xs, h => by simp only [deps]; exact Nat.max_le.mpr ⟨h x List.mem_cons_self, deps_of fun y hy => h y (List.mem_cons_of_mem _ hy)⟩
theorem gd.ok {m : Nat} : ∀ {n : Nat} {d : D}, gd m n d → okD d = true ∧ dep d ≤ n
  | n, d, h => by
    cases d with
    | tup xs =>
      cases n with
      | zero => simp only [gd] at h
      | succ n =>
        rw [gd_tup] at h
        exact ⟨okDs_of fun x hx => (gd.ok (h.2 x hx)).1, Nat.succ_le_succ (deps_of fun x hx => (gd.ok (h.2 x hx)).2)⟩
    | lst xs =>
      cases n with
      | zero => simp only [gd] at h
      | succ n =>
        rw [gd_lst] at h
        exact ⟨okDs_of fun x hx => (gd.ok (h.2 x hx)).1, Nat.succ_le_succ (deps_of fun x hx => (gd.ok (h.2 x hx)).2)⟩
    | str x => cases n <;> (simp only [gd] at h; exact ⟨h.1, Nat.zero_le _⟩)
    | non => exact ⟨rfl, Nat.zero_le _⟩
    | bl => exact ⟨rfl, Nat.zero_le _⟩
    | int => exact ⟨rfl, Nat.zero_le _⟩
    | _ => cases n <;> simp only [gd] at h
theorem gd.sh {m n : Nat} {d : D} (h : gd m n d) (hn : n ≤ 64) : sh d := ⟨h.ok.1, Nat.le_trans h.ok.2 hn⟩
mutual
theorem eqB_refl : ∀ d : D, okD d = true → eqB d d = true
  | .non, _ => rfl
  | .bl b, _ => by simp [eqB]
  | .int i, _ => by simp [eqB]
  | .str x, _ => by simp [eqB]
  | .tup xs, h => eqBs_refl xs h
  | .lst xs, h => eqBs_refl xs h
theorem eqBs_refl : ∀ ds : List D, okDs ds = true → eqBs ds ds = true
  | [], _ => rfl
  | x :: xs, h => by
    simp only [okDs, Bool.and_eq_true] at h
    simp only [eqBs, Bool.and_eq_true]
    exact ⟨eqB_refl x h.1, eqBs_refl xs h.2⟩
end
end S
set_option Elab.async false
set_option linter.all false
set_option maxRecDepth 100000
set_option maxHeartbeats 4000000
namespace S
open PySem PySem.Spec L2
open PyProof.Rows hiding St
local macro_rules | `(tactic| walk_at "e") => `(tactic| simp only [dSeq, dNext, dRet, dRetN, dIf, dAsg, dAug, dDrop, dPar, dBreak, dCont, dgName, dgSub, dgTup, dgCons, dgNil, dFor_eq, dLc_eq, dVar, dC, dOp, dUn, dBi, dCall, dCons, dNil, dTup, dLst, dSl, dPart, dNoPart, dAndV, dOrV, dNotV, dB, dAnd, dOr, dNot, dIfE, dChain, dItV, dRng, dWalk, dBm, rng1, rng2,
  BI.r, addD, subD, mulD, modD, divD, powD, intD, ltD, leD, gtD, geD, negD, ixD, slD, setD, isND, isNon, lenD, isiD, listD, tupleD, allD, anyD, sumD, maxD, minD, absD, intBD, appendD, extendD, startD, wipeD,
  List.map_cons, List.map_nil, rep_z, rep_s, List.length_cons, List.length_nil, List.cons_append, List.nil_append, List.append_nil, List.getElem?_cons_zero, List.getElem?_cons_succ, List.set_cons_zero, List.set_cons_succ, Option.some.injEq, exists_eq_left', exists_eq_left, D.bl.injEq, D.int.injEq, D.tup.injEq, D.ref.injEq, true_and, and_true, Nat.reduceAdd, Nat.reduceSub, Nat.add_sub_cancel_left, exists_const, br_t, br_f, ite_true, ite_false, Bool.true_eq_false, false_implies])
local macro_rules | `(tactic| walk_at "g") => `(tactic| simp only [st_same, st_st, GO.lst.injEq, Option.some.injEq, exists_eq_left', exists_eq_left, atI_0, atI_1, atI_2, atI_3, ixN_0, ixN_1, ixN_2, ixN_3, List.set_cons_zero, List.set_cons_succ, List.length_cons, List.length_nil, List.length_append, List.cons_append, List.nil_append, true_and, and_true, seq_st, tc_int, tc_bool, tc_str, tc_tup, tc_lst, tc_non, tc_dic])
/-! ## told data's looks -/
def wholeV : D → Bool
  | .int _ => true
  | _ => false
theorem whole_eq {G : Hd} {x d : D} (h : Dd G x d) : (isD G x "int" = true → isD G x "bool" = !wholeV d) ∧ (isD G x "int" = false → wholeV d = false) := by
  rw [h.is, h.is]
  cases h <;> simp [isV, tyV, isT, wholeV]
def sp_is_whole : DSp := fun ds G q _ => ∃ x d, ds = [x] ∧ Dd G x d ∧ q (.bl (wholeV d)) G
def N_is_whole : List Str := ["thing"]
def P_is_whole : List Str := ["thing"]
def t_is_whole : TSd := dRet (dAndV (dBi (BI.r .isi) (dCons (dVar 0) (dCons (dC (.ty "int")) (dNil)))) (dNotV (dBi (BI.r .isi) (dCons (dVar 0) (dCons (dC (.ty "bool")) (dNil))))))
def gl_is_whole : List (Str × GI) := [("isinstance", .bi .isi), ("bool", .ty "bool"), ("int", .bi .int)]
theorem len_is_whole : ∀ ds G q x, sp_is_whole ds G q x → ds.length = P_is_whole.length := by
  rintro _ _ _ _ ⟨x, d, rfl, _⟩; rfl
theorem b_is_whole : Body t_is_whole N_is_whole sp_is_whole := by
  rintro ds G q x ⟨x, d, rfl, h, hq⟩
  unfold t_is_whole N_is_whole
  walk_at "e"
  walk_at "g"
  refine ⟨h.kn, fun e => ⟨h.kn, ?_⟩, fun e => ?_⟩
  · rw [(whole_eq h).1 e, Bool.not_not]; exact hq
  · rw [(whole_eq h).2 e] at hq; exact hq
def fromV (l m : Int) : D → Bool
  | .int i => decide (l ≤ i) && decide (i ≤ m)
  | _ => false
theorem from_whole {l m : Int} {d : D} (h : wholeV d = false) : fromV l m d = false := by cases d <;> first | rfl | cases h
theorem whole_int {d : D} (h : wholeV d = true) : ∃ i, d = .int i := by cases d <;> first | exact ⟨_, rfl⟩ | cases h
def sp_is_from : DSp := fun ds G q _ => ∃ x d l m, ds = [x, .int l, .int m] ∧ Dd G x d ∧ q (.bl (fromV l m d)) G
def N_is_from : List Str := ["thing", "least", "most"]
def P_is_from : List Str := ["thing", "least", "most"]
def t_is_from : TSd := dRet (dAndV (dCall sp_is_whole (dCons (dVar 0) (dNil))) (dChain leD leD (dVar 1) (dVar 0) (dVar 2)))
def gl_is_from : List (Str × GI) := [("is_whole", .fn sp_is_whole)]
theorem len_is_from : ∀ ds G q x, sp_is_from ds G q x → ds.length = P_is_from.length := by
  rintro _ _ _ _ ⟨x, d, l, m, rfl, _⟩; rfl
theorem b_is_from : Body t_is_from N_is_from sp_is_from := by
  rintro ds G q x ⟨x, d, l, m, rfl, h, hq⟩
  unfold t_is_from N_is_from
  walk_at "e"
  refine ⟨x, d, rfl, h, _, rfl, fun e => ?_, fun e => ?_⟩
  · obtain ⟨i, rfl⟩ := whole_int e
    cases h.int_inv
    simp only [fromV] at hq
    walk_at "e"
    refine ⟨fun e => ?_, fun e => ?_⟩
    · rw [e] at hq; exact hq
    · rw [e] at hq; exact hq
  · rw [from_whole e] at hq; exact hq
def rowV (l m t : Int) : D → Bool
  | .tup xs => decide (l ≤ xs.length) && decide ((xs.length : Int) ≤ m) && xs.all (fromV 0 t)
  | _ => false
def sp_is_row : DSp := fun ds G q _ => ∃ x d l m t, ds = [x, .int l, .int m, .int t] ∧ Dd G x d ∧ m ≤ 1000000 ∧ ∀ G', Ext G G' → q (.bl (rowV l m t d)) G'
def t_is_row_r1 : TSd := dRet (dBi (BI.r .all) (dCons (dLc (dItV (dVar 0)) (dgName 4) dYes (dCall sp_is_from (dCons (dVar 4) (dCons (dC (.int 0)) (dCons (dVar 3) (dNil))))) [4]) (dNil)))
def N_is_row : List Str := ["thing", "least", "most", "top", "one"]
def P_is_row : List Str := ["thing", "least", "most", "top"]
def t_is_row : TSd := dSeq (dIf (dOr (dNot (dB (dBi (BI.r .isi) (dCons (dVar 0) (dCons (dC (.ty "tuple")) (dNil)))))) (dNot (dB (dChain leD leD (dVar 1) (dBi (BI.r .len) (dCons (dVar 0) (dNil))) (dVar 2))))) (dRet (dC (.bl false))) (dNext)) t_is_row_r1
def gl_is_row : List (Str × GI) := [("len", .bi .len), ("isinstance", .bi .isi), ("tuple", .bi .tuple), ("all", .bi .all), ("is_from", .fn sp_is_from)]
theorem len_is_row : ∀ ds G q x, sp_is_row ds G q x → ds.length = P_is_row.length := by
  rintro _ _ _ _ ⟨x, d, l, m, t, rfl, _⟩; rfl
theorem is_tup {d : D} (h : isV d "tuple" = true) : ∃ xs, d = .tup xs := by cases d <;> first | exact ⟨_, rfl⟩ | cases h
/-- a comprehension over told data's items, of a look that makes no heap of its own kind -/
theorem all_map {xs : List D} {f : D → Bool} : ((xs.map fun x => D.bl (f x)).map id) = (xs.map f).map D.bl := by simp
theorem lcR_look {te : TEd} {vs : List Nat} {σ : Sd} {Q : Qd} {xs ds : List D} {stay : Hd → Prop} {G0 : Hd} {g : TGd} (f : D → Bool) (hd : Dds G0 xs ds) (hl : xs.length ≤ 1000000) (hs : ∀ G', Ext G0 G' → stay G')
    (el : ∀ x d, Dd G0 x d → d ∈ ds → ∀ G' Q', Ext G0 G' → (∀ G'', Ext G' G'' → Q' (.bl (f d)) G'') → g W0 x (wipeD σ vs) G' fun σ2 G2 => te W0 σ2 G2 Q')
    (q : ∀ p G', Ext G0 G' → G' p = some (.lst ((ds.map f).map D.bl)) → Q (.ref p) G') : lcR g dYes te vs σ Q xs stay G0 := by
  refine lcR_gen [] (fun _ => True) (fun i y _ => ∃ d, ds[i]? = some d ∧ y = .bl (f d)) (fun _ _ h _ => h) (fun _ _ _ _ h _ => h) (fun _ h => by simp at h) trivial hl hs ?_ ?_
  · intro i x e p G' Q' _ _ xt _ k
    obtain ⟨d, e2, r⟩ := hd.get e
    exact el x d r (List.mem_of_getElem? e2) G' Q' xt fun G'' x2 => k _ _ x2 trivial ⟨d, e2, rfl⟩
  · intro p G' ys hp xt _ e l r
    refine q p G' xt ?_
    rw [e]
    congr 2
    have hl2 := hd.length
    refine List.ext_getElem? fun i => ?_
    rw [List.getElem?_map, List.getElem?_map]
    by_cases hi : i < ys.length
    · obtain ⟨d, h1, h2⟩ := r i _ (List.getElem?_eq_getElem hi)
      rw [h1, List.getElem?_eq_getElem hi, h2]; rfl
    · rw [List.getElem?_eq_none (by omega), List.getElem?_eq_none (by omega)]; rfl
theorem all_id {f : D → Bool} {ds : List D} : (ds.map f).all id = ds.all f := by rw [List.all_map]; rfl
theorem b_is_row : Body t_is_row N_is_row sp_is_row := by
  rintro ds G q x ⟨x, d, l, m, t, rfl, h, hm, hq⟩
  unfold t_is_row N_is_row t_is_row_r1
  walk_at "e"
  walk_at "g"
  refine ⟨h.kn, ?_⟩
  rw [h.is]
  refine ⟨fun e => ?_, fun e => ?_⟩
  · have e1 : rowV l m t d = false := by cases d <;> first | rfl | cases e
    have q1 := hq G .refl
    rw [e1] at q1
    exact q1
  · obtain ⟨ds, rfl⟩ := is_tup (d := d) (by simpa using e)
    obtain ⟨xs, rfl, hs⟩ := h.tup_inv
    have el := hs.length
    walk_at "e"
    rw [el]
    refine ⟨fun e1 => ⟨fun e2 => ?_, fun e2 => ?_⟩, fun e1 => ⟨fun _ => ?_, fun z => by cases z⟩⟩
    · have q1 := hq G .refl
      have e3 : rowV l m t (.tup ds) = false := by
        simp only [rowV, Bool.and_eq_false_iff]; simp at e2; left; right; simpa using e2
      rw [e3] at q1; exact q1
    · simp only [Bool.not_eq_false', decide_eq_true_eq] at e2
      refine lcR_look (fromV 0 t) hs (by omega) (fun _ _ => trivial) (fun y d r _ G' Q' xt k => ?_) fun p G' xt e => ?_
      · walk_at "e"
        exact ⟨y, d, 0, t, rfl, r.ext xt, k _ .refl⟩
      · walk_at "e"
        refine ⟨ds.map (fromV 0 t), .inl e, ?_⟩
        rw [all_id]
        have q1 := hq G' xt
        have e3 : rowV l m t (.tup ds) = ds.all (fromV 0 t) := by
          simp only [rowV, e1, e2, decide_true, Bool.true_and]
        rw [e3] at q1; exact q1
    · have q1 := hq G .refl
      have e3 : rowV l m t (.tup ds) = false := by
        simp only [rowV, e1, Bool.false_and]
      rw [e3] at q1; exact q1
/-! ## the laws' helpers -/
/-! the bag -/
def sp__law_take : DSp := fun ds G q _ => ∃ b k, ds = [.ref b, .int k] ∧ Bag G b ∧ 0 < k ∧ k < 2 ^ 200 ∧ ∀ r G', 0 ≤ r → r < k → Xt [b] G G' → Bag G' b → q (.int r) G'
def t__law_take_r1 : TSd := dSeq (dAsg (dOp modD (dOp addD (dOp mulD (dOp ixD (dVar 0) (dC (.int 1))) (dC (.int 48271))) (dC (.int 7919))) (dC (.int 2147483647))) (dgSub (dVar 0) (dC (.int 1)) setD)) (dRet (dOp modD (dOp modD (dOp mulD (dOp divD (dOp modD (dOp powD (dOp ixD (dVar 0) (dC (.int 1))) (dC (.int 3))) (dC (.int 2147483587))) (dC (.int 7))) (dC (.int 69621))) (dC (.int 1073741789))) (dVar 1)))
def N__law_take : List Str := ["_law_bag_here", "_law_many", "_law_digit"]
def P__law_take : List Str := ["_law_bag_here", "_law_many"]
def t__law_take : TSd := dSeq (dIf (dB (dOp gtD (dOp ixD (dVar 0) (dC (.int 0))) (dC (.int 0)))) (dSeq (dAsg (dOp modD (dOp ixD (dVar 0) (dC (.int 0))) (dVar 1)) (dgName 2)) (dSeq (dAsg (dOp divD (dOp ixD (dVar 0) (dC (.int 0))) (dVar 1)) (dgSub (dVar 0) (dC (.int 0)) setD)) (dRet (dVar 2)))) (dNext)) t__law_take_r1
def gl__law_take : List (Str × GI) := []
theorem len__law_take : ∀ ds G q x, sp__law_take ds G q x → ds.length = P__law_take.length := by
  rintro _ _ _ _ ⟨b, k, rfl, _⟩; rfl
theorem b__law_take : Body t__law_take N__law_take sp__law_take := by
  rintro ds G q x ⟨b, k, rfl, ⟨c, m, hb, c0, m0, m1⟩, k0, k1, hq⟩
  unfold t__law_take N__law_take t__law_take_r1
  walk_at "e"
  simp only [seqG_lst hb, hb]
  walk_at "g"
  have e19 : (48271 : Int) < 2 ^ 200 := by decide
  refine ⟨fun e => ?_, fun e => ?_⟩
  · simp only [decide_eq_true_eq] at e
    refine ⟨k0, divW k0 k1, hq _ _ (Int.emod_nonneg _ (by omega)) (Int.emod_lt_of_pos _ k0) (Xt.put (by simp)) ⟨_, _, st_same, Int.ediv_nonneg c0 (by omega), m0, m1⟩⟩
  · have n0 := Int.emod_nonneg (m * 48271 + 7919) (show (2147483647 : Int) ≠ 0 by decide)
    have n1 := Int.emod_lt_of_pos (m * 48271 + 7919) (show (0 : Int) < 2147483647 by decide)
    refine ⟨mulW m0 (by omega) (by decide) e19, by decide, ⟨by decide, by decide, by omega⟩, by decide, divW (by decide) (by decide), mulW ?_ ?_ (by decide) (by decide), by decide, k0, ?_⟩
    · exact Int.ediv_nonneg (Int.emod_nonneg _ (by decide)) (by decide)
    · have := Int.emod_lt_of_pos (((m * 48271 + 7919) % 2147483647) ^ (Int.toNat 3)) (show (0 : Int) < 2147483587 by decide)
      have h2 : ((m * 48271 + 7919) % 2147483647) ^ (Int.toNat 3) % 2147483587 / 7 ≤ 2147483587 := by omega
      omega
    · exact hq _ _ (Int.emod_nonneg _ (by omega)) (Int.emod_lt_of_pos _ k0) (Xt.put (by simp)) ⟨_, _, st_same, c0, n0, n1⟩
end S
set_option Elab.async false
set_option linter.all false
set_option maxRecDepth 100000
set_option maxHeartbeats 4000000
namespace S
open PySem PySem.Spec L2
open PyProof.Rows hiding St
local macro_rules | `(tactic| walk_at "e") => `(tactic| simp only [dSeq, dNext, dRet, dRetN, dIf, dAsg, dAug, dDrop, dPar, dBreak, dCont, dgName, dgSub, dgTup, dgCons, dgNil, dFor_eq, dLc_eq, dVar, dC, dOp, dUn, dBi, dCall, dCons, dNil, dTup, dLst, dSl, dPart, dNoPart, dAndV, dOrV, dNotV, dB, dAnd, dOr, dNot, dIfE, dChain, dItV, dRng, dWalk, dBm, rng1, rng2,
  BI.r, addD, subD, mulD, modD, divD, powD, intD, ltD, leD, gtD, geD, negD, ixD, slD, setD, isND, isNon, lenD, isiD, listD, tupleD, allD, anyD, sumD, maxD, minD, absD, intBD, appendD, extendD, startD, wipeD,
  List.map_cons, List.map_nil, rep_z, rep_s, List.length_cons, List.length_nil, List.cons_append, List.nil_append, List.append_nil, List.getElem?_cons_zero, List.getElem?_cons_succ, List.set_cons_zero, List.set_cons_succ, Option.some.injEq, exists_eq_left', exists_eq_left, D.bl.injEq, D.int.injEq, D.tup.injEq, D.ref.injEq, true_and, and_true, Nat.reduceAdd, Nat.reduceSub, Nat.add_sub_cancel_left, exists_const, br_t, br_f, ite_true, ite_false, Bool.true_eq_false, false_implies])
local macro_rules | `(tactic| walk_at "g") => `(tactic| simp only [st_same, st_st, GO.lst.injEq, Option.some.injEq, exists_eq_left', exists_eq_left, atI_0, atI_1, atI_2, atI_3, ixN_0, ixN_1, ixN_2, ixN_3, List.set_cons_zero, List.set_cons_succ, List.length_cons, List.length_nil, List.length_append, List.cons_append, List.nil_append, true_and, and_true, seq_st, tc_int, tc_bool, tc_str, tc_tup, tc_lst, tc_non, tc_dic])
theorem hide_fresh {bs : List Addr} {p : Addr} {G : Hd} (h : G p = none) : hide (p :: bs) G = hide bs G := by
  funext a; unfold hide
  by_cases h1 : a = p
  · subst h1; simp [h]
  · simp [h1]
theorem Dv.fresh {bs : List Addr} {p : Addr} {G : Hd} {x d : D} (h : G p = none) (k : Dv bs G x d) : Dv (p :: bs) G x d := by unfold Dv; rw [hide_fresh h]; exact k
theorem Dv.sub {bs cs : List Addr} {G : Hd} {x d : D} (k : Dv bs G x d) (s : ∀ a ∈ cs, a ∈ bs) : Dv cs G x d := Dd.ext (by
  intro a u _ e; unfold hide at e ⊢
  split at e
  · cases e
  · rename_i n; rw [if_neg fun m => n (s a m)]; exact e) k
theorem Dvs.sub {bs cs : List Addr} {G : Hd} {x d : List D} (k : Dvs bs G x d) (s : ∀ a ∈ cs, a ∈ bs) : Dvs cs G x d := Dds.ext (by
  intro a u _ e; unfold hide at e ⊢
  split at e
  · cases e
  · rename_i n; rw [if_neg fun m => n (s a m)]; exact e) k
/-! ## equal, by told data -/
theorem beq_dec {i j : Int} : (i == j) = decide (i = j) := by
  by_cases h : i = j <;> simp [h]
theorem eqR_int {neg : Bool} {i j : Int} {G : Hd} {Q : Qd} : eqR neg (.int i) (.int j) G Q = Q (.bl (neg ^^ decide (i = j))) G := by
  refine propext ⟨fun ⟨d, e, h1, h2, _, _, h⟩ => ?_, fun h => ⟨.int i, .int j, .int i, .int j, ⟨rfl, Nat.zero_le _⟩, ⟨rfl, Nat.zero_le _⟩, ?_⟩⟩
  · cases h1; cases h2; simpa only [eqB, beq_dec] using h
  · simpa only [eqB, beq_dec] using h
theorem eqR_bl {neg : Bool} {i j : Bool} {G : Hd} {Q : Qd} : eqR neg (.bl i) (.bl j) G Q = Q (.bl (neg ^^ (i == j))) G := by
  refine propext ⟨fun ⟨d, e, h1, h2, _, _, h⟩ => ?_, fun h => ⟨.bl i, .bl j, .bl i, .bl j, ⟨rfl, Nat.zero_le _⟩, ⟨rfl, Nat.zero_le _⟩, ?_⟩⟩
  · cases h1; cases h2; simpa [eqB] using h
  · simpa [eqB] using h
theorem eqR_of {neg : Bool} {x y d e : D} {G : Hd} {Q : Qd} {n m : Nat} (h1 : Dd G x d) (h2 : Dd G y e) (g1 : gd m n d) (g2 : gd m n e) (hn : n ≤ 64) (h : Q (.bl (neg ^^ eqB d e)) G) : eqR neg x y G Q := ⟨d, e, h1, h2, g1.sh hn, g2.sh hn, h⟩
/-! ## cuts -/
section
variable {α : Type} {xs : List α} {i j : Int}
theorem cut_to (h : 0 ≤ i) : cut xs none (some i) = xs.take i.toNat := by
  unfold cut
  have e1 : HT.sIx xs.length 0 none = 0 := rfl
  have e2 : HT.sIx xs.length xs.length (some i) = min i.toNat xs.length := by
    show (if i < 0 then _ else _) = _
    rw [if_neg (by omega)]
  rw [e1, e2, List.drop_zero, Nat.sub_zero]
  by_cases h2 : i.toNat ≤ xs.length
  · rw [Nat.min_eq_left h2]
  · rw [Nat.min_eq_right (by omega), List.take_of_length_le (Nat.le_refl _), List.take_of_length_le (by omega)]
theorem cut_from (h : 0 ≤ i) : cut xs (some i) none = xs.drop i.toNat := by
  unfold cut
  have e1 : HT.sIx xs.length xs.length none = xs.length := rfl
  have e2 : HT.sIx xs.length 0 (some i) = min i.toNat xs.length := by
    show (if i < 0 then _ else _) = _
    rw [if_neg (by omega)]
  rw [e1, e2, List.take_of_length_le (by simp)]
  by_cases h2 : i.toNat ≤ xs.length
  · rw [Nat.min_eq_left h2]
  · rw [Nat.min_eq_right (by omega), List.drop_of_length_le (Nat.le_refl _), List.drop_of_length_le (by omega)]
theorem cut_sub {lo hi : Option Int} {x : α} (h : x ∈ cut xs lo hi) : x ∈ xs := List.mem_of_mem_drop (List.mem_of_mem_take h)
theorem cut_le {lo hi : Option Int} : (cut xs lo hi).length ≤ xs.length := by
  unfold cut; simp only [List.length_take, List.length_drop]; omega
end
theorem Dds.cut {G : Hd} {xs ds : List D} (h : Dds G xs ds) (lo hi : Option Int) : Dds G (cut xs lo hi) (cut ds lo hi) := by
  unfold S.cut
  rw [Dds.length h]
  exact (h.drop _).take _
/-! ## the bag's making -/
def sp__law_bag : DSp := fun ds G q _ => ∃ (ns : List Int) (j : Int), ds = [.rl (ns.map .int), .int j] ∧ ns.length ≤ 63 ∧ 0 ≤ j ∧ j ≤ 1000 ∧ ∀ p G', G p = none → Ext G G' → Bag G' p → q (.ref p) G'
def t__law_bag_b1 : TSd := dAsg (dOp modD (dOp addD (dOp addD (dOp mulD (dVar 3) (dC (.int 48271))) (dOp mulD (dOp modD (dOp ixD (dVar 0) (dVar 4)) (dC (.int 2147483587))) (dOp addD (dVar 4) (dC (.int 3))))) (dVar 4)) (dC (.int 2147483629))) (dgName 3)
def t__law_bag_r1 : TSd := dRet (dLst (dCons (dVar 2) (dCons (dVar 3) (dNil))))
def t__law_bag_r2 : TSd := dSeq (dIf (dB (dOp ltD (dVar 2) (dOp powD (dC (.int 10)) (dC (.int 18))))) (dAsg (dC (.int 0)) (dgName 2)) (dNext)) t__law_bag_r1
def t__law_bag_s1 : TSd := dSeq (dFor (dRng rng1 (dCons (dBi (BI.r .min) (dCons (dBi (BI.r .len) (dCons (dVar 0) (dNil))) (dCons (dC (.int 60)) (dNil)))) (dNil))) (dgName 4) t__law_bag_b1) t__law_bag_r2
def t__law_bag_r3 : TSd := dSeq (dAsg (dOp modD (dOp powD (dOp addD (dOp addD (dOp modD (dVar 2) (dC (.int 2147483629))) (dOp mulD (dC (.int 104729)) (dVar 1))) (dC (.int 17))) (dC (.int 5))) (dC (.int 2147483647))) (dgName 3)) t__law_bag_s1
def t__law_bag_s2 : TSd := dSeq (dIf (dB (dOp ltD (dVar 1) (dBi (BI.r .len) (dCons (dVar 0) (dNil))))) (dAsg (dBi (BI.r .abs) (dCons (dOp ixD (dVar 0) (dVar 1)) (dNil))) (dgName 2)) (dNext)) t__law_bag_r3
def N__law_bag : List Str := ["_law_script", "_law_at", "_law_cell", "_law_mix", "_law_k"]
def P__law_bag : List Str := ["_law_script", "_law_at"]
def t__law_bag : TSd := dSeq (dAsg (dC (.int 0)) (dgName 2)) t__law_bag_s2
def gl__law_bag : List (Str × GI) := [("len", .bi .len), ("abs", .bi .abs), ("range", .rng), ("min", .bi .min)]
theorem len__law_bag : ∀ ds G q x, sp__law_bag ds G q x → ds.length = P__law_bag.length := by
  rintro _ _ _ _ ⟨ns, j, rfl, _⟩; rfl
theorem b__law_bag_r2 {w : Wx} {E : En} {G : Hd} {a b k : Option D} {c m : Int} (c0 : 0 ≤ c) (m0 : 0 ≤ m) (m1 : m < 2147483647)
    (hq : ∀ p G', G p = none → Ext G G' → Bag G' p → E.rt (.ref p) G') : t__law_bag_r2 w E [a, b, some (.int c), some (.int m), k] G := by
  unfold t__law_bag_r2 t__law_bag_r1
  walk_at "e"
  refine ⟨⟨by decide, by decide, by decide⟩, fun e => ⟨by simp [sizeLine], fun p hp => ?_⟩, fun e => ⟨by simp [sizeLine], fun p hp => ?_⟩⟩
  · exact hq p _ hp (.new hp) ⟨_, _, st_same, by decide, m0, m1⟩
  · exact hq p _ hp (.new hp) ⟨_, _, st_same, c0, m0, m1⟩
theorem b__law_bag_b1 {w : Wx} {E : En} {G : Hd} {ns : List Int} {b c : Option D} {m : Int} {i : Nat} (hl : ns.length ≤ 63) (hi : i < ns.length) (m0 : 0 ≤ m) (m1 : m < 2147483647)
    (hq : ∀ m, 0 ≤ m → m < 2147483647 → E.nx [some (.rl (ns.map .int)), b, c, some (.int m), some (.int i)] G) : t__law_bag_b1 w E [some (.rl (ns.map .int)), b, c, some (.int m), some (.int i)] G := by
  unfold t__law_bag_b1
  obtain ⟨z, hz⟩ := atI_ints (ns := ns) (i := i) (by omega) (by omega)
  walk_at "e"
  simp only [hz, Option.some.injEq, exists_eq_left']
  have n0 := Int.emod_nonneg z (show (2147483587 : Int) ≠ 0 by decide)
  have n1 := Int.emod_lt_of_pos z (show (0 : Int) < 2147483587 by decide)
  refine ⟨mulW m0 (by omega) (by decide) (by decide), by decide, mulW n0 (by omega) (by omega) (by omega), by decide, hq _ (Int.emod_nonneg _ (by decide)) ?_⟩
  have := Int.emod_lt_of_pos (m * 48271 + z % 2147483587 * (↑i + 3) + ↑i) (show (0 : Int) < 2147483629 by decide)
  omega
theorem b__law_bag_r3 {w : Wx} {E : En} {G : Hd} {ns : List Int} {m k : Option D} {c j : Int} (hl : ns.length ≤ 63) (c0 : 0 ≤ c) (j0 : 0 ≤ j) (j1 : j ≤ 1000)
    (hq : ∀ p G', G p = none → Ext G G' → Bag G' p → E.rt (.ref p) G') : t__law_bag_r3 w E [some (.rl (ns.map .int)), some (.int j), some (.int c), m, k] G := by
  unfold t__law_bag_r3 t__law_bag_s1
  walk_at "e"
  have n0 := Int.emod_nonneg c (show (2147483629 : Int) ≠ 0 by decide)
  have n1 := Int.emod_lt_of_pos c (show (0 : Int) < 2147483629 by decide)
  rw [List.length_map]
  refine ⟨by decide, mulW (by decide) (by decide) (by omega) (by omega), ⟨by decide, by decide, by omega⟩, by decide, by omega, ?_⟩
  refine ⟨fun i σ G1 => G1 = G ∧ i ≤ min ns.length 60 ∧ ∃ m k, σ = [some (.rl (ns.map .int)), some (.int j), some (.int c), some (.int m), k] ∧ 0 ≤ m ∧ m < 2147483647, ⟨rfl, Nat.zero_le _, _, _, rfl, Int.emod_nonneg _ (by decide), Int.emod_lt_of_pos _ (by decide)⟩, fun _ _ _ _ => trivial, ?_, ?_⟩
  · rintro i x σ G1 ex ⟨rfl, hi, m, k, rfl, m0, m1⟩
    obtain ⟨h1, rfl⟩ := rngL_some0 ex
    walk_at "e"
    exact b__law_bag_b1 hl (by omega) m0 m1 fun m m0 m1 => ⟨rfl, by omega, m, _, rfl, m0, m1⟩
  · rintro σ G1 ⟨rfl, hi, m, k, rfl, m0, m1⟩
    exact b__law_bag_r2 c0 m0 m1 hq
theorem b__law_bag : Body t__law_bag N__law_bag sp__law_bag := by
  rintro ds G q x ⟨ns, j, rfl, hl, j0, j1, hq⟩
  unfold t__law_bag N__law_bag t__law_bag_s2
  walk_at "e"
  rw [List.length_map]
  refine ⟨fun e => ?_, fun e => ?_⟩
  · obtain ⟨z, hz⟩ := atI_ints (ns := ns) (i := j) j0 (by simpa using e)
    simp only [hz, Option.some.injEq, exists_eq_left']
    exact b__law_bag_r3 hl (by omega) j0 j1 hq
  · exact b__law_bag_r3 hl (by omega) j0 j1 hq
/-! ## a copy -/
end S
set_option Elab.async false
set_option linter.all false
set_option maxRecDepth 100000
set_option maxHeartbeats 4000000
namespace S
open PySem PySem.Spec L2
open PyProof.Rows hiding St
local macro_rules | `(tactic| walk_at "e") => `(tactic| simp only [dSeq, dNext, dRet, dRetN, dIf, dAsg, dAug, dDrop, dPar, dBreak, dCont, dgName, dgSub, dgTup, dgCons, dgNil, dFor_eq, dLc_eq, dVar, dC, dOp, dUn, dBi, dCall, dCons, dNil, dTup, dLst, dSl, dPart, dNoPart, dAndV, dOrV, dNotV, dB, dAnd, dOr, dNot, dIfE, dChain, dItV, dRng, dWalk, dBm, rng1, rng2,
  BI.r, addD, subD, mulD, modD, divD, powD, intD, ltD, leD, gtD, geD, negD, ixD, slD, setD, isND, isNon, lenD, isiD, listD, tupleD, allD, anyD, sumD, maxD, minD, absD, intBD, appendD, extendD, startD, wipeD,
  List.map_cons, List.map_nil, rep_z, rep_s, List.length_cons, List.length_nil, List.cons_append, List.nil_append, List.append_nil, List.getElem?_cons_zero, List.getElem?_cons_succ, List.set_cons_zero, List.set_cons_succ, Option.some.injEq, exists_eq_left', exists_eq_left, D.bl.injEq, D.int.injEq, D.tup.injEq, D.ref.injEq, true_and, and_true, Nat.reduceAdd, Nat.reduceSub, Nat.add_sub_cancel_left, exists_const, br_t, br_f, eqR_int, eqR_bl, Bool.false_bne, Bool.true_bne, Bool.false_xor, Bool.true_xor, ite_true, ite_false, Bool.true_eq_false, false_implies])
local macro_rules | `(tactic| walk_at "g") => `(tactic| simp only [st_same, st_st, GO.lst.injEq, Option.some.injEq, exists_eq_left', exists_eq_left, atI_0, atI_1, atI_2, atI_3, ixN_0, ixN_1, ixN_2, ixN_3, List.set_cons_zero, List.set_cons_succ, List.length_cons, List.length_nil, List.length_append, List.cons_append, List.nil_append, true_and, and_true, seq_st, tc_int, tc_bool, tc_str, tc_tup, tc_lst, tc_non, tc_dic])
/-! ## things of any kind -/
theorem gd_leaf {m n : Nat} {d : D} (h : match d with
  | .non => True
  | .bl _ => True
  | .int _ => True
  | _ => False) : gd m n d := by
  cases d <;> cases n <;> first | exact h.elim | simp only [gd]
theorem gd_int {m n : Nat} {i : Int} : gd m n (.int i) := gd_leaf trivial
theorem gd_str {m n : Nat} {x : Str} (h : PySem.PyData.strOk x = true ∧ x.length ≤ m) : gd m n (.str x) := by cases n <;> simpa only [gd] using h
/-! ## bent -/
end S
set_option Elab.async false
set_option linter.all false
set_option maxRecDepth 100000
set_option maxHeartbeats 4000000
namespace S
open PySem PySem.Spec L2
open PyProof.Rows hiding St
local macro_rules | `(tactic| walk_at "e") => `(tactic| simp only [dSeq, dNext, dRet, dRetN, dIf, dAsg, dAug, dDrop, dPar, dBreak, dCont, dgName, dgSub, dgTup, dgCons, dgNil, dFor_eq, dLc_eq, dVar, dC, dOp, dUn, dBi, dCall, dCons, dNil, dTup, dLst, dSl, dPart, dNoPart, dAndV, dOrV, dNotV, dB, dAnd, dOr, dNot, dIfE, dChain, dItV, dRng, dWalk, dBm, rng1, rng2,
  BI.r, addD, subD, mulD, modD, divD, powD, intD, ltD, leD, gtD, geD, negD, ixD, slD, setD, isND, isNon, lenD, isiD, listD, tupleD, allD, anyD, sumD, maxD, minD, absD, intBD, appendD, extendD, startD, wipeD,
  List.map_cons, List.map_nil, rep_z, rep_s, List.length_cons, List.length_nil, List.cons_append, List.nil_append, List.append_nil, List.getElem?_cons_zero, List.getElem?_cons_succ, List.set_cons_zero, List.set_cons_succ, Option.some.injEq, exists_eq_left', exists_eq_left, D.bl.injEq, D.int.injEq, D.tup.injEq, D.ref.injEq, true_and, and_true, Nat.reduceAdd, Nat.reduceSub, Nat.add_sub_cancel_left, exists_const, br_t, br_f, eqR_int, eqR_bl, Bool.false_bne, Bool.true_bne, Bool.false_xor, Bool.true_xor, ite_true, ite_false, Bool.true_eq_false, false_implies])
local macro_rules | `(tactic| walk_at "g") => `(tactic| simp only [st_same, st_st, GO.lst.injEq, Option.some.injEq, exists_eq_left', exists_eq_left, atI_0, atI_1, atI_2, atI_3, ixN_0, ixN_1, ixN_2, ixN_3, List.set_cons_zero, List.set_cons_succ, List.length_cons, List.length_nil, List.length_append, List.cons_append, List.nil_append, true_and, and_true, seq_st, tc_int, tc_bool, tc_str, tc_tup, tc_lst, tc_non, tc_dic])
/-! ## rates -/
theorem ints_of {P : Int → Prop} : ∀ {ys : List D}, (∀ (i : Nat) y, ys[i]? = some y → ∃ z, y = .int z ∧ P z) → ∃ zs : List Int, ys = zs.map D.int ∧ ∀ z ∈ zs, P z
  | [], _ => ⟨[], rfl, fun _ h => by cases h⟩
  | y :: ys, h => by
    obtain ⟨z, rfl, pz⟩ := h 0 y rfl
    obtain ⟨zs, rfl, pzs⟩ := ints_of (ys := ys) fun i y e => h (i + 1) y (by simpa using e)
    exact ⟨z :: zs, rfl, fun w hw => by
      rcases List.mem_cons.mp hw with rfl | hw
      · exact pz
      · exact pzs w hw⟩
/-- [take(bag, k) for _ in range(n)] -/
theorem lcR_takes {vs : List Nat} {σ : Sd} {Q : Qd} {xs : List D} {G0 : Hd} {g : TGd} {te : TEd} {b : Addr} {k : Int} (bag : Bag G0 b) (hl : xs.length ≤ 1000000)
    (el : ∀ (i : Nat) (x : D), xs[i]? = some x → ∀ G' Q', Bag G' b → (∀ r G'', 0 ≤ r → r < k → Xt [b] G' G'' → Bag G'' b → Q' (.int r) G'') → g W0 x (wipeD σ vs) G' fun σ2 G2 => te W0 σ2 G2 Q')
    (q : ∀ p G' (zs : List Int), G0 p = none → Xt [b] G0 G' → Bag G' b → G' p = some (.lst (zs.map D.int)) → zs.length = xs.length → (∀ z ∈ zs, 0 ≤ z ∧ z < k) → Q (.ref p) G') : lcR g dYes te vs σ Q xs (fun _ => True) G0 := by
  refine lcR_drawn [b] (fun G => Bag G b) (fun _ y => ∃ z, y = .int z ∧ 0 ≤ z ∧ z < k) (fun G G' h e => h.eq (e b (by simp))) (fun c m => by rw [List.mem_singleton.mp m]; exact bag.some) bag hl (fun _ _ => trivial) ?_ ?_
  · intro i x e G' Q' _ bg kk
    exact el i x e G' Q' bg fun r G'' r0 r1 x2 b2 => kk _ _ x2 b2 ⟨r, rfl, r0, r1⟩
  · intro p G' ys hp xt bg e l r
    obtain ⟨zs, rfl, hz⟩ := ints_of r
    exact q p G' zs hp xt bg e (by simpa using l) hz
theorem fresh_b {G : Hd} {b p : Addr} (h : Bag G b) (hp : G p = none) : p ∉ [b] := fun m => h.some (by rw [← List.mem_singleton.mp m]; exact hp)
end S
set_option Elab.async false
set_option linter.all false
set_option maxRecDepth 100000
set_option maxHeartbeats 4000000
namespace S
open PySem PySem.Spec L2
open PyProof.Rows hiding St
local macro_rules | `(tactic| walk_at "e") => `(tactic| simp only [dSeq, dNext, dRet, dRetN, dIf, dAsg, dAug, dDrop, dPar, dBreak, dCont, dgName, dgSub, dgTup, dgCons, dgNil, dFor_eq, dLc_eq, dVar, dC, dOp, dUn, dBi, dCall, dCons, dNil, dTup, dLst, dSl, dPart, dNoPart, dAndV, dOrV, dNotV, dB, dAnd, dOr, dNot, dIfE, dChain, dItV, dRng, dWalk, dBm, rng1, rng2,
  BI.r, addD, subD, mulD, modD, divD, powD, intD, ltD, leD, gtD, geD, negD, ixD, slD, setD, isND, isNon, lenD, isiD, listD, tupleD, allD, anyD, sumD, maxD, minD, absD, intBD, appendD, extendD, startD, wipeD,
  List.map_cons, List.map_nil, rep_z, rep_s, List.length_cons, List.length_nil, List.cons_append, List.nil_append, List.append_nil, List.getElem?_cons_zero, List.getElem?_cons_succ, List.set_cons_zero, List.set_cons_succ, Option.some.injEq, exists_eq_left', exists_eq_left, D.bl.injEq, D.int.injEq, D.tup.injEq, D.ref.injEq, true_and, and_true, Nat.reduceAdd, Nat.reduceSub, Nat.add_sub_cancel_left, exists_const, br_t, br_f, eqR_int, eqR_bl, Bool.false_bne, Bool.true_bne, Bool.false_xor, Bool.true_xor, ite_true, ite_false, Bool.true_eq_false, false_implies])
local macro_rules | `(tactic| walk_at "g") => `(tactic| simp only [st_same, st_st, GO.lst.injEq, Option.some.injEq, exists_eq_left', exists_eq_left, atI_0, atI_1, atI_2, atI_3, ixN_0, ixN_1, ixN_2, ixN_3, List.set_cons_zero, List.set_cons_succ, List.length_cons, List.length_nil, List.length_append, List.cons_append, List.nil_append, true_and, and_true, seq_st, tc_int, tc_bool, tc_str, tc_tup, tc_lst, tc_non, tc_dic])
/-! ## the operators at known values -/
section
variable {G : Hd} {Q : Qd} {i j k : Int} {x y : D} {xs ys : List D} {a b : Addr} {s t : Str} {p q : Bool} {lo hi : Option Int}
theorem addD_i : addD (.int i) (.int j) G Q = Q (.int (i + j)) G := rfl
theorem addD_s : addD (.str s) (.str t) G Q = (s.length + t.length ≤ sizeLine ∧ Q (.str (s ++ t)) G) := rfl
theorem addD_t : addD (.tup xs) (.tup ys) G Q = (xs.length + ys.length ≤ sizeLine ∧ Q (.tup (xs ++ ys)) G) := rfl
theorem addD_r : addD (.ref a) (.ref b) G Q = (∃ xs, G a = some (.lst xs) ∧ ∃ ys, G b = some (.lst ys) ∧ xs.length + ys.length ≤ sizeLine ∧ ∀ p, G p = none → Q (.ref p) (st G p (.lst (xs ++ ys)))) := rfl
theorem subD_i : subD (.int i) (.int j) G Q = (True ∧ Q (.int (i - j)) G) := rfl
theorem mulD_i : mulD (.int i) (.int j) G Q = (CMulW i j ∧ Q (.int (i * j)) G) := rfl
theorem mulD_r : mulD (.ref a) (.int k) G Q = (∃ xs, G a = some (.lst xs) ∧ (-(2 ^ 63) ≤ k ∧ k < 2 ^ 63 ∧ xs.length * k.toNat ≤ sizeLine) ∧ ∀ p, G p = none → Q (.ref p) (st G p (.lst (repD xs k.toNat)))) := rfl
theorem mulD_t : mulD (.tup xs) (.int k) G Q = (((xs ≠ [] ∨ xs = []) ∧ 2 ≤ k ∧ k ≤ 1000 ∧ xs.length ≤ 1000) ∧ Q (.tup (repD xs k.toNat)) G) := rfl
theorem getD_r {y : D} : getD (.ref a) [.tup xs, y] G Q = (∃ kvs ep, G a = some (.dit kvs ep) ∧ keyOk (.tup xs) ∧ Q ((valT kvs (.tup xs)).getD y) G) := rfl
theorem ditD_r : ditD (.ref a) G = (∃ kvs ep, G a = some (.dit kvs ep)) := rfl
theorem iti_r {R : List D → (Hd → Prop) → Hd → Prop} : iti (.ref a) G R = (∃ kvs ep, G a = some (.dit kvs ep) ∧ R (kvs.map fun p => .tup [p.1, p.2]) (fun G2 => G2 a = some (.dit kvs ep)) G) := rfl
theorem listK_r : listK [.ref a] G Q = (∃ kvs ep, G a = some (.dit kvs ep) ∧ ∀ p, G p = none → Q (.ref p) (st G p (.lst (kvs.map (·.1))))) := rfl
theorem modD_i : modD (.int i) (.int j) G Q = (0 < j ∧ Q (.int (i % j)) G) := rfl
theorem divD_i : divD (.int i) (.int j) G Q = (CDivW i j ∧ Q (.int (i / j)) G) := rfl
theorem powD_i : powD (.int i) (.int j) G Q = (CPow i j ∧ Q (.int (i ^ j.toNat)) G) := rfl
theorem ltD_i : ltD (.int i) (.int j) G Q = (True ∧ Q (.bl (decide (i < j))) G) := rfl
theorem leD_i : leD (.int i) (.int j) G Q = (True ∧ Q (.bl (decide (i ≤ j))) G) := rfl
theorem gtD_i : gtD (.int i) (.int j) G Q = (True ∧ Q (.bl (decide (j < i))) G) := rfl
theorem geD_i : geD (.int i) (.int j) G Q = (True ∧ Q (.bl (decide (j ≤ i))) G) := rfl
theorem incD_i {f : Int → Int → D} : intD (fun _ _ => True) f (.int i) (.int j) G Q = (True ∧ Q (f i j) G) := rfl
theorem lr1_i : lr1 (.int j) G Q = ((-(2 ^ 62) ≤ (0 : Int) ∧ (0 : Int) < 2 ^ 62 ∧ -(2 ^ 62) ≤ j ∧ j < 2 ^ 62 ∧ (j - 0).toNat ≤ 2 ^ 24) ∧ ∀ p, G p = none → Q (.ref p) (st G p (.lst (rngL 0 1 (j - 0).toNat)))) := rfl
theorem lr2_i : lr2 (.int i) (.int j) G Q = ((-(2 ^ 62) ≤ i ∧ i < 2 ^ 62 ∧ -(2 ^ 62) ≤ j ∧ j < 2 ^ 62 ∧ (j - i).toNat ≤ 2 ^ 24) ∧ ∀ p, G p = none → Q (.ref p) (st G p (.lst (rngL i 1 (j - i).toNat)))) := rfl
theorem revD_r : revD (.ref a) G Q = (∃ xs, seqG G a xs ∧ ∀ p, G p = none → Q (.ref p) (st G p (.lst xs.reverse))) := rfl
theorem negD_i : negD (.int i) G Q = Q (.int (-i)) G := rfl
theorem isND_n : isND p x .non G Q = Q (.bl (p ^^ isNon x)) G := rfl
theorem ixD_t : ixD (.tup xs) (.int i) G Q = (∃ d, atI xs i = some d ∧ Q d G) := rfl
theorem ixD_r : ixD (.ref a) (.int i) G Q = (∃ xs, seqG G a xs ∧ ∃ d, atI xs i = some d ∧ Q d G) := rfl
theorem ixD_d : ixD (.ref a) (.tup xs) G Q = (∃ kvs ep, G a = some (.dit kvs ep) ∧ keyOk (.tup xs) ∧ ∃ d, valT kvs (.tup xs) = some d ∧ Q d G) := rfl
theorem setD_d {v : D} {R : Hd → Prop} : setD (.ref a) (.tup xs) v G R = (∃ kvs ep, G a = some (.dit kvs ep) ∧ keyOk (.tup xs) ∧ kvs.length < sizeLine ∧ ∀ ep', R (st G a (.dit (putT kvs (.tup xs) v) ep'))) := rfl
theorem sortedD_r : sortedD [.ref a] G Q = (∃ xs, seqG G a xs ∧ SrtOk G xs ∧ ∀ p, G p = none → Q (.ref p) (st G p (.lst (srt xs)))) := rfl
theorem ixD_l : ixD (.rl xs) (.int i) G Q = (∃ d, atI xs i = some d ∧ Q d G) := rfl
theorem ixD_s : ixD (.str s) (.int i) G Q = (s.length ≤ sizeLine ∧ ∃ c, atI s.cps.toList i = some c ∧ Q (.str ⟨#[c]⟩) G) := rfl
theorem slD_t : slD (.tup xs) lo hi G Q = Q (.tup (cut xs lo hi)) G := rfl
theorem slD_r : slD (.ref a) lo hi G Q = (∃ xs, seqG G a xs ∧ ∀ p, G p = none → Q (.ref p) (st G p (.lst (cut xs lo hi)))) := rfl
theorem slD_s : slD (.str s) lo hi G Q = (s.length ≤ sizeLine ∧ Q (.str (cutS s lo hi)) G) := rfl
theorem setD_r {v : D} {R : Hd → Prop} : setD (.ref a) (.int k) v G R = (∃ xs, G a = some (.lst xs) ∧ ∃ j, ixN xs.length k = some j ∧ R (st G a (.lst (xs.set j v)))) := rfl
theorem lenD_s : lenD [.str s] G Q = (s.length ≤ sizeLine ∧ Q (.int s.length) G) := rfl
theorem lenD_t : lenD [.tup xs] G Q = Q (.int xs.length) G := rfl
theorem lenD_l : lenD [.rl xs] G Q = Q (.int xs.length) G := rfl
theorem lenD_r : lenD [.ref a] G Q = (∃ n, lenG G a n ∧ Q (.int n) G) := rfl
theorem isiD_1 {n : String} : isiD [x, .ty n] G Q = (Kn G x ∧ tyNames.contains n = true ∧ Q (.bl (isD G x n)) G) := by cases x <;> rfl
theorem isiD_n {cs : List D} : isiD [x, .tup cs] G Q = (Kn G x ∧ cs.all tyIn = true ∧ Q (.bl (cs.any (isDc G x))) G) := by cases x <;> rfl
theorem listD_t : listD [.tup xs] G Q = (xs.length ≤ sizeLine ∧ ∀ p, G p = none → Q (.ref p) (st G p (.lst xs))) := rfl
theorem listD_r : listD [.ref a] G Q = (∃ xs, seqG G a xs ∧ ∀ p, G p = none → Q (.ref p) (st G p (.lst xs))) := rfl
theorem tupleD_t : tupleD [.tup xs] G Q = Q (.tup xs) G := rfl
theorem tupleD_r : tupleD [.ref a] G Q = (∃ xs, seqG G a xs ∧ Q (.tup xs) G) := rfl
theorem allD_r : allD [.ref a] G Q = (∃ bs : List Bool, seqG G a (bs.map D.bl) ∧ Q (.bl (bs.all id)) G) := rfl
theorem anyD_r : anyD [.ref a] G Q = (∃ bs : List Bool, seqG G a (bs.map D.bl) ∧ Q (.bl (bs.any id)) G) := rfl
theorem sumD_r : sumD [.ref a] G Q = (∃ ns : List Int, seqG G a (ns.map D.int) ∧ Q (.int ns.sum) G) := rfl
theorem maxD_r : maxD [.ref a] G Q = (∃ ns : List Int, seqG G a (ns.map D.int) ∧ 0 < ns.length ∧ ∀ m, m ∈ ns → (∀ y, y ∈ ns → y ≤ m) → Q (.int m) G) := rfl
theorem maxD_2 : maxD [.int i, .int j] G Q = Q (.int (max i j)) G := rfl
theorem minD_r : minD [.ref a] G Q = (∃ ns : List Int, seqG G a (ns.map D.int) ∧ 0 < ns.length ∧ ∀ m, m ∈ ns → (∀ y, y ∈ ns → m ≤ y) → Q (.int m) G) := rfl
theorem maxD_t : maxD [.tup xs] G Q = (∃ ns : List Int, xs = ns.map D.int ∧ 0 < ns.length ∧ ∀ m, m ∈ ns → (∀ y, y ∈ ns → y ≤ m) → Q (.int m) G) := rfl
theorem minD_t : minD [.tup xs, .tup ys] G Q = (∃ d1 d2, Dd G (.tup xs) d1 ∧ Dd G (.tup ys) d2 ∧ PySem.W.AlikeAll [toPy d1, toPy d2] ∧ dep d1 ≤ 20 ∧ dep d2 ≤ 20 ∧ Q (if PySem.W.dataLt (toPy d2) (toPy d1) then .tup ys else .tup xs) G) := rfl
theorem minLD_r : minLD [.ref a] G Q = (∃ ts : List (D × D), seqG G a (ts.map (·.1)) ∧ Dds G (ts.map (·.1)) (ts.map (·.2)) ∧ SrtOkG (ts.map (·.2)) ∧ ts ≠ [] ∧ ∀ p ∈ ts, (∀ r ∈ ts, ltP r.2 p.2 = false) → Q p.1 G) := rfl
theorem maxLD_r : maxLD [.ref a] G Q = (∃ xs, seqG G a xs ∧ SrtOk G xs ∧ xs ≠ [] ∧ ∀ x ∈ xs, (∀ y ∈ xs, ltP x y = false) → Q x G) := rfl
theorem sumLD_2 {t : Addr} : sumLD [.ref a, .ref t] G Q = (∃ ps : List (Addr × List D), seqG G a (ps.map fun p => .ref p.1) ∧ (∀ p ∈ ps, G p.1 = some (.lst p.2)) ∧ G t = some (.lst []) ∧ (ps.map (·.2)).flatten.length ≤ sizeLine ∧ ∀ p G', (ps = [] ∧ p = t ∧ G' = G ∨ G p = none ∧ G' = st G p (.lst (ps.map (·.2)).flatten)) → Q (.ref p) G') := rfl
theorem sumLD_1 : sumLD [.ref a] G Q = (∃ ns : List Int, seqG G a (ns.map D.int) ∧ Q (.int ns.sum) G) := rfl
theorem minDf_r {i : Int} : minDf i (.ref a) G Q = (∃ ns : List Int, seqG G a (ns.map D.int) ∧ ns.length ≤ sizeLine ∧ (ns = [] → Q (.int i) G) ∧ ∀ m, m ∈ ns → (∀ y, y ∈ ns → m ≤ y) → Q (.int m) G) := rfl
theorem minD_2 : minD [.int i, .int j] G Q = Q (.int (min i j)) G := rfl
theorem absD_i : absD [.int i] G Q = Q (.int (i.natAbs : Int)) G := rfl
theorem intB_i : intBD [.int i] G Q = Q (.int i) G := rfl
theorem intB_b : intBD [.bl p] G Q = Q (.int (if p then 1 else 0)) G := rfl
theorem appD_r : appendD (.ref a) [y] G Q = (∃ xs, G a = some (.lst xs) ∧ xs.length < sizeLine ∧ Q .non (st G a (.lst (xs ++ [y])))) := rfl
theorem tyD_l {xs : List D} (h : seqG G a xs) : tyD "list" (.ref a) G := .inl ⟨rfl, xs, h⟩
/-- a slice's part -/
def prt (d : D) (k : Option Int → Prop) : Prop := match d with
  | .int i => k (some i)
  | _ => False
theorem part_eq {te : TEd} {w : Wx} {σ : Sd} {R : Option Int → Hd → Prop} : dPart te w σ G R = te w σ G fun d G1 => prt d fun o => R o G1 := rfl
theorem prt_i {R : Option Int → Prop} : prt (.int i) R = R (some i) := rfl
theorem rng1_i {R : List D → Prop} : rng1 [.int j] R = ((-(2 ^ 62) ≤ j ∧ j < 2 ^ 62) ∧ R (rngL 0 1 j.toNat)) := rfl
theorem rng2_i {R : List D → Prop} : rng2 [.int i, .int j] R = ((-(2 ^ 62) ≤ i ∧ i < 2 ^ 62 ∧ -(2 ^ 62) ≤ j ∧ j < 2 ^ 62) ∧ R (rngL i 1 (j - i).toNat)) := rfl
theorem rng3_i {R : List D → Prop} : rng3 [.int i, .int j, .int k] R = (∃ n, RgC i j k n ∧ R (rngL i k n)) := rfl
/-- a walked value -/
def itv (d : D) (G : Hd) (R : List D → (Hd → Prop) → Hd → Prop) : Prop := match d with
  | .tup xs => R xs (fun _ => True) G
  | .ref a => ∃ xs, seqG G a xs ∧ R xs (fun G2 => seqG G2 a xs) G
  | .str z => R (signsD z) (fun _ => True) G
  | _ => False
theorem itv_eq {te : TEd} {w : Wx} {σ : Sd} {R : List D → (Hd → Prop) → Hd → Prop} : dItV te w σ G R = te w σ G fun d G1 => itv d G1 R := rfl
theorem itv_t {R : List D → (Hd → Prop) → Hd → Prop} : itv (.tup xs) G R = R xs (fun _ => True) G := rfl
theorem itv_r {R : List D → (Hd → Prop) → Hd → Prop} : itv (.ref a) G R = (∃ xs, seqG G a xs ∧ R xs (fun G2 => seqG G2 a xs) G) := rfl
theorem itv_s {R : List D → (Hd → Prop) → Hd → Prop} {z : Str} : itv (.str z) G R = R (signsD z) (fun _ => True) G := rfl
theorem mulD_s {z : Str} {k : Int} : mulD (.str z) (.int k) G Q = (MulOk z k ∧ Q (.str (Txt.mul z k)) G) := rfl
theorem inD_s {z : Str} {n : Bool} : inD n x (.str z) G Q = (∃ c : Nat, x = .str ⟨#[c]⟩ ∧ Q (.bl (n ^^ decide (c ∈ z.cps.toList))) G) := rfl
theorem intB_s {z : Str} : intBD [.str z] G Q = (∃ n, PySem.intText? z = some n ∧ z.length ≤ 640 ∧ Q (.int n) G) := rfl
theorem tyD_s {z : Str} : tyD "str" (.str z) G = True := eq_true rfl
theorem joinD_r {z : Str} : joinD (.str z) [.ref a] G Q = (∃ ys : List Str, seqG G a (ys.map D.str) ∧ (ys.map (·.length)).sum + ys.length * z.length ≤ 16777216 ∧ Q (.str (Txt.join z ys)) G) := rfl
theorem splitD_s {z b : Str} : splitD (.str z) [.str b] G Q = ((b.length == 0) = false ∧ z.length + 2 ≤ sizeLine ∧ ∀ p, G p = none → Q (.ref p) (st G p (.lst ((Txt.split z b).map D.str)))) := rfl
theorem partD_s {z b : Str} : partD (.str z) [.str b] G Q = ((b.length == 0) = false ∧ z.length ≤ sizeLine ∧ Q (.tup [.str (Txt.partition z b).1, .str (Txt.partition z b).2.1, .str (Txt.partition z b).2.2]) G) := rfl
theorem stripD_s {z b : Str} : stripD (.str z) [.str b] G Q = (z.length ≤ sizeLine ∧ Q (.str (Txt.stripChars z b)) G) := rfl
theorem findD_s {z b : Str} : findD (.str z) [.str b] G Q = Q (.int (Txt.find z b)) G := rfl
theorem countT_s {z b : Str} : countT (.str z) [.str b] G Q = Q (.int (Txt.count z b)) G := rfl
theorem indexT_s {z b : Str} : indexT (.str z) [.str b] G Q = (∃ (i : Nat) (rest : List Nat), Builtin.Str.occurrences z b 0 z.length 1 = i :: rest ∧ Q (.int (i : Nat)) G) := rfl
theorem fmtD_s {z : Str} : fmtD (.str z) G Q = (z.length ≤ sizeLine ∧ Q (.str z) G) := rfl
theorem fmtD_i : fmtD (.int i) G Q = (i.natAbs < 10 ^ 500 ∧ Q (.str (toString i)) G) := rfl
theorem jsD_s {z acc : Str} {k : Str → Hd → Prop} : jsD acc k (.str z) G = ((acc ++ z).length ≤ sizeLine ∧ k (acc ++ z) G) := rfl
theorem js_nil {w : Wx} {σ : Sd} {acc : Str} : dJs [] acc w σ G Q = Q (.str acc) G := rfl
theorem js_cons {w : Wx} {σ : Sd} {acc : Str} {t : TEd} {ts : List TEd} : dJs (t :: ts) acc w σ G Q = t w σ G (jsD acc fun z G1 => dJs ts z w σ G1 Q) := rfl
theorem strOf_i : strOfD [.int i] G Q = (i.natAbs < 10 ^ 500 ∧ Q (.str (toString i)) G) := rfl
theorem strOf_s {z : Str} : strOfD [.str z] G Q = Q (.str z) G := rfl
theorem itk_eq {te : TEd} {w : Wx} {σ : Sd} {R : List D → (Hd → Prop) → Hd → Prop} : dItK te w σ G R = te w σ G fun d G1 => itk d G1 R := rfl
theorem itk_r {R : List D → (Hd → Prop) → Hd → Prop} : itk (.ref a) G R = (∃ kvs ep, G a = some (.dit kvs ep) ∧ R (kvs.map (·.1)) (fun G2 => G2 a = some (.dit kvs ep)) G) := rfl
theorem enumR_r {R : List D → (Hd → Prop) → Hd → Prop} : enumR [.ref a] G R = (∃ xs, seqG G a xs ∧ R (enumL xs) (fun G2 => seqG G2 a xs) G) := rfl
theorem enumR_t {R : List D → (Hd → Prop) → Hd → Prop} : enumR [.tup xs] G R = R (enumL xs) (fun _ => True) G := rfl
theorem tr_n : trD .non = some false := rfl
theorem tr_t : trD (.tup (x :: xs)) = some true := rfl
theorem zipR_r {R : List D → (Hd → Prop) → Hd → Prop} : zipR [.ref a, .ref b] G R = (∃ xs, seqG G a xs ∧ ∃ ys, seqG G b ys ∧ R (zipL xs ys) (fun G2 => seqG G2 a xs ∧ seqG G2 b ys) G) := rfl
/-- a pair of names stored -/
def prs (i j : Nat) (ds : List D) (σ : Sd) (k : Sd → Prop) : Prop := match ds with
  | [x, y] => k ((σ.set i (some x)).set j (some y))
  | _ => False
theorem par_eq {t : TAd} {w : Wx} {E : En} {σ : Sd} {i j : Nat} : dPar i j t w E σ G = t w σ G fun ds G1 => prs i j ds σ fun s => E.nx s G1 := rfl
theorem prs_2 {σ : Sd} {k : Sd → Prop} {i j : Nat} : prs i j [x, y] σ k = k ((σ.set i (some x)).set j (some y)) := rfl
theorem gTup_t {n : Nat} {t : TGsd} {w : Wx} {σ : Sd} {R : Sd → Hd → Prop} : dgTup n t w (.tup xs) σ G R = (xs.length = n ∧ t w xs σ G R) := rfl
theorem gTup_r {n : Nat} {t : TGsd} {w : Wx} {σ : Sd} {R : Sd → Hd → Prop} : dgTup n t w (.ref a) σ G R = (∃ xs, seqG G a xs ∧ xs.length = n ∧ t w xs σ G R) := rfl
theorem gCons_c {t : TGd} {u : TGsd} {w : Wx} {σ : Sd} {R : Sd → Hd → Prop} : dgCons t u w (x :: xs) σ G R = t w x σ G fun σ1 G1 => u w xs σ1 G1 R := rfl
theorem gNil_n {w : Wx} {σ : Sd} {R : Sd → Hd → Prop} : dgNil w [] σ G R = R σ G := rfl
end
theorem ln0 : (0 ≤ sizeLine) = True := eq_true (line_le (by decide))
theorem ln1 : (1 ≤ sizeLine) = True := eq_true (line_le (by decide))
theorem ln2 : (2 ≤ sizeLine) = True := eq_true (line_le (by decide))
theorem ln3 : (3 ≤ sizeLine) = True := eq_true (line_le (by decide))
theorem ln4 : (4 ≤ sizeLine) = True := eq_true (line_le (by decide))
theorem ln5 : (5 ≤ sizeLine) = True := eq_true (line_le (by decide))
theorem ln6 : (6 ≤ sizeLine) = True := eq_true (line_le (by decide))
theorem ln7 : (7 ≤ sizeLine) = True := eq_true (line_le (by decide))
theorem ln8 : (8 ≤ sizeLine) = True := eq_true (line_le (by decide))
theorem ln9 : (9 ≤ sizeLine) = True := eq_true (line_le (by decide))
theorem ln10 : (10 ≤ sizeLine) = True := eq_true (line_le (by decide))
theorem ln11 : (11 ≤ sizeLine) = True := eq_true (line_le (by decide))
theorem ln12 : (12 ≤ sizeLine) = True := eq_true (line_le (by decide))
theorem ln13 : (13 ≤ sizeLine) = True := eq_true (line_le (by decide))
theorem ln14 : (14 ≤ sizeLine) = True := eq_true (line_le (by decide))
theorem ln15 : (15 ≤ sizeLine) = True := eq_true (line_le (by decide))
theorem ln16 : (16 ≤ sizeLine) = True := eq_true (line_le (by decide))
theorem ln17 : (17 ≤ sizeLine) = True := eq_true (line_le (by decide))
theorem ln18 : (18 ≤ sizeLine) = True := eq_true (line_le (by decide))
theorem ln19 : (19 ≤ sizeLine) = True := eq_true (line_le (by decide))
theorem ln20 : (20 ≤ sizeLine) = True := eq_true (line_le (by decide))
theorem ln21 : (21 ≤ sizeLine) = True := eq_true (line_le (by decide))
theorem ln22 : (22 ≤ sizeLine) = True := eq_true (line_le (by decide))
theorem ln23 : (23 ≤ sizeLine) = True := eq_true (line_le (by decide))
theorem ln24 : (24 ≤ sizeLine) = True := eq_true (line_le (by decide))
theorem ln25 : (25 ≤ sizeLine) = True := eq_true (line_le (by decide))
theorem ln26 : (26 ≤ sizeLine) = True := eq_true (line_le (by decide))
theorem ln27 : (27 ≤ sizeLine) = True := eq_true (line_le (by decide))
theorem ln28 : (28 ≤ sizeLine) = True := eq_true (line_le (by decide))
theorem ln29 : (29 ≤ sizeLine) = True := eq_true (line_le (by decide))
theorem ln30 : (30 ≤ sizeLine) = True := eq_true (line_le (by decide))
theorem ln31 : (31 ≤ sizeLine) = True := eq_true (line_le (by decide))
theorem ln32 : (32 ≤ sizeLine) = True := eq_true (line_le (by decide))
theorem ln33 : (33 ≤ sizeLine) = True := eq_true (line_le (by decide))
theorem ln34 : (34 ≤ sizeLine) = True := eq_true (line_le (by decide))
theorem ln35 : (35 ≤ sizeLine) = True := eq_true (line_le (by decide))
theorem ln36 : (36 ≤ sizeLine) = True := eq_true (line_le (by decide))
theorem ln37 : (37 ≤ sizeLine) = True := eq_true (line_le (by decide))
theorem ln38 : (38 ≤ sizeLine) = True := eq_true (line_le (by decide))
theorem ln39 : (39 ≤ sizeLine) = True := eq_true (line_le (by decide))
theorem ln40 : (40 ≤ sizeLine) = True := eq_true (line_le (by decide))
theorem ln41 : (41 ≤ sizeLine) = True := eq_true (line_le (by decide))
theorem ln42 : (42 ≤ sizeLine) = True := eq_true (line_le (by decide))
theorem ln43 : (43 ≤ sizeLine) = True := eq_true (line_le (by decide))
theorem ln44 : (44 ≤ sizeLine) = True := eq_true (line_le (by decide))
theorem ln45 : (45 ≤ sizeLine) = True := eq_true (line_le (by decide))
theorem ln46 : (46 ≤ sizeLine) = True := eq_true (line_le (by decide))
theorem ln47 : (47 ≤ sizeLine) = True := eq_true (line_le (by decide))
theorem ln48 : (48 ≤ sizeLine) = True := eq_true (line_le (by decide))
theorem ln49 : (49 ≤ sizeLine) = True := eq_true (line_le (by decide))
theorem ln50 : (50 ≤ sizeLine) = True := eq_true (line_le (by decide))
theorem ln51 : (51 ≤ sizeLine) = True := eq_true (line_le (by decide))
theorem ln52 : (52 ≤ sizeLine) = True := eq_true (line_le (by decide))
theorem ln53 : (53 ≤ sizeLine) = True := eq_true (line_le (by decide))
theorem ln54 : (54 ≤ sizeLine) = True := eq_true (line_le (by decide))
theorem ln55 : (55 ≤ sizeLine) = True := eq_true (line_le (by decide))
theorem ln56 : (56 ≤ sizeLine) = True := eq_true (line_le (by decide))
theorem ln57 : (57 ≤ sizeLine) = True := eq_true (line_le (by decide))
theorem ln58 : (58 ≤ sizeLine) = True := eq_true (line_le (by decide))
theorem ln59 : (59 ≤ sizeLine) = True := eq_true (line_le (by decide))
theorem ln60 : (60 ≤ sizeLine) = True := eq_true (line_le (by decide))
end S
set_option Elab.async false
set_option linter.all false
set_option maxRecDepth 100000
set_option maxHeartbeats 4000000
namespace S
open PySem PySem.Spec L2
open PyProof.Rows hiding St
local macro_rules | `(tactic| walk_at "e") => `(tactic| try simp only [dSeq, dNext, dRet, dRetN, dIf, dAsg, dAug, dDrop, par_eq, prs_2, dBreak, dCont, dgName, dgSub, gTup_t, gCons_c, gNil_n, dFor_eq, dLc_eq, dVar, dC, dOp, dUn, dBi, dCall, dCons, dNil, dTup, dLst, dSl, part_eq, prt_i, dNoPart, dAndV, dOrV, dNotV, dB, dAnd, dOr, dNot, dIfE, dChain, itv_eq, itv_t, itv_r, dRng, dWalk, dBm, rng1_i, rng2_i, rng3_i, enumR_r, zipR_r,
  BI.r, addD_i, addD_s, addD_t, addD_r, subD_i, mulD_i, mulD_r, mulD_t, modD_i, divD_i, powD_i, ltD_i, leD_i, gtD_i, geD_i, incD_i, negD_i, lr1_i, lr2_i, revD_r, isND_n, isNon, ixD_t, ixD_r, ixD_d, setD_d, dDnew, itk_eq, itk_r, dDm, getD_r, ditD_r, dItI, iti_r, listK_r, sortedD_r, ixD_l, ixD_s, slD_t, slD_r, slD_s, setD_r, lenD_s, lenD_t, lenD_l, lenD_r, isiD_1, isiD_n, listD_t, listD_r, tupleD_t, tupleD_r, allD_r, anyD_r, sumD_r, maxD_r, maxD_t, minD_t, minLD_r, maxLD_r, sumLD_2, sumLD_1, minDf_r, maxD_2, minD_r, minD_2, absD_i, intB_i, intB_b, appD_r, startD, wipeD,
  List.map_cons, List.map_nil, rep_z, rep_s, List.length_cons, List.length_nil, List.cons_append, List.nil_append, List.append_nil, List.getElem?_cons_zero, List.getElem?_cons_succ, List.set_cons_zero, List.set_cons_succ, Option.some.injEq, exists_eq_left', exists_eq_left, D.bl.injEq, D.int.injEq, D.tup.injEq, D.ref.injEq, true_and, and_true, Nat.reduceAdd, Nat.reduceSub, Nat.add_sub_cancel_left, exists_const, br_t, br_f, eqR_int, eqR_bl, Bool.false_bne, Bool.true_bne, Bool.false_xor, Bool.true_xor, Bool.not_true, Bool.not_false, Bool.not_not, ite_true, ite_false, Bool.true_eq_false, false_implies, decide_true, decide_false, tc_int, tc_bool, tc_str, tc_tup, tc_lst, tc_non, tc_dic, ln0, ln1, ln2, ln3, ln4, ln5, ln6, ln7, ln8, ln9, ln10, ln11, ln12, ln13, ln14, ln15, ln16, ln17, ln18, ln19, ln20, ln21, ln22, ln23, ln24, ln25, ln26, ln27, ln28, ln29, ln30, ln31, ln32, ln33, ln34, ln35, ln36, ln37, ln38, ln39, ln40, ln41, ln42, ln43, ln44, ln45, ln46, ln47, ln48, ln49, ln50, ln51, ln52, ln53, ln54, ln55, ln56, ln57, ln58, ln59, ln60])
local macro_rules | `(tactic| walk_at "g") => `(tactic| try simp only [st_same, st_st, GO.lst.injEq, Option.some.injEq, exists_eq_left', exists_eq_left, atI_0, atI_1, atI_2, atI_3, ixN_0, ixN_1, ixN_2, ixN_3, List.set_cons_zero, List.set_cons_succ, List.length_cons, List.length_nil, List.length_append, List.cons_append, List.nil_append, true_and, and_true, seq_st])
/-! ## the law's end -/
theorem GIg.int {P : Program} {w : World} {K : PySem.W.Frag} {mg : Str → Option Value} {base : Heap} {k : Nat} {x : Str} {i : Int} (h : ∃ t, mg x = some (.int i t)) : GIg P w K mg base k x (.cst (.int i)) := by
  obtain ⟨t, e⟩ := h
  exact ⟨.int i, _, e, ⟨t, rfl⟩, fun _ => .int i⟩
def AllG (P : Program) (w : World) (K : PySem.W.Frag) (mg : Str → Option Value) (base : Heap) (k : Nat) : List (Str × GI) → Prop
  | [] => True
  | p :: r => GIg P w K mg base k p.1 p.2 ∧ AllG P w K mg base k r
theorem AllG.ok {P : Program} {w : World} {K : PySem.W.Frag} {mg : Str → Option Value} {base : Heap} {k : Nat} : ∀ {l : List (Str × GI)}, AllG P w K mg base k l → ∀ x g, l.lookup x = some g → GIg P w K mg base k x g
  | [], _, _, _, h => by cases h
  | p :: r, h, x, g, e => by
    rw [List.lookup_cons] at e
    split at e
    · rename_i q
      cases e
      rw [beq_iff_eq] at q
      rw [q]; exact h.1
    · exact AllG.ok h.2 x g e
theorem CalG.mono {P : Program} {w : World} {K : PySem.W.Frag} {mg : Str → Option Value} {base : Heap} {j k : Nat} {x : Str} {sp : DSp} (h : CalG P w K mg base j x sp) (l : j ≤ k) : CalG P w K mg base k x sp := by
  obtain ⟨f, fd, ps, F, h1, h2, h3⟩ := h.ex
  exact ⟨f, fd, ps, F.mono l, h1, h2, h3⟩
theorem GIg.fn {P : Program} {w : World} {K : PySem.W.Frag} {mg : Str → Option Value} {base : Heap} {j k : Nat} {x : Str} {sp : DSp} (h : CalG P w K mg base j x sp) (l : j ≤ k) : GIg P w K mg base k x (.fn sp) := ⟨j, l, h⟩
theorem walk_mine {l : PySem.W.OpenLaw} {n k : Nat} {q : Program} {loose : List Str} {XP : (Str → Option Value) → Heap → Prop} {YP : World → Heap → Prop} {d : DefRec} {x : Str}
    (hn : l.most = some n) (hn2 : n ≤ sizeLine) (hdf : d.params.defaults = []) (hr : Room k callerA)
    (F : ∀ (w : World) (mg : Str → Option Value) (fa : Addr) (h : Heap), YP w h → h.Ns mainGlobals mg → mg d.name = some (.ref fa) →
      ∃ (K : PySem.W.Frag) (fd : FuncData) (sp : Sp), K.In h ∧ (∀ (s : Shared) (u : Value), BindsTo s fd ⟨[u], []⟩ [(x, u)]) ∧
        (∀ (H : Hp) (a : Addr) (ns : List Int), ns.length ≤ n → Only H → SqL K H a (ns.map V.int) → sp [.ref a] H (fun v _ => v = .bl true) fun _ _ _ => False) ∧
        ∀ base : Heap, K.In base → base.Ns mainGlobals mg → FnG l.prog w K mg base (L2N.CX l.prog w) k fa fd [x] sp) :
    PySem.W.WalkO q loose XP YP l.row.toRowW d [] (fun f vs => PySem.call f vs) := by
  refine Att.attach_call hn hdf fun w s₀ s₁ mg mb fa o pm cd doc a vs ns G Y ho hd hcd hmg hobj hints hlen hg => ?_
  obtain ⟨K, fd, sp, KX, hb, hsp, hF⟩ := F w mg fa _ Y G.T.g hmg
  exact law_callG KX G.T.g G.T.b G.T.builtins G.T.nolimit hg hobj hints (Nat.le_trans hlen hn2) (callerA_rm hr) hF hb (fun H hO hS => hsp H a ns hlen hO hS) fun H e s' ⟨_, _, _, _, _, _, _, _, _, _, _, _, z⟩ => z
end S
set_option Elab.async false
set_option linter.all false
set_option maxRecDepth 100000
set_option maxHeartbeats 4000000
namespace S
open PySem PySem.Spec L2
open PyProof.Rows hiding St
local macro_rules | `(tactic| walk_at "e") => `(tactic| try simp only [dSeq, dNext, dRet, dRetN, dIf, dAsg, dAug, dDrop, par_eq, prs_2, dBreak, dCont, dgName, dgSub, gTup_t, gCons_c, gNil_n, dFor_eq, dLc_eq, dVar, dC, dOp, dUn, dBi, dCall, dCons, dNil, dTup, dLst, dSl, part_eq, prt_i, dNoPart, dAndV, dOrV, dNotV, dB, dAnd, dOr, dNot, dIfE, dChain, itv_eq, itv_t, itv_r, dRng, dWalk, dBm, rng1_i, rng2_i, rng3_i, enumR_r, zipR_r,
  BI.r, addD_i, addD_s, addD_t, addD_r, subD_i, mulD_i, mulD_r, mulD_t, modD_i, divD_i, powD_i, ltD_i, leD_i, gtD_i, geD_i, incD_i, negD_i, lr1_i, lr2_i, revD_r, isND_n, isNon, ixD_t, ixD_r, ixD_d, setD_d, dDnew, itk_eq, itk_r, dDm, getD_r, ditD_r, dItI, iti_r, listK_r, sortedD_r, ixD_l, ixD_s, slD_t, slD_r, slD_s, setD_r, lenD_s, lenD_t, lenD_l, lenD_r, isiD_1, isiD_n, listD_t, listD_r, tupleD_t, tupleD_r, allD_r, anyD_r, sumD_r, maxD_r, maxD_t, minD_t, minLD_r, maxLD_r, sumLD_2, sumLD_1, minDf_r, maxD_2, minD_r, minD_2, absD_i, intB_i, intB_b, appD_r, startD, wipeD,
  List.map_cons, List.map_nil, rep_z, rep_s, List.length_cons, List.length_nil, List.cons_append, List.nil_append, List.append_nil, List.getElem?_cons_zero, List.getElem?_cons_succ, List.set_cons_zero, List.set_cons_succ, Option.some.injEq, exists_eq_left', exists_eq_left, D.bl.injEq, D.int.injEq, D.tup.injEq, D.ref.injEq, true_and, and_true, Nat.reduceAdd, Nat.reduceSub, Nat.add_sub_cancel_left, exists_const, br_t, br_f, eqR_int, eqR_bl, Bool.false_bne, Bool.true_bne, Bool.false_xor, Bool.true_xor, Bool.not_true, Bool.not_false, Bool.not_not, ite_true, ite_false, Bool.true_eq_false, false_implies, decide_true, decide_false, tc_int, tc_bool, tc_str, tc_tup, tc_lst, tc_non, tc_dic, ln0, ln1, ln2, ln3, ln4, ln5, ln6, ln7, ln8, ln9, ln10, ln11, ln12, ln13, ln14, ln15, ln16, ln17, ln18, ln19, ln20, ln21, ln22, ln23, ln24, ln25, ln26, ln27, ln28, ln29, ln30, ln31, ln32, ln33, ln34, ln35, ln36, ln37, ln38, ln39, ln40, ln41, ln42, ln43, ln44, ln45, ln46, ln47, ln48, ln49, ln50, ln51, ln52, ln53, ln54, ln55, ln56, ln57, ln58, ln59, ln60])
local macro_rules | `(tactic| walk_at "g") => `(tactic| try simp only [st_same, st_st, GO.lst.injEq, Option.some.injEq, exists_eq_left', exists_eq_left, atI_0, atI_1, atI_2, atI_3, ixN_0, ixN_1, ixN_2, ixN_3, List.set_cons_zero, List.set_cons_succ, List.length_cons, List.length_nil, List.length_append, List.cons_append, List.nil_append, true_and, and_true, seq_st])
/-! ## pieces and commits -/
theorem four_of {ds : List D} (h : ds.length = 4) : ∃ a b c d, ds = [a, b, c, d] := by
  match ds, h with
  | [a, b, c, d], _ => exact ⟨a, b, c, d, rfl⟩
theorem three_of {ds : List D} (h : ds.length = 3) : ∃ a b c, ds = [a, b, c] := by
  match ds, h with
  | [a, b, c], _ => exact ⟨a, b, c, rfl⟩
theorem two_of {ds : List D} (h : ds.length = 2) : ∃ a b, ds = [a, b] := by
  match ds, h with
  | [a, b], _ => exact ⟨a, b, rfl⟩
theorem dds4 {G : Hd} {xs : List D} {a b c d : D} (h : Dds G xs [a, b, c, d]) : ∃ x y z u, xs = [x, y, z, u] ∧ Dd G x a ∧ Dd G y b ∧ Dd G z c ∧ Dd G u d := by
  cases h with | cons h1 h => cases h with | cons h2 h => cases h with | cons h3 h => cases h with | cons h4 h => cases h; exact ⟨_, _, _, _, rfl, h1, h2, h3, h4⟩
theorem dds3 {G : Hd} {xs : List D} {a b c : D} (h : Dds G xs [a, b, c]) : ∃ x y z, xs = [x, y, z] ∧ Dd G x a ∧ Dd G y b ∧ Dd G z c := by
  cases h with | cons h1 h => cases h with | cons h2 h => cases h with | cons h3 h => cases h; exact ⟨_, _, _, rfl, h1, h2, h3⟩
theorem dds2 {G : Hd} {xs : List D} {a b : D} (h : Dds G xs [a, b]) : ∃ x y, xs = [x, y] ∧ Dd G x a ∧ Dd G y b := by
  cases h with | cons h1 h => cases h with | cons h2 h => cases h; exact ⟨_, _, rfl, h1, h2⟩
def pieceAt : D → Int
  | .tup (.int a :: _) => a
  | _ => 0
end S
set_option Elab.async false
set_option linter.all false
set_option maxRecDepth 100000
set_option maxHeartbeats 4000000
namespace S
open PySem PySem.Spec L2
open PyProof.Rows hiding St
local macro_rules | `(tactic| walk_at "e") => `(tactic| try simp only [dSeq, dNext, dRet, dRetN, dIf, dAsg, dAug, dDrop, par_eq, prs_2, dBreak, dCont, dgName, dgSub, gTup_t, gCons_c, gNil_n, dFor_eq, dLc_eq, dVar, dC, dOp, dUn, dBi, dCall, dCons, dNil, dTup, dLst, dSl, part_eq, prt_i, dNoPart, dAndV, dOrV, dNotV, dB, dAnd, dOr, dNot, dIfE, dChain, itv_eq, itv_t, itv_r, dRng, dWalk, dBm, rng1_i, rng2_i, rng3_i, enumR_r, zipR_r,
  BI.r, addD_i, addD_s, addD_t, addD_r, subD_i, mulD_i, mulD_r, mulD_t, modD_i, divD_i, powD_i, ltD_i, leD_i, gtD_i, geD_i, incD_i, negD_i, lr1_i, lr2_i, revD_r, isND_n, isNon, ixD_t, ixD_r, ixD_d, setD_d, dDnew, itk_eq, itk_r, dDm, getD_r, ditD_r, dItI, iti_r, listK_r, sortedD_r, ixD_l, ixD_s, slD_t, slD_r, slD_s, setD_r, lenD_s, lenD_t, lenD_l, lenD_r, isiD_1, isiD_n, listD_t, listD_r, tupleD_t, tupleD_r, allD_r, anyD_r, sumD_r, maxD_r, maxD_t, minD_t, minLD_r, maxLD_r, sumLD_2, sumLD_1, minDf_r, maxD_2, minD_r, minD_2, absD_i, intB_i, intB_b, appD_r, startD, wipeD,
  List.map_cons, List.map_nil, rep_z, rep_s, List.length_cons, List.length_nil, List.cons_append, List.nil_append, List.append_nil, List.getElem?_cons_zero, List.getElem?_cons_succ, List.set_cons_zero, List.set_cons_succ, Option.some.injEq, exists_eq_left', exists_eq_left, D.bl.injEq, D.int.injEq, D.tup.injEq, D.ref.injEq, true_and, and_true, Nat.reduceAdd, Nat.reduceSub, Nat.add_sub_cancel_left, exists_const, br_t, br_f, eqR_int, eqR_bl, Bool.false_bne, Bool.true_bne, Bool.false_xor, Bool.true_xor, Bool.not_true, Bool.not_false, Bool.not_not, ite_true, ite_false, Bool.true_eq_false, false_implies, decide_true, decide_false, tc_int, tc_bool, tc_str, tc_tup, tc_lst, tc_non, tc_dic, ln0, ln1, ln2, ln3, ln4, ln5, ln6, ln7, ln8, ln9, ln10, ln11, ln12, ln13, ln14, ln15, ln16, ln17, ln18, ln19, ln20, ln21, ln22, ln23, ln24, ln25, ln26, ln27, ln28, ln29, ln30, ln31, ln32, ln33, ln34, ln35, ln36, ln37, ln38, ln39, ln40, ln41, ln42, ln43, ln44, ln45, ln46, ln47, ln48, ln49, ln50, ln51, ln52, ln53, ln54, ln55, ln56, ln57, ln58, ln59, ln60])
local macro_rules | `(tactic| walk_at "g") => `(tactic| try simp only [st_same, st_st, GO.lst.injEq, Option.some.injEq, exists_eq_left', exists_eq_left, atI_0, atI_1, atI_2, atI_3, ixN_0, ixN_1, ixN_2, ixN_3, List.set_cons_zero, List.set_cons_succ, List.length_cons, List.length_nil, List.length_append, List.cons_append, List.nil_append, true_and, and_true, seq_st])
/-! ## drawn commits -/
theorem nu {G G' : Hd} {p : Addr} {o : GO} (hp : G p = none) (e : st G p o = G') : Ext G G' ∧ G' p = some o := by
  subst e; exact ⟨.new hp, st_same⟩
theorem put {G G' : Hd} {p : Addr} {o : GO} (e : st G p o = G') : Xt [p] G G' ∧ G' p = some o := by
  subst e; exact ⟨.put (by simp), st_same⟩
/-- made of what no heap holds -/
def Pu (n : Nat) (y : D) : Prop := (∀ G, Dd G y y) ∧ gd 100 n y
theorem dds_pu {n : Nat} {G : Hd} : ∀ {xs : List D}, (∀ y ∈ xs, Pu n y) → Dds G xs xs
  | [], _ => .nil
  | x :: xs, h => .cons ((h x List.mem_cons_self).1 G) (dds_pu fun y hy => h y (List.mem_cons_of_mem _ hy))
theorem pu_tup {n : Nat} {xs : List D} (l : xs.length ≤ 100) (h : ∀ y ∈ xs, Pu n y) : Pu (n + 1) (.tup xs) := ⟨fun G => .tup (dds_pu h), gd_tup.mpr ⟨l, fun x hx => (h x hx).2⟩⟩
theorem pu_int {n : Nat} {i : Int} : Pu n (.int i) := ⟨fun _ => .int i, gd_int⟩
theorem Pu.weak {n m : Nat} {y : D} (h : Pu n y) (l : n ≤ m) : Pu m y := ⟨h.1, h.2.weak l (Nat.le_refl _)⟩
theorem pu_ints {n : Nat} {zs : List Int} (l : zs.length ≤ 100) : Pu (n + 1) (.tup (zs.map D.int)) := pu_tup (by simpa using l) fun y hy => by
  obtain ⟨i, _, rfl⟩ := List.mem_map.mp hy
  exact pu_int
/-- a piece of a commit -/
structure Pc where
  at_ : Int
  signs : List Int
  kind : Int
  cost : Int
def Pc.d (p : Pc) : D := .tup [.int p.at_, .tup (p.signs.map .int), .int p.kind, .int p.cost]
structure Pc.Ok (p : Pc) : Prop where
  l1 : 1 ≤ p.signs.length
  l4 : p.signs.length ≤ 4
  sg : ∀ z ∈ p.signs, 0 ≤ z ∧ z < 1040
  kd : 0 ≤ p.kind ∧ p.kind < 9
  co : 0 ≤ p.cost ∧ p.cost < 100000
end S
set_option Elab.async false
set_option linter.all false
set_option maxRecDepth 100000
set_option maxHeartbeats 4000000
namespace S
open PySem PySem.Spec L2
open PyProof.Rows hiding St
local macro_rules | `(tactic| walk_at "e") => `(tactic| try simp only [dSeq, dNext, dRet, dRetN, dIf, dAsg, dAug, dDrop, par_eq, prs_2, dBreak, dCont, dgName, dgSub, gTup_t, gCons_c, gNil_n, dFor_eq, dLc_eq, dVar, dC, dOp, dUn, dBi, dCall, dCons, dNil, dTup, dLst, dSl, part_eq, prt_i, dNoPart, dAndV, dOrV, dNotV, dB, dAnd, dOr, dNot, dIfE, dChain, itv_eq, itv_t, itv_r, dRng, dWalk, dBm, rng1_i, rng2_i, rng3_i, enumR_r, zipR_r,
  BI.r, addD_i, addD_s, addD_t, addD_r, subD_i, mulD_i, mulD_r, mulD_t, modD_i, divD_i, powD_i, ltD_i, leD_i, gtD_i, geD_i, incD_i, negD_i, lr1_i, lr2_i, revD_r, isND_n, isNon, ixD_t, ixD_r, ixD_d, setD_d, dDnew, itk_eq, itk_r, dDm, getD_r, ditD_r, dItI, iti_r, listK_r, sortedD_r, ixD_l, ixD_s, slD_t, slD_r, slD_s, setD_r, lenD_s, lenD_t, lenD_l, lenD_r, isiD_1, isiD_n, listD_t, listD_r, tupleD_t, tupleD_r, allD_r, anyD_r, sumD_r, maxD_r, maxD_t, minD_t, minLD_r, maxLD_r, sumLD_2, sumLD_1, minDf_r, maxD_2, minD_r, minD_2, absD_i, intB_i, intB_b, appD_r, startD, wipeD,
  List.map_cons, List.map_nil, rep_z, rep_s, List.length_cons, List.length_nil, List.cons_append, List.nil_append, List.append_nil, List.getElem?_cons_zero, List.getElem?_cons_succ, List.set_cons_zero, List.set_cons_succ, Option.some.injEq, exists_eq_left', exists_eq_left, D.bl.injEq, D.int.injEq, D.tup.injEq, D.ref.injEq, true_and, and_true, Nat.reduceAdd, Nat.reduceSub, Nat.add_sub_cancel_left, exists_const, br_t, br_f, eqR_int, eqR_bl, Bool.false_bne, Bool.true_bne, Bool.false_xor, Bool.true_xor, Bool.not_true, Bool.not_false, Bool.not_not, ite_true, ite_false, Bool.true_eq_false, false_implies, decide_true, decide_false, tc_int, tc_bool, tc_str, tc_tup, tc_lst, tc_non, tc_dic, ln0, ln1, ln2, ln3, ln4, ln5, ln6, ln7, ln8, ln9, ln10, ln11, ln12, ln13, ln14, ln15, ln16, ln17, ln18, ln19, ln20, ln21, ln22, ln23, ln24, ln25, ln26, ln27, ln28, ln29, ln30, ln31, ln32, ln33, ln34, ln35, ln36, ln37, ln38, ln39, ln40, ln41, ln42, ln43, ln44, ln45, ln46, ln47, ln48, ln49, ln50, ln51, ln52, ln53, ln54, ln55, ln56, ln57, ln58, ln59, ln60])
local macro_rules | `(tactic| walk_at "g") => `(tactic| try simp only [st_same, st_st, GO.lst.injEq, Option.some.injEq, exists_eq_left', exists_eq_left, atI_0, atI_1, atI_2, atI_3, ixN_0, ixN_1, ixN_2, ixN_3, List.set_cons_zero, List.set_cons_succ, List.length_cons, List.length_nil, List.length_append, List.cons_append, List.nil_append, true_and, and_true, seq_st])
/-! ## wishes -/
def bjS (s : Str) : Bool := ("border" : Str) == s || ("joined" : Str) == s
def intOf : D → Int
  | .int i => i
  | _ => 0
def wishV (n : Int) : D → Bool
  | .tup (.str s :: r) => if bjS s then (match r with
      | [a] => fromV 1 (n - 1) a
      | _ => false) else (match r with
      | [a, b] => ("span" : Str) == s && fromV 0 n a && fromV (intOf a + 1) n b
      | [a, b, c] => ("held" : Str) == s && fromV 0 n a && fromV (intOf a + 1) n b && rowV 1 24 1039 c
      | _ => false)
  | _ => false
theorem lnS {x : Str} (h : PySem.PyData.strOk x = true) : sh (.str x) := ⟨h, Nat.zero_le _⟩
theorem eqR_s {neg : Bool} {s t : Str} {G : Hd} {Q : Qd} (h1 : PySem.PyData.strOk s = true) (h2 : PySem.PyData.strOk t = true) : eqR neg (.str s) (.str t) G Q = Q (.bl (neg ^^ (s == t))) G := by
  refine propext ⟨fun ⟨d, e, h1, h2, _, _, h⟩ => ?_, fun h => ⟨.str s, .str t, .str s, .str t, lnS h1, lnS h2, ?_⟩⟩
  · cases h1; cases h2; simpa only [eqB] using h
  · simpa only [eqB] using h
/-- a told thing in a written tuple -/
theorem in_t {p : Bool} {x d : D} {ys es : List D} {G : Hd} {Q : Qd} (h1 : Dd G x d) (h2 : Dds G ys es) (s1 : sh d) (s2 : sh (.tup es)) (h : Q (.bl (p ^^ es.any fun z => eqB z d)) G) : inD p x (.tup ys) G Q := ⟨d, es, h1, h2, s1, s2, h⟩
def sp_is_wish : DSp := fun ds G q _ => ∃ x d n, ds = [.int n, x] ∧ Dd G x d ∧ gd 1000000 9 d ∧ ∀ G', Ext G G' → q (.bl (wishV n d)) G'
def t_is_wish_r1 : TSd := dRet (dOrV (dOp (eqR false) (dBi (BI.r .len) (dCons (dVar 1) (dNil))) (dC (.int 3))) (dCall sp_is_row (dCons (dOp ixD (dVar 1) (dC (.int 3))) (dCons (dC (.int 1)) (dCons (dC (.int 24)) (dCons (dC (.int 1039)) (dNil)))))))
def t_is_wish_r2 : TSd := dSeq (dIf (dOr (dNot (dB (dCall sp_is_from (dCons (dOp ixD (dVar 1) (dC (.int 1))) (dCons (dC (.int 0)) (dCons (dVar 0) (dNil))))))) (dNot (dB (dCall sp_is_from (dCons (dOp ixD (dVar 1) (dC (.int 2))) (dCons (dOp addD (dOp ixD (dVar 1) (dC (.int 1))) (dC (.int 1))) (dCons (dVar 0) (dNil)))))))) (dRet (dC (.bl false))) (dNext)) t_is_wish_r1
def t_is_wish_r3 : TSd := dSeq (dIf (dOr (dB (dOp (inD true) (dOp ixD (dVar 1) (dC (.int 0))) (dTup (dCons (dC (.str "span")) (dCons (dC (.str "held")) (dNil)))))) (dB (dOp (eqR true) (dBi (BI.r .len) (dCons (dVar 1) (dNil))) (dDix [("span", 3), ("held", 4)] (dOp ixD (dVar 1) (dC (.int 0))))))) (dRet (dC (.bl false))) (dNext)) t_is_wish_r2
def t_is_wish_r4 : TSd := dSeq (dIf (dB (dOp (inD false) (dOp ixD (dVar 1) (dC (.int 0))) (dTup (dCons (dC (.str "border")) (dCons (dC (.str "joined")) (dNil)))))) (dRet (dAndV (dOp (eqR false) (dBi (BI.r .len) (dCons (dVar 1) (dNil))) (dC (.int 2))) (dCall sp_is_from (dCons (dOp ixD (dVar 1) (dC (.int 1))) (dCons (dC (.int 1)) (dCons (dOp subD (dVar 0) (dC (.int 1))) (dNil))))))) (dNext)) t_is_wish_r3
def N_is_wish : List Str := ["n", "thing"]
def P_is_wish : List Str := ["n", "thing"]
def t_is_wish : TSd := dSeq (dIf (dOr (dNot (dB (dBi (BI.r .isi) (dCons (dVar 1) (dCons (dC (.ty "tuple")) (dNil)))))) (dOr (dB (dOp ltD (dBi (BI.r .len) (dCons (dVar 1) (dNil))) (dC (.int 2)))) (dNot (dB (dBi (BI.r .isi) (dCons (dOp ixD (dVar 1) (dC (.int 0))) (dCons (dC (.ty "str")) (dNil)))))))) (dRet (dC (.bl false))) (dNext)) t_is_wish_r4
def gl_is_wish : List (Str × GI) := [("isinstance", .bi .isi), ("str", .ty "str"), ("len", .bi .len), ("tuple", .bi .tuple), ("is_from", .fn sp_is_from), ("is_row", .fn sp_is_row), ("MOST_SIGN", .cst (.int 1039)), ("MOST_SIGNS", .cst (.int 24))]
theorem len_is_wish : ∀ ds G q x, sp_is_wish ds G q x → ds.length = P_is_wish.length := by
  rintro _ _ _ _ ⟨x, d, n, rfl, _⟩; rfl
theorem isV_str {d : D} (h : isV d "str" = true) : ∃ s, d = .str s := by cases d <;> first | exact ⟨_, rfl⟩ | cases h
theorem from_int {l m : Int} {d : D} (h : fromV l m d = true) : ∃ i, d = .int i := by cases d <;> first | exact ⟨_, rfl⟩ | cases h
theorem wishV_nt {n : Int} {d : D} (h : isV d "tuple" = false) : wishV n d = false := by cases d <;> first | rfl | cases h
theorem wishV_ns {n : Int} {d : D} {r : List D} (h : isV d "str" = false) : wishV n (.tup (d :: r)) = false := by cases d <;> first | rfl | cases h
section
variable {w : Wx} {E : En} {G : Hd} {n : Int} {s : Str} {x1 x2 x3 a b c : D}
/-- the tail of the look at a longer wish -/
theorem is_wish_r2 {xs : List D} {ds : List D} (hs : Dds G xs ds) (hok : PySem.PyData.strOk s = true) (hl : (ds.length = 2 ∧ (("span" : Str) == s) = true) ∨ (ds.length = 3 ∧ (("held" : Str) == s) = true)) (hb : bjS s = false)
    (hq : ∀ G', Ext G G' → E.rt (.bl (wishV n (.tup (.str s :: ds)))) G') : t_is_wish_r2 w E [some (.int n), some (.tup (.str s :: xs))] G := by
  have no : wishV n (.tup (.str s :: ds)) = false → ∀ G', Ext G G' → E.rt (.bl false) G' := fun e G' x => by have := hq G' x; rwa [e] at this
  unfold t_is_wish_r2 t_is_wish_r1
  walk_at "e"
  rcases hl with ⟨l, e⟩ | ⟨l, e⟩
  · obtain ⟨a, b, rfl⟩ := two_of l
    obtain ⟨x1, x2, rfl, h1, h2⟩ := dds2 hs
    simp only [atI_1, atI_2, Option.some.injEq, exists_eq_left']
    refine ⟨x1, a, 0, n, rfl, h1, ?_⟩
    walk_at "e"
    refine ⟨fun e1 => no (by simp only [Bool.not_eq_true'] at e1; simp [wishV, hb, e1]) _ .refl, fun e1 => ?_⟩
    simp only [Bool.not_eq_false'] at e1
    obtain ⟨i, rfl⟩ := from_int e1
    cases h1.int_inv
    walk_at "e"
    refine ⟨x2, b, i + 1, n, rfl, h2, ?_⟩
    walk_at "e"
    refine ⟨fun e2 => no (by simp only [Bool.not_eq_true'] at e2; simp [wishV, hb, intOf, e2]) _ .refl, fun e2 => ?_⟩
    simp only [Bool.not_eq_false'] at e2
    have := hq G .refl
    simpa [wishV, hb, intOf, e, e1, e2] using this
  · obtain ⟨a, b, c, rfl⟩ := three_of l
    obtain ⟨x1, x2, x3, rfl, h1, h2, h3⟩ := dds3 hs
    simp only [atI_1, atI_2, atI_3, Option.some.injEq, exists_eq_left']
    refine ⟨x1, a, 0, n, rfl, h1, ?_⟩
    walk_at "e"
    refine ⟨fun e1 => no (by simp only [Bool.not_eq_true'] at e1; simp [wishV, hb, e1]) _ .refl, fun e1 => ?_⟩
    simp only [Bool.not_eq_false'] at e1
    obtain ⟨i, rfl⟩ := from_int e1
    cases h1.int_inv
    walk_at "e"
    refine ⟨x2, b, i + 1, n, rfl, h2, ?_⟩
    walk_at "e"
    refine ⟨fun e2 => no (by simp only [Bool.not_eq_true'] at e2; simp [wishV, hb, intOf, e2]) _ .refl, fun e2 => ?_⟩
    simp only [Bool.not_eq_false'] at e2
    refine ⟨fun z => by simp at z, fun _ => ⟨x3, c, 1, 24, 1039, rfl, h3, by decide, fun G' x' => ?_⟩⟩
    have := hq G' x'
    simpa [wishV, hb, intOf, e, e1, e2] using this
end
theorem two_strs {s t : Str} (h1 : PySem.PyData.strOk s = true) (h2 : PySem.PyData.strOk t = true) : sh (.tup [.str s, .str t]) := ⟨by simp [okD, okDs, h1, h2], by simp [dep, deps]⟩
theorem not_both {s : Str} (h : (("span" : Str) == s) = true) : (("held" : Str) == s) = false := by
  have : ("span" : Str) = s := by simpa using h
  subst this; decide +kernel
theorem wishV_long {n : Int} {s : Str} {ds : List D} (hb : bjS s = false) (h : ¬ (ds.length = 2 ∧ (("span" : Str) == s) = true) ∧ ¬ (ds.length = 3 ∧ (("held" : Str) == s) = true)) : wishV n (.tup (.str s :: ds)) = false := by
  simp only [wishV, hb, Bool.false_eq_true, ite_false]
  split
  · have : (("span" : Str) == s) = false := by
      cases e : (("span" : Str) == s) with
      | false => rfl
      | true => exact absurd ⟨rfl, e⟩ h.1
    simp [this]
  · have : (("held" : Str) == s) = false := by
      cases e : (("held" : Str) == s) with
      | false => rfl
      | true => exact absurd ⟨rfl, e⟩ h.2
    simp [this]
  · rfl
theorem b_is_wish : Body t_is_wish N_is_wish sp_is_wish := by
  rintro ds G q x ⟨x, d, n, rfl, h, g, hq⟩
  unfold t_is_wish N_is_wish t_is_wish_r4
  walk_at "e"
  refine ⟨h.kn, ?_⟩
  rw [h.is]
  have no : wishV n d = false → ∀ G', Ext G G' → q (.bl false) G' := fun e G' x => by have := hq G' x; rwa [e] at this
  refine ⟨fun e => no (wishV_nt (by simpa using e)) _ .refl, fun e => ?_⟩
  obtain ⟨ds, rfl⟩ := is_tup (d := d) (by simpa using e)
  obtain ⟨xs, rfl, hs⟩ := h.tup_inv
  have el := hs.length
  walk_at "e"
  rw [el]
  refine ⟨fun e1 => no ?_ _ .refl, fun e1 => ?_⟩
  · cases ds with
    | nil => rfl
    | cons c r => cases r with
      | nil => cases c <;> simp [wishV]
      | cons => simp at e1; omega
  have l2 : 2 ≤ ds.length := by simp only [decide_eq_false_iff_not, Int.not_lt] at e1; omega
  cases hs with
  | nil => simp at l2
  | @cons x0 d0 xs ds h0 hs =>
  rw [gd_tup] at g
  simp only [atI_0, Option.some.injEq, exists_eq_left']
  refine ⟨h0.kn, ?_⟩
  rw [h0.is]
  refine ⟨fun e2 => no (wishV_ns (by simpa using e2)) _ .refl, fun e2 => ?_⟩
  obtain ⟨s, rfl⟩ := isV_str (d := d0) (by simpa using e2)
  cases h0.str_inv
  have hok : PySem.PyData.strOk s = true := (g.2 _ List.mem_cons_self).ok.1
  have kb : PySem.PyData.strOk "border" = true := by decide +kernel
  have kj : PySem.PyData.strOk "joined" = true := by decide +kernel
  have ks : PySem.PyData.strOk "span" = true := by decide +kernel
  have kh : PySem.PyData.strOk "held" = true := by decide +kernel
  walk_at "e"
  refine in_t (.str s) (.cons (.str _) (.cons (.str _) .nil)) (lnS hok) (two_strs kb kj) ?_
  simp only [List.any_cons, List.any_nil, eqB, Bool.or_false, Bool.false_xor]
  walk_at "e"
  have els := hs.length
  have bj : (("border" : Str) == s || ("joined" : Str) == s) = bjS s := rfl
  rw [bj]
  refine ⟨fun e3 => ⟨fun e4 => ?_, fun e4 => ?_⟩, fun e3 => ?_⟩
  · have l1 : ds.length = 1 := by simp at e4; omega
    obtain ⟨a, rfl⟩ : ∃ a, ds = [a] := by match ds, l1 with | [a], _ => exact ⟨a, rfl⟩
    obtain ⟨y, rfl, h1⟩ : ∃ y, xs = [y] ∧ Dd G y a := by
      cases hs with | cons h1 hs => (cases hs; exact ⟨_, rfl, h1⟩)
    simp only [atI_1, Option.some.injEq, exists_eq_left']
    refine ⟨_, a, 1, n - 1, rfl, h1, ?_⟩
    have := hq G .refl
    simpa [wishV, e3] using this
  · refine no ?_ _ .refl
    simp only [wishV, e3, ite_true]
    split
    · simp at els; simp [els] at e4
    · rfl
  · have e3' : bjS s = false := e3
    unfold t_is_wish_r3
    walk_at "e"
    simp only [atI_0, Option.some.injEq, exists_eq_left']
    refine in_t (.str s) (.cons (.str _) (.cons (.str _) .nil)) (lnS hok) (two_strs ks kh) ?_
    simp only [List.any_cons, List.any_nil, eqB, Bool.or_false, Bool.true_xor]
    walk_at "e"
    refine ⟨fun e4 => no (wishV_long e3' (by
      simp only [Bool.not_eq_true', Bool.or_eq_false_iff] at e4
      exact ⟨fun z => (by rw [e4.1] at z; cases z.2), fun z => (by rw [e4.2] at z; cases z.2)⟩)) _ .refl, fun e4 => ?_⟩
    unfold dDix
    intro p hp
    walk_at "e"
    simp only [atI_0, Option.some.injEq, exists_eq_left']
    have xp : Ext G (st G p (.dic (dLit [("span", 3), ("held", 4)]))) := .new hp
    have e4' : (("span" : Str) == s) = true ∨ (("held" : Str) == s) = true := by
      simp only [Bool.not_eq_false', Bool.or_eq_true] at e4; exact e4
    cases hB : ("span" : Str) == s with
    | true =>
      have hC := not_both hB
      have hB' : s = "span" := by simp at hB; exact hB.symm
      refine ⟨s, 3, rfl, st_same, by rw [hB']; rfl, ?_⟩
      refine ⟨fun e5 => no (wishV_long e3' ⟨fun z => ?_, fun z => (by rw [hC] at z; cases z.2)⟩) _ xp, fun e5 => ?_⟩
      · simp [els, z.1] at e5
      · exact is_wish_r2 (hs.ext xp) hok (.inl ⟨by simp at e5; omega, hB⟩) e3' fun G' x' => hq G' (xp.trans x')
    | false =>
      have hC : (("held" : Str) == s) = true := by simpa [hB] using e4'
      have hC' : s = "held" := by simp at hC; exact hC.symm
      refine ⟨s, 4, rfl, st_same, by rw [hC']; rfl, ?_⟩
      refine ⟨fun e5 => no (wishV_long e3' ⟨fun z => (by rw [hB] at z; cases z.2), fun z => ?_⟩) _ xp, fun e5 => ?_⟩
      · simp [els, z.1] at e5
      · exact is_wish_r2 (hs.ext xp) hok (.inr ⟨by simp at e5; omega, hC⟩) e3' fun G' x' => hq G' (xp.trans x')
end S
set_option Elab.async false
set_option linter.all false
set_option maxRecDepth 100000
set_option maxHeartbeats 4000000
namespace S
open PySem PySem.Spec L2
open PyProof.Rows hiding St
local macro_rules | `(tactic| walk_at "e") => `(tactic| try simp only [dSeq, dNext, dRet, dRetN, dIf, dAsg, dAug, dDrop, par_eq, prs_2, dBreak, dCont, dgName, dgSub, gTup_t, gCons_c, gNil_n, dFor_eq, dLc_eq, dVar, dC, dOp, dUn, dBi, dCall, dCons, dNil, dTup, dLst, dSl, part_eq, prt_i, dNoPart, dAndV, dOrV, dNotV, dB, dAnd, dOr, dNot, dIfE, dChain, itv_eq, itv_t, itv_r, dRng, dWalk, dBm, rng1_i, rng2_i, rng3_i, enumR_r, zipR_r,
  BI.r, addD_i, addD_s, addD_t, addD_r, subD_i, mulD_i, mulD_r, mulD_t, modD_i, divD_i, powD_i, ltD_i, leD_i, gtD_i, geD_i, incD_i, negD_i, lr1_i, lr2_i, revD_r, isND_n, isNon, ixD_t, ixD_r, ixD_d, setD_d, dDnew, itk_eq, itk_r, dDm, getD_r, ditD_r, dItI, iti_r, listK_r, sortedD_r, ixD_l, ixD_s, slD_t, slD_r, slD_s, setD_r, lenD_s, lenD_t, lenD_l, lenD_r, isiD_1, isiD_n, listD_t, listD_r, tupleD_t, tupleD_r, allD_r, anyD_r, sumD_r, maxD_r, maxD_t, minD_t, minLD_r, maxLD_r, sumLD_2, sumLD_1, minDf_r, maxD_2, minD_r, minD_2, absD_i, intB_i, intB_b, appD_r, startD, wipeD,
  List.map_cons, List.map_nil, rep_z, rep_s, List.length_cons, List.length_nil, List.cons_append, List.nil_append, List.append_nil, List.getElem?_cons_zero, List.getElem?_cons_succ, List.set_cons_zero, List.set_cons_succ, Option.some.injEq, exists_eq_left', exists_eq_left, D.bl.injEq, D.int.injEq, D.tup.injEq, D.ref.injEq, true_and, and_true, Nat.reduceAdd, Nat.reduceSub, Nat.add_sub_cancel_left, exists_const, br_t, br_f, eqR_int, eqR_bl, Bool.false_bne, Bool.true_bne, Bool.false_xor, Bool.true_xor, Bool.not_true, Bool.not_false, Bool.not_not, ite_true, ite_false, Bool.true_eq_false, false_implies, decide_true, decide_false, tc_int, tc_bool, tc_str, tc_tup, tc_lst, tc_non, tc_dic, ln0, ln1, ln2, ln3, ln4, ln5, ln6, ln7, ln8, ln9, ln10, ln11, ln12, ln13, ln14, ln15, ln16, ln17, ln18, ln19, ln20, ln21, ln22, ln23, ln24, ln25, ln26, ln27, ln28, ln29, ln30, ln31, ln32, ln33, ln34, ln35, ln36, ln37, ln38, ln39, ln40, ln41, ln42, ln43, ln44, ln45, ln46, ln47, ln48, ln49, ln50, ln51, ln52, ln53, ln54, ln55, ln56, ln57, ln58, ln59, ln60])
local macro_rules | `(tactic| walk_at "g") => `(tactic| try simp only [st_same, st_st, GO.lst.injEq, Option.some.injEq, exists_eq_left', exists_eq_left, atI_0, atI_1, atI_2, atI_3, ixN_0, ixN_1, ixN_2, ixN_3, List.set_cons_zero, List.set_cons_succ, List.length_cons, List.length_nil, List.length_append, List.cons_append, List.nil_append, true_and, and_true, seq_st])
/-! ## drawn wishes -/
inductive Wi where
  | border (i : Int) | joined (i : Int) | held (i j : Int) (S : List Int) | span (i j : Int)
def Wi.d : Wi → D
  | .border i => .tup [.str "border", .int i]
  | .joined i => .tup [.str "joined", .int i]
  | .held i j S => .tup [.str "held", .int i, .int j, .tup (S.map .int)]
  | .span i j => .tup [.str "span", .int i, .int j]
def Wi.Ok (n : Int) : Wi → Prop
  | .border i => 1 ≤ i ∧ i ≤ n - 1
  | .joined i => 1 ≤ i ∧ i ≤ n - 1
  | .held i j S => 0 ≤ i ∧ i < j ∧ j ≤ n ∧ 1 ≤ S.length ∧ S.length ≤ 4 ∧ ∀ z ∈ S, 0 ≤ z ∧ z < 1040
  | .span i j => 0 ≤ i ∧ i < j ∧ j ≤ n
end S
set_option Elab.async false
set_option linter.all false
set_option maxRecDepth 100000
set_option maxHeartbeats 4000000
namespace S
open PySem PySem.Spec L2
open PyProof.Rows hiding St
local macro_rules | `(tactic| walk_at "e") => `(tactic| try simp only [dSeq, dNext, dRet, dRetN, dIf, dAsg, dAug, dDrop, par_eq, prs_2, dBreak, dCont, dgName, dgSub, gTup_t, gCons_c, gNil_n, dFor_eq, dLc_eq, dVar, dC, dOp, dUn, dBi, dCall, dCons, dNil, dTup, dLst, dSl, part_eq, prt_i, dNoPart, dAndV, dOrV, dNotV, dB, dAnd, dOr, dNot, dIfE, dChain, itv_eq, itv_t, itv_r, dRng, dWalk, dBm, rng1_i, rng2_i, rng3_i, enumR_r, zipR_r,
  BI.r, addD_i, addD_s, addD_t, addD_r, subD_i, mulD_i, mulD_r, mulD_t, modD_i, divD_i, powD_i, ltD_i, leD_i, gtD_i, geD_i, incD_i, negD_i, lr1_i, lr2_i, revD_r, isND_n, isNon, ixD_t, ixD_r, ixD_d, setD_d, dDnew, itk_eq, itk_r, dDm, getD_r, ditD_r, dItI, iti_r, listK_r, sortedD_r, ixD_l, ixD_s, slD_t, slD_r, slD_s, setD_r, lenD_s, lenD_t, lenD_l, lenD_r, isiD_1, isiD_n, listD_t, listD_r, tupleD_t, tupleD_r, allD_r, anyD_r, sumD_r, maxD_r, maxD_t, minD_t, minLD_r, maxLD_r, sumLD_2, sumLD_1, minDf_r, maxD_2, minD_r, minD_2, absD_i, intB_i, intB_b, appD_r, startD, wipeD,
  List.map_cons, List.map_nil, rep_z, rep_s, List.length_cons, List.length_nil, List.cons_append, List.nil_append, List.append_nil, List.getElem?_cons_zero, List.getElem?_cons_succ, List.set_cons_zero, List.set_cons_succ, Option.some.injEq, exists_eq_left', exists_eq_left, D.bl.injEq, D.int.injEq, D.tup.injEq, D.ref.injEq, true_and, and_true, Nat.reduceAdd, Nat.reduceSub, Nat.add_sub_cancel_left, exists_const, br_t, br_f, eqR_int, eqR_bl, Bool.false_bne, Bool.true_bne, Bool.false_xor, Bool.true_xor, Bool.not_true, Bool.not_false, Bool.not_not, ite_true, ite_false, Bool.true_eq_false, false_implies, decide_true, decide_false, tc_int, tc_bool, tc_str, tc_tup, tc_lst, tc_non, tc_dic, ln0, ln1, ln2, ln3, ln4, ln5, ln6, ln7, ln8, ln9, ln10, ln11, ln12, ln13, ln14, ln15, ln16, ln17, ln18, ln19, ln20, ln21, ln22, ln23, ln24, ln25, ln26, ln27, ln28, ln29, ln30, ln31, ln32, ln33, ln34, ln35, ln36, ln37, ln38, ln39, ln40, ln41, ln42, ln43, ln44, ln45, ln46, ln47, ln48, ln49, ln50, ln51, ln52, ln53, ln54, ln55, ln56, ln57, ln58, ln59, ln60])
local macro_rules | `(tactic| walk_at "g") => `(tactic| try simp only [st_same, st_st, GO.lst.injEq, Option.some.injEq, exists_eq_left', exists_eq_left, atI_0, atI_1, atI_2, atI_3, ixN_0, ixN_1, ixN_2, ixN_3, List.set_cons_zero, List.set_cons_succ, List.length_cons, List.length_nil, List.length_append, List.cons_append, List.nil_append, true_and, and_true, seq_st])
/-! ## nets -/
theorem takes_here {G : Hd} {b : Addr} (bag : Bag G b) {k : Int} (k0 : 0 < k) (k1 : k ≤ 1000000000) {Q : Qd} {X : Nat → D → Hd → Prop} (h : ∀ r G', 0 ≤ r → r < k → Xt [b] G G' → Bag G' b → Q (.int r) G') : sp__law_take [.ref b, .int k] G Q X :=
  ⟨b, k, rfl, bag, k0, Int.lt_of_le_of_lt k1 (by decide), h⟩
/-- a piece of a net of n places that begins at i -/
structure Pc.In (i n : Int) (p : Pc) : Prop where
  lo : i < p.at_
  hi : p.at_ ≤ n
  l1 : 1 ≤ p.signs.length
  l24 : p.signs.length ≤ 24
  sg : ∀ z ∈ p.signs, 0 ≤ z ∧ z < 1040
  kd : 0 ≤ p.kind ∧ p.kind < 9
  co : 0 ≤ p.cost ∧ p.cost < 100000
def Pc.k (p : Pc) : D := .tup [.int p.at_, .tup (p.signs.map .int), .int p.kind]
theorem keysN_ints : ∀ S : List Int, keysN (S.map D.int) = some (S.map NestedKey.num)
  | [] => rfl
  | z :: S => by simp only [List.map_cons, keysN, keyN, keysN_ints S]
theorem depth_nums : ∀ S : List Int, NestedKey.depthAll (S.map NestedKey.num) = 0
  | [] => rfl
  | z :: S => by simp only [List.map_cons, NestedKey.depthAll, NestedKey.depth, depth_nums S]; rfl
/-- the dict while a place's pieces come -/
def FdOk (i n : Int) (kvs : List (D × D)) : Prop := ∀ kv ∈ kvs, ∃ p : Pc, p.In i n ∧ kv = (p.k, .int p.cost)
theorem FdOk.put {i n : Int} {kvs : List (D × D)} {p : Pc} (h : FdOk i n kvs) (hp : p.In i n) : FdOk i n (putT kvs p.k (.int p.cost)) := by
  intro kv hkv
  unfold putT at hkv
  split at hkv
  · obtain ⟨x, hx, rfl⟩ := List.mem_map.mp hkv
    split
    · obtain ⟨q, hq, rfl⟩ := h x hx
      exact ⟨⟨q.at_, q.signs, q.kind, p.cost⟩, ⟨hq.lo, hq.hi, hq.l1, hq.l24, hq.sg, hq.kd, hp.co⟩, rfl⟩
    · exact h x hx
  · rcases List.mem_append.mp hkv with hx | hx
    · exact h kv hx
    · rw [List.mem_singleton.mp hx]; exact ⟨p, hp, rfl⟩
def NetOk (n : Int) (i : Nat) (N : List (List Pc)) : Prop := ∀ (j : Nat) (ps : List Pc), N[j]? = some ps → ps.length ≤ 150 ∧ ∀ p ∈ ps, p.In (i + j) n
theorem okDs_ints : ∀ S : List Int, okDs (S.map D.int) = true
  | [] => rfl
  | z :: S => by simp only [List.map_cons, okDs, okD, okDs_ints S, Bool.and_self]
theorem deps_ints : ∀ S : List Int, deps (S.map D.int) = 0
  | [] => rfl
  | z :: S => by simp only [List.map_cons, deps, dep, deps_ints S]; rfl
theorem Pc.dd (p : Pc) (G : Hd) : Dd G p.d p.d := .tup (.cons (.int _) (.cons (.tup (Dds.map_int _)) (.cons (.int _) (.cons (.int _) .nil))))
end S
set_option Elab.async false
set_option linter.all false
set_option maxRecDepth 100000
set_option maxHeartbeats 4000000
namespace S
open PySem PySem.Spec L2
open PyProof.Rows hiding St
local macro_rules | `(tactic| walk_at "e") => `(tactic| try simp only [dSeq, dNext, dRet, dRetN, dIf, dAsg, dAug, dDrop, par_eq, prs_2, dBreak, dCont, dgName, dgSub, gTup_t, gCons_c, gNil_n, dFor_eq, dLc_eq, dVar, dC, dOp, dUn, dBi, dCall, dCons, dNil, dTup, dLst, dSl, part_eq, prt_i, dNoPart, dAndV, dOrV, dNotV, dB, dAnd, dOr, dNot, dIfE, dChain, itv_eq, itv_t, itv_r, dRng, dWalk, dBm, rng1_i, rng2_i, rng3_i, enumR_r, zipR_r,
  BI.r, addD_i, addD_s, addD_t, addD_r, subD_i, mulD_i, mulD_r, mulD_t, modD_i, divD_i, powD_i, ltD_i, leD_i, gtD_i, geD_i, incD_i, negD_i, lr1_i, lr2_i, revD_r, isND_n, isNon, ixD_t, ixD_r, ixD_d, setD_d, dDnew, itk_eq, itk_r, dDm, getD_r, ditD_r, dItI, iti_r, listK_r, sortedD_r, ixD_l, ixD_s, slD_t, slD_r, slD_s, setD_r, lenD_s, lenD_t, lenD_l, lenD_r, isiD_1, isiD_n, listD_t, listD_r, tupleD_t, tupleD_r, allD_r, anyD_r, sumD_r, maxD_r, maxD_t, minD_t, minLD_r, maxLD_r, sumLD_2, sumLD_1, minDf_r, maxD_2, minD_r, minD_2, absD_i, intB_i, intB_b, appD_r, startD, wipeD,
  List.map_cons, List.map_nil, rep_z, rep_s, List.length_cons, List.length_nil, List.cons_append, List.nil_append, List.append_nil, List.getElem?_cons_zero, List.getElem?_cons_succ, List.set_cons_zero, List.set_cons_succ, Option.some.injEq, exists_eq_left', exists_eq_left, D.bl.injEq, D.int.injEq, D.tup.injEq, D.ref.injEq, true_and, and_true, Nat.reduceAdd, Nat.reduceSub, Nat.add_sub_cancel_left, exists_const, br_t, br_f, eqR_int, eqR_bl, Bool.false_bne, Bool.true_bne, Bool.false_xor, Bool.true_xor, Bool.not_true, Bool.not_false, Bool.not_not, ite_true, ite_false, Bool.true_eq_false, false_implies, decide_true, decide_false, tc_int, tc_bool, tc_str, tc_tup, tc_lst, tc_non, tc_dic, ln0, ln1, ln2, ln3, ln4, ln5, ln6, ln7, ln8, ln9, ln10, ln11, ln12, ln13, ln14, ln15, ln16, ln17, ln18, ln19, ln20, ln21, ln22, ln23, ln24, ln25, ln26, ln27, ln28, ln29, ln30, ln31, ln32, ln33, ln34, ln35, ln36, ln37, ln38, ln39, ln40, ln41, ln42, ln43, ln44, ln45, ln46, ln47, ln48, ln49, ln50, ln51, ln52, ln53, ln54, ln55, ln56, ln57, ln58, ln59, ln60])
local macro_rules | `(tactic| walk_at "g") => `(tactic| try simp only [st_same, st_st, GO.lst.injEq, Option.some.injEq, exists_eq_left', exists_eq_left, atI_0, atI_1, atI_2, atI_3, ixN_0, ixN_1, ixN_2, ixN_3, List.set_cons_zero, List.set_cons_succ, List.length_cons, List.length_nil, List.length_append, List.cons_append, List.nil_append, true_and, and_true, seq_st])
/-! ## how many cuttings -/
def cw (N : List (List Pc)) : Nat → Nat → Int
  | 0, j => if j = N.length then 1 else 0
  | k + 1, j => if j + (k + 1) = N.length then ((N.getD j []).map fun p => cw N k p.at_.toNat).sum else cw N k j
/-! forward: what waits at the places from i on, times the ways on, is the whole -/
/-! told data without lists -/
end S
set_option Elab.async false
set_option linter.all false
set_option maxRecDepth 100000
set_option maxHeartbeats 4000000
namespace S
open PySem PySem.Spec L2
open PyProof.Rows hiding St
local macro_rules | `(tactic| walk_at "e") => `(tactic| try simp only [dSeq, dNext, dRet, dRetN, dIf, dAsg, dAug, dDrop, par_eq, prs_2, dBreak, dCont, dgName, dgSub, gTup_t, gCons_c, gNil_n, dFor_eq, dLc_eq, dVar, dC, dOp, dUn, dBi, dCall, dCons, dNil, dTup, dLst, dSl, part_eq, prt_i, dNoPart, dAndV, dOrV, dNotV, dB, dAnd, dOr, dNot, dIfE, dChain, itv_eq, itv_t, itv_r, dRng, dWalk, dBm, rng1_i, rng2_i, rng3_i, enumR_r, zipR_r,
  BI.r, addD_i, addD_s, addD_t, addD_r, subD_i, mulD_i, mulD_r, mulD_t, modD_i, divD_i, powD_i, ltD_i, leD_i, gtD_i, geD_i, incD_i, negD_i, lr1_i, lr2_i, revD_r, isND_n, isNon, ixD_t, ixD_r, ixD_d, setD_d, dDnew, itk_eq, itk_r, dDm, getD_r, ditD_r, dItI, iti_r, listK_r, sortedD_r, ixD_l, ixD_s, slD_t, slD_r, slD_s, setD_r, lenD_s, lenD_t, lenD_l, lenD_r, isiD_1, isiD_n, listD_t, listD_r, tupleD_t, tupleD_r, allD_r, anyD_r, sumD_r, maxD_r, maxD_t, minD_t, minLD_r, maxLD_r, sumLD_2, sumLD_1, minDf_r, maxD_2, minD_r, minD_2, absD_i, intB_i, intB_b, appD_r, startD, wipeD,
  List.map_cons, List.map_nil, rep_z, rep_s, List.length_cons, List.length_nil, List.cons_append, List.nil_append, List.append_nil, List.getElem?_cons_zero, List.getElem?_cons_succ, List.set_cons_zero, List.set_cons_succ, Option.some.injEq, exists_eq_left', exists_eq_left, D.bl.injEq, D.int.injEq, D.tup.injEq, D.ref.injEq, true_and, and_true, Nat.reduceAdd, Nat.reduceSub, Nat.add_sub_cancel_left, exists_const, br_t, br_f, eqR_int, eqR_bl, Bool.false_bne, Bool.true_bne, Bool.false_xor, Bool.true_xor, Bool.not_true, Bool.not_false, Bool.not_not, ite_true, ite_false, Bool.true_eq_false, false_implies, decide_true, decide_false, tc_int, tc_bool, tc_str, tc_tup, tc_lst, tc_non, tc_dic, ln0, ln1, ln2, ln3, ln4, ln5, ln6, ln7, ln8, ln9, ln10, ln11, ln12, ln13, ln14, ln15, ln16, ln17, ln18, ln19, ln20, ln21, ln22, ln23, ln24, ln25, ln26, ln27, ln28, ln29, ln30, ln31, ln32, ln33, ln34, ln35, ln36, ln37, ln38, ln39, ln40, ln41, ln42, ln43, ln44, ln45, ln46, ln47, ln48, ln49, ln50, ln51, ln52, ln53, ln54, ln55, ln56, ln57, ln58, ln59, ln60])
local macro_rules | `(tactic| walk_at "g") => `(tactic| try simp only [st_same, st_st, GO.lst.injEq, Option.some.injEq, exists_eq_left', exists_eq_left, atI_0, atI_1, atI_2, atI_3, ixN_0, ixN_1, ixN_2, ixN_3, List.set_cons_zero, List.set_cons_succ, List.length_cons, List.length_nil, List.length_append, List.cons_append, List.nil_append, true_and, and_true, seq_st])
/-! ## a piece left out -/
theorem NetOk.set {n : Int} {N : List (List Pc)} {j : Nat} {ps qs : List Pc} (h : NetOk n 0 N) (e : N[j]? = some ps) (l : qs.length ≤ ps.length) (s : ∀ p ∈ qs, p ∈ ps) : NetOk n 0 (N.set j qs) := by
  intro k rs ek
  by_cases hj : j = k
  · subst hj
    have hl := (List.getElem?_eq_some_iff.mp e).1
    rw [List.getElem?_set_self hl] at ek; cases ek
    obtain ⟨h1, h2⟩ := h j ps e
    exact ⟨by omega, fun p hp => h2 p (s p hp)⟩
  · rw [List.getElem?_set_ne hj] at ek; exact h k rs ek
end S
set_option Elab.async false
set_option linter.all false
set_option maxRecDepth 100000
set_option maxHeartbeats 4000000
namespace S
open PySem PySem.Spec L2
open PyProof.Rows hiding St
local macro_rules | `(tactic| walk_at "e") => `(tactic| try simp only [dSeq, dNext, dRet, dRetN, dIf, dAsg, dAug, dDrop, par_eq, prs_2, dBreak, dCont, dgName, dgSub, gTup_t, gCons_c, gNil_n, dFor_eq, dLc_eq, dVar, dC, dOp, dUn, dBi, dCall, dCons, dNil, dTup, dLst, dSl, part_eq, prt_i, dNoPart, dAndV, dOrV, dNotV, dB, dAnd, dOr, dNot, dIfE, dChain, itv_eq, itv_t, itv_r, dRng, dWalk, dBm, rng1_i, rng2_i, rng3_i, enumR_r, zipR_r,
  BI.r, addD_i, addD_s, addD_t, addD_r, subD_i, mulD_i, mulD_r, mulD_t, modD_i, divD_i, powD_i, ltD_i, leD_i, gtD_i, geD_i, incD_i, negD_i, lr1_i, lr2_i, revD_r, isND_n, isNon, ixD_t, ixD_r, ixD_d, setD_d, dDnew, itk_eq, itk_r, dDm, getD_r, ditD_r, dItI, iti_r, listK_r, sortedD_r, ixD_l, ixD_s, slD_t, slD_r, slD_s, setD_r, lenD_s, lenD_t, lenD_l, lenD_r, isiD_1, isiD_n, listD_t, listD_r, tupleD_t, tupleD_r, allD_r, anyD_r, sumD_r, maxD_r, maxD_t, minD_t, minLD_r, maxLD_r, sumLD_2, sumLD_1, minDf_r, maxD_2, minD_r, minD_2, absD_i, intB_i, intB_b, appD_r, startD, wipeD,
  List.map_cons, List.map_nil, rep_z, rep_s, List.length_cons, List.length_nil, List.cons_append, List.nil_append, List.append_nil, List.getElem?_cons_zero, List.getElem?_cons_succ, List.set_cons_zero, List.set_cons_succ, Option.some.injEq, exists_eq_left', exists_eq_left, D.bl.injEq, D.int.injEq, D.tup.injEq, D.ref.injEq, true_and, and_true, Nat.reduceAdd, Nat.reduceSub, Nat.add_sub_cancel_left, exists_const, br_t, br_f, eqR_int, eqR_bl, Bool.false_bne, Bool.true_bne, Bool.false_xor, Bool.true_xor, Bool.not_true, Bool.not_false, Bool.not_not, ite_true, ite_false, Bool.true_eq_false, false_implies, decide_true, decide_false, tc_int, tc_bool, tc_str, tc_tup, tc_lst, tc_non, tc_dic, ln0, ln1, ln2, ln3, ln4, ln5, ln6, ln7, ln8, ln9, ln10, ln11, ln12, ln13, ln14, ln15, ln16, ln17, ln18, ln19, ln20, ln21, ln22, ln23, ln24, ln25, ln26, ln27, ln28, ln29, ln30, ln31, ln32, ln33, ln34, ln35, ln36, ln37, ln38, ln39, ln40, ln41, ln42, ln43, ln44, ln45, ln46, ln47, ln48, ln49, ln50, ln51, ln52, ln53, ln54, ln55, ln56, ln57, ln58, ln59, ln60])
local macro_rules | `(tactic| walk_at "g") => `(tactic| try simp only [st_same, st_st, GO.lst.injEq, Option.some.injEq, exists_eq_left', exists_eq_left, atI_0, atI_1, atI_2, atI_3, ixN_0, ixN_1, ixN_2, ixN_3, List.set_cons_zero, List.set_cons_succ, List.length_cons, List.length_nil, List.length_append, List.cons_append, List.nil_append, true_and, and_true, seq_st])
/-! ## cuttings -/
def amongV (ps : List Pc) : D → Bool
  | .tup [a, .tup s, k, c] => wholeV a && wholeV k && wholeV c && s.all wholeV && (ps.map Pc.d).any fun z => eqB z (.tup [a, .tup s, k, c])
  | _ => false
def leadsV (N : List (List Pc)) : Int → List D → Bool
  | p, [] => decide (p = N.length)
  | p, d :: r => decide (p < N.length) && amongV (N.getD p.toNat []) d && leadsV N (pieceAt d) r
def cutV (N : List (List Pc)) : D → Bool
  | .lst ds => leadsV N 0 ds
  | _ => false
end S
set_option Elab.async false
set_option linter.all false
set_option maxRecDepth 100000
set_option maxHeartbeats 4000000
namespace S
open PySem PySem.Spec L2
open PyProof.Rows hiding St
local macro_rules | `(tactic| walk_at "e") => `(tactic| try simp only [dSeq, dNext, dRet, dRetN, dIf, dAsg, dAug, dDrop, par_eq, prs_2, dBreak, dCont, dgName, dgSub, gTup_t, gCons_c, gNil_n, dFor_eq, dLc_eq, dVar, dC, dOp, dUn, dBi, dCall, dCons, dNil, dTup, dLst, dSl, part_eq, prt_i, dNoPart, dAndV, dOrV, dNotV, dB, dAnd, dOr, dNot, dIfE, dChain, itv_eq, itv_t, itv_r, dRng, dWalk, dBm, rng1_i, rng2_i, rng3_i, enumR_r, zipR_r,
  BI.r, addD_i, addD_s, addD_t, addD_r, subD_i, mulD_i, mulD_r, mulD_t, modD_i, divD_i, powD_i, ltD_i, leD_i, gtD_i, geD_i, incD_i, negD_i, lr1_i, lr2_i, revD_r, isND_n, isNon, ixD_t, ixD_r, ixD_d, setD_d, dDnew, itk_eq, itk_r, dDm, getD_r, ditD_r, dItI, iti_r, listK_r, sortedD_r, ixD_l, ixD_s, slD_t, slD_r, slD_s, setD_r, lenD_s, lenD_t, lenD_l, lenD_r, isiD_1, isiD_n, listD_t, listD_r, tupleD_t, tupleD_r, allD_r, anyD_r, sumD_r, maxD_r, maxD_t, minD_t, minLD_r, maxLD_r, sumLD_2, sumLD_1, minDf_r, maxD_2, minD_r, minD_2, absD_i, intB_i, intB_b, appD_r, startD, wipeD,
  List.map_cons, List.map_nil, rep_z, rep_s, List.length_cons, List.length_nil, List.cons_append, List.nil_append, List.append_nil, List.getElem?_cons_zero, List.getElem?_cons_succ, List.set_cons_zero, List.set_cons_succ, Option.some.injEq, exists_eq_left', exists_eq_left, D.bl.injEq, D.int.injEq, D.tup.injEq, D.ref.injEq, true_and, and_true, Nat.reduceAdd, Nat.reduceSub, Nat.add_sub_cancel_left, exists_const, br_t, br_f, eqR_int, eqR_bl, Bool.false_bne, Bool.true_bne, Bool.false_xor, Bool.true_xor, Bool.not_true, Bool.not_false, Bool.not_not, ite_true, ite_false, Bool.true_eq_false, false_implies, decide_true, decide_false, tc_int, tc_bool, tc_str, tc_tup, tc_lst, tc_non, tc_dic, ln0, ln1, ln2, ln3, ln4, ln5, ln6, ln7, ln8, ln9, ln10, ln11, ln12, ln13, ln14, ln15, ln16, ln17, ln18, ln19, ln20, ln21, ln22, ln23, ln24, ln25, ln26, ln27, ln28, ln29, ln30, ln31, ln32, ln33, ln34, ln35, ln36, ln37, ln38, ln39, ln40, ln41, ln42, ln43, ln44, ln45, ln46, ln47, ln48, ln49, ln50, ln51, ln52, ln53, ln54, ln55, ln56, ln57, ln58, ln59, ln60])
local macro_rules | `(tactic| walk_at "g") => `(tactic| try simp only [st_same, st_st, GO.lst.injEq, Option.some.injEq, exists_eq_left', exists_eq_left, atI_0, atI_1, atI_2, atI_3, ixN_0, ixN_1, ixN_2, ixN_3, List.set_cons_zero, List.set_cons_succ, List.length_cons, List.length_nil, List.length_append, List.cons_append, List.nil_append, true_and, and_true, seq_st])
/-! ## a cutting's cost -/
/-! ## a drawn cutting -/
end S
set_option Elab.async false
set_option linter.all false
set_option maxRecDepth 100000
set_option maxHeartbeats 4000000
namespace S
open PySem PySem.Spec L2
open PyProof.Rows hiding St
local macro_rules | `(tactic| walk_at "e") => `(tactic| try simp only [dSeq, dNext, dRet, dRetN, dIf, dAsg, dAug, dDrop, par_eq, prs_2, dBreak, dCont, dgName, dgSub, gTup_t, gCons_c, gNil_n, dFor_eq, dLc_eq, dVar, dC, dOp, dUn, dBi, dCall, dCons, dNil, dTup, dLst, dSl, part_eq, prt_i, dNoPart, dAndV, dOrV, dNotV, dB, dAnd, dOr, dNot, dIfE, dChain, itv_eq, itv_t, itv_r, dRng, dWalk, dBm, rng1_i, rng2_i, rng3_i, enumR_r, zipR_r,
  BI.r, addD_i, addD_s, addD_t, addD_r, subD_i, mulD_i, mulD_r, mulD_t, modD_i, divD_i, powD_i, ltD_i, leD_i, gtD_i, geD_i, incD_i, negD_i, lr1_i, lr2_i, revD_r, isND_n, isNon, ixD_t, ixD_r, ixD_d, setD_d, dDnew, itk_eq, itk_r, dDm, getD_r, ditD_r, dItI, iti_r, listK_r, sortedD_r, ixD_l, ixD_s, slD_t, slD_r, slD_s, setD_r, lenD_s, lenD_t, lenD_l, lenD_r, isiD_1, isiD_n, listD_t, listD_r, tupleD_t, tupleD_r, allD_r, anyD_r, sumD_r, maxD_r, maxD_t, minD_t, minLD_r, maxLD_r, sumLD_2, sumLD_1, minDf_r, maxD_2, minD_r, minD_2, absD_i, intB_i, intB_b, appD_r, startD, wipeD,
  List.map_cons, List.map_nil, rep_z, rep_s, List.length_cons, List.length_nil, List.cons_append, List.nil_append, List.append_nil, List.getElem?_cons_zero, List.getElem?_cons_succ, List.set_cons_zero, List.set_cons_succ, Option.some.injEq, exists_eq_left', exists_eq_left, D.bl.injEq, D.int.injEq, D.tup.injEq, D.ref.injEq, true_and, and_true, Nat.reduceAdd, Nat.reduceSub, Nat.add_sub_cancel_left, exists_const, br_t, br_f, eqR_int, eqR_bl, Bool.false_bne, Bool.true_bne, Bool.false_xor, Bool.true_xor, Bool.not_true, Bool.not_false, Bool.not_not, ite_true, ite_false, Bool.true_eq_false, false_implies, decide_true, decide_false, tc_int, tc_bool, tc_str, tc_tup, tc_lst, tc_non, tc_dic, ln0, ln1, ln2, ln3, ln4, ln5, ln6, ln7, ln8, ln9, ln10, ln11, ln12, ln13, ln14, ln15, ln16, ln17, ln18, ln19, ln20, ln21, ln22, ln23, ln24, ln25, ln26, ln27, ln28, ln29, ln30, ln31, ln32, ln33, ln34, ln35, ln36, ln37, ln38, ln39, ln40, ln41, ln42, ln43, ln44, ln45, ln46, ln47, ln48, ln49, ln50, ln51, ln52, ln53, ln54, ln55, ln56, ln57, ln58, ln59, ln60])
local macro_rules | `(tactic| walk_at "g") => `(tactic| try simp only [st_same, st_st, GO.lst.injEq, Option.some.injEq, exists_eq_left', exists_eq_left, atI_0, atI_1, atI_2, atI_3, ixN_0, ixN_1, ixN_2, ixN_3, List.set_cons_zero, List.set_cons_succ, List.length_cons, List.length_nil, List.length_append, List.cons_append, List.nil_append, true_and, and_true, seq_st])
/-! ## a chained net -/
/-! ## with a truth -/
end S
set_option Elab.async false
set_option linter.all false
set_option maxRecDepth 100000
set_option maxHeartbeats 4000000
namespace S
open PySem PySem.Spec L2
open PyProof.Rows hiding St
local macro_rules | `(tactic| walk_at "e") => `(tactic| try simp only [dSeq, dNext, dRet, dRetN, dIf, dAsg, dAug, dDrop, par_eq, prs_2, dBreak, dCont, dgName, dgSub, gTup_t, gCons_c, gNil_n, dFor_eq, dLc_eq, dVar, dC, dOp, dUn, dBi, dCall, dCons, dNil, dTup, dLst, dSl, part_eq, prt_i, dNoPart, dAndV, dOrV, dNotV, dB, dAnd, dOr, dNot, dIfE, dChain, itv_eq, itv_t, itv_r, dRng, dWalk, dBm, rng1_i, rng2_i, rng3_i, enumR_r, zipR_r,
  BI.r, addD_i, addD_s, addD_t, addD_r, subD_i, mulD_i, mulD_r, mulD_t, modD_i, divD_i, powD_i, ltD_i, leD_i, gtD_i, geD_i, incD_i, negD_i, lr1_i, lr2_i, revD_r, isND_n, isNon, ixD_t, ixD_r, ixD_d, setD_d, dDnew, itk_eq, itk_r, dDm, getD_r, ditD_r, dItI, iti_r, listK_r, sortedD_r, ixD_l, ixD_s, slD_t, slD_r, slD_s, setD_r, lenD_s, lenD_t, lenD_l, lenD_r, isiD_1, isiD_n, listD_t, listD_r, tupleD_t, tupleD_r, allD_r, anyD_r, sumD_r, maxD_r, maxD_t, minD_t, minLD_r, maxLD_r, sumLD_2, sumLD_1, minDf_r, maxD_2, minD_r, minD_2, absD_i, intB_i, intB_b, appD_r, startD, wipeD,
  List.map_cons, List.map_nil, rep_z, rep_s, List.length_cons, List.length_nil, List.cons_append, List.nil_append, List.append_nil, List.getElem?_cons_zero, List.getElem?_cons_succ, List.set_cons_zero, List.set_cons_succ, Option.some.injEq, exists_eq_left', exists_eq_left, D.bl.injEq, D.int.injEq, D.tup.injEq, D.ref.injEq, true_and, and_true, Nat.reduceAdd, Nat.reduceSub, Nat.add_sub_cancel_left, exists_const, br_t, br_f, eqR_int, eqR_bl, Bool.false_bne, Bool.true_bne, Bool.false_xor, Bool.true_xor, Bool.not_true, Bool.not_false, Bool.not_not, ite_true, ite_false, Bool.true_eq_false, false_implies, decide_true, decide_false, tc_int, tc_bool, tc_str, tc_tup, tc_lst, tc_non, tc_dic, ln0, ln1, ln2, ln3, ln4, ln5, ln6, ln7, ln8, ln9, ln10, ln11, ln12, ln13, ln14, ln15, ln16, ln17, ln18, ln19, ln20, ln21, ln22, ln23, ln24, ln25, ln26, ln27, ln28, ln29, ln30, ln31, ln32, ln33, ln34, ln35, ln36, ln37, ln38, ln39, ln40, ln41, ln42, ln43, ln44, ln45, ln46, ln47, ln48, ln49, ln50, ln51, ln52, ln53, ln54, ln55, ln56, ln57, ln58, ln59, ln60])
local macro_rules | `(tactic| walk_at "g") => `(tactic| try simp only [st_same, st_st, GO.lst.injEq, Option.some.injEq, exists_eq_left', exists_eq_left, atI_0, atI_1, atI_2, atI_3, ixN_0, ixN_1, ixN_2, ixN_3, List.set_cons_zero, List.set_cons_succ, List.length_cons, List.length_nil, List.length_append, List.cons_append, List.nil_append, true_and, and_true, seq_st])
/-! ## what a wish wants and bars -/
theorem ok_border : PySem.PyData.strOk "border" = true := by decide +kernel
theorem ok_joined : PySem.PyData.strOk "joined" = true := by decide +kernel
theorem ok_held : PySem.PyData.strOk "held" = true := by decide +kernel
theorem ok_span : PySem.PyData.strOk "span" = true := by decide +kernel
theorem bb : (("border" : Str) == "border") = true := by decide +kernel
theorem bj : (("border" : Str) == "joined") = false := by decide +kernel
theorem bh : (("border" : Str) == "held") = false := by decide +kernel
theorem bs : (("border" : Str) == "span") = false := by decide +kernel
theorem jb : (("joined" : Str) == "border") = false := by decide +kernel
theorem jj : (("joined" : Str) == "joined") = true := by decide +kernel
theorem jh : (("joined" : Str) == "held") = false := by decide +kernel
theorem js : (("joined" : Str) == "span") = false := by decide +kernel
theorem hb : (("held" : Str) == "border") = false := by decide +kernel
theorem hj : (("held" : Str) == "joined") = false := by decide +kernel
theorem hh : (("held" : Str) == "held") = true := by decide +kernel
theorem hs : (("held" : Str) == "span") = false := by decide +kernel
theorem sb : (("span" : Str) == "border") = false := by decide +kernel
theorem sj : (("span" : Str) == "joined") = false := by decide +kernel
theorem shh : (("span" : Str) == "held") = false := by decide +kernel
theorem ss : (("span" : Str) == "span") = true := by decide +kernel
local macro_rules | `(tactic| walk_at "w") => `(tactic| (try simp only [Wi.d] at *; walk_at "e"; try simp only [atI_0, atI_1, atI_2, atI_3, Option.some.injEq, exists_eq_left', eqR_s ok_border ok_border, eqR_s ok_border ok_joined, eqR_s ok_border ok_held, eqR_s ok_border ok_span, eqR_s ok_joined ok_border, eqR_s ok_joined ok_joined, eqR_s ok_joined ok_held, eqR_s ok_joined ok_span, eqR_s ok_held ok_border, eqR_s ok_held ok_joined, eqR_s ok_held ok_held, eqR_s ok_held ok_span, eqR_s ok_span ok_border, eqR_s ok_span ok_joined, eqR_s ok_span ok_held, eqR_s ok_span ok_span, bb, bj, bh, bs, jb, jj, jh, js, hb, hj, hh, hs, sb, sj, shh, ss]; walk_at "e"))
end S
set_option Elab.async false
set_option linter.all false
set_option maxRecDepth 100000
set_option maxHeartbeats 4000000
namespace S
open PySem PySem.Spec L2
open PyProof.Rows hiding St
local macro_rules | `(tactic| walk_at "e") => `(tactic| try simp only [dSeq, dNext, dRet, dRetN, dIf, dAsg, dAug, dDrop, par_eq, prs_2, dBreak, dCont, dgName, dgSub, gTup_t, gCons_c, gNil_n, dFor_eq, dLc_eq, dVar, dC, dOp, dUn, dBi, dCall, dCons, dNil, dTup, dLst, dSl, part_eq, prt_i, dNoPart, dAndV, dOrV, dNotV, dB, dAnd, dOr, dNot, dIfE, dChain, itv_eq, itv_t, itv_r, dRng, dWalk, dBm, rng1_i, rng2_i, rng3_i, enumR_r, zipR_r,
  BI.r, addD_i, addD_s, addD_t, addD_r, subD_i, mulD_i, mulD_r, mulD_t, modD_i, divD_i, powD_i, ltD_i, leD_i, gtD_i, geD_i, incD_i, negD_i, lr1_i, lr2_i, revD_r, isND_n, isNon, ixD_t, ixD_r, ixD_d, setD_d, dDnew, itk_eq, itk_r, dDm, getD_r, ditD_r, dItI, iti_r, listK_r, sortedD_r, ixD_l, ixD_s, slD_t, slD_r, slD_s, setD_r, lenD_s, lenD_t, lenD_l, lenD_r, isiD_1, isiD_n, listD_t, listD_r, tupleD_t, tupleD_r, allD_r, anyD_r, sumD_r, maxD_r, maxD_t, minD_t, minLD_r, maxLD_r, sumLD_2, sumLD_1, minDf_r, maxD_2, minD_r, minD_2, absD_i, intB_i, intB_b, appD_r, startD, wipeD,
  List.map_cons, List.map_nil, rep_z, rep_s, List.length_cons, List.length_nil, List.cons_append, List.nil_append, List.append_nil, List.getElem?_cons_zero, List.getElem?_cons_succ, List.set_cons_zero, List.set_cons_succ, Option.some.injEq, exists_eq_left', exists_eq_left, D.bl.injEq, D.int.injEq, D.tup.injEq, D.ref.injEq, true_and, and_true, Nat.reduceAdd, Nat.reduceSub, Nat.add_sub_cancel_left, exists_const, br_t, br_f, eqR_int, eqR_bl, Bool.false_bne, Bool.true_bne, Bool.false_xor, Bool.true_xor, Bool.not_true, Bool.not_false, Bool.not_not, ite_true, ite_false, Bool.true_eq_false, false_implies, decide_true, decide_false, tc_int, tc_bool, tc_str, tc_tup, tc_lst, tc_non, tc_dic, ln0, ln1, ln2, ln3, ln4, ln5, ln6, ln7, ln8, ln9, ln10, ln11, ln12, ln13, ln14, ln15, ln16, ln17, ln18, ln19, ln20, ln21, ln22, ln23, ln24, ln25, ln26, ln27, ln28, ln29, ln30, ln31, ln32, ln33, ln34, ln35, ln36, ln37, ln38, ln39, ln40, ln41, ln42, ln43, ln44, ln45, ln46, ln47, ln48, ln49, ln50, ln51, ln52, ln53, ln54, ln55, ln56, ln57, ln58, ln59, ln60])
local macro_rules | `(tactic| walk_at "g") => `(tactic| try simp only [st_same, st_st, GO.lst.injEq, Option.some.injEq, exists_eq_left', exists_eq_left, atI_0, atI_1, atI_2, atI_3, ixN_0, ixN_1, ixN_2, ixN_3, List.set_cons_zero, List.set_cons_succ, List.length_cons, List.length_nil, List.length_append, List.cons_append, List.nil_append, true_and, and_true, seq_st])
local macro_rules | `(tactic| walk_at "w") => `(tactic| (try simp only [Wi.d] at *; walk_at "e"; try simp only [atI_0, atI_1, atI_2, atI_3, Option.some.injEq, exists_eq_left', eqR_s ok_border ok_border, eqR_s ok_border ok_joined, eqR_s ok_border ok_held, eqR_s ok_border ok_span, eqR_s ok_joined ok_border, eqR_s ok_joined ok_joined, eqR_s ok_joined ok_held, eqR_s ok_joined ok_span, eqR_s ok_held ok_border, eqR_s ok_held ok_joined, eqR_s ok_held ok_held, eqR_s ok_held ok_span, eqR_s ok_span ok_border, eqR_s ok_span ok_joined, eqR_s ok_span ok_held, eqR_s ok_span ok_span, bb, bj, bh, bs, jb, jj, jh, js, hb, hj, hh, hs, sb, sj, shh, ss]; walk_at "e"))
/-! ## fights -/
end S
set_option Elab.async false
set_option linter.all false
set_option maxRecDepth 100000
set_option maxHeartbeats 4000000
namespace S
open PySem PySem.Spec L2
open PyProof.Rows hiding St
local macro_rules | `(tactic| walk_at "e") => `(tactic| try simp only [dSeq, dNext, dRet, dRetN, dIf, dAsg, dAug, dDrop, par_eq, prs_2, dBreak, dCont, dgName, dgSub, gTup_t, gCons_c, gNil_n, dFor_eq, dLc_eq, dVar, dC, dOp, dUn, dBi, dCall, dCons, dNil, dTup, dLst, dSl, part_eq, prt_i, dNoPart, dAndV, dOrV, dNotV, dB, dAnd, dOr, dNot, dIfE, dChain, itv_eq, itv_t, itv_r, dRng, dWalk, dBm, rng1_i, rng2_i, rng3_i, enumR_r, zipR_r,
  BI.r, addD_i, addD_s, addD_t, addD_r, subD_i, mulD_i, mulD_r, mulD_t, modD_i, divD_i, powD_i, ltD_i, leD_i, gtD_i, geD_i, incD_i, negD_i, lr1_i, lr2_i, revD_r, isND_n, isNon, ixD_t, ixD_r, ixD_d, setD_d, dDnew, itk_eq, itk_r, dDm, getD_r, ditD_r, dItI, iti_r, listK_r, sortedD_r, ixD_l, ixD_s, slD_t, slD_r, slD_s, setD_r, lenD_s, lenD_t, lenD_l, lenD_r, isiD_1, isiD_n, listD_t, listD_r, tupleD_t, tupleD_r, allD_r, anyD_r, sumD_r, maxD_r, maxD_t, minD_t, minLD_r, maxLD_r, sumLD_2, sumLD_1, minDf_r, maxD_2, minD_r, minD_2, absD_i, intB_i, intB_b, appD_r, startD, wipeD,
  List.map_cons, List.map_nil, rep_z, rep_s, List.length_cons, List.length_nil, List.cons_append, List.nil_append, List.append_nil, List.getElem?_cons_zero, List.getElem?_cons_succ, List.set_cons_zero, List.set_cons_succ, Option.some.injEq, exists_eq_left', exists_eq_left, D.bl.injEq, D.int.injEq, D.tup.injEq, D.ref.injEq, true_and, and_true, Nat.reduceAdd, Nat.reduceSub, Nat.add_sub_cancel_left, exists_const, br_t, br_f, eqR_int, eqR_bl, Bool.false_bne, Bool.true_bne, Bool.false_xor, Bool.true_xor, Bool.not_true, Bool.not_false, Bool.not_not, ite_true, ite_false, Bool.true_eq_false, false_implies, decide_true, decide_false, tc_int, tc_bool, tc_str, tc_tup, tc_lst, tc_non, tc_dic, ln0, ln1, ln2, ln3, ln4, ln5, ln6, ln7, ln8, ln9, ln10, ln11, ln12, ln13, ln14, ln15, ln16, ln17, ln18, ln19, ln20, ln21, ln22, ln23, ln24, ln25, ln26, ln27, ln28, ln29, ln30, ln31, ln32, ln33, ln34, ln35, ln36, ln37, ln38, ln39, ln40, ln41, ln42, ln43, ln44, ln45, ln46, ln47, ln48, ln49, ln50, ln51, ln52, ln53, ln54, ln55, ln56, ln57, ln58, ln59, ln60])
local macro_rules | `(tactic| walk_at "g") => `(tactic| try simp only [st_same, st_st, GO.lst.injEq, Option.some.injEq, exists_eq_left', exists_eq_left, atI_0, atI_1, atI_2, atI_3, ixN_0, ixN_1, ixN_2, ixN_3, List.set_cons_zero, List.set_cons_succ, List.length_cons, List.length_nil, List.length_append, List.cons_append, List.nil_append, true_and, and_true, seq_st])
/-! ## wishes that fight -/
end S
set_option Elab.async false
set_option linter.all false
set_option maxRecDepth 100000
set_option maxHeartbeats 4000000
namespace S
open PySem PySem.Spec L2
open PyProof.Rows hiding St
local macro_rules | `(tactic| walk_at "e") => `(tactic| try simp only [dSeq, dNext, dRet, dRetN, dIf, dAsg, dAug, dDrop, par_eq, prs_2, dBreak, dCont, dgName, dgSub, gTup_t, gCons_c, gNil_n, dFor_eq, dLc_eq, dVar, dC, dOp, dUn, dBi, dCall, dCons, dNil, dTup, dLst, dSl, part_eq, prt_i, dNoPart, dAndV, dOrV, dNotV, dB, dAnd, dOr, dNot, dIfE, dChain, itv_eq, itv_t, itv_r, dRng, dWalk, dBm, rng1_i, rng2_i, rng3_i, enumR_r, zipR_r,
  BI.r, addD_i, addD_s, addD_t, addD_r, subD_i, mulD_i, mulD_r, mulD_t, modD_i, divD_i, powD_i, ltD_i, leD_i, gtD_i, geD_i, incD_i, negD_i, lr1_i, lr2_i, revD_r, isND_n, isNon, ixD_t, ixD_r, ixD_d, setD_d, dDnew, itk_eq, itk_r, dDm, getD_r, ditD_r, dItI, iti_r, listK_r, sortedD_r, ixD_l, ixD_s, slD_t, slD_r, slD_s, setD_r, lenD_s, lenD_t, lenD_l, lenD_r, isiD_1, isiD_n, listD_t, listD_r, tupleD_t, tupleD_r, allD_r, anyD_r, sumD_r, maxD_r, maxD_t, minD_t, minLD_r, maxLD_r, sumLD_2, sumLD_1, minDf_r, maxD_2, minD_r, minD_2, absD_i, intB_i, intB_b, appD_r, startD, wipeD,
  List.map_cons, List.map_nil, rep_z, rep_s, List.length_cons, List.length_nil, List.cons_append, List.nil_append, List.append_nil, List.getElem?_cons_zero, List.getElem?_cons_succ, List.set_cons_zero, List.set_cons_succ, Option.some.injEq, exists_eq_left', exists_eq_left, D.bl.injEq, D.int.injEq, D.tup.injEq, D.ref.injEq, true_and, and_true, Nat.reduceAdd, Nat.reduceSub, Nat.add_sub_cancel_left, exists_const, br_t, br_f, eqR_int, eqR_bl, Bool.false_bne, Bool.true_bne, Bool.false_xor, Bool.true_xor, Bool.not_true, Bool.not_false, Bool.not_not, ite_true, ite_false, Bool.true_eq_false, false_implies, decide_true, decide_false, tc_int, tc_bool, tc_str, tc_tup, tc_lst, tc_non, tc_dic, ln0, ln1, ln2, ln3, ln4, ln5, ln6, ln7, ln8, ln9, ln10, ln11, ln12, ln13, ln14, ln15, ln16, ln17, ln18, ln19, ln20, ln21, ln22, ln23, ln24, ln25, ln26, ln27, ln28, ln29, ln30, ln31, ln32, ln33, ln34, ln35, ln36, ln37, ln38, ln39, ln40, ln41, ln42, ln43, ln44, ln45, ln46, ln47, ln48, ln49, ln50, ln51, ln52, ln53, ln54, ln55, ln56, ln57, ln58, ln59, ln60])
local macro_rules | `(tactic| walk_at "g") => `(tactic| try simp only [st_same, st_st, GO.lst.injEq, Option.some.injEq, exists_eq_left', exists_eq_left, atI_0, atI_1, atI_2, atI_3, ixN_0, ixN_1, ixN_2, ixN_3, List.set_cons_zero, List.set_cons_succ, List.length_cons, List.length_nil, List.length_append, List.cons_append, List.nil_append, true_and, and_true, seq_st])
local macro_rules | `(tactic| walk_at "w") => `(tactic| (try simp only [Wi.d] at *; walk_at "e"; try simp only [atI_0, atI_1, atI_2, atI_3, Option.some.injEq, exists_eq_left', eqR_s ok_border ok_border, eqR_s ok_border ok_joined, eqR_s ok_border ok_held, eqR_s ok_border ok_span, eqR_s ok_joined ok_border, eqR_s ok_joined ok_joined, eqR_s ok_joined ok_held, eqR_s ok_joined ok_span, eqR_s ok_held ok_border, eqR_s ok_held ok_joined, eqR_s ok_held ok_held, eqR_s ok_held ok_span, eqR_s ok_span ok_border, eqR_s ok_span ok_joined, eqR_s ok_span ok_held, eqR_s ok_span ok_span, bb, bj, bh, bs, jb, jj, jh, js, hb, hj, hh, hs, sb, sj, shh, ss]; walk_at "e"))
/-! ## comprehensions over values -/
theorem lcR_filM {α : Type} {te : TEd} {tt : TTd} {vs : List Nat} {σ : Sd} {Q : Qd} {stay : Hd → Prop} {G0 : Hd} {g : TGd} (ps : List α) (g0 : α → D) (t : α → Bool) (f : α → D) (hl : ps.length ≤ 1000000) (hs : ∀ G', Ext G0 G' → stay G')
    (el : ∀ c ∈ ps, ∀ G' (Q' : Qd) (Z : Hd → Prop), Ext G0 G' → (t c = true → ∀ G'', Ext G' G'' → Q' (f c) G'') → (t c = false → ∀ G'', Ext G' G'' → Z G'') → g W0 (g0 c) (wipeD σ vs) G' fun σ2 G2 => tt W0 σ2 G2 fun k G3 => Br k (te W0 σ2 G3 Q') (Z G3))
    (q : ∀ p G', G0 p = none → Ext G0 G' → G' p = some (.lst ((ps.filter t).map f)) → Q (.ref p) G') : lcR g tt te vs σ Q (ps.map g0) stay G0 := by
  intro p hp
  refine ⟨fun i G => i ≤ ps.length ∧ Ext G0 G ∧ G p = some (.lst (((ps.take i).filter t).map f)), ⟨Nat.zero_le _, Xt.new hp, by simp⟩,
    fun i G h => hs G h.2.1, ?_, fun G ⟨_, x, e⟩ => q p G hp x (by rw [e, List.length_map, List.take_length])⟩
  rintro i x G ex ⟨hi, xt, e⟩
  rw [List.getElem?_map] at ex
  obtain ⟨c, ec, rfl⟩ := Option.map_eq_some_iff.mp ex
  have hi2 : i < ps.length := (List.getElem?_eq_some_iff.mp ec).1
  have tk : ps.take (i + 1) = ps.take i ++ [c] := by rw [List.take_add_one, ec]; rfl
  refine el c (List.mem_of_getElem? ec) G _ _ xt (fun ht G4 x4 => ?_) fun hf G4 x4 => ?_
  · refine ⟨_, x4.at e, line_lt ?_, by omega, (xt.trans x4).put' hp, ?_⟩
    · rw [List.length_map]
      have := List.length_filter_le t (ps.take i)
      rw [List.length_take] at this; omega
    · rw [st_same, tk, List.filter_append, List.map_append]
      simp [List.filter_cons, ht]
  · refine ⟨by omega, xt.trans x4, ?_⟩
    rw [x4.at e, tk, List.filter_append, List.map_append]
    simp [List.filter_cons, hf]
theorem lcR_valM {α : Type} {te : TEd} {vs : List Nat} {σ : Sd} {Q : Qd} {stay : Hd → Prop} {G0 : Hd} {g : TGd} (ps : List α) (g0 f : α → D) (hl : ps.length ≤ 1000000) (hs : ∀ G', Ext G0 G' → stay G')
    (el : ∀ c ∈ ps, ∀ G' (Q' : Qd), Ext G0 G' → (∀ G'', Ext G' G'' → Q' (f c) G'') → g W0 (g0 c) (wipeD σ vs) G' fun σ2 G2 => te W0 σ2 G2 Q')
    (q : ∀ p G', G0 p = none → Ext G0 G' → G' p = some (.lst (ps.map f)) → Q (.ref p) G') : lcR g dYes te vs σ Q (ps.map g0) stay G0 := by
  refine lcR_filM ps g0 (fun _ => true) f hl hs (fun c hc G' Q' Z xt k1 k2 => ?_) fun p G' hp xt e => q p G' hp xt (by rw [e, List.filter_eq_self.mpr (fun _ _ => rfl)])
  unfold dYes
  simp only [br_t]
  exact el c hc G' Q' xt (k1 rfl)
/-! ## what fits a wish -/
/-! ## thinned nets -/
end S
set_option Elab.async false
set_option linter.all false
set_option maxRecDepth 100000
set_option maxHeartbeats 4000000
namespace S
open PySem PySem.Spec L2
open PyProof.Rows hiding St
local macro_rules | `(tactic| walk_at "e") => `(tactic| try simp only [dSeq, dNext, dRet, dRetN, dIf, dAsg, dAug, dDrop, par_eq, prs_2, dBreak, dCont, dgName, dgSub, gTup_t, gCons_c, gNil_n, dFor_eq, dLc_eq, dVar, dC, dOp, dUn, dBi, dCall, dCons, dNil, dTup, dLst, dSl, part_eq, prt_i, dNoPart, dAndV, dOrV, dNotV, dB, dAnd, dOr, dNot, dIfE, dChain, itv_eq, itv_t, itv_r, dRng, dWalk, dBm, rng1_i, rng2_i, rng3_i, enumR_r, zipR_r,
  BI.r, addD_i, addD_s, addD_t, addD_r, subD_i, mulD_i, mulD_r, mulD_t, modD_i, divD_i, powD_i, ltD_i, leD_i, gtD_i, geD_i, incD_i, negD_i, lr1_i, lr2_i, revD_r, isND_n, isNon, ixD_t, ixD_r, ixD_d, setD_d, dDnew, itk_eq, itk_r, dDm, getD_r, ditD_r, dItI, iti_r, listK_r, sortedD_r, ixD_l, ixD_s, slD_t, slD_r, slD_s, setD_r, lenD_s, lenD_t, lenD_l, lenD_r, isiD_1, isiD_n, listD_t, listD_r, tupleD_t, tupleD_r, allD_r, anyD_r, sumD_r, maxD_r, maxD_t, minD_t, minLD_r, maxLD_r, sumLD_2, sumLD_1, minDf_r, maxD_2, minD_r, minD_2, absD_i, intB_i, intB_b, appD_r, startD, wipeD,
  List.map_cons, List.map_nil, rep_z, rep_s, List.length_cons, List.length_nil, List.cons_append, List.nil_append, List.append_nil, List.getElem?_cons_zero, List.getElem?_cons_succ, List.set_cons_zero, List.set_cons_succ, Option.some.injEq, exists_eq_left', exists_eq_left, D.bl.injEq, D.int.injEq, D.tup.injEq, D.ref.injEq, true_and, and_true, Nat.reduceAdd, Nat.reduceSub, Nat.add_sub_cancel_left, exists_const, br_t, br_f, eqR_int, eqR_bl, Bool.false_bne, Bool.true_bne, Bool.false_xor, Bool.true_xor, Bool.not_true, Bool.not_false, Bool.not_not, ite_true, ite_false, Bool.true_eq_false, false_implies, decide_true, decide_false, tc_int, tc_bool, tc_str, tc_tup, tc_lst, tc_non, tc_dic, ln0, ln1, ln2, ln3, ln4, ln5, ln6, ln7, ln8, ln9, ln10, ln11, ln12, ln13, ln14, ln15, ln16, ln17, ln18, ln19, ln20, ln21, ln22, ln23, ln24, ln25, ln26, ln27, ln28, ln29, ln30, ln31, ln32, ln33, ln34, ln35, ln36, ln37, ln38, ln39, ln40, ln41, ln42, ln43, ln44, ln45, ln46, ln47, ln48, ln49, ln50, ln51, ln52, ln53, ln54, ln55, ln56, ln57, ln58, ln59, ln60])
local macro_rules | `(tactic| walk_at "g") => `(tactic| try simp only [st_same, st_st, GO.lst.injEq, Option.some.injEq, exists_eq_left', exists_eq_left, atI_0, atI_1, atI_2, atI_3, ixN_0, ixN_1, ixN_2, ixN_3, List.set_cons_zero, List.set_cons_succ, List.length_cons, List.length_nil, List.length_append, List.cons_append, List.nil_append, true_and, and_true, seq_st])
local macro_rules | `(tactic| walk_at "w") => `(tactic| (try simp only [Wi.d] at *; walk_at "e"; try simp only [atI_0, atI_1, atI_2, atI_3, Option.some.injEq, exists_eq_left', eqR_s ok_border ok_border, eqR_s ok_border ok_joined, eqR_s ok_border ok_held, eqR_s ok_border ok_span, eqR_s ok_joined ok_border, eqR_s ok_joined ok_joined, eqR_s ok_joined ok_held, eqR_s ok_joined ok_span, eqR_s ok_held ok_border, eqR_s ok_held ok_joined, eqR_s ok_held ok_held, eqR_s ok_held ok_span, eqR_s ok_span ok_border, eqR_s ok_span ok_joined, eqR_s ok_span ok_held, eqR_s ok_span ok_span, bb, bj, bh, bs, jb, jj, jh, js, hb, hj, hh, hs, sb, sj, shh, ss]; walk_at "e"))
/-! ## what bears a wish -/
def Wi.Lt : Wi → Prop
  | .held i j _ => i < j
  | .span i j => i < j
  | _ => True
/-! ## some wish -/
end S
set_option Elab.async false
set_option linter.all false
set_option maxRecDepth 100000
set_option maxHeartbeats 4000000
namespace S
open PySem PySem.Spec L2
open PyProof.Rows hiding St
local macro_rules | `(tactic| walk_at "e") => `(tactic| try simp only [dSeq, dNext, dRet, dRetN, dIf, dAsg, dAug, dDrop, par_eq, prs_2, dBreak, dCont, dgName, dgSub, gTup_t, gCons_c, gNil_n, dFor_eq, dLc_eq, dVar, dC, dOp, dUn, dBi, dCall, dCons, dNil, dTup, dLst, dSl, part_eq, prt_i, dNoPart, dAndV, dOrV, dNotV, dB, dAnd, dOr, dNot, dIfE, dChain, itv_eq, itv_t, itv_r, dRng, dWalk, dBm, rng1_i, rng2_i, rng3_i, enumR_r, zipR_r,
  BI.r, addD_i, addD_s, addD_t, addD_r, subD_i, mulD_i, mulD_r, mulD_t, modD_i, divD_i, powD_i, ltD_i, leD_i, gtD_i, geD_i, incD_i, negD_i, lr1_i, lr2_i, revD_r, isND_n, isNon, ixD_t, ixD_r, ixD_d, setD_d, dDnew, itk_eq, itk_r, dDm, getD_r, ditD_r, dItI, iti_r, listK_r, sortedD_r, ixD_l, ixD_s, slD_t, slD_r, slD_s, setD_r, lenD_s, lenD_t, lenD_l, lenD_r, isiD_1, isiD_n, listD_t, listD_r, tupleD_t, tupleD_r, allD_r, anyD_r, sumD_r, maxD_r, maxD_t, minD_t, minLD_r, maxLD_r, sumLD_2, sumLD_1, minDf_r, maxD_2, minD_r, minD_2, absD_i, intB_i, intB_b, appD_r, startD, wipeD,
  List.map_cons, List.map_nil, rep_z, rep_s, List.length_cons, List.length_nil, List.cons_append, List.nil_append, List.append_nil, List.getElem?_cons_zero, List.getElem?_cons_succ, List.set_cons_zero, List.set_cons_succ, Option.some.injEq, exists_eq_left', exists_eq_left, D.bl.injEq, D.int.injEq, D.tup.injEq, D.ref.injEq, true_and, and_true, Nat.reduceAdd, Nat.reduceSub, Nat.add_sub_cancel_left, exists_const, br_t, br_f, eqR_int, eqR_bl, Bool.false_bne, Bool.true_bne, Bool.false_xor, Bool.true_xor, Bool.not_true, Bool.not_false, Bool.not_not, ite_true, ite_false, Bool.true_eq_false, false_implies, decide_true, decide_false, tc_int, tc_bool, tc_str, tc_tup, tc_lst, tc_non, tc_dic, ln0, ln1, ln2, ln3, ln4, ln5, ln6, ln7, ln8, ln9, ln10, ln11, ln12, ln13, ln14, ln15, ln16, ln17, ln18, ln19, ln20, ln21, ln22, ln23, ln24, ln25, ln26, ln27, ln28, ln29, ln30, ln31, ln32, ln33, ln34, ln35, ln36, ln37, ln38, ln39, ln40, ln41, ln42, ln43, ln44, ln45, ln46, ln47, ln48, ln49, ln50, ln51, ln52, ln53, ln54, ln55, ln56, ln57, ln58, ln59, ln60])
local macro_rules | `(tactic| walk_at "g") => `(tactic| try simp only [st_same, st_st, GO.lst.injEq, Option.some.injEq, exists_eq_left', exists_eq_left, atI_0, atI_1, atI_2, atI_3, ixN_0, ixN_1, ixN_2, ixN_3, List.set_cons_zero, List.set_cons_succ, List.length_cons, List.length_nil, List.length_append, List.cons_append, List.nil_append, true_and, and_true, seq_st])
local macro_rules | `(tactic| walk_at "w") => `(tactic| (try simp only [Wi.d] at *; walk_at "e"; try simp only [atI_0, atI_1, atI_2, atI_3, Option.some.injEq, exists_eq_left', eqR_s ok_border ok_border, eqR_s ok_border ok_joined, eqR_s ok_border ok_held, eqR_s ok_border ok_span, eqR_s ok_joined ok_border, eqR_s ok_joined ok_joined, eqR_s ok_joined ok_held, eqR_s ok_joined ok_span, eqR_s ok_held ok_border, eqR_s ok_held ok_joined, eqR_s ok_held ok_held, eqR_s ok_held ok_span, eqR_s ok_span ok_border, eqR_s ok_span ok_joined, eqR_s ok_span ok_held, eqR_s ok_span ok_span, bb, bj, bh, bs, jb, jj, jh, js, hb, hj, hh, hs, sb, sj, shh, ss]; walk_at "e"))
/-! ## lists of new lists -/
/-! ## pages -/
/-! ## picked -/
end S
set_option Elab.async false
set_option linter.all false
set_option maxRecDepth 100000
set_option maxHeartbeats 4000000
namespace S
open PySem PySem.Spec L2
open PyProof.Rows hiding St
local macro_rules | `(tactic| walk_at "e") => `(tactic| try simp only [dSeq, dNext, dRet, dRetN, dIf, dAsg, dAug, dDrop, par_eq, prs_2, dBreak, dCont, dgName, dgSub, gTup_t, gCons_c, gNil_n, dFor_eq, dLc_eq, dVar, dC, dOp, dUn, dBi, dCall, dCons, dNil, dTup, dLst, dSl, part_eq, prt_i, dNoPart, dAndV, dOrV, dNotV, dB, dAnd, dOr, dNot, dIfE, dChain, itv_eq, itv_t, itv_r, dRng, dWalk, dBm, rng1_i, rng2_i, rng3_i, enumR_r, zipR_r,
  BI.r, addD_i, addD_s, addD_t, addD_r, subD_i, mulD_i, mulD_r, mulD_t, modD_i, divD_i, powD_i, ltD_i, leD_i, gtD_i, geD_i, incD_i, negD_i, lr1_i, lr2_i, revD_r, isND_n, isNon, ixD_t, ixD_r, ixD_d, setD_d, dDnew, itk_eq, itk_r, dDm, getD_r, ditD_r, dItI, iti_r, listK_r, sortedD_r, ixD_l, ixD_s, slD_t, slD_r, slD_s, setD_r, lenD_s, lenD_t, lenD_l, lenD_r, isiD_1, isiD_n, listD_t, listD_r, tupleD_t, tupleD_r, allD_r, anyD_r, sumD_r, maxD_r, maxD_t, minD_t, minLD_r, maxLD_r, sumLD_2, sumLD_1, minDf_r, maxD_2, minD_r, minD_2, absD_i, intB_i, intB_b, appD_r, startD, wipeD,
  List.map_cons, List.map_nil, rep_z, rep_s, List.length_cons, List.length_nil, List.cons_append, List.nil_append, List.append_nil, List.getElem?_cons_zero, List.getElem?_cons_succ, List.set_cons_zero, List.set_cons_succ, Option.some.injEq, exists_eq_left', exists_eq_left, D.bl.injEq, D.int.injEq, D.tup.injEq, D.ref.injEq, true_and, and_true, Nat.reduceAdd, Nat.reduceSub, Nat.add_sub_cancel_left, exists_const, br_t, br_f, eqR_int, eqR_bl, Bool.false_bne, Bool.true_bne, Bool.false_xor, Bool.true_xor, Bool.not_true, Bool.not_false, Bool.not_not, ite_true, ite_false, Bool.true_eq_false, false_implies, decide_true, decide_false, tc_int, tc_bool, tc_str, tc_tup, tc_lst, tc_non, tc_dic, ln0, ln1, ln2, ln3, ln4, ln5, ln6, ln7, ln8, ln9, ln10, ln11, ln12, ln13, ln14, ln15, ln16, ln17, ln18, ln19, ln20, ln21, ln22, ln23, ln24, ln25, ln26, ln27, ln28, ln29, ln30, ln31, ln32, ln33, ln34, ln35, ln36, ln37, ln38, ln39, ln40, ln41, ln42, ln43, ln44, ln45, ln46, ln47, ln48, ln49, ln50, ln51, ln52, ln53, ln54, ln55, ln56, ln57, ln58, ln59, ln60])
local macro_rules | `(tactic| walk_at "g") => `(tactic| try simp only [st_same, st_st, GO.lst.injEq, Option.some.injEq, exists_eq_left', exists_eq_left, atI_0, atI_1, atI_2, atI_3, ixN_0, ixN_1, ixN_2, ixN_3, List.set_cons_zero, List.set_cons_succ, List.length_cons, List.length_nil, List.length_append, List.cons_append, List.nil_append, true_and, and_true, seq_st])
/-! ## commits, their parts, and how often they came -/
structure Cm where
  S : List Int
  ps : List Pc
  w : Bool
def Cm.d (c : Cm) : D := .tup [.tup (c.S.map .int), .tup (c.ps.map Pc.d), .bl c.w]
structure Cm.Ok (c : Cm) : Prop where
  lS : c.S.length ≤ 24
  lp : c.ps.length ≤ 24
  sg : ∀ p ∈ c.ps, p.signs.length ≤ 24
theorem cut_map {α β : Type} {f : α → β} {xs : List α} {lo hi : Option Int} : cut (xs.map f) lo hi = (cut xs lo hi).map f := by unfold cut; rw [List.length_map, List.map_take, List.map_drop]
abbrev LK := List Int × List Int
def kD (k : LK) : D := .tup [.tup (k.1.map .int), .tup (k.2.map .int)]
def piecesFrom (S : List Int) : Int → List Pc → List (LK × Int)
  | _, [] => []
  | b, p :: r => ((cut S (some b) (some p.at_), p.signs), p.kind) :: piecesFrom S p.at_ r
def Cm.pieces (c : Cm) : List (LK × Int) := piecesFrom c.S 0 c.ps
def GoodK (k : LK) : Prop := k.1.length ≤ 24 ∧ k.2.length ≤ 24
theorem pieces_len {S : List Int} : ∀ {ps : List Pc} {b : Int}, (piecesFrom S b ps).length = ps.length
  | [], _ => rfl
  | p :: r, _ => by simp only [piecesFrom, List.length_cons, pieces_len (S := S) (ps := r)]
theorem Cm.Ok.len {c : Cm} (h : c.Ok) : c.pieces.length ≤ 24 := by unfold Cm.pieces; rw [pieces_len]; exact h.lp
/-! the tables, by one table of both numbers -/
abbrev TT := List (LK × Int × Int)
def findT (T : TT) (k : LK) : Option (LK × Int × Int) := T.find? fun t => sameK (kD t.1) (kD k)
def putG (T : TT) (k : LK) (v : Int × Int) : TT := if (findT T k).isSome then T.map (fun t => if sameK (kD t.1) (kD k) then (t.1, v) else t) else T ++ [(k, v)]
def Nod (T : TT) : Prop := (T.map fun t => keyN (kD t.1)).Nodup
theorem same_iff {a b : D} : sameK a b = true ↔ keyN a = keyN b := by unfold sameK; simp
theorem Nod.put {T : TT} {k : LK} {v : Int × Int} (h : Nod T) : Nod (putG T k v) := by
  unfold Nod putG at *
  split
  · rw [List.map_map]
    have : (T.map ((fun t : LK × Int × Int => keyN (kD t.1)) ∘ fun t => if sameK (kD t.1) (kD k) = true then (t.1, v) else t)) = T.map fun t => keyN (kD t.1) := by
      refine List.map_congr_left fun t _ => ?_
      simp only [Function.comp]
      split <;> rfl
    rw [this]; exact h
  · rename_i hn
    rw [List.map_append, List.nodup_append]
    refine ⟨h, by simp, fun a ha b hb e => ?_⟩
    obtain ⟨t, ht, rfl⟩ := List.mem_map.mp ha
    rw [List.map_singleton, List.mem_singleton] at hb
    rw [hb] at e
    have : findT T k = none := by simpa using hn
    exact List.find?_eq_none.mp this t ht (same_iff.mpr e)
theorem Nod.find : ∀ {T : TT}, Nod T → ∀ {t : LK × Int × Int}, t ∈ T → findT T t.1 = some t
  | [], _, _, h => by cases h
  | u :: T, hn, t, h => by
    unfold Nod at hn
    rw [List.map_cons, List.nodup_cons] at hn
    unfold findT
    rw [List.find?_cons]
    rcases List.mem_cons.mp h with rfl | h
    · rw [same_iff.mpr rfl]
    · have : sameK (kD u.1) (kD t.1) = false := by
        rw [Bool.eq_false_iff]
        intro e
        refine hn.1 ?_
        rw [same_iff.mp e]
        exact List.mem_map_of_mem (f := fun t : LK × Int × Int => keyN (kD t.1)) h
      rw [this]
      exact Nod.find hn.2 h
def GoodT (T : TT) : Prop := ∀ t ∈ T, GoodK t.1
theorem GoodT.put {T : TT} {k : LK} {v : Int × Int} (h : GoodT T) (hk : GoodK k) : GoodT (putG T k v) := by
  unfold putG
  split
  · intro t ht
    obtain ⟨u, hu, rfl⟩ := List.mem_map.mp ht
    split <;> exact h u hu
  · intro t ht
    rcases List.mem_append.mp ht with ht | ht
    · exact h t ht
    · rw [List.mem_singleton.mp ht]; exact hk
end S
set_option Elab.async false
set_option linter.all false
set_option maxRecDepth 100000
set_option maxHeartbeats 4000000
namespace S
open PySem PySem.Spec L2
open PyProof.Rows hiding St
local macro_rules | `(tactic| walk_at "e") => `(tactic| try simp only [dSeq, dNext, dRet, dRetN, dIf, dAsg, dAug, dDrop, par_eq, prs_2, dBreak, dCont, dgName, dgSub, gTup_t, gCons_c, gNil_n, dFor_eq, dLc_eq, dVar, dC, dOp, dUn, dBi, dCall, dCons, dNil, dTup, dLst, dSl, part_eq, prt_i, dNoPart, dAndV, dOrV, dNotV, dB, dAnd, dOr, dNot, dIfE, dChain, itv_eq, itv_t, itv_r, dRng, dWalk, dBm, rng1_i, rng2_i, rng3_i, enumR_r, zipR_r,
  BI.r, addD_i, addD_s, addD_t, addD_r, subD_i, mulD_i, mulD_r, mulD_t, modD_i, divD_i, powD_i, ltD_i, leD_i, gtD_i, geD_i, incD_i, negD_i, lr1_i, lr2_i, revD_r, isND_n, isNon, ixD_t, ixD_r, ixD_d, setD_d, dDnew, itk_eq, itk_r, dDm, getD_r, ditD_r, dItI, iti_r, listK_r, sortedD_r, ixD_l, ixD_s, slD_t, slD_r, slD_s, setD_r, lenD_s, lenD_t, lenD_l, lenD_r, isiD_1, isiD_n, listD_t, listD_r, tupleD_t, tupleD_r, allD_r, anyD_r, sumD_r, maxD_r, maxD_t, minD_t, minLD_r, maxLD_r, sumLD_2, sumLD_1, minDf_r, maxD_2, minD_r, minD_2, absD_i, intB_i, intB_b, appD_r, startD, wipeD,
  List.map_cons, List.map_nil, rep_z, rep_s, List.length_cons, List.length_nil, List.cons_append, List.nil_append, List.append_nil, List.getElem?_cons_zero, List.getElem?_cons_succ, List.set_cons_zero, List.set_cons_succ, Option.some.injEq, exists_eq_left', exists_eq_left, D.bl.injEq, D.int.injEq, D.tup.injEq, D.ref.injEq, true_and, and_true, Nat.reduceAdd, Nat.reduceSub, Nat.add_sub_cancel_left, exists_const, br_t, br_f, eqR_int, eqR_bl, Bool.false_bne, Bool.true_bne, Bool.false_xor, Bool.true_xor, Bool.not_true, Bool.not_false, Bool.not_not, ite_true, ite_false, Bool.true_eq_false, false_implies, decide_true, decide_false, tc_int, tc_bool, tc_str, tc_tup, tc_lst, tc_non, tc_dic, ln0, ln1, ln2, ln3, ln4, ln5, ln6, ln7, ln8, ln9, ln10, ln11, ln12, ln13, ln14, ln15, ln16, ln17, ln18, ln19, ln20, ln21, ln22, ln23, ln24, ln25, ln26, ln27, ln28, ln29, ln30, ln31, ln32, ln33, ln34, ln35, ln36, ln37, ln38, ln39, ln40, ln41, ln42, ln43, ln44, ln45, ln46, ln47, ln48, ln49, ln50, ln51, ln52, ln53, ln54, ln55, ln56, ln57, ln58, ln59, ln60])
local macro_rules | `(tactic| walk_at "g") => `(tactic| try simp only [st_same, st_st, GO.lst.injEq, Option.some.injEq, exists_eq_left', exists_eq_left, atI_0, atI_1, atI_2, atI_3, ixN_0, ixN_1, ixN_2, ixN_3, List.set_cons_zero, List.set_cons_succ, List.length_cons, List.length_nil, List.length_append, List.cons_append, List.nil_append, true_and, and_true, seq_st])
/-! ## what is learnt -/
end S
set_option Elab.async false
set_option linter.all false
set_option maxRecDepth 100000
set_option maxHeartbeats 4000000
namespace S
open PySem PySem.Spec L2
open PyProof.Rows hiding St
local macro_rules | `(tactic| walk_at "e") => `(tactic| try simp only [dSeq, dNext, dRet, dRetN, dIf, dAsg, dAug, dDrop, par_eq, prs_2, dBreak, dCont, dgName, dgSub, gTup_t, gCons_c, gNil_n, dFor_eq, dLc_eq, dVar, dC, dOp, dUn, dBi, dCall, dCons, dNil, dTup, dLst, dSl, part_eq, prt_i, dNoPart, dAndV, dOrV, dNotV, dB, dAnd, dOr, dNot, dIfE, dChain, itv_eq, itv_t, itv_r, dRng, dWalk, dBm, rng1_i, rng2_i, rng3_i, enumR_r, zipR_r,
  BI.r, addD_i, addD_s, addD_t, addD_r, subD_i, mulD_i, mulD_r, mulD_t, modD_i, divD_i, powD_i, ltD_i, leD_i, gtD_i, geD_i, incD_i, negD_i, lr1_i, lr2_i, revD_r, isND_n, isNon, ixD_t, ixD_r, ixD_d, setD_d, dDnew, itk_eq, itk_r, dDm, getD_r, ditD_r, dItI, iti_r, listK_r, sortedD_r, ixD_l, ixD_s, slD_t, slD_r, slD_s, setD_r, lenD_s, lenD_t, lenD_l, lenD_r, isiD_1, isiD_n, listD_t, listD_r, tupleD_t, tupleD_r, allD_r, anyD_r, sumD_r, maxD_r, maxD_t, minD_t, minLD_r, maxLD_r, sumLD_2, sumLD_1, minDf_r, maxD_2, minD_r, minD_2, absD_i, intB_i, intB_b, appD_r, startD, wipeD,
  List.map_cons, List.map_nil, rep_z, rep_s, List.length_cons, List.length_nil, List.cons_append, List.nil_append, List.append_nil, List.getElem?_cons_zero, List.getElem?_cons_succ, List.set_cons_zero, List.set_cons_succ, Option.some.injEq, exists_eq_left', exists_eq_left, D.bl.injEq, D.int.injEq, D.tup.injEq, D.ref.injEq, true_and, and_true, Nat.reduceAdd, Nat.reduceSub, Nat.add_sub_cancel_left, exists_const, br_t, br_f, eqR_int, eqR_bl, Bool.false_bne, Bool.true_bne, Bool.false_xor, Bool.true_xor, Bool.not_true, Bool.not_false, Bool.not_not, ite_true, ite_false, Bool.true_eq_false, false_implies, decide_true, decide_false, tc_int, tc_bool, tc_str, tc_tup, tc_lst, tc_non, tc_dic, ln0, ln1, ln2, ln3, ln4, ln5, ln6, ln7, ln8, ln9, ln10, ln11, ln12, ln13, ln14, ln15, ln16, ln17, ln18, ln19, ln20, ln21, ln22, ln23, ln24, ln25, ln26, ln27, ln28, ln29, ln30, ln31, ln32, ln33, ln34, ln35, ln36, ln37, ln38, ln39, ln40, ln41, ln42, ln43, ln44, ln45, ln46, ln47, ln48, ln49, ln50, ln51, ln52, ln53, ln54, ln55, ln56, ln57, ln58, ln59, ln60])
local macro_rules | `(tactic| walk_at "g") => `(tactic| try simp only [st_same, st_st, GO.lst.injEq, Option.some.injEq, exists_eq_left', exists_eq_left, atI_0, atI_1, atI_2, atI_3, ixN_0, ixN_1, ixN_2, ixN_3, List.set_cons_zero, List.set_cons_succ, List.length_cons, List.length_nil, List.length_append, List.cons_append, List.nil_append, true_and, and_true, seq_st])
/-! ## simp rules for dicts keyed by whole numbers -/
section
variable {a : Addr} {xs : List D} {i : Int} {y : D} {G : Hd} {Q : Qd}
theorem ixK_t : ixK (.tup xs) y G Q = ixD (.tup xs) y G Q := by cases y <;> rfl
theorem ixK_l : ixK (.rl xs) y G Q = ixD (.rl xs) y G Q := by cases y <;> rfl
theorem ixK_r : ixK (.ref a) (.int i) G Q = ((∃ xs, seqG G a xs ∧ ∃ d, atI xs i = some d ∧ Q d G) ∨ ∃ kvs ep, G a = some (.dik kvs ep) ∧ ∃ d, valK kvs i = some d ∧ Q d G) := rfl
theorem getK_r : getK (.ref a) [.int i, y] G Q = (∃ kvs ep, G a = some (.dik kvs ep) ∧ Q ((valK kvs i).getD y) G) := rfl
theorem sdfK_r : sdfK (.ref a) [.int i, y] G Q = (∃ kvs ep, G a = some (.dik kvs ep) ∧ kvs.length < sizeLine ∧ (∀ d, valK kvs i = some d → Q d G) ∧ (valK kvs i = none → ∀ ep', Q y (st G a (.dik (putK kvs i y) ep')))) := rfl
theorem dikD_r : dikD (.ref a) G = (∃ kvs ep, G a = some (.dik kvs ep)) := rfl
theorem itj_r {R : List D → (Hd → Prop) → Hd → Prop} : itj (.ref a) G R = (∃ kvs ep, G a = some (.dik kvs ep) ∧ R (kvs.map pairJ) (fun G2 => G2 a = some (.dik kvs ep)) G) := rfl
theorem sortedJ_r : sortedJ (.ref a) G Q = (∃ kvs ep, G a = some (.dik kvs ep) ∧ SrtOk G (kvs.map pairJ) ∧ ∀ p, G p = none → Q (.ref p) (st G p (.lst (srt (kvs.map pairJ))))) := rfl
theorem sortedG_r : sortedG [.ref a] G Q = (∃ ts : List (D × D), seqG G a (ts.map (·.1)) ∧ Dds G (ts.map (·.1)) (ts.map (·.2)) ∧ SrtOkG (ts.map (·.2)) ∧ ∀ p, G p = none → Q (.ref p) (st G p (.lst (srtBy ts)))) := rfl
theorem clearD_r : clearD (.ref a) [] G Q = (∃ xs, G a = some (.lst xs) ∧ Q .non (st G a (.lst []))) := rfl
theorem revsD_r : revsD (.ref a) [] G Q = (∃ xs, G a = some (.lst xs) ∧ Q .non (st G a (.lst xs.reverse))) := rfl
end
local macro_rules | `(tactic| walk_at "e") => `(tactic| try simp only [dSeq, dNext, dRet, dRetN, dIf, dAsg, dAug, dDrop, par_eq, prs_2, dBreak, dCont, dgName, dgSub, gTup_t, gCons_c, gNil_n, dFor_eq, dLc_eq, dVar, dC, dOp, dUn, dBi, dCall, dCons, dNil, dTup, dLst, dSl, part_eq, prt_i, dNoPart, dAndV, dOrV, dNotV, dB, dAnd, dOr, dNot, dIfE, dChain, itv_eq, itv_t, itv_r, dRng, dWalk, dBm, rng1_i, rng2_i, rng3_i, enumR_r, zipR_r,
  BI.r, addD_i, addD_s, addD_t, addD_r, subD_i, mulD_i, mulD_r, mulD_t, modD_i, divD_i, powD_i, ltD_i, leD_i, gtD_i, geD_i, incD_i, negD_i, lr1_i, lr2_i, revD_r, isND_n, isNon, ixD_t, ixD_r, ixD_d, setD_d, dDnew, itk_eq, itk_r, dDm, getD_r, ditD_r, dItI, iti_r, listK_r, sortedD_r, ixK_t, ixK_r, ixK_l, dKnew, dItJ, itj_r, dKm, getK_r, sdfK_r, dikD_r, sortedJ_r, sortedG_r, dBm0, clearD_r, revsD_r, dChain3, ixD_l, ixD_s, slD_t, slD_r, slD_s, setD_r, lenD_s, lenD_t, lenD_l, lenD_r, isiD_1, isiD_n, listD_t, listD_r, tupleD_t, tupleD_r, allD_r, anyD_r, sumD_r, maxD_r, maxD_t, minD_t, minLD_r, maxLD_r, sumLD_2, sumLD_1, minDf_r, maxD_2, minD_r, minD_2, absD_i, intB_i, intB_b, appD_r, startD, wipeD,
  List.map_cons, List.map_nil, rep_z, rep_s, List.length_cons, List.length_nil, List.cons_append, List.nil_append, List.append_nil, List.getElem?_cons_zero, List.getElem?_cons_succ, List.set_cons_zero, List.set_cons_succ, Option.some.injEq, exists_eq_left', exists_eq_left, D.bl.injEq, D.int.injEq, D.tup.injEq, D.ref.injEq, true_and, and_true, Nat.reduceAdd, Nat.reduceSub, Nat.add_sub_cancel_left, exists_const, br_t, br_f, eqR_int, eqR_bl, Bool.false_bne, Bool.true_bne, Bool.false_xor, Bool.true_xor, Bool.not_true, Bool.not_false, Bool.not_not, ite_true, ite_false, Bool.true_eq_false, false_implies, decide_true, decide_false, tc_int, tc_bool, tc_str, tc_tup, tc_lst, tc_non, tc_dic, ln0, ln1, ln2, ln3, ln4, ln5, ln6, ln7, ln8, ln9, ln10, ln11, ln12, ln13, ln14, ln15, ln16, ln17, ln18, ln19, ln20, ln21, ln22, ln23, ln24, ln25, ln26, ln27, ln28, ln29, ln30, ln31, ln32, ln33, ln34, ln35, ln36, ln37, ln38, ln39, ln40, ln41, ln42, ln43, ln44, ln45, ln46, ln47, ln48, ln49, ln50, ln51, ln52, ln53, ln54, ln55, ln56, ln57, ln58, ln59, ln60])
local macro_rules | `(tactic| walk_at "g") => `(tactic| try simp only [st_same, st_st, GO.lst.injEq, Option.some.injEq, exists_eq_left', exists_eq_left, atI_0, atI_1, atI_2, atI_3, ixN_0, ixN_1, ixN_2, ixN_3, List.set_cons_zero, List.set_cons_succ, List.length_cons, List.length_nil, List.length_append, List.cons_append, List.nil_append, true_and, and_true, seq_st])
/-! ## plain dicts -/
section
variable {α : Type} {kvs : List (Int × α)} {i j : Int} {d : α}
def valA (kvs : List (Int × α)) (i : Int) : Option α := (kvs.find? fun kv => decide (kv.1 = i)).map (·.2)
def putA (kvs : List (Int × α)) (i : Int) (d : α) : List (Int × α) := if kvs.any (fun kv => decide (kv.1 = i)) then kvs.map (fun kv => if kv.1 = i then (kv.1, d) else kv) else kvs ++ [(i, d)]
abbrev KN (kvs : List (Int × α)) : Prop := (kvs.map (·.1)).Nodup
theorem valA_cons {kv : Int × α} {r : List (Int × α)} : valA (kv :: r) i = if kv.1 = i then some kv.2 else valA r i := by
  unfold valA
  rw [List.find?_cons]
  by_cases h : kv.1 = i <;> simp [h]
theorem valA_none : valA kvs i = none ↔ (kvs.any fun kv => decide (kv.1 = i)) = false := by
  induction kvs with
  | nil => simp [valA]
  | cons kv r ih =>
    rw [valA_cons, List.any_cons]
    by_cases h : kv.1 = i
    · simp [h]
    · simp only [h, if_false, decide_false, Bool.false_or, ih]
theorem valA_map : valA (kvs.map fun kv => if kv.1 = i then (kv.1, d) else kv) j = if j = i then (valA kvs j).map fun _ => d else valA kvs j := by
  induction kvs with
  | nil => simp [valA]
  | cons kv r ih =>
    rw [List.map_cons, valA_cons, valA_cons, ih]
    by_cases h : kv.1 = i
    · by_cases h2 : j = i
      · simp [h, h2]
      · have h3 : ¬ i = j := fun z => h2 z.symm
        simp [h, h2, h3]
    · by_cases h2 : j = i
      · subst h2; simp [h]
      · simp [h, h2]
theorem valA_app {kv : Int × α} : valA (kvs ++ [kv]) j = (valA kvs j).or (if kv.1 = j then some kv.2 else none) := by
  induction kvs with
  | nil => rw [List.nil_append, valA_cons]; simp [valA]
  | cons x r ih =>
    rw [List.cons_append, valA_cons, valA_cons, ih]
    by_cases h : x.1 = j <;> simp [h]
theorem valA_put : valA (putA kvs i d) j = if j = i then some d else valA kvs j := by
  unfold putA
  split
  · rename_i h
    rw [valA_map]
    split
    · rename_i e; subst e
      cases hv : valA kvs j with
      | none => rw [valA_none] at hv; rw [hv] at h; cases h
      | some x => rfl
    · rfl
  · rename_i h
    rw [valA_app]
    have h : valA kvs i = none := valA_none.mpr (Bool.eq_false_iff.mpr h)
    by_cases e : j = i
    · subst e; simp [h]
    · have e2 : ¬ i = j := fun z => e z.symm
      simp [e, e2]
theorem KN.put (h : KN kvs) : KN (putA kvs i d) := by
  unfold putA
  split
  · show ((kvs.map fun kv => if kv.1 = i then (kv.1, d) else kv).map (·.1)).Nodup
    rw [List.map_map]
    rw [show ((fun x : Int × α => x.1) ∘ fun kv : Int × α => if kv.1 = i then (kv.1, d) else kv) = fun kv => kv.1 by funext kv; simp only [Function.comp]; split <;> rfl]
    exact h
  · rename_i hn
    show ((kvs ++ [(i, d)]).map (·.1)).Nodup
    rw [List.map_append, List.nodup_append]
    refine ⟨h, by simp, fun x hx y hy e => hn ?_⟩
    obtain ⟨kv, hkv, rfl⟩ := List.mem_map.mp hx
    have : y = i := by simpa using hy
    rw [List.any_eq_true]
    exact ⟨kv, hkv, by simpa using e.trans this⟩
theorem KN.mem (h : KN kvs) : (i, d) ∈ kvs ↔ valA kvs i = some d := by
  induction kvs with
  | nil => simp [valA]
  | cons kv r ih =>
    have h' : kv.1 ∉ r.map (·.1) ∧ KN r := by
      unfold KN at h
      rw [List.map_cons, List.nodup_cons] at h
      exact h
    rw [valA_cons, List.mem_cons, ih h'.2]
    by_cases e : kv.1 = i
    · simp only [e, if_true, Option.some.injEq]
      refine ⟨fun z => ?_, fun z => .inl ?_⟩
      · rcases z with z | z
        · rw [← z]
        · exact absurd (List.mem_map.mpr ⟨(i, d), (ih h'.2).mpr z, e.symm⟩) h'.1
      · rw [← e, ← z]
    · simp only [e, if_false]
      refine ⟨fun z => z.resolve_left fun z => e (by rw [← z]), .inr⟩
theorem KN.nodup (h : KN kvs) : kvs.Nodup := (List.pairwise_map.mp h).imp fun h e => h (congrArg (·.1) e)
end
/-- a dict's items as told data -/
def dA {α : Type} (f : α → D) (kvs : List (Int × α)) : List (Int × D) := kvs.map fun p => (p.1, f p.2)
/-! ## a dict of whole numbers by kinds, and its items in order -/
abbrev FK := Int → Option Int
def Is (t : List (Int × Int)) (f : FK) : Prop := KN t ∧ ∀ k, valA t k = f k
theorem Is.put {t : List (Int × Int)} {f g : FK} {i d : Int} (h : Is t f) (e : ∀ k, g k = if k = i then some d else f k) : Is (putA t i d) g := ⟨h.1.put, fun k => by rw [valA_put, e k, h.2 k]⟩
def FB (f : FK) : Prop := ∀ k, f k ≠ none → 0 ≤ k ∧ k ≤ 9
def kn (f : FK) : List (Int × Int) := (List.range 10).filterMap fun k : Nat => (f k).map fun v => ((k : Int), v)
theorem kn_mem {f : FK} (b : FB f) {k v : Int} : (k, v) ∈ kn f ↔ f k = some v := by
  unfold kn
  rw [List.mem_filterMap]
  refine ⟨fun ⟨n, hn, e⟩ => ?_, fun h => ?_⟩
  · obtain ⟨x, hx, e2⟩ := Option.map_eq_some_iff.mp e
    cases e2; exact hx
  · have := b k (by rw [h]; simp)
    refine ⟨k.toNat, List.mem_range.mpr (by omega), ?_⟩
    rw [show ((k.toNat : Nat) : Int) = k by omega, h]; rfl
theorem kn_inc (f : FK) : (kn f).Pairwise (fun p q => p.1 < q.1) := by
  unfold kn
  refine List.Pairwise.filterMap _ (R := fun a b : Nat => a < b) ?_ List.pairwise_lt_range
  intro a b hab x hx y hy
  obtain ⟨_, _, e1⟩ := Option.map_eq_some_iff.mp (show _ = some x from hx)
  obtain ⟨_, _, e2⟩ := Option.map_eq_some_iff.mp (show _ = some y from hy)
  rw [← e1, ← e2]
  show (a : Int) < b
  omega
theorem kn_nodup (f : FK) : (kn f).Nodup := (kn_inc f).imp fun h e => by rw [e] at h; omega
theorem Is.perm {t : List (Int × Int)} {f : FK} (h : Is t f) (b : FB f) : t.Perm (kn f) := (List.perm_ext_iff_of_nodup h.1.nodup (kn_nodup f)).mpr fun ⟨k, v⟩ => by rw [kn_mem b, h.1.mem, h.2 k]
theorem kn_len (f : FK) : (kn f).length ≤ 10 := by
  unfold kn
  exact Nat.le_trans (List.length_filterMap_le _ _) (by simp)
theorem Is.len {t : List (Int × Int)} {f : FK} (h : Is t f) (b : FB f) : t.length ≤ 10 := by rw [(h.perm b).length_eq]; exact kn_len f
/-! ## new objects, one for each turn -/
/-! ## the prices -/
abbrev FT := Nat → FK
/-- the dicts, place by place -/
def PI (as : List Addr) (F : FT) (G : Hd) : Prop := ∀ (i : Nat) a, as[i]? = some a → ∃ t ep, G a = some (.dik (dA .int t) ep) ∧ Is t (F i)
theorem PI.xt {as : List Addr} {F : FT} {G G' : Hd} (h : PI as F G) (x : Ext G G') : PI as F G' := fun i a e => let ⟨t, ep, e1, k⟩ := h i a e; ⟨t, ep, x.at e1, k⟩
/-- a dict put anew: the others stay -/
theorem PI.put {as : List Addr} {F F' : FT} {G G' : Hd} {e : Nat} {a : Addr} {t : List (Int × Int)} {ep : Nat} (h : PI as F G) (nd : as.Nodup) (ea : as[e]? = some a) (x : Xt [a] G G') (k : G' a = some (.dik (dA .int t) ep)) (q : Is t (F' e)) (o : ∀ i, i ≠ e → F' i = F i) : PI as F' G' := by
  intro i b eb
  by_cases hi : i = e
  · subst hi
    rw [ea] at eb; cases eb
    exact ⟨t, ep, k, q⟩
  · obtain ⟨t', ep', e1, k'⟩ := h i b eb
    have nb : b ∉ [a] := fun m => by
      rw [List.mem_singleton.mp m] at eb
      exact hi ((List.getElem?_inj (List.getElem?_eq_some_iff.mp eb).1 nd).mp (eb.trans ea.symm))
    exact ⟨t', ep', x.get nb e1, by rw [o i hi]; exact k'⟩
end S
set_option Elab.async false
set_option linter.all false
set_option maxRecDepth 100000
set_option maxHeartbeats 4000000
namespace S
open PySem PySem.Spec L2
open PyProof.Rows hiding St
local macro_rules | `(tactic| walk_at "e") => `(tactic| try simp only [dSeq, dNext, dRet, dRetN, dIf, dAsg, dAug, dDrop, par_eq, prs_2, dBreak, dCont, dgName, dgSub, gTup_t, gCons_c, gNil_n, dFor_eq, dLc_eq, dVar, dC, dOp, dUn, dBi, dCall, dCons, dNil, dTup, dLst, dSl, part_eq, prt_i, dNoPart, dAndV, dOrV, dNotV, dB, dAnd, dOr, dNot, dIfE, dChain, itv_eq, itv_t, itv_r, dRng, dWalk, dBm, rng1_i, rng2_i, rng3_i, enumR_r, zipR_r,
  BI.r, addD_i, addD_s, addD_t, addD_r, subD_i, mulD_i, mulD_r, mulD_t, modD_i, divD_i, powD_i, ltD_i, leD_i, gtD_i, geD_i, incD_i, negD_i, lr1_i, lr2_i, revD_r, isND_n, isNon, ixD_t, ixD_r, ixD_d, setD_d, dDnew, itk_eq, itk_r, dDm, getD_r, ditD_r, dItI, iti_r, listK_r, sortedD_r, ixK_t, ixK_r, ixK_l, dKnew, dItJ, itj_r, dKm, getK_r, sdfK_r, dikD_r, sortedJ_r, sortedG_r, dBm0, clearD_r, revsD_r, dChain3, ixD_l, ixD_s, slD_t, slD_r, slD_s, setD_r, lenD_s, lenD_t, lenD_l, lenD_r, isiD_1, isiD_n, listD_t, listD_r, tupleD_t, tupleD_r, allD_r, anyD_r, sumD_r, maxD_r, maxD_t, minD_t, minLD_r, maxLD_r, sumLD_2, sumLD_1, minDf_r, maxD_2, minD_r, minD_2, absD_i, intB_i, intB_b, appD_r, startD, wipeD,
  List.map_cons, List.map_nil, rep_z, rep_s, List.length_cons, List.length_nil, List.cons_append, List.nil_append, List.append_nil, List.getElem?_cons_zero, List.getElem?_cons_succ, List.set_cons_zero, List.set_cons_succ, Option.some.injEq, exists_eq_left', exists_eq_left, D.bl.injEq, D.int.injEq, D.tup.injEq, D.ref.injEq, true_and, and_true, Nat.reduceAdd, Nat.reduceSub, Nat.add_sub_cancel_left, exists_const, br_t, br_f, eqR_int, eqR_bl, Bool.false_bne, Bool.true_bne, Bool.false_xor, Bool.true_xor, Bool.not_true, Bool.not_false, Bool.not_not, ite_true, ite_false, Bool.true_eq_false, false_implies, decide_true, decide_false, tc_int, tc_bool, tc_str, tc_tup, tc_lst, tc_non, tc_dic, ln0, ln1, ln2, ln3, ln4, ln5, ln6, ln7, ln8, ln9, ln10, ln11, ln12, ln13, ln14, ln15, ln16, ln17, ln18, ln19, ln20, ln21, ln22, ln23, ln24, ln25, ln26, ln27, ln28, ln29, ln30, ln31, ln32, ln33, ln34, ln35, ln36, ln37, ln38, ln39, ln40, ln41, ln42, ln43, ln44, ln45, ln46, ln47, ln48, ln49, ln50, ln51, ln52, ln53, ln54, ln55, ln56, ln57, ln58, ln59, ln60])
local macro_rules | `(tactic| walk_at "g") => `(tactic| try simp only [st_same, st_st, GO.lst.injEq, Option.some.injEq, exists_eq_left', exists_eq_left, atI_0, atI_1, atI_2, atI_3, ixN_0, ixN_1, ixN_2, ixN_3, List.set_cons_zero, List.set_cons_succ, List.length_cons, List.length_nil, List.length_append, List.cons_append, List.nil_append, true_and, and_true, seq_st])
/-! ## things' attributes and methods, by the walk -/
def fldR (c i : Nat) (d : D) (G : Hd) (Q : Qd) : Prop := match d with
  | .ref a => ∃ fs v, G a = some (.obj c fs) ∧ fs i = some v ∧ Q v G
  | _ => False
def setfR (c i : Nat) (y d : D) (G : Hd) (R : Hd → Prop) : Prop := match d with
  | .ref a => ∃ fs, G a = some (.obj c fs) ∧ R (st G a (.obj c (updF fs i y)))
  | _ => False
def methR (c : Nat) (sp : DSp) (t : TAd) (w : Wx) (σ : Sd) (Q : Qd) (d : D) (G : Hd) : Prop := match d with
  | .ref a => ∃ fs, G a = some (.obj c fs) ∧ t w σ G fun ds G2 => sp (.ref a :: ds) G2 Q fun i d G3 => w i d σ G3
  | _ => False
section
variable {c i : Nat} {ta to tv : TEd} {w : Wx} {σ : Sd} {G : Hd} {Q : Qd} {R : Hd → Prop} {E : En} {sp : DSp} {t : TAd} {a : Addr} {y : D} {xs ys : List D}
theorem fld_eq : dFld c i ta w σ G Q = ta w σ G fun d G1 => fldR c i d G1 Q := by
  unfold dFld
  congr 1
  funext d G1
  refine propext ⟨fun ⟨a, fs, v, e, h⟩ => by subst e; exact ⟨fs, v, h⟩, fun h => ?_⟩
  cases d with
  | ref a => obtain ⟨fs, v, h⟩ := h; exact ⟨a, fs, v, rfl, h⟩
  | _ => exact h.elim
theorem fld_r : fldR c i (.ref a) G Q = (∃ fs v, G a = some (.obj c fs) ∧ fs i = some v ∧ Q v G) := rfl
theorem setf_eq : dSetF c i to tv w E σ G = tv w σ G fun y G1 => to w σ G1 fun d G2 => setfR c i y d G2 (E.nx σ) := by
  unfold dSetF
  congr 1
  funext y G1
  congr 1
  funext d G2
  refine propext ⟨fun ⟨a, fs, e, h⟩ => by subst e; exact ⟨fs, h⟩, fun h => ?_⟩
  cases d with
  | ref a => obtain ⟨fs, h⟩ := h; exact ⟨a, fs, rfl, h⟩
  | _ => exact h.elim
theorem setf_r : setfR c i y (.ref a) G R = (∃ fs, G a = some (.obj c fs) ∧ R (st G a (.obj c (updF fs i y)))) := rfl
theorem meth_eq : dMeth c sp ta t w σ G Q = ta w σ G fun d G1 => methR c sp t w σ Q d G1 := by
  unfold dMeth
  congr 1
  funext d G1
  refine propext ⟨fun ⟨a, fs, e, h⟩ => by subst e; exact ⟨fs, h⟩, fun h => ?_⟩
  cases d with
  | ref a => obtain ⟨fs, h⟩ := h; exact ⟨a, fs, rfl, h⟩
  | _ => exact h.elim
theorem mth_r : methR c sp t w σ Q (.ref a) G = (∃ fs, G a = some (.obj c fs) ∧ t w σ G fun ds G2 => sp (.ref a :: ds) G2 Q fun i d G3 => w i d σ G3) := rfl
theorem extD_t : extendD (.ref a) [.tup ys] G Q = (∃ xs, G a = some (.lst xs) ∧ xs.length + ys.length ≤ sizeLine ∧ Q .non (st G a (.lst (xs ++ ys)))) := rfl
theorem extD_rr {b : Addr} : extendD (.ref a) [.ref b] G Q = (∃ xs, G a = some (.lst xs) ∧ ∃ ys, G b = some (.lst ys) ∧ xs.length + ys.length ≤ sizeLine ∧ Q .non (st G a (.lst (xs ++ ys)))) := rfl
end
/-! ## tuples of whole numbers -/
def ti (xs : List Int) : D := .tup (xs.map .int)
theorem eqBs_ii : ∀ xs ys : List Int, eqBs (xs.map D.int) (ys.map D.int) = decide (xs = ys)
  | [], [] => rfl
  | [], _ :: _ => rfl
  | _ :: _, [] => rfl
  | x :: xs, y :: ys => by
    simp only [List.map_cons, eqBs, eqB, eqBs_ii xs ys, List.cons.injEq, beq_dec, Bool.decide_and]
theorem eqB_ti {xs ys : List Int} : eqB (ti xs) (ti ys) = decide (xs = ys) := eqBs_ii xs ys
theorem sh_ti {xs : List Int} : sh (ti xs) := ⟨okDs_ints xs, by unfold ti; simp only [dep, deps_ints]; omega⟩
theorem dd_ti {G : Hd} {xs : List Int} : Dd G (ti xs) (ti xs) := .tup (Dds.map_int xs)
theorem eqR_ti {neg : Bool} {xs ys : List Int} {G : Hd} {Q : Qd} : eqR neg (ti xs) (ti ys) G Q = Q (.bl (neg ^^ decide (xs = ys))) G := by
  refine propext ⟨fun ⟨d, e, h1, h2, _, _, h⟩ => ?_, fun h => ⟨ti xs, ti ys, dd_ti, dd_ti, sh_ti, sh_ti, by rw [eqB_ti]; exact h⟩⟩
  have inv : ∀ {zs : List Int} {ds : List D}, Dds G (zs.map D.int) ds → ds = zs.map D.int := by
    intro zs
    induction zs with
    | nil => intro ds k; cases k; rfl
    | cons z zs ih =>
      intro ds k
      cases k with
      | cons k1 k2 => cases k1; rw [ih k2]; rfl
  have i1 : d = ti xs := by unfold ti at h1; cases h1 with | tup r => rw [inv r]; rfl
  have i2 : e = ti ys := by unfold ti at h2; cases h2 with | tup r => rw [inv r]; rfl
  subst i1; subst i2
  rw [eqB_ti] at h; exact h
theorem eqR_t0 {neg : Bool} {xs : List Int} {G : Hd} {Q : Qd} : eqR neg (ti xs) (.tup []) G Q = Q (.bl (neg ^^ decide (xs = []))) G := eqR_ti (ys := [])
theorem keyN_ti {xs : List Int} : keyN (ti xs) = some (.tup (xs.map .num)) := by unfold ti; simp only [keyN, keysN_ints]
theorem keyOk_ti {xs : List Int} : keyOk (ti xs) := by
  unfold keyOk kdep
  rw [keyN_ti]
  simp only [NestedKey.depth, depth_nums]
  decide
/-! ## plain tables -/
section
variable {α β : Type} [DecidableEq α]
def look (A : List (α × β)) (x : α) : Option β := (A.find? fun p => decide (p.1 = x)).map (·.2)
def ins (A : List (α × β)) (x : α) (y : β) : List (α × β) := if (look A x).isSome then A.map (fun p => if p.1 = x then (p.1, y) else p) else A ++ [(x, y)]
theorem look_nil {x : α} : look ([] : List (α × β)) x = none := rfl
theorem look_cons {p : α × β} {A : List (α × β)} {x : α} : look (p :: A) x = if p.1 = x then some p.2 else look A x := by
  unfold look
  by_cases h : p.1 = x
  · simp [List.find?_cons, h]
  · simp [List.find?_cons, h]
theorem look_isSome {A : List (α × β)} {x : α} : (look A x).isSome = true ↔ x ∈ A.map (·.1) := by
  induction A with
  | nil => simp [look_nil]
  | cons p A ih =>
    rw [look_cons, List.map_cons, List.mem_cons]
    split
    · rename_i e; simp [e]
    · rename_i e
      rw [ih]
      exact ⟨.inr, fun h => h.elim (fun z => absurd z.symm e) id⟩
theorem look_none' {A : List (α × β)} {x : α} : look A x = none ↔ x ∉ A.map (·.1) := by
  rw [← look_isSome]; cases look A x <;> simp
theorem ins_new {A : List (α × β)} {x : α} {y : β} (h : x ∉ A.map (·.1)) : ins A x y = A ++ [(x, y)] := by
  unfold ins; rw [look_none'.mpr h]; rfl
theorem ins_old {A : List (α × β)} {x : α} {y : β} (h : x ∈ A.map (·.1)) : ins A x y = A.map fun p => if p.1 = x then (p.1, y) else p := by
  unfold ins; rw [if_pos (look_isSome.mpr h)]
theorem upd_keys {A : List (α × β)} {x : α} {y : β} : (A.map fun p => if p.1 = x then (p.1, y) else p).map (·.1) = A.map (·.1) := by
  rw [List.map_map]
  refine List.map_congr_left fun p _ => ?_
  simp only [Function.comp]
  split <;> rfl
theorem ins_keys {A : List (α × β)} {x : α} {y : β} : (ins A x y).map (·.1) = if x ∈ A.map (·.1) then A.map (·.1) else A.map (·.1) ++ [x] := by
  by_cases h : x ∈ A.map (·.1)
  · rw [ins_old h, if_pos h, upd_keys]
  · rw [ins_new h, if_neg h, List.map_append]; rfl
theorem ins_nodup {A : List (α × β)} {x : α} {y : β} (nd : (A.map (·.1)).Nodup) : ((ins A x y).map (·.1)).Nodup := by
  rw [ins_keys]
  split
  · exact nd
  · rename_i q
    rw [List.nodup_append]
    exact ⟨nd, by simp, fun a ha b hb e => q (by simp at hb; subst hb; subst e; exact ha)⟩
theorem ins_len {A : List (α × β)} {x : α} {y : β} : (ins A x y).length ≤ A.length + 1 := by
  unfold ins; split
  · rw [List.length_map]; omega
  · rw [List.length_append]; simp
theorem ins_mem {A : List (α × β)} {x : α} {y : β} {p : α × β} (h : p ∈ ins A x y) : p ∈ A ∨ p = (x, y) := by
  unfold ins at h; split at h
  · obtain ⟨q, hq, rfl⟩ := List.mem_map.mp h
    split
    · rename_i e; exact .inr (by rw [e])
    · exact .inl hq
  · rcases List.mem_append.mp h with h | h
    · exact .inl h
    · exact .inr (List.mem_singleton.mp h)
end
/-! ## .. as a dict's entries -/
def emb {α β : Type} (e : α → D) (f : β → D) (A : List (α × β)) : List (D × D) := A.map fun p => (e p.1, f p.2)
theorem zipR_t {xs ys : List D} {G : Hd} {R : List D → (Hd → Prop) → Hd → Prop} : zipR [.tup xs, .tup ys] G R = R (zipL xs ys) (fun _ => True) G := rfl
/-! ## tables of keys -/
abbrev KV := List Int × List Int
abbrev KR := List Int × KV
def vK (v : KV) : D := .tup [ti v.1, ti v.2]
def uK (_ : Unit) : D := .bl true
structure KRok (r : KR) : Prop where
  k0 : 0 < r.1.length
  k4 : r.1.length ≤ 4
  s3 : r.2.1.length ≤ 3
  ll : r.2.2.length < r.1.length
  sr : ∀ y ∈ r.2.1, 0 ≤ y ∧ y < 40
  kr : ∀ y ∈ r.1, 0 ≤ y ∧ y < 26
  lr : ∀ y ∈ r.2.2, 0 ≤ y ∧ y < 26
structure Tab (T : List KR) : Prop where
  len : T.length ≤ 100
  ok : ∀ r ∈ T, KRok r
  nd : (T.map (·.1)).Nodup
/-- one step, by ever fewer keys -/
def stepL (T : List KR) (ks : List Int) : Nat → List Int × List Int × List Int
  | 0 => ([], ks.take 1, ks.drop 1)
  | n + 1 => match look T (ks.take (n + 1)) with
    | some v => (v.1, [], v.2 ++ ks.drop (n + 1))
    | none => stepL T ks n
def step (T : List KR) (ks : List Int) := stepL T ks (min 4 ks.length)
/-! the same step by the row with the most keys -/
def fits (ks : List Int) (r : KR) : Prop := ks.take r.1.length = r.1
instance {ks : List Int} {r : KR} : Decidable (fits ks r) := by unfold fits; infer_instance
/-! .. tuples of whole numbers, by the walk -/
section
variable {xs ys : List Int} {lo hi : Option Int} {G : Hd} {Q : Qd} {a : Addr} {p : Bool}
theorem slD_ti : slD (ti xs) lo hi G Q = Q (ti (cut xs lo hi)) G := by unfold ti; rw [slD_t, cut_map]
theorem lenD_ti : lenD [ti xs] G Q = Q (.int xs.length) G := by unfold ti; rw [lenD_t, List.length_map]
theorem addD_ti : addD (ti xs) (ti ys) G Q = (xs.length + ys.length ≤ sizeLine ∧ Q (ti (xs ++ ys)) G) := by unfold ti; rw [addD_t, List.length_map, List.length_map, List.map_append]
theorem ixD_ti : ixD (.ref a) (ti xs) G Q = (∃ kvs ep, G a = some (.dit kvs ep) ∧ ∃ d, valT kvs (ti xs) = some d ∧ Q d G) := by
  unfold ti; rw [ixD_d]
  refine propext ⟨fun ⟨k, e, h1, h2, h3⟩ => ⟨k, e, h1, h3⟩, fun ⟨k, e, h1, h3⟩ => ⟨k, e, h1, keyOk_ti, h3⟩⟩
theorem setD_ti {v : D} {R : Hd → Prop} : setD (.ref a) (ti xs) v G R = (∃ kvs ep, G a = some (.dit kvs ep) ∧ kvs.length < sizeLine ∧ ∀ ep', R (st G a (.dit (putT kvs (ti xs) v) ep'))) := by
  unfold ti; rw [setD_d]
  refine propext ⟨fun ⟨k, e, h1, h2, h3⟩ => ⟨k, e, h1, h3⟩, fun ⟨k, e, h1, h3⟩ => ⟨k, e, h1, keyOk_ti, h3⟩⟩
theorem extD_ti : extendD (.ref a) [ti ys] G Q = (∃ xs, G a = some (.lst xs) ∧ xs.length + ys.length ≤ sizeLine ∧ Q .non (st G a (.lst (xs ++ ys.map .int)))) := by unfold ti; rw [extD_t]; simp only [List.length_map]
theorem tupleD_ti : tupleD [ti xs] G Q = Q (ti xs) G := by unfold ti; rw [tupleD_t]
theorem listD_ti : listD [ti xs] G Q = (xs.length ≤ sizeLine ∧ ∀ p, G p = none → Q (.ref p) (st G p (.lst (xs.map .int)))) := by unfold ti; rw [listD_t, List.length_map]
theorem itv_ti {R : List D → (Hd → Prop) → Hd → Prop} : itv (ti xs) G R = R (xs.map .int) (fun _ => True) G := by unfold ti; rw [itv_t]
end
theorem Xt.own {bs cs : List Addr} {G G1 G2 : Hd} (x : Xt bs G G1) (y : Xt cs G1 G2) (h : ∀ c ∈ cs, c ∈ bs ∨ G c = Option.none) : Xt bs G G2 := fun a u n e => y a u (fun m => (h a m).elim n fun z => by rw [z] at e; cases e) (x a u n e)
theorem atI_map {α β : Type} {f : α → β} {xs : List α} {i : Int} : atI (xs.map f) i = (atI xs i).map f := by
  unfold atI; rw [List.length_map]
  cases ixN xs.length i <;> simp
theorem ixD_tii {xs : List Int} {i : Int} {G : Hd} {Q : Qd} : ixD (ti xs) (.int i) G Q = (∃ z, atI xs i = some z ∧ Q (.int z) G) := by
  unfold ti; rw [ixD_t, atI_map]
  cases atI xs i <;> simp
theorem addD_ti1 {xs : List Int} {i : Int} {G : Hd} {Q : Qd} : addD (ti xs) (.tup [.int i]) G Q = (xs.length + 1 ≤ sizeLine ∧ Q (ti (xs ++ [i])) G) := addD_ti (ys := [i])
/-! ## keys pressed one by one -/
def startB (T : List KR) (x : List Int) : Bool := x.isEmpty || T.any fun r => decide (x.length < r.1.length) && decide (r.1.take x.length = x)
def pressF (T : List KR) : Nat → List Int → List Int × List Int × List Int
  | 0, ks => ([], [], ks)
  | f + 1, ks => if startB T ks then ([], [], ks) else ((step T ks).1 ++ (pressF T f (step T ks).2.2).1, (step T ks).2.1 ++ (pressF T f (step T ks).2.2).2.1, (pressF T f (step T ks).2.2).2.2)
def press (T : List KR) (ks : List Int) := pressF T ks.length ks
end S
set_option Elab.async false
set_option linter.all false
set_option maxRecDepth 100000
set_option maxHeartbeats 4000000
namespace S
open PySem PySem.Spec L2
open PyProof.Rows hiding St
local macro_rules | `(tactic| walk_at "e") => `(tactic| try simp only [fld_eq, fld_r, setf_eq, setf_r, meth_eq, mth_r, dMake, dDict1, extD_t, extD_rr, eqR_ti, eqR_t0, slD_ti, lenD_ti, addD_ti1, addD_ti, ixD_ti, setD_ti, extD_ti, tupleD_ti, listD_ti, ixD_tii, itv_ti, dSeq, dNext, dRet, dRetN, dIf, dAsg, dAug, dDrop, par_eq, prs_2, par3_eq, prs3_3, dBreak, dCont, dgName, dgSub, gTup_t, gCons_c, gNil_n, dFor_eq, dLc_eq, dVar, dC, dOp, dUn, dBi, dCall, dCons, dNil, dTup, dLst, dSl, part_eq, prt_i, dNoPart, dAndV, dOrV, dNotV, dB, dAnd, dOr, dNot, dIfE, dChain, itv_eq, itv_t, itv_r, dRng, dWalk, dBm, rng1_i, rng2_i, rng3_i, enumR_r, enumR_t, gTup_r, tr_n, tr_t, dLitE, zipR_r, zipR_t,
  BI.r, addD_i, addD_s, addD_t, addD_r, subD_i, mulD_i, mulD_r, mulD_t, modD_i, divD_i, powD_i, ltD_i, leD_i, gtD_i, geD_i, incD_i, negD_i, lr1_i, lr2_i, revD_r, isND_n, isNon, ixD_t, ixD_r, ixD_d, setD_d, dDnew, itk_eq, itk_r, dDm, getD_r, ditD_r, dItI, iti_r, listK_r, sortedD_r, ixK_t, ixK_r, ixK_l, dKnew, dItJ, itj_r, dKm, getK_r, sdfK_r, dikD_r, sortedJ_r, sortedG_r, dBm0, clearD_r, revsD_r, dChain3, ixD_l, ixD_s, slD_t, slD_r, slD_s, setD_r, lenD_s, lenD_t, lenD_l, lenD_r, isiD_1, isiD_n, listD_t, listD_r, tupleD_t, tupleD_r, allD_r, anyD_r, sumD_r, maxD_r, maxD_t, minD_t, minLD_r, maxLD_r, sumLD_2, sumLD_1, minDf_r, maxD_2, minD_r, minD_2, absD_i, intB_i, intB_b, intB_s, itv_s, mulD_s, inD_s, tyD_s, joinD_r, splitD_s, partD_s, stripD_s, findD_s, countT_s, indexT_s, fmtD_s, fmtD_i, dFmt, jsD_s, js_nil, js_cons, strOf_i, strOf_s, appD_r, startD, wipeD,
  List.map_cons, List.map_nil, rep_z, rep_s, List.length_cons, List.length_nil, List.cons_append, List.nil_append, List.append_nil, List.getElem?_cons_zero, List.getElem?_cons_succ, List.set_cons_zero, List.set_cons_succ, Option.some.injEq, exists_eq_left', exists_eq_left, D.bl.injEq, D.int.injEq, D.tup.injEq, D.ref.injEq, true_and, and_true, Nat.reduceAdd, Nat.reduceSub, Nat.add_sub_cancel_left, exists_const, br_t, br_f, eqR_int, eqR_bl, Bool.false_bne, Bool.true_bne, Bool.false_xor, Bool.true_xor, Bool.not_true, Bool.not_false, Bool.not_not, ite_true, ite_false, Bool.true_eq_false, false_implies, decide_true, decide_false, tc_int, tc_bool, tc_str, tc_tup, tc_lst, tc_non, tc_dic, ln0, ln1, ln2, ln3, ln4, ln5, ln6, ln7, ln8, ln9, ln10, ln11, ln12, ln13, ln14, ln15, ln16, ln17, ln18, ln19, ln20, ln21, ln22, ln23, ln24, ln25, ln26, ln27, ln28, ln29, ln30, ln31, ln32, ln33, ln34, ln35, ln36, ln37, ln38, ln39, ln40, ln41, ln42, ln43, ln44, ln45, ln46, ln47, ln48, ln49, ln50, ln51, ln52, ln53, ln54, ln55, ln56, ln57, ln58, ln59, ln60])
local macro_rules | `(tactic| walk_at "g") => `(tactic| try simp only [st_same, st_st, GO.lst.injEq, Option.some.injEq, exists_eq_left', exists_eq_left, atI_0, atI_1, atI_2, atI_3, ixN_0, ixN_1, ixN_2, ixN_3, List.set_cons_zero, List.set_cons_succ, List.length_cons, List.length_nil, List.length_append, List.cons_append, List.nil_append, true_and, and_true, seq_st])
/-! ## a reader of keys -/
def Start (T : List KR) (x : List Int) : Prop := x = [] ∨ ∃ r ∈ T, ∃ n, 1 ≤ n ∧ n < r.1.length ∧ x = r.1.take n
def StOk (T : List KR) (P : List (List Int × Unit)) : Prop := ∀ x, x ∈ P.map (·.1) ↔ Start T x
structure RdrAt (G : Hd) (a b s k : Addr) (T : List KR) : Prop where
  fs : ∃ fs, G a = some (.obj 0 fs) ∧ fs 0 = some (.ref b) ∧ fs 1 = some (.ref s) ∧ fs 2 = some (.ref k)
  by_ : ∃ ep, G b = some (.dit (emb ti vK T) ep)
  st_ : ∃ P ep, G s = some (.dit (emb ti uK P) ep) ∧ StOk T P
theorem RdrAt.xt {G G' : Hd} {a b s k : Addr} {T : List KR} {bs : List Addr} (h : RdrAt G a b s k T) (x : Xt bs G G') (n : ∀ c ∈ [a, b, s], c ∉ bs) : RdrAt G' a b s k T := by
  obtain ⟨⟨fs, e, r⟩, ⟨ep, e2⟩, P, ep2, e3, r3⟩ := h
  exact ⟨⟨fs, x.get (n a (by simp)) e, r⟩, ⟨ep, x.get (n b (by simp)) e2⟩, P, ep2, x.get (n s (by simp)) e3, r3⟩
theorem RdrAt.ext {G G' : Hd} {a b s k : Addr} {T : List KR} (h : RdrAt G a b s k T) (x : Ext G G') : RdrAt G' a b s k T := h.xt x (by simp)
/-! .. until nothing is to be read -/
/-- whole numbers, in a tuple or in a list -/
def IntsOf (G : Hd) (x : D) (ks : List Int) : Prop := x = ti ks ∨ ∃ a, x = .ref a ∧ seqG G a (ks.map .int)
theorem IntsOf.tup {G : Hd} {x : D} {ks : List Int} {Q : Qd} (h : IntsOf G x ks) (q : Q (ti ks) G) : tupleD [x] G Q := by
  rcases h with rfl | ⟨a, rfl, e⟩
  · rw [tupleD_ti]; exact q
  · exact ⟨_, e, q⟩
theorem IntsOf.ext {G G' : Hd} {x : D} {ks : List Int} (h : IntsOf G x ks) (xt : Ext G G') : IntsOf G' x ks := h.imp id fun ⟨a, e, s⟩ => ⟨a, e, xt.seq (by simp) s⟩
end S
set_option Elab.async false
set_option linter.all false
set_option maxRecDepth 100000
set_option maxHeartbeats 4000000
namespace S
open PySem PySem.Spec L2
open PyProof.Rows hiding St
local macro_rules | `(tactic| walk_at "e") => `(tactic| try simp only [fld_eq, fld_r, setf_eq, setf_r, meth_eq, mth_r, dMake, dDict1, extD_t, extD_rr, eqR_ti, eqR_t0, slD_ti, lenD_ti, addD_ti1, addD_ti, ixD_ti, setD_ti, extD_ti, tupleD_ti, listD_ti, ixD_tii, itv_ti, dSeq, dNext, dRet, dRetN, dIf, dAsg, dAug, dDrop, par_eq, prs_2, par3_eq, prs3_3, dBreak, dCont, dgName, dgSub, gTup_t, gCons_c, gNil_n, dFor_eq, dLc_eq, dVar, dC, dOp, dUn, dBi, dCall, dCons, dNil, dTup, dLst, dSl, part_eq, prt_i, dNoPart, dAndV, dOrV, dNotV, dB, dAnd, dOr, dNot, dIfE, dChain, itv_eq, itv_t, itv_r, dRng, dWalk, dBm, rng1_i, rng2_i, rng3_i, enumR_r, enumR_t, gTup_r, tr_n, tr_t, dLitE, zipR_r, zipR_t,
  BI.r, addD_i, addD_s, addD_t, addD_r, subD_i, mulD_i, mulD_r, mulD_t, modD_i, divD_i, powD_i, ltD_i, leD_i, gtD_i, geD_i, incD_i, negD_i, lr1_i, lr2_i, revD_r, isND_n, isNon, ixD_t, ixD_r, ixD_d, setD_d, dDnew, itk_eq, itk_r, dDm, getD_r, ditD_r, dItI, iti_r, listK_r, sortedD_r, ixK_t, ixK_r, ixK_l, dKnew, dItJ, itj_r, dKm, getK_r, sdfK_r, dikD_r, sortedJ_r, sortedG_r, dBm0, clearD_r, revsD_r, dChain3, ixD_l, ixD_s, slD_t, slD_r, slD_s, setD_r, lenD_s, lenD_t, lenD_l, lenD_r, isiD_1, isiD_n, listD_t, listD_r, tupleD_t, tupleD_r, allD_r, anyD_r, sumD_r, maxD_r, maxD_t, minD_t, minLD_r, maxLD_r, sumLD_2, sumLD_1, minDf_r, maxD_2, minD_r, minD_2, absD_i, intB_i, intB_b, intB_s, itv_s, mulD_s, inD_s, tyD_s, joinD_r, splitD_s, partD_s, stripD_s, findD_s, countT_s, indexT_s, fmtD_s, fmtD_i, dFmt, jsD_s, js_nil, js_cons, strOf_i, strOf_s, appD_r, startD, wipeD,
  List.map_cons, List.map_nil, rep_z, rep_s, List.length_cons, List.length_nil, List.cons_append, List.nil_append, List.append_nil, List.getElem?_cons_zero, List.getElem?_cons_succ, List.set_cons_zero, List.set_cons_succ, Option.some.injEq, exists_eq_left', exists_eq_left, D.bl.injEq, D.int.injEq, D.tup.injEq, D.ref.injEq, true_and, and_true, Nat.reduceAdd, Nat.reduceSub, Nat.add_sub_cancel_left, exists_const, br_t, br_f, eqR_int, eqR_bl, Bool.false_bne, Bool.true_bne, Bool.false_xor, Bool.true_xor, Bool.not_true, Bool.not_false, Bool.not_not, ite_true, ite_false, Bool.true_eq_false, false_implies, decide_true, decide_false, tc_int, tc_bool, tc_str, tc_tup, tc_lst, tc_non, tc_dic, ln0, ln1, ln2, ln3, ln4, ln5, ln6, ln7, ln8, ln9, ln10, ln11, ln12, ln13, ln14, ln15, ln16, ln17, ln18, ln19, ln20, ln21, ln22, ln23, ln24, ln25, ln26, ln27, ln28, ln29, ln30, ln31, ln32, ln33, ln34, ln35, ln36, ln37, ln38, ln39, ln40, ln41, ln42, ln43, ln44, ln45, ln46, ln47, ln48, ln49, ln50, ln51, ln52, ln53, ln54, ln55, ln56, ln57, ln58, ln59, ln60])
local macro_rules | `(tactic| walk_at "g") => `(tactic| try simp only [st_same, st_st, GO.lst.injEq, Option.some.injEq, exists_eq_left', exists_eq_left, atI_0, atI_1, atI_2, atI_3, ixN_0, ixN_1, ixN_2, ixN_3, List.set_cons_zero, List.set_cons_succ, List.length_cons, List.length_nil, List.length_append, List.cons_append, List.nil_append, true_and, and_true, seq_st])
/-! ## the laws' tables of keys -/
theorem Tab.ins {T : List KR} {k s l : List Int} (h : Tab T) (o : KRok (k, s, l)) (n : T.length < 100) : Tab (S.ins T k (s, l)) := by
  refine ⟨?_, fun r hr => ?_, ins_nodup h.nd⟩
  · have := ins_len (A := T) (x := k) (y := (s, l)); omega
  · rcases ins_mem hr with hr | rfl
    · exact h.ok r hr
    · exact o
theorem Tab.sub {T T' : List KR} (h : Tab T) (s : T'.Sublist T) : Tab T' := ⟨Nat.le_trans s.length_le h.len, fun r hr => h.ok r (s.mem hr), (s.map _).nodup h.nd⟩
/-- the rows that stand in a law's dict -/
def Fnd (G : Hd) (f : Addr) (n : Nat) : Prop := ∃ T ep, G f = some (.dit (emb ti vK T) ep) ∧ Tab T ∧ T.length ≤ n
theorem Fnd.ne {G : Hd} {f b : Addr} {n : Nat} (h : Fnd G f n) (bag : Bag G b) : f ≠ b := fun e => by
  obtain ⟨T, ep, ef, _⟩ := h
  obtain ⟨c, m, eb, _⟩ := bag
  rw [e, eb] at ef; cases ef
theorem Fnd.xt {G G' : Hd} {f b : Addr} {n : Nat} (h : Fnd G f n) (x : Xt [b] G G') (ne : f ≠ b) : Fnd G' f n := by
  obtain ⟨T, ep, ef, r⟩ := h
  exact ⟨T, ep, x.get (by simpa using ne) ef, r⟩
/-! ## the laws' own reading -/
theorem eqR_twin {neg : Bool} {x y d : D} {G : Hd} {Q : Qd} {n m : Nat} (h1 : Dd G x d) (h2 : Dd G y d) (g : gd m n d) (hn : n ≤ 64) (h : Q (.bl (!neg)) G) : eqR neg x y G Q :=
  eqR_of h1 h2 g g hn (by rw [eqB_refl d g.ok.1]; cases neg <;> exact h)
theorem pu_ti {n : Nat} {xs : List Int} (h : xs.length ≤ 100) : Pu (n + 1) (ti xs) := pu_ints h
end S
set_option Elab.async false
set_option linter.all false
set_option maxRecDepth 100000
set_option maxHeartbeats 4000000
namespace S
open PySem PySem.Spec L2
open PyProof.Rows hiding St
local macro_rules | `(tactic| walk_at "e") => `(tactic| try simp only [fld_eq, fld_r, setf_eq, setf_r, meth_eq, mth_r, dMake, dDict1, extD_t, extD_rr, eqR_ti, eqR_t0, slD_ti, lenD_ti, addD_ti1, addD_ti, ixD_ti, setD_ti, extD_ti, tupleD_ti, listD_ti, ixD_tii, itv_ti, dSeq, dNext, dRet, dRetN, dIf, dAsg, dAug, dDrop, par_eq, prs_2, par3_eq, prs3_3, dBreak, dCont, dgName, dgSub, gTup_t, gCons_c, gNil_n, dFor_eq, dLc_eq, dVar, dC, dOp, dUn, dBi, dCall, dCons, dNil, dTup, dLst, dSl, part_eq, prt_i, dNoPart, dAndV, dOrV, dNotV, dB, dAnd, dOr, dNot, dIfE, dChain, itv_eq, itv_t, itv_r, dRng, dWalk, dBm, rng1_i, rng2_i, rng3_i, enumR_r, enumR_t, gTup_r, tr_n, tr_t, dLitE, zipR_r, zipR_t,
  BI.r, addD_i, addD_s, addD_t, addD_r, subD_i, mulD_i, mulD_r, mulD_t, modD_i, divD_i, powD_i, ltD_i, leD_i, gtD_i, geD_i, incD_i, negD_i, lr1_i, lr2_i, revD_r, isND_n, isNon, ixD_t, ixD_r, ixD_d, setD_d, dDnew, itk_eq, itk_r, dDm, getD_r, ditD_r, dItI, iti_r, listK_r, sortedD_r, ixK_t, ixK_r, ixK_l, dKnew, dItJ, itj_r, dKm, getK_r, sdfK_r, dikD_r, sortedJ_r, sortedG_r, dBm0, clearD_r, revsD_r, dChain3, ixD_l, ixD_s, slD_t, slD_r, slD_s, setD_r, lenD_s, lenD_t, lenD_l, lenD_r, isiD_1, isiD_n, listD_t, listD_r, tupleD_t, tupleD_r, allD_r, anyD_r, sumD_r, maxD_r, maxD_t, minD_t, minLD_r, maxLD_r, sumLD_2, sumLD_1, minDf_r, maxD_2, minD_r, minD_2, absD_i, intB_i, intB_b, intB_s, itv_s, mulD_s, inD_s, tyD_s, joinD_r, splitD_s, partD_s, stripD_s, findD_s, countT_s, indexT_s, fmtD_s, fmtD_i, dFmt, jsD_s, js_nil, js_cons, strOf_i, strOf_s, appD_r, startD, wipeD,
  List.map_cons, List.map_nil, rep_z, rep_s, List.length_cons, List.length_nil, List.cons_append, List.nil_append, List.append_nil, List.getElem?_cons_zero, List.getElem?_cons_succ, List.set_cons_zero, List.set_cons_succ, Option.some.injEq, exists_eq_left', exists_eq_left, D.bl.injEq, D.int.injEq, D.tup.injEq, D.ref.injEq, true_and, and_true, Nat.reduceAdd, Nat.reduceSub, Nat.add_sub_cancel_left, exists_const, br_t, br_f, eqR_int, eqR_bl, Bool.false_bne, Bool.true_bne, Bool.false_xor, Bool.true_xor, Bool.not_true, Bool.not_false, Bool.not_not, ite_true, ite_false, Bool.true_eq_false, false_implies, decide_true, decide_false, tc_int, tc_bool, tc_str, tc_tup, tc_lst, tc_non, tc_dic, ln0, ln1, ln2, ln3, ln4, ln5, ln6, ln7, ln8, ln9, ln10, ln11, ln12, ln13, ln14, ln15, ln16, ln17, ln18, ln19, ln20, ln21, ln22, ln23, ln24, ln25, ln26, ln27, ln28, ln29, ln30, ln31, ln32, ln33, ln34, ln35, ln36, ln37, ln38, ln39, ln40, ln41, ln42, ln43, ln44, ln45, ln46, ln47, ln48, ln49, ln50, ln51, ln52, ln53, ln54, ln55, ln56, ln57, ln58, ln59, ln60])
local macro_rules | `(tactic| walk_at "g") => `(tactic| try simp only [st_same, st_st, GO.lst.injEq, Option.some.injEq, exists_eq_left', exists_eq_left, atI_0, atI_1, atI_2, atI_3, ixN_0, ixN_1, ixN_2, ixN_3, List.set_cons_zero, List.set_cons_succ, List.length_cons, List.length_nil, List.length_append, List.cons_append, List.nil_append, true_and, and_true, seq_st])
/-! ## keys pressed, and waiting ones ended -/
theorem start_iff {T : List KR} {x : List Int} : Start T x ↔ startB T x = true := by
  unfold Start startB
  rw [Bool.or_eq_true, List.isEmpty_iff, List.any_eq_true]
  by_cases h : x = []
  · simp [h]
  · have x0 := List.length_pos_iff.mpr h
    refine ⟨fun k => k.imp id ?_, fun k => k.imp id ?_⟩
    · rintro ⟨r, hr, n, h1, h2, rfl⟩
      have el : (r.1.take n).length = n := by rw [List.length_take]; omega
      exact ⟨r, hr, by simp only [Bool.and_eq_true, decide_eq_true_eq, el]; exact ⟨h2, trivial⟩⟩
    · rintro ⟨r, hr, e⟩
      simp only [Bool.and_eq_true, decide_eq_true_eq] at e
      exact ⟨r, hr, x.length, by omega, e.1, e.2.symm⟩
end S
set_option Elab.async false
set_option linter.all false
set_option maxRecDepth 100000
set_option maxHeartbeats 4000000
namespace S
open PySem PySem.Spec L2
open PyProof.Rows hiding St
local macro_rules | `(tactic| walk_at "e") => `(tactic| try simp only [fld_eq, fld_r, setf_eq, setf_r, meth_eq, mth_r, dMake, dDict1, extD_t, extD_rr, eqR_ti, eqR_t0, slD_ti, lenD_ti, addD_ti1, addD_ti, ixD_ti, setD_ti, extD_ti, tupleD_ti, listD_ti, ixD_tii, itv_ti, dSeq, dNext, dRet, dRetN, dIf, dAsg, dAug, dDrop, par_eq, prs_2, par3_eq, prs3_3, dBreak, dCont, dgName, dgSub, gTup_t, gCons_c, gNil_n, dFor_eq, dLc_eq, dVar, dC, dOp, dUn, dBi, dCall, dCons, dNil, dTup, dLst, dSl, part_eq, prt_i, dNoPart, dAndV, dOrV, dNotV, dB, dAnd, dOr, dNot, dIfE, dChain, itv_eq, itv_t, itv_r, dRng, dWalk, dBm, rng1_i, rng2_i, rng3_i, enumR_r, enumR_t, gTup_r, tr_n, tr_t, dLitE, zipR_r, zipR_t,
  BI.r, addD_i, addD_s, addD_t, addD_r, subD_i, mulD_i, mulD_r, mulD_t, modD_i, divD_i, powD_i, ltD_i, leD_i, gtD_i, geD_i, incD_i, negD_i, lr1_i, lr2_i, revD_r, isND_n, isNon, ixD_t, ixD_r, ixD_d, setD_d, dDnew, itk_eq, itk_r, dDm, getD_r, ditD_r, dItI, iti_r, listK_r, sortedD_r, ixK_t, ixK_r, ixK_l, dKnew, dItJ, itj_r, dKm, getK_r, sdfK_r, dikD_r, sortedJ_r, sortedG_r, dBm0, clearD_r, revsD_r, dChain3, ixD_l, ixD_s, slD_t, slD_r, slD_s, setD_r, lenD_s, lenD_t, lenD_l, lenD_r, isiD_1, isiD_n, listD_t, listD_r, tupleD_t, tupleD_r, allD_r, anyD_r, sumD_r, maxD_r, maxD_t, minD_t, minLD_r, maxLD_r, sumLD_2, sumLD_1, minDf_r, maxD_2, minD_r, minD_2, absD_i, intB_i, intB_b, intB_s, itv_s, mulD_s, inD_s, tyD_s, joinD_r, splitD_s, partD_s, stripD_s, findD_s, countT_s, indexT_s, fmtD_s, fmtD_i, dFmt, jsD_s, js_nil, js_cons, strOf_i, strOf_s, appD_r, startD, wipeD,
  List.map_cons, List.map_nil, rep_z, rep_s, List.length_cons, List.length_nil, List.cons_append, List.nil_append, List.append_nil, List.getElem?_cons_zero, List.getElem?_cons_succ, List.set_cons_zero, List.set_cons_succ, Option.some.injEq, exists_eq_left', exists_eq_left, D.bl.injEq, D.int.injEq, D.tup.injEq, D.ref.injEq, true_and, and_true, Nat.reduceAdd, Nat.reduceSub, Nat.add_sub_cancel_left, exists_const, br_t, br_f, eqR_int, eqR_bl, Bool.false_bne, Bool.true_bne, Bool.false_xor, Bool.true_xor, Bool.not_true, Bool.not_false, Bool.not_not, ite_true, ite_false, Bool.true_eq_false, false_implies, decide_true, decide_false, tc_int, tc_bool, tc_str, tc_tup, tc_lst, tc_non, tc_dic, ln0, ln1, ln2, ln3, ln4, ln5, ln6, ln7, ln8, ln9, ln10, ln11, ln12, ln13, ln14, ln15, ln16, ln17, ln18, ln19, ln20, ln21, ln22, ln23, ln24, ln25, ln26, ln27, ln28, ln29, ln30, ln31, ln32, ln33, ln34, ln35, ln36, ln37, ln38, ln39, ln40, ln41, ln42, ln43, ln44, ln45, ln46, ln47, ln48, ln49, ln50, ln51, ln52, ln53, ln54, ln55, ln56, ln57, ln58, ln59, ln60])
local macro_rules | `(tactic| walk_at "g") => `(tactic| try simp only [st_same, st_st, GO.lst.injEq, Option.some.injEq, exists_eq_left', exists_eq_left, atI_0, atI_1, atI_2, atI_3, ixN_0, ixN_1, ixN_2, ixN_3, List.set_cons_zero, List.set_cons_succ, List.length_cons, List.length_nil, List.length_append, List.cons_append, List.nil_append, true_and, and_true, seq_st])
/-! ## the laws' own pressing -/
end S
set_option Elab.async false
set_option linter.all false
set_option maxRecDepth 100000
set_option maxHeartbeats 4000000
namespace S
open PySem PySem.Spec L2
open PyProof.Rows hiding St
local macro_rules | `(tactic| walk_at "e") => `(tactic| try simp only [fld_eq, fld_r, setf_eq, setf_r, meth_eq, mth_r, dMake, dDict1, extD_t, extD_rr, eqR_ti, eqR_t0, slD_ti, lenD_ti, addD_ti1, addD_ti, ixD_ti, setD_ti, extD_ti, tupleD_ti, listD_ti, ixD_tii, itv_ti, dSeq, dNext, dRet, dRetN, dIf, dAsg, dAug, dDrop, par_eq, prs_2, par3_eq, prs3_3, dBreak, dCont, dgName, dgSub, gTup_t, gCons_c, gNil_n, dFor_eq, dLc_eq, dVar, dC, dOp, dUn, dBi, dCall, dCons, dNil, dTup, dLst, dSl, part_eq, prt_i, dNoPart, dAndV, dOrV, dNotV, dB, dAnd, dOr, dNot, dIfE, dChain, itv_eq, itv_t, itv_r, dRng, dWalk, dBm, rng1_i, rng2_i, rng3_i, enumR_r, enumR_t, gTup_r, tr_n, tr_t, dLitE, zipR_r, zipR_t,
  BI.r, addD_i, addD_s, addD_t, addD_r, subD_i, mulD_i, mulD_r, mulD_t, modD_i, divD_i, powD_i, ltD_i, leD_i, gtD_i, geD_i, incD_i, negD_i, lr1_i, lr2_i, revD_r, isND_n, isNon, ixD_t, ixD_r, ixD_d, setD_d, dDnew, itk_eq, itk_r, dDm, getD_r, ditD_r, dItI, iti_r, listK_r, sortedD_r, ixK_t, ixK_r, ixK_l, dKnew, dItJ, itj_r, dKm, getK_r, sdfK_r, dikD_r, sortedJ_r, sortedG_r, dBm0, clearD_r, revsD_r, dChain3, ixD_l, ixD_s, slD_t, slD_r, slD_s, setD_r, lenD_s, lenD_t, lenD_l, lenD_r, isiD_1, isiD_n, listD_t, listD_r, tupleD_t, tupleD_r, allD_r, anyD_r, sumD_r, maxD_r, maxD_t, minD_t, minLD_r, maxLD_r, sumLD_2, sumLD_1, minDf_r, maxD_2, minD_r, minD_2, absD_i, intB_i, intB_b, intB_s, itv_s, mulD_s, inD_s, tyD_s, joinD_r, splitD_s, partD_s, stripD_s, findD_s, countT_s, indexT_s, fmtD_s, fmtD_i, dFmt, jsD_s, js_nil, js_cons, strOf_i, strOf_s, appD_r, startD, wipeD,
  List.map_cons, List.map_nil, rep_z, rep_s, List.length_cons, List.length_nil, List.cons_append, List.nil_append, List.append_nil, List.getElem?_cons_zero, List.getElem?_cons_succ, List.set_cons_zero, List.set_cons_succ, Option.some.injEq, exists_eq_left', exists_eq_left, D.bl.injEq, D.int.injEq, D.tup.injEq, D.ref.injEq, true_and, and_true, Nat.reduceAdd, Nat.reduceSub, Nat.add_sub_cancel_left, exists_const, br_t, br_f, eqR_int, eqR_bl, Bool.false_bne, Bool.true_bne, Bool.false_xor, Bool.true_xor, Bool.not_true, Bool.not_false, Bool.not_not, ite_true, ite_false, Bool.true_eq_false, false_implies, decide_true, decide_false, tc_int, tc_bool, tc_str, tc_tup, tc_lst, tc_non, tc_dic, ln0, ln1, ln2, ln3, ln4, ln5, ln6, ln7, ln8, ln9, ln10, ln11, ln12, ln13, ln14, ln15, ln16, ln17, ln18, ln19, ln20, ln21, ln22, ln23, ln24, ln25, ln26, ln27, ln28, ln29, ln30, ln31, ln32, ln33, ln34, ln35, ln36, ln37, ln38, ln39, ln40, ln41, ln42, ln43, ln44, ln45, ln46, ln47, ln48, ln49, ln50, ln51, ln52, ln53, ln54, ln55, ln56, ln57, ln58, ln59, ln60])
local macro_rules | `(tactic| walk_at "g") => `(tactic| try simp only [st_same, st_st, GO.lst.injEq, Option.some.injEq, exists_eq_left', exists_eq_left, atI_0, atI_1, atI_2, atI_3, ixN_0, ixN_1, ixN_2, ixN_3, List.set_cons_zero, List.set_cons_succ, List.length_cons, List.length_nil, List.length_append, List.cons_append, List.nil_append, true_and, and_true, seq_st])
/-! ## standings on the way to some sounds -/
abbrev Stn := Nat × List Int
/-! the keys of all rows, rising -/
def addK (A : List Int) (k : Int) : List Int := if k ∈ A then A else A ++ [k]
def rawK (T : List KR) : List Int := (T.flatMap (·.1)).foldl addK []
def intO : D → Int
  | .int i => i
  | _ => 0
def AK (T : List KR) : List Int := (srt ((rawK T).map .int)).map intO
theorem srt_perm (xs : List D) : (srt xs).Perm xs := List.mergeSort_perm _ _
theorem AK_perm (T : List KR) : (AK T).Perm (rawK T) := by
  have h := (srt_perm ((rawK T).map .int)).map intO
  rw [List.map_map] at h
  have e : (rawK T).map (intO ∘ D.int) = rawK T := by
    have : (intO ∘ D.int) = id := rfl
    rw [this, List.map_id]
  rw [e] at h
  exact h
theorem addK_len {A : List Int} {k : Int} : (addK A k).length ≤ A.length + 1 := by
  unfold addK; split <;> simp
theorem fold_len : ∀ (ks A : List Int), (ks.foldl addK A).length ≤ A.length + ks.length
  | [], A => by simp
  | k :: ks, A => by
    have h1 := fold_len ks (addK A k)
    have h2 := addK_len (A := A) (k := k)
    rw [List.foldl_cons, List.length_cons]; omega
theorem flat_len {T : List KR} (h : ∀ r ∈ T, r.1.length ≤ 4) : (T.flatMap (·.1)).length ≤ 4 * T.length := by
  induction T with
  | nil => simp
  | cons r T ih =>
    have h1 := h r List.mem_cons_self
    have h2 := ih fun q hq => h q (List.mem_cons_of_mem _ hq)
    rw [List.flatMap_cons, List.length_append, List.length_cons]; omega
theorem rawK_len {T : List KR} (h : Tab T) : (rawK T).length ≤ 4 * T.length := by
  have h1 := fold_len (T.flatMap (·.1)) []
  have h2 := flat_len fun r hr => (h.ok r hr).k4
  unfold rawK
  rw [List.length_nil] at h1; omega
theorem AK_len {T : List KR} (h : Tab T) : (AK T).length ≤ 400 := by
  rw [(AK_perm T).length_eq]
  have := rawK_len h
  have := h.len
  omega
/-! where one stands behind a key -/
abbrev Inf := Nat × Option (Stn × Int)
abbrev Wys := List (Stn × Inf)
/-! what is so of standings -/
def startsL (T : List KR) : List (List Int) := [] :: T.flatMap fun r => (List.range r.1.length).map fun n => r.1.take n
theorem mem_startsL {T : List KR} {w : List Int} (h : startB T w = true) : w ∈ startsL T := by
  rcases start_iff.mpr h with rfl | ⟨r, hr, n, h1, h2, rfl⟩
  · exact List.mem_cons_self
  · exact List.mem_cons_of_mem _ (List.mem_flatMap.mpr ⟨r, hr, List.mem_map.mpr ⟨n, List.mem_range.mpr h2, rfl⟩⟩)
theorem flatMap_len {α β : Type} {f : α → List β} {n : Nat} : ∀ {xs : List α}, (∀ x ∈ xs, (f x).length ≤ n) → (xs.flatMap f).length ≤ n * xs.length
  | [], _ => by simp
  | x :: xs, h => by
    have h1 := h x List.mem_cons_self
    have h2 := flatMap_len (xs := xs) fun q hq => h q (List.mem_cons_of_mem _ hq)
    rw [List.flatMap_cons, List.length_append, List.length_cons, Nat.mul_succ]; omega
theorem startsL_len {T : List KR} (h : Tab T) : (startsL T).length ≤ 401 := by
  have h1 := flatMap_len (n := 4) (xs := T) (f := fun r => (List.range r.1.length).map fun n => r.1.take n) fun r hr => by rw [List.length_map, List.length_range]; exact (h.ok r hr).k4
  have h2 := h.len
  unfold startsL
  rw [List.length_cons]; omega
structure Sgd (T : List KR) (S : List Int) (s : Stn) : Prop where
  p : s.1 ≤ S.length
  w : startB T s.2 = true
def univ (T : List KR) (S : List Int) : List Stn := (List.range (S.length + 1)).flatMap fun p => (startsL T).map fun w => (p, w)
theorem Sgd.mem {T : List KR} {S : List Int} {s : Stn} (h : Sgd T S s) : s ∈ univ T S := List.mem_flatMap.mpr ⟨s.1, List.mem_range.mpr (by have := h.p; omega), List.mem_map.mpr ⟨s.2, mem_startsL h.w, rfl⟩⟩
/-- the standings so far -/
structure WOk (T : List KR) (S : List Int) (A : Wys) : Prop where
  nd : (A.map (·.1)).Nodup
  gs : ∀ s ∈ A.map (·.1), Sgd T S s
theorem WOk.len {T : List KR} {S : List Int} {A : Wys} (h : WOk T S A) : A.length ≤ (univ T S).length := by
  have := nodup_sub_len h.nd fun s hs => (h.gs s hs).mem
  rwa [List.length_map] at this
/-- a visit's step keeps it all -/
structure Vis (T : List KR) (S : List Int) (A A' : Wys) (M M' : List Stn) : Prop where
  ok : WOk T S A'
  pre : ∃ B, A' = A ++ B ∧ M' = M ++ B.map (·.1)
theorem Vis.refl {T : List KR} {S : List Int} {A : Wys} {M : List Stn} (h : WOk T S A) : Vis T S A A M M := ⟨h, [], by simp, by simp⟩
theorem Vis.trans {T : List KR} {S : List Int} {A A1 A2 : Wys} {M M1 M2 : List Stn} (h : Vis T S A A1 M M1) (k : Vis T S A1 A2 M1 M2) : Vis T S A A2 M M2 := by
  obtain ⟨_, B, rfl, rfl⟩ := h
  obtain ⟨o, C, rfl, rfl⟩ := k
  exact ⟨o, B ++ C, by simp, by simp⟩
end S
set_option Elab.async false
set_option linter.all false
set_option maxRecDepth 100000
set_option maxHeartbeats 4000000
namespace S
open PySem PySem.Spec L2
open PyProof.Rows hiding St
local macro_rules | `(tactic| walk_at "e") => `(tactic| try simp only [fld_eq, fld_r, setf_eq, setf_r, meth_eq, mth_r, dMake, dDict1, extD_t, extD_rr, eqR_ti, eqR_t0, slD_ti, lenD_ti, addD_ti1, addD_ti, ixD_ti, setD_ti, extD_ti, tupleD_ti, listD_ti, ixD_tii, itv_ti, dSeq, dNext, dRet, dRetN, dIf, dAsg, dAug, dDrop, par_eq, prs_2, par3_eq, prs3_3, dBreak, dCont, dgName, dgSub, gTup_t, gCons_c, gNil_n, dFor_eq, dLc_eq, dVar, dC, dOp, dUn, dBi, dCall, dCons, dNil, dTup, dLst, dSl, part_eq, prt_i, dNoPart, dAndV, dOrV, dNotV, dB, dAnd, dOr, dNot, dIfE, dChain, itv_eq, itv_t, itv_r, dRng, dWalk, dBm, rng1_i, rng2_i, rng3_i, enumR_r, enumR_t, gTup_r, tr_n, tr_t, dLitE, zipR_r, zipR_t,
  BI.r, addD_i, addD_s, addD_t, addD_r, subD_i, mulD_i, mulD_r, mulD_t, modD_i, divD_i, powD_i, ltD_i, leD_i, gtD_i, geD_i, incD_i, negD_i, lr1_i, lr2_i, revD_r, isND_n, isNon, ixD_t, ixD_r, ixD_d, setD_d, dDnew, itk_eq, itk_r, dDm, getD_r, ditD_r, dItI, iti_r, listK_r, sortedD_r, ixK_t, ixK_r, ixK_l, dKnew, dItJ, itj_r, dKm, getK_r, sdfK_r, dikD_r, sortedJ_r, sortedG_r, dBm0, clearD_r, revsD_r, dChain3, ixD_l, ixD_s, slD_t, slD_r, slD_s, setD_r, lenD_s, lenD_t, lenD_l, lenD_r, isiD_1, isiD_n, listD_t, listD_r, tupleD_t, tupleD_r, allD_r, anyD_r, sumD_r, maxD_r, maxD_t, minD_t, minLD_r, maxLD_r, sumLD_2, sumLD_1, minDf_r, maxD_2, minD_r, minD_2, absD_i, intB_i, intB_b, intB_s, itv_s, mulD_s, inD_s, tyD_s, joinD_r, splitD_s, partD_s, stripD_s, findD_s, countT_s, indexT_s, fmtD_s, fmtD_i, dFmt, jsD_s, js_nil, js_cons, strOf_i, strOf_s, appD_r, startD, wipeD,
  List.map_cons, List.map_nil, rep_z, rep_s, List.length_cons, List.length_nil, List.cons_append, List.nil_append, List.append_nil, List.getElem?_cons_zero, List.getElem?_cons_succ, List.set_cons_zero, List.set_cons_succ, Option.some.injEq, exists_eq_left', exists_eq_left, D.bl.injEq, D.int.injEq, D.tup.injEq, D.ref.injEq, true_and, and_true, Nat.reduceAdd, Nat.reduceSub, Nat.add_sub_cancel_left, exists_const, br_t, br_f, eqR_int, eqR_bl, Bool.false_bne, Bool.true_bne, Bool.false_xor, Bool.true_xor, Bool.not_true, Bool.not_false, Bool.not_not, ite_true, ite_false, Bool.true_eq_false, false_implies, decide_true, decide_false, tc_int, tc_bool, tc_str, tc_tup, tc_lst, tc_non, tc_dic, ln0, ln1, ln2, ln3, ln4, ln5, ln6, ln7, ln8, ln9, ln10, ln11, ln12, ln13, ln14, ln15, ln16, ln17, ln18, ln19, ln20, ln21, ln22, ln23, ln24, ln25, ln26, ln27, ln28, ln29, ln30, ln31, ln32, ln33, ln34, ln35, ln36, ln37, ln38, ln39, ln40, ln41, ln42, ln43, ln44, ln45, ln46, ln47, ln48, ln49, ln50, ln51, ln52, ln53, ln54, ln55, ln56, ln57, ln58, ln59, ln60])
local macro_rules | `(tactic| walk_at "g") => `(tactic| try simp only [st_same, st_st, GO.lst.injEq, Option.some.injEq, exists_eq_left', exists_eq_left, atI_0, atI_1, atI_2, atI_3, ixN_0, ixN_1, ixN_2, ixN_3, List.set_cons_zero, List.set_cons_succ, List.length_cons, List.length_nil, List.length_append, List.cons_append, List.nil_append, true_and, and_true, seq_st])
/-! ## a reader's standings, walked -/
theorem cut_mid {α : Type} {xs : List α} {i j : Int} (h0 : 0 ≤ i) (h : i ≤ j) : cut xs (some i) (some j) = (xs.drop i.toNat).take (j - i).toNat := by
  unfold cut
  have e1 : HT.sIx xs.length 0 (some i) = min i.toNat xs.length := by
    show (if i < 0 then _ else _) = _
    rw [if_neg (by omega)]
  have e2 : HT.sIx xs.length xs.length (some j) = min j.toNat xs.length := by
    show (if j < 0 then _ else _) = _
    rw [if_neg (by omega)]
  rw [e1, e2]
  by_cases h2 : i.toNat ≤ xs.length
  · rw [Nat.min_eq_left h2]
    by_cases h3 : j.toNat ≤ xs.length
    · rw [Nat.min_eq_left h3]
      congr 1; omega
    · rw [Nat.min_eq_right (by omega)]
      rw [List.take_of_length_le (by rw [List.length_drop]; omega), List.take_of_length_le (by rw [List.length_drop]; omega)]
  · rw [Nat.min_eq_right (show xs.length ≤ i.toNat by omega), List.drop_of_length_le (Nat.le_refl xs.length), List.drop_of_length_le (show xs.length ≤ i.toNat by omega)]; simp
/-! all keys -/
/-! the next standing -/
abbrev Knw := List ((List Int × Int) × (Addr × Addr × List Int))
structure KnwOk (G : Hd) (T : List KR) (C : Knw) : Prop where
  nd : (C.map (·.1)).Nodup
  ok : ∀ p ∈ C, startB T p.1.1 = true ∧ p.1.2 ∈ AK T
  u : ∀ p ∈ C, G p.2.1 = some (.lst ((press T (p.1.1 ++ [p.1.2])).1.map .int))
  v : ∀ p ∈ C, G p.2.2.1 = some (.lst ((press T (p.1.1 ++ [p.1.2])).2.1.map .int))
  w : ∀ p ∈ C, p.2.2.2 = (press T (p.1.1 ++ [p.1.2])).2.2
theorem KnwOk.nil {G : Hd} {T : List KR} : KnwOk G T [] := ⟨by simp, by simp, by simp, by simp, by simp⟩
theorem KnwOk.xt {G G' : Hd} {T : List KR} {C : Knw} {bs : List Addr} (h : KnwOk G T C) (x : Xt bs G G') (n : ∀ b ∈ bs, ∀ xs, G b ≠ some (.lst xs)) : KnwOk G' T C :=
  ⟨h.nd, h.ok, fun p hp => x.get (fun m => n _ m _ (h.u p hp)) (h.u p hp), fun p hp => x.get (fun m => n _ m _ (h.v p hp)) (h.v p hp), h.w⟩
theorem KnwOk.len {G : Hd} {T : List KR} {C : Knw} (h : KnwOk G T C) (tab : Tab T) : C.length ≤ 160400 := by
  have h1 := nodup_sub_len (m := (startsL T).flatMap fun w => (AK T).map fun k => (w, k)) h.nd fun p hp => by
    obtain ⟨y, hy, rfl⟩ := List.mem_map.mp hp
    obtain ⟨o1, o2⟩ := h.ok y hy
    exact List.mem_flatMap.mpr ⟨y.1.1, mem_startsL o1, List.mem_map.mpr ⟨y.1.2, o2, rfl⟩⟩
  have h2 := flatMap_len (n := 400) (xs := startsL T) (f := fun w => (AK T).map fun k => (w, k)) fun w _ => by rw [List.length_map]; exact AK_len tab
  have h3 := startsL_len tab
  rw [List.length_map] at h1
  have h4 : 400 * (startsL T).length ≤ 400 * 401 := Nat.mul_le_mul_left _ h3
  omega
/-! all standings -/
theorem Xt.wk {bs cs : List Addr} {G G' : Hd} (x : Xt bs G G') (h : ∀ b ∈ bs, b ∈ cs) : Xt cs G G' := fun a u n e => x a u (fun m => n (h a m)) e
end S
set_option Elab.async false
set_option linter.all false
set_option maxRecDepth 100000
set_option maxHeartbeats 4000000
namespace S
open PySem PySem.Spec L2
open PyProof.Rows hiding St
local macro_rules | `(tactic| walk_at "e") => `(tactic| try simp only [fld_eq, fld_r, setf_eq, setf_r, meth_eq, mth_r, dMake, dDict1, extD_t, extD_rr, eqR_ti, eqR_t0, slD_ti, lenD_ti, addD_ti1, addD_ti, ixD_ti, setD_ti, extD_ti, tupleD_ti, listD_ti, ixD_tii, itv_ti, dSeq, dNext, dRet, dRetN, dIf, dAsg, dAug, dDrop, par_eq, prs_2, par3_eq, prs3_3, dBreak, dCont, dgName, dgSub, gTup_t, gCons_c, gNil_n, dFor_eq, dLc_eq, dVar, dC, dOp, dUn, dBi, dCall, dCons, dNil, dTup, dLst, dSl, part_eq, prt_i, dNoPart, dAndV, dOrV, dNotV, dB, dAnd, dOr, dNot, dIfE, dChain, itv_eq, itv_t, itv_r, dRng, dWalk, dBm, rng1_i, rng2_i, rng3_i, enumR_r, enumR_t, gTup_r, tr_n, tr_t, dLitE, zipR_r, zipR_t,
  BI.r, addD_i, addD_s, addD_t, addD_r, subD_i, mulD_i, mulD_r, mulD_t, modD_i, divD_i, powD_i, ltD_i, leD_i, gtD_i, geD_i, incD_i, negD_i, lr1_i, lr2_i, revD_r, isND_n, isNon, ixD_t, ixD_r, ixD_d, setD_d, dDnew, itk_eq, itk_r, dDm, getD_r, ditD_r, dItI, iti_r, listK_r, sortedD_r, ixK_t, ixK_r, ixK_l, dKnew, dItJ, itj_r, dKm, getK_r, sdfK_r, dikD_r, sortedJ_r, sortedG_r, dBm0, clearD_r, revsD_r, dChain3, ixD_l, ixD_s, slD_t, slD_r, slD_s, setD_r, lenD_s, lenD_t, lenD_l, lenD_r, isiD_1, isiD_n, listD_t, listD_r, tupleD_t, tupleD_r, allD_r, anyD_r, sumD_r, maxD_r, maxD_t, minD_t, minLD_r, maxLD_r, sumLD_2, sumLD_1, minDf_r, maxD_2, minD_r, minD_2, absD_i, intB_i, intB_b, intB_s, itv_s, mulD_s, inD_s, tyD_s, joinD_r, splitD_s, partD_s, stripD_s, findD_s, countT_s, indexT_s, fmtD_s, fmtD_i, dFmt, jsD_s, js_nil, js_cons, strOf_i, strOf_s, appD_r, startD, wipeD,
  List.map_cons, List.map_nil, rep_z, rep_s, List.length_cons, List.length_nil, List.cons_append, List.nil_append, List.append_nil, List.getElem?_cons_zero, List.getElem?_cons_succ, List.set_cons_zero, List.set_cons_succ, Option.some.injEq, exists_eq_left', exists_eq_left, D.bl.injEq, D.int.injEq, D.tup.injEq, D.ref.injEq, true_and, and_true, Nat.reduceAdd, Nat.reduceSub, Nat.add_sub_cancel_left, exists_const, br_t, br_f, eqR_int, eqR_bl, Bool.false_bne, Bool.true_bne, Bool.false_xor, Bool.true_xor, Bool.not_true, Bool.not_false, Bool.not_not, ite_true, ite_false, Bool.true_eq_false, false_implies, decide_true, decide_false, tc_int, tc_bool, tc_str, tc_tup, tc_lst, tc_non, tc_dic, ln0, ln1, ln2, ln3, ln4, ln5, ln6, ln7, ln8, ln9, ln10, ln11, ln12, ln13, ln14, ln15, ln16, ln17, ln18, ln19, ln20, ln21, ln22, ln23, ln24, ln25, ln26, ln27, ln28, ln29, ln30, ln31, ln32, ln33, ln34, ln35, ln36, ln37, ln38, ln39, ln40, ln41, ln42, ln43, ln44, ln45, ln46, ln47, ln48, ln49, ln50, ln51, ln52, ln53, ln54, ln55, ln56, ln57, ln58, ln59, ln60])
local macro_rules | `(tactic| walk_at "g") => `(tactic| try simp only [st_same, st_st, GO.lst.injEq, Option.some.injEq, exists_eq_left', exists_eq_left, atI_0, atI_1, atI_2, atI_3, ixN_0, ixN_1, ixN_2, ixN_3, List.set_cons_zero, List.set_cons_succ, List.length_cons, List.length_nil, List.length_append, List.cons_append, List.nil_append, true_and, and_true, seq_st])
/-! ## words of a book -/
def sp_is_number : DSp := fun ds G q _ => ∃ x d m, ds = [x, .int m] ∧ Dd G x d ∧ q (.bl (fromV 0 m d)) G
def N_is_number : List Str := ["thing", "most"]
def P_is_number : List Str := ["thing", "most"]
def t_is_number : TSd := dRet (dAndV (dBi (BI.r .isi) (dCons (dVar 0) (dCons (dC (.ty "int")) (dNil)))) (dAndV (dNotV (dBi (BI.r .isi) (dCons (dVar 0) (dCons (dC (.ty "bool")) (dNil))))) (dChain leD leD (dC (.int 0)) (dVar 0) (dVar 1))))
def gl_is_number : List (Str × GI) := [("isinstance", .bi .isi), ("bool", .ty "bool"), ("int", .bi .int)]
theorem len_is_number : ∀ ds G q x, sp_is_number ds G q x → ds.length = P_is_number.length := by
  rintro _ _ _ _ ⟨x, d, m, rfl, _⟩; rfl
theorem b_is_number : Body t_is_number N_is_number sp_is_number := by
  rintro ds G q x ⟨x, d, m, rfl, h, hq⟩
  unfold t_is_number N_is_number
  walk_at "e"
  walk_at "g"
  refine ⟨h.kn, fun e => ⟨h.kn, ?_⟩, fun e => ?_⟩
  · rw [(whole_eq h).1 e, Bool.not_not]
    refine ⟨fun e2 => ?_, fun e2 => ?_⟩
    · obtain ⟨i, rfl⟩ := whole_int e2
      cases h.int_inv
      simp only [fromV] at hq
      walk_at "e"
      refine ⟨fun e => ?_, fun e => ?_⟩
      · rw [e] at hq; exact hq
      · rw [e] at hq; exact hq
    · rw [from_whole e2] at hq; exact hq
  · rw [from_whole ((whole_eq h).2 e)] at hq; exact hq
def sp_are_numbers : DSp := fun ds G q _ => ∃ x d l m t, ds = [x, .int l, .int m, .int t] ∧ Dd G x d ∧ m ≤ 1000000 ∧ ∀ G', Ext G G' → q (.bl (rowV l m t d)) G'
def t_are_numbers_r1 : TSd := dRet (dBi (BI.r .all) (dCons (dLc (dItV (dVar 0)) (dgName 4) dYes (dCall sp_is_number (dCons (dVar 4) (dCons (dVar 3) (dNil)))) [4]) (dNil)))
def N_are_numbers : List Str := ["thing", "least", "many", "most", "one"]
def P_are_numbers : List Str := ["thing", "least", "many", "most"]
def t_are_numbers : TSd := dSeq (dIf (dOr (dNot (dB (dBi (BI.r .isi) (dCons (dVar 0) (dCons (dC (.ty "tuple")) (dNil)))))) (dNot (dB (dChain leD leD (dVar 1) (dBi (BI.r .len) (dCons (dVar 0) (dNil))) (dVar 2))))) (dRet (dC (.bl false))) (dNext)) t_are_numbers_r1
def gl_are_numbers : List (Str × GI) := [("len", .bi .len), ("isinstance", .bi .isi), ("tuple", .bi .tuple), ("all", .bi .all), ("is_number", .fn sp_is_number)]
theorem len_are_numbers : ∀ ds G q x, sp_are_numbers ds G q x → ds.length = P_are_numbers.length := by
  rintro _ _ _ _ ⟨x, d, l, m, t, rfl, _⟩; rfl
theorem b_are_numbers : Body t_are_numbers N_are_numbers sp_are_numbers := by
  rintro ds G q x ⟨x, d, l, m, t, rfl, h, hm, hq⟩
  unfold t_are_numbers N_are_numbers t_are_numbers_r1
  walk_at "e"
  walk_at "g"
  refine ⟨h.kn, ?_⟩
  rw [h.is]
  refine ⟨fun e => ?_, fun e => ?_⟩
  · have e1 : rowV l m t d = false := by cases d <;> first | rfl | cases e
    have q1 := hq G .refl
    rw [e1] at q1
    exact q1
  · obtain ⟨ds, rfl⟩ := is_tup (d := d) (by simpa using e)
    obtain ⟨xs, rfl, hs⟩ := h.tup_inv
    have el := hs.length
    walk_at "e"
    rw [el]
    refine ⟨fun e1 => ⟨fun e2 => ?_, fun e2 => ?_⟩, fun e1 => ?_⟩
    · have q1 := hq G .refl
      have e3 : rowV l m t (.tup ds) = false := by
        simp only [rowV, Bool.and_eq_false_iff]; simp at e2; left; right; simpa using e2
      rw [e3] at q1; exact q1
    · simp only [Bool.not_eq_false', decide_eq_true_eq] at e2
      refine lcR_look (fromV 0 t) hs (by omega) (fun _ _ => trivial) (fun y d r _ G' Q' xt k => ?_) fun p G' xt e => ?_
      · walk_at "e"
        exact ⟨y, d, t, rfl, r.ext xt, k _ .refl⟩
      · walk_at "e"
        refine ⟨ds.map (fromV 0 t), .inl e, ?_⟩
        rw [all_id]
        have q1 := hq G' xt
        have e3 : rowV l m t (.tup ds) = ds.all (fromV 0 t) := by
          simp only [rowV, e1, e2, decide_true, Bool.true_and]
        rw [e3] at q1; exact q1
    · have q1 := hq G .refl
      have e3 : rowV l m t (.tup ds) = false := by
        simp only [rowV, e1, Bool.false_and]
      rw [e3] at q1; exact q1
def wordV : D → Bool
  | .tup [a, s, k, c] => rowV 1 6 39 a && rowV 1 4 999 s && fromV 0 7 k && fromV 0 9999 c
  | _ => false
theorem wordV_len {ds : List D} (h : ds.length ≠ 4) : wordV (.tup ds) = false := by
  unfold wordV; split
  · rename_i e; cases e; exact absurd rfl h
  · rfl
def sp_is_word : DSp := fun ds G q _ => ∃ x d, ds = [x] ∧ Dd G x d ∧ ∀ G', Ext G G' → q (.bl (wordV d)) G'
def t_is_word_r1 : TSd := dRet (dAndV (dCall sp_is_number (dCons (dOp ixD (dVar 0) (dC (.int 2))) (dCons (dC (.int 7)) (dNil)))) (dCall sp_is_number (dCons (dOp ixD (dVar 0) (dC (.int 3))) (dCons (dC (.int 9999)) (dNil)))))
def t_is_word_r2 : TSd := dSeq (dIf (dNot (dB (dCall sp_are_numbers (dCons (dOp ixD (dVar 0) (dC (.int 1))) (dCons (dC (.int 1)) (dCons (dC (.int 4)) (dCons (dC (.int 999)) (dNil)))))))) (dRet (dC (.bl false))) (dNext)) t_is_word_r1
def t_is_word_r3 : TSd := dSeq (dIf (dNot (dB (dCall sp_are_numbers (dCons (dOp ixD (dVar 0) (dC (.int 0))) (dCons (dC (.int 1)) (dCons (dC (.int 6)) (dCons (dC (.int 39)) (dNil)))))))) (dRet (dC (.bl false))) (dNext)) t_is_word_r2
def N_is_word : List Str := ["thing"]
def P_is_word : List Str := ["thing"]
def t_is_word : TSd := dSeq (dIf (dOr (dNot (dB (dBi (BI.r .isi) (dCons (dVar 0) (dCons (dC (.ty "tuple")) (dNil)))))) (dB (dOp (eqR true) (dBi (BI.r .len) (dCons (dVar 0) (dNil))) (dC (.int 4))))) (dRet (dC (.bl false))) (dNext)) t_is_word_r3
def gl_is_word : List (Str × GI) := [("len", .bi .len), ("isinstance", .bi .isi), ("tuple", .bi .tuple), ("are_numbers", .fn sp_are_numbers), ("MOST_SOUND", .cst (.int 39)), ("MOST_WORD_SOUNDS", .cst (.int 6)), ("MOST_WORD_SIGN", .cst (.int 999)), ("MOST_WORD_SIGNS", .cst (.int 4)), ("is_number", .fn sp_is_number), ("MOST_WORD_COST", .cst (.int 9999)), ("MOST_WORD_KIND", .cst (.int 7))]
theorem len_is_word : ∀ ds G q x, sp_is_word ds G q x → ds.length = P_is_word.length := by
  rintro _ _ _ _ ⟨x, d, rfl, _⟩; rfl
theorem b_is_word : Body t_is_word N_is_word sp_is_word := by
  rintro ds G q x ⟨x, d, rfl, h, hq⟩
  unfold t_is_word N_is_word t_is_word_r3 t_is_word_r2 t_is_word_r1
  walk_at "e"
  refine ⟨h.kn, ?_⟩
  rw [h.is]
  have no : wordV d = false → ∀ G', Ext G G' → q (.bl false) G' := fun e G' x => by have := hq G' x; rwa [e] at this
  refine ⟨fun e => no (by cases d <;> first | rfl | cases e) _ .refl, fun e => ?_⟩
  obtain ⟨ds, rfl⟩ := is_tup (d := d) (by simpa using e)
  obtain ⟨xs, rfl, hs⟩ := h.tup_inv
  have el := hs.length
  walk_at "e"
  rw [el]
  refine ⟨fun e1 => no (wordV_len fun z => by rw [z] at e1; simp at e1) _ .refl, fun e1 => ?_⟩
  obtain ⟨a, s, k, c, rfl⟩ := four_of (ds := ds) (by simp only [Bool.not_eq_false', decide_eq_true_eq] at e1; omega)
  obtain ⟨x0, x1, x2, x3, rfl, h0, h1, h2, h3⟩ := dds4 hs
  simp only [atI_0, atI_1, atI_2, atI_3, Option.some.injEq, exists_eq_left']
  refine ⟨x0, a, 1, 6, 39, rfl, h0, by decide, fun G1 x1' => ?_⟩
  walk_at "e"
  refine ⟨fun e2 => no (by simp only [Bool.not_eq_true'] at e2; simp [wordV, e2]) _ x1', fun e2 => ⟨x1, s, 1, 4, 999, rfl, h1.ext x1', by decide, fun G2 x2' => ?_⟩⟩
  walk_at "e"
  refine ⟨fun e3 => no (by simp only [Bool.not_eq_true'] at e3; simp [wordV, e3]) _ (x1'.trans x2'), fun e3 => ⟨x2, k, 7, rfl, h2.ext (x1'.trans x2'), ?_⟩⟩
  walk_at "e"
  refine ⟨fun e4 => ⟨x3, c, 9999, rfl, h3.ext (x1'.trans x2'), ?_⟩, fun e4 => no (by simp [wordV, e4]) _ (x1'.trans x2')⟩
  have := hq G2 (x1'.trans x2')
  simp only [Bool.not_eq_false'] at e2 e3
  simpa [wordV, e2, e3, e4] using this
/-! words by value -/
abbrev BK := List Int × List Int × Int
abbrev BW := BK × Int
def bK (k : BK) : D := .tup [ti k.1, ti k.2.1, .int k.2.2]
def bV (c : Int) : D := .int c
def rB (w : BW) : D := .tup [ti w.1.1, ti w.1.2.1, .int w.1.2.2, .int w.2]
structure WdOk (w : BW) : Prop where
  s1 : 1 ≤ w.1.1.length
  s6 : w.1.1.length ≤ 6
  sr : ∀ y ∈ w.1.1, 0 ≤ y ∧ y ≤ 39
  g1 : 1 ≤ w.1.2.1.length
  g4 : w.1.2.1.length ≤ 4
  gr : ∀ y ∈ w.1.2.1, 0 ≤ y ∧ y ≤ 999
  k : 0 ≤ w.1.2.2 ∧ w.1.2.2 ≤ 7
  c : 0 ≤ w.2 ∧ w.2 ≤ 9999
theorem rowV_ti {l m : Nat} {t : Int} {xs : List Int} : rowV l m t (ti xs) = true ↔ l ≤ xs.length ∧ xs.length ≤ m ∧ ∀ y ∈ xs, 0 ≤ y ∧ y ≤ t := by
  unfold ti
  simp only [rowV, List.length_map, Bool.and_eq_true, decide_eq_true_eq, List.all_eq_true, List.mem_map, forall_exists_index, and_imp, forall_apply_eq_imp_iff₂, fromV]
  constructor
  · rintro ⟨⟨a, b⟩, c⟩; exact ⟨by omega, by omega, c⟩
  · rintro ⟨a, b, c⟩; exact ⟨⟨by omega, by omega⟩, c⟩
theorem wordV_ok {w : BW} (h : WdOk w) : wordV (rB w) = true := by
  unfold rB wordV
  simp only [Bool.and_eq_true]
  refine ⟨⟨⟨rowV_ti.mpr ⟨h.s1, h.s6, h.sr⟩, rowV_ti.mpr ⟨h.g1, h.g4, h.gr⟩⟩, ?_⟩, ?_⟩
  · have := h.k; simpa [fromV] using this
  · have := h.c; simpa [fromV] using this
theorem rB_dd {G : Hd} (z : BW) : Dd G (rB z) (rB z) := .tup (.cons dd_ti (.cons dd_ti (.cons (.int _) (.cons (.int _) .nil))))
theorem pu_rB {z : BW} (h : WdOk z) : Pu 2 (rB z) := pu_tup (by simp) fun y hy => by
  have := h.s6; have := h.g4
  simp only [List.mem_cons, List.not_mem_nil, or_false] at hy
  rcases hy with rfl | rfl | rfl | rfl
  · exact pu_ti (by omega)
  · exact pu_ti (by omega)
  · exact pu_int
  · exact pu_int
end S
set_option Elab.async false
set_option linter.all false
set_option maxRecDepth 100000
set_option maxHeartbeats 4000000
namespace S
open PySem PySem.Spec L2
open PyProof.Rows hiding St
local macro_rules | `(tactic| walk_at "e") => `(tactic| try simp only [fld_eq, fld_r, setf_eq, setf_r, meth_eq, mth_r, dMake, dDict1, extD_t, extD_rr, eqR_ti, eqR_t0, slD_ti, lenD_ti, addD_ti1, addD_ti, ixD_ti, setD_ti, extD_ti, tupleD_ti, listD_ti, ixD_tii, itv_ti, dSeq, dNext, dRet, dRetN, dIf, dAsg, dAug, dDrop, par_eq, prs_2, par3_eq, prs3_3, dBreak, dCont, dgName, dgSub, gTup_t, gCons_c, gNil_n, dFor_eq, dLc_eq, dVar, dC, dOp, dUn, dBi, dCall, dCons, dNil, dTup, dLst, dSl, part_eq, prt_i, dNoPart, dAndV, dOrV, dNotV, dB, dAnd, dOr, dNot, dIfE, dChain, itv_eq, itv_t, itv_r, dRng, dWalk, dBm, rng1_i, rng2_i, rng3_i, enumR_r, enumR_t, gTup_r, tr_n, tr_t, dLitE, zipR_r, zipR_t,
  BI.r, addD_i, addD_s, addD_t, addD_r, subD_i, mulD_i, mulD_r, mulD_t, modD_i, divD_i, powD_i, ltD_i, leD_i, gtD_i, geD_i, incD_i, negD_i, lr1_i, lr2_i, revD_r, isND_n, isNon, ixD_t, ixD_r, ixD_d, setD_d, dDnew, itk_eq, itk_r, dDm, getD_r, ditD_r, dItI, iti_r, listK_r, sortedD_r, ixK_t, ixK_r, ixK_l, dKnew, dItJ, itj_r, dKm, getK_r, sdfK_r, dikD_r, sortedJ_r, sortedG_r, dBm0, clearD_r, revsD_r, dChain3, ixD_l, ixD_s, slD_t, slD_r, slD_s, setD_r, lenD_s, lenD_t, lenD_l, lenD_r, isiD_1, isiD_n, listD_t, listD_r, tupleD_t, tupleD_r, allD_r, anyD_r, sumD_r, maxD_r, maxD_t, minD_t, minLD_r, maxLD_r, sumLD_2, sumLD_1, minDf_r, maxD_2, minD_r, minD_2, absD_i, intB_i, intB_b, intB_s, itv_s, mulD_s, inD_s, tyD_s, joinD_r, splitD_s, partD_s, stripD_s, findD_s, countT_s, indexT_s, fmtD_s, fmtD_i, dFmt, jsD_s, js_nil, js_cons, strOf_i, strOf_s, appD_r, startD, wipeD,
  List.map_cons, List.map_nil, rep_z, rep_s, List.length_cons, List.length_nil, List.cons_append, List.nil_append, List.append_nil, List.getElem?_cons_zero, List.getElem?_cons_succ, List.set_cons_zero, List.set_cons_succ, Option.some.injEq, exists_eq_left', exists_eq_left, D.bl.injEq, D.int.injEq, D.tup.injEq, D.ref.injEq, true_and, and_true, Nat.reduceAdd, Nat.reduceSub, Nat.add_sub_cancel_left, exists_const, br_t, br_f, eqR_int, eqR_bl, Bool.false_bne, Bool.true_bne, Bool.false_xor, Bool.true_xor, Bool.not_true, Bool.not_false, Bool.not_not, ite_true, ite_false, Bool.true_eq_false, false_implies, decide_true, decide_false, tc_int, tc_bool, tc_str, tc_tup, tc_lst, tc_non, tc_dic, ln0, ln1, ln2, ln3, ln4, ln5, ln6, ln7, ln8, ln9, ln10, ln11, ln12, ln13, ln14, ln15, ln16, ln17, ln18, ln19, ln20, ln21, ln22, ln23, ln24, ln25, ln26, ln27, ln28, ln29, ln30, ln31, ln32, ln33, ln34, ln35, ln36, ln37, ln38, ln39, ln40, ln41, ln42, ln43, ln44, ln45, ln46, ln47, ln48, ln49, ln50, ln51, ln52, ln53, ln54, ln55, ln56, ln57, ln58, ln59, ln60])
local macro_rules | `(tactic| walk_at "g") => `(tactic| try simp only [st_same, st_st, GO.lst.injEq, Option.some.injEq, exists_eq_left', exists_eq_left, atI_0, atI_1, atI_2, atI_3, ixN_0, ixN_1, ixN_2, ixN_3, List.set_cons_zero, List.set_cons_succ, List.length_cons, List.length_nil, List.length_append, List.cons_append, List.nil_append, true_and, and_true, seq_st])
/-! ## a book, walked -/
structure BkAt (G : Hd) (a d : Addr) (M : List BW) : Prop where
  fs : ∃ fs, G a = some (.obj 1 fs) ∧ fs 3 = some (.ref d)
  ct : ∃ ep, G d = some (.dit (emb bK bV M) ep)
  nd : (M.map (·.1)).Nodup
  ok : ∀ w ∈ M, WdOk w
  len : M.length ≤ 60
theorem BkAt.xt {G G' : Hd} {a d : Addr} {M : List BW} {bs : List Addr} (h : BkAt G a d M) (x : Xt bs G G') (n : ∀ c ∈ [a, d], c ∉ bs) : BkAt G' a d M := by
  obtain ⟨⟨fs, e, r⟩, ⟨ep, e2⟩, h1, h2, h3⟩ := h
  exact ⟨⟨fs, x.get (n a (by simp)) e, r⟩, ⟨ep, x.get (n d (by simp)) e2⟩, h1, h2, h3⟩
theorem BkAt.ext {G G' : Hd} {a d : Addr} {M : List BW} (h : BkAt G a d M) (x : Ext G G') : BkAt G' a d M := h.xt x (by simp)
end S
set_option Elab.async false
set_option linter.all false
set_option maxRecDepth 100000
set_option maxHeartbeats 4000000
namespace S
open PySem PySem.Spec L2
open PyProof.Rows hiding St
local macro_rules | `(tactic| walk_at "e") => `(tactic| try simp only [fld_eq, fld_r, setf_eq, setf_r, meth_eq, mth_r, dMake, dDict1, extD_t, extD_rr, eqR_ti, eqR_t0, slD_ti, lenD_ti, addD_ti1, addD_ti, ixD_ti, setD_ti, extD_ti, tupleD_ti, listD_ti, ixD_tii, itv_ti, dSeq, dNext, dRet, dRetN, dIf, dAsg, dAug, dDrop, par_eq, prs_2, par3_eq, prs3_3, dBreak, dCont, dgName, dgSub, gTup_t, gCons_c, gNil_n, dFor_eq, dLc_eq, dVar, dC, dOp, dUn, dBi, dCall, dCons, dNil, dTup, dLst, dSl, part_eq, prt_i, dNoPart, dAndV, dOrV, dNotV, dB, dAnd, dOr, dNot, dIfE, dChain, itv_eq, itv_t, itv_r, dRng, dWalk, dBm, rng1_i, rng2_i, rng3_i, enumR_r, enumR_t, gTup_r, tr_n, tr_t, dLitE, zipR_r, zipR_t,
  BI.r, addD_i, addD_s, addD_t, addD_r, subD_i, mulD_i, mulD_r, mulD_t, modD_i, divD_i, powD_i, ltD_i, leD_i, gtD_i, geD_i, incD_i, negD_i, lr1_i, lr2_i, revD_r, isND_n, isNon, ixD_t, ixD_r, ixD_d, setD_d, dDnew, itk_eq, itk_r, dDm, getD_r, ditD_r, dItI, iti_r, listK_r, sortedD_r, ixK_t, ixK_r, ixK_l, dKnew, dItJ, itj_r, dKm, getK_r, sdfK_r, dikD_r, sortedJ_r, sortedG_r, dBm0, clearD_r, revsD_r, dChain3, ixD_l, ixD_s, slD_t, slD_r, slD_s, setD_r, lenD_s, lenD_t, lenD_l, lenD_r, isiD_1, isiD_n, listD_t, listD_r, tupleD_t, tupleD_r, allD_r, anyD_r, sumD_r, maxD_r, maxD_t, minD_t, minLD_r, maxLD_r, sumLD_2, sumLD_1, minDf_r, maxD_2, minD_r, minD_2, absD_i, intB_i, intB_b, intB_s, itv_s, mulD_s, inD_s, tyD_s, joinD_r, splitD_s, partD_s, stripD_s, findD_s, countT_s, indexT_s, fmtD_s, fmtD_i, dFmt, jsD_s, js_nil, js_cons, strOf_i, strOf_s, appD_r, startD, wipeD,
  List.map_cons, List.map_nil, rep_z, rep_s, List.length_cons, List.length_nil, List.cons_append, List.nil_append, List.append_nil, List.getElem?_cons_zero, List.getElem?_cons_succ, List.set_cons_zero, List.set_cons_succ, Option.some.injEq, exists_eq_left', exists_eq_left, D.bl.injEq, D.int.injEq, D.tup.injEq, D.ref.injEq, true_and, and_true, Nat.reduceAdd, Nat.reduceSub, Nat.add_sub_cancel_left, exists_const, br_t, br_f, eqR_int, eqR_bl, Bool.false_bne, Bool.true_bne, Bool.false_xor, Bool.true_xor, Bool.not_true, Bool.not_false, Bool.not_not, ite_true, ite_false, Bool.true_eq_false, false_implies, decide_true, decide_false, tc_int, tc_bool, tc_str, tc_tup, tc_lst, tc_non, tc_dic, ln0, ln1, ln2, ln3, ln4, ln5, ln6, ln7, ln8, ln9, ln10, ln11, ln12, ln13, ln14, ln15, ln16, ln17, ln18, ln19, ln20, ln21, ln22, ln23, ln24, ln25, ln26, ln27, ln28, ln29, ln30, ln31, ln32, ln33, ln34, ln35, ln36, ln37, ln38, ln39, ln40, ln41, ln42, ln43, ln44, ln45, ln46, ln47, ln48, ln49, ln50, ln51, ln52, ln53, ln54, ln55, ln56, ln57, ln58, ln59, ln60])
local macro_rules | `(tactic| walk_at "g") => `(tactic| try simp only [st_same, st_st, GO.lst.injEq, Option.some.injEq, exists_eq_left', exists_eq_left, atI_0, atI_1, atI_2, atI_3, ixN_0, ixN_1, ixN_2, ixN_3, List.set_cons_zero, List.set_cons_succ, List.length_cons, List.length_nil, List.length_append, List.cons_append, List.nil_append, true_and, and_true, seq_st])
/-! ## words in order -/
theorem ti_inj {xs ys : List Int} (h : ti xs = ti ys) : xs = ys := by
  unfold ti at h
  injection h with h
  exact (List.map_inj_right fun x y e => by injection e).mp h
theorem rB_inj {a b : BW} (h : rB a = rB b) : a = b := by
  unfold rB at h
  injection h with h
  injection h with h1 h
  injection h with h2 h
  injection h with h3 h
  injection h with h4 _
  injection h3 with h3
  injection h4 with h4
  exact Prod.ext (Prod.ext (ti_inj h1) (Prod.ext (ti_inj h2) h3)) h4
end S
set_option Elab.async false
set_option linter.all false
set_option maxRecDepth 100000
set_option maxHeartbeats 4000000
namespace S
open PySem PySem.Spec L2
open PyProof.Rows hiding St
local macro_rules | `(tactic| walk_at "e") => `(tactic| try simp only [fld_eq, fld_r, setf_eq, setf_r, meth_eq, mth_r, dMake, dDict1, extD_t, extD_rr, eqR_ti, eqR_t0, slD_ti, lenD_ti, addD_ti1, addD_ti, ixD_ti, setD_ti, extD_ti, tupleD_ti, listD_ti, ixD_tii, itv_ti, dSeq, dNext, dRet, dRetN, dIf, dAsg, dAug, dDrop, par_eq, prs_2, par3_eq, prs3_3, dBreak, dCont, dgName, dgSub, gTup_t, gCons_c, gNil_n, dFor_eq, dLc_eq, dVar, dC, dOp, dUn, dBi, dCall, dCons, dNil, dTup, dLst, dSl, part_eq, prt_i, dNoPart, dAndV, dOrV, dNotV, dB, dAnd, dOr, dNot, dIfE, dChain, itv_eq, itv_t, itv_r, dRng, dWalk, dBm, rng1_i, rng2_i, rng3_i, enumR_r, enumR_t, gTup_r, tr_n, tr_t, dLitE, zipR_r, zipR_t,
  BI.r, addD_i, addD_s, addD_t, addD_r, subD_i, mulD_i, mulD_r, mulD_t, modD_i, divD_i, powD_i, ltD_i, leD_i, gtD_i, geD_i, incD_i, negD_i, lr1_i, lr2_i, revD_r, isND_n, isNon, ixD_t, ixD_r, ixD_d, setD_d, dDnew, itk_eq, itk_r, dDm, getD_r, ditD_r, dItI, iti_r, listK_r, sortedD_r, ixK_t, ixK_r, ixK_l, dKnew, dItJ, itj_r, dKm, getK_r, sdfK_r, dikD_r, sortedJ_r, sortedG_r, dBm0, clearD_r, revsD_r, dChain3, ixD_l, ixD_s, slD_t, slD_r, slD_s, setD_r, lenD_s, lenD_t, lenD_l, lenD_r, isiD_1, isiD_n, listD_t, listD_r, tupleD_t, tupleD_r, allD_r, anyD_r, sumD_r, maxD_r, maxD_t, minD_t, minLD_r, maxLD_r, sumLD_2, sumLD_1, minDf_r, maxD_2, minD_r, minD_2, absD_i, intB_i, intB_b, intB_s, itv_s, mulD_s, inD_s, tyD_s, joinD_r, splitD_s, partD_s, stripD_s, findD_s, countT_s, indexT_s, fmtD_s, fmtD_i, dFmt, jsD_s, js_nil, js_cons, strOf_i, strOf_s, appD_r, startD, wipeD,
  List.map_cons, List.map_nil, rep_z, rep_s, List.length_cons, List.length_nil, List.cons_append, List.nil_append, List.append_nil, List.getElem?_cons_zero, List.getElem?_cons_succ, List.set_cons_zero, List.set_cons_succ, Option.some.injEq, exists_eq_left', exists_eq_left, D.bl.injEq, D.int.injEq, D.tup.injEq, D.ref.injEq, true_and, and_true, Nat.reduceAdd, Nat.reduceSub, Nat.add_sub_cancel_left, exists_const, br_t, br_f, eqR_int, eqR_bl, Bool.false_bne, Bool.true_bne, Bool.false_xor, Bool.true_xor, Bool.not_true, Bool.not_false, Bool.not_not, ite_true, ite_false, Bool.true_eq_false, false_implies, decide_true, decide_false, tc_int, tc_bool, tc_str, tc_tup, tc_lst, tc_non, tc_dic, ln0, ln1, ln2, ln3, ln4, ln5, ln6, ln7, ln8, ln9, ln10, ln11, ln12, ln13, ln14, ln15, ln16, ln17, ln18, ln19, ln20, ln21, ln22, ln23, ln24, ln25, ln26, ln27, ln28, ln29, ln30, ln31, ln32, ln33, ln34, ln35, ln36, ln37, ln38, ln39, ln40, ln41, ln42, ln43, ln44, ln45, ln46, ln47, ln48, ln49, ln50, ln51, ln52, ln53, ln54, ln55, ln56, ln57, ln58, ln59, ln60])
local macro_rules | `(tactic| walk_at "g") => `(tactic| try simp only [st_same, st_st, GO.lst.injEq, Option.some.injEq, exists_eq_left', exists_eq_left, atI_0, atI_1, atI_2, atI_3, ixN_0, ixN_1, ixN_2, ixN_3, List.set_cons_zero, List.set_cons_succ, List.length_cons, List.length_nil, List.length_append, List.cons_append, List.nil_append, true_and, and_true, seq_st])
/-! ## the laws' words -/
end S
set_option Elab.async false
set_option linter.all false
set_option maxRecDepth 100000
set_option maxHeartbeats 4000000
namespace S
open PySem PySem.Spec L2
open PyProof.Rows hiding St
local macro_rules | `(tactic| walk_at "e") => `(tactic| try simp only [fld_eq, fld_r, setf_eq, setf_r, meth_eq, mth_r, dMake, dDict1, extD_t, extD_rr, eqR_ti, eqR_t0, slD_ti, lenD_ti, addD_ti1, addD_ti, ixD_ti, setD_ti, extD_ti, tupleD_ti, listD_ti, ixD_tii, itv_ti, dSeq, dNext, dRet, dRetN, dIf, dAsg, dAug, dDrop, par_eq, prs_2, par3_eq, prs3_3, dBreak, dCont, dgName, dgSub, gTup_t, gCons_c, gNil_n, dFor_eq, dLc_eq, dVar, dC, dOp, dUn, dBi, dCall, dCons, dNil, dTup, dLst, dSl, part_eq, prt_i, dNoPart, dAndV, dOrV, dNotV, dB, dAnd, dOr, dNot, dIfE, dChain, itv_eq, itv_t, itv_r, dRng, dWalk, dBm, rng1_i, rng2_i, rng3_i, enumR_r, enumR_t, gTup_r, tr_n, tr_t, dLitE, zipR_r, zipR_t,
  BI.r, addD_i, addD_s, addD_t, addD_r, subD_i, mulD_i, mulD_r, mulD_t, modD_i, divD_i, powD_i, ltD_i, leD_i, gtD_i, geD_i, incD_i, negD_i, lr1_i, lr2_i, revD_r, isND_n, isNon, ixD_t, ixD_r, ixD_d, setD_d, dDnew, itk_eq, itk_r, dDm, getD_r, ditD_r, dItI, iti_r, listK_r, sortedD_r, ixK_t, ixK_r, ixK_l, dKnew, dItJ, itj_r, dKm, getK_r, sdfK_r, dikD_r, sortedJ_r, sortedG_r, dBm0, clearD_r, revsD_r, dChain3, ixD_l, ixD_s, slD_t, slD_r, slD_s, setD_r, lenD_s, lenD_t, lenD_l, lenD_r, isiD_1, isiD_n, listD_t, listD_r, tupleD_t, tupleD_r, allD_r, anyD_r, sumD_r, maxD_r, maxD_t, minD_t, minLD_r, maxLD_r, sumLD_2, sumLD_1, minDf_r, maxD_2, minD_r, minD_2, absD_i, intB_i, intB_b, intB_s, itv_s, mulD_s, inD_s, tyD_s, joinD_r, splitD_s, partD_s, stripD_s, findD_s, countT_s, indexT_s, fmtD_s, fmtD_i, dFmt, jsD_s, js_nil, js_cons, strOf_i, strOf_s, appD_r, startD, wipeD,
  List.map_cons, List.map_nil, rep_z, rep_s, List.length_cons, List.length_nil, List.cons_append, List.nil_append, List.append_nil, List.getElem?_cons_zero, List.getElem?_cons_succ, List.set_cons_zero, List.set_cons_succ, Option.some.injEq, exists_eq_left', exists_eq_left, D.bl.injEq, D.int.injEq, D.tup.injEq, D.ref.injEq, true_and, and_true, Nat.reduceAdd, Nat.reduceSub, Nat.add_sub_cancel_left, exists_const, br_t, br_f, eqR_int, eqR_bl, Bool.false_bne, Bool.true_bne, Bool.false_xor, Bool.true_xor, Bool.not_true, Bool.not_false, Bool.not_not, ite_true, ite_false, Bool.true_eq_false, false_implies, decide_true, decide_false, tc_int, tc_bool, tc_str, tc_tup, tc_lst, tc_non, tc_dic, ln0, ln1, ln2, ln3, ln4, ln5, ln6, ln7, ln8, ln9, ln10, ln11, ln12, ln13, ln14, ln15, ln16, ln17, ln18, ln19, ln20, ln21, ln22, ln23, ln24, ln25, ln26, ln27, ln28, ln29, ln30, ln31, ln32, ln33, ln34, ln35, ln36, ln37, ln38, ln39, ln40, ln41, ln42, ln43, ln44, ln45, ln46, ln47, ln48, ln49, ln50, ln51, ln52, ln53, ln54, ln55, ln56, ln57, ln58, ln59, ln60])
local macro_rules | `(tactic| walk_at "g") => `(tactic| try simp only [st_same, st_st, GO.lst.injEq, Option.some.injEq, exists_eq_left', exists_eq_left, atI_0, atI_1, atI_2, atI_3, ixN_0, ixN_1, ixN_2, ixN_3, List.set_cons_zero, List.set_cons_succ, List.length_cons, List.length_nil, List.length_append, List.cons_append, List.nil_append, true_and, and_true, seq_st])
/-! ## the laws' sorted words -/
end S
set_option Elab.async false
set_option linter.all false
set_option maxRecDepth 100000
set_option maxHeartbeats 4000000
namespace S
open PySem PySem.Spec L2
open PyProof.Rows hiding St
local macro_rules | `(tactic| walk_at "e") => `(tactic| try simp only [fld_eq, fld_r, setf_eq, setf_r, meth_eq, mth_r, dMake, dDict1, extD_t, extD_rr, eqR_ti, eqR_t0, slD_ti, lenD_ti, addD_ti1, addD_ti, ixD_ti, setD_ti, extD_ti, tupleD_ti, listD_ti, ixD_tii, itv_ti, dSeq, dNext, dRet, dRetN, dIf, dAsg, dAug, dDrop, par_eq, prs_2, par3_eq, prs3_3, dBreak, dCont, dgName, dgSub, gTup_t, gCons_c, gNil_n, dFor_eq, dLc_eq, dVar, dC, dOp, dUn, dBi, dCall, dCons, dNil, dTup, dLst, dSl, part_eq, prt_i, dNoPart, dAndV, dOrV, dNotV, dB, dAnd, dOr, dNot, dIfE, dChain, itv_eq, itv_t, itv_r, dRng, dWalk, dBm, rng1_i, rng2_i, rng3_i, enumR_r, enumR_t, gTup_r, tr_n, tr_t, dLitE, zipR_r, zipR_t,
  BI.r, addD_i, addD_s, addD_t, addD_r, subD_i, mulD_i, mulD_r, mulD_t, modD_i, divD_i, powD_i, ltD_i, leD_i, gtD_i, geD_i, incD_i, negD_i, lr1_i, lr2_i, revD_r, isND_n, isNon, ixD_t, ixD_r, ixD_d, setD_d, dDnew, itk_eq, itk_r, dDm, getD_r, ditD_r, dItI, iti_r, listK_r, sortedD_r, ixK_t, ixK_r, ixK_l, dKnew, dItJ, itj_r, dKm, getK_r, sdfK_r, dikD_r, sortedJ_r, sortedG_r, dBm0, clearD_r, revsD_r, dChain3, ixD_l, ixD_s, slD_t, slD_r, slD_s, setD_r, lenD_s, lenD_t, lenD_l, lenD_r, isiD_1, isiD_n, listD_t, listD_r, tupleD_t, tupleD_r, allD_r, anyD_r, sumD_r, maxD_r, maxD_t, minD_t, minLD_r, maxLD_r, sumLD_2, sumLD_1, minDf_r, maxD_2, minD_r, minD_2, absD_i, intB_i, intB_b, intB_s, itv_s, mulD_s, inD_s, tyD_s, joinD_r, splitD_s, partD_s, stripD_s, findD_s, countT_s, indexT_s, fmtD_s, fmtD_i, dFmt, jsD_s, js_nil, js_cons, strOf_i, strOf_s, appD_r, startD, wipeD,
  List.map_cons, List.map_nil, rep_z, rep_s, List.length_cons, List.length_nil, List.cons_append, List.nil_append, List.append_nil, List.getElem?_cons_zero, List.getElem?_cons_succ, List.set_cons_zero, List.set_cons_succ, Option.some.injEq, exists_eq_left', exists_eq_left, D.bl.injEq, D.int.injEq, D.tup.injEq, D.ref.injEq, true_and, and_true, Nat.reduceAdd, Nat.reduceSub, Nat.add_sub_cancel_left, exists_const, br_t, br_f, eqR_int, eqR_bl, Bool.false_bne, Bool.true_bne, Bool.false_xor, Bool.true_xor, Bool.not_true, Bool.not_false, Bool.not_not, ite_true, ite_false, Bool.true_eq_false, false_implies, decide_true, decide_false, tc_int, tc_bool, tc_str, tc_tup, tc_lst, tc_non, tc_dic, ln0, ln1, ln2, ln3, ln4, ln5, ln6, ln7, ln8, ln9, ln10, ln11, ln12, ln13, ln14, ln15, ln16, ln17, ln18, ln19, ln20, ln21, ln22, ln23, ln24, ln25, ln26, ln27, ln28, ln29, ln30, ln31, ln32, ln33, ln34, ln35, ln36, ln37, ln38, ln39, ln40, ln41, ln42, ln43, ln44, ln45, ln46, ln47, ln48, ln49, ln50, ln51, ln52, ln53, ln54, ln55, ln56, ln57, ln58, ln59, ln60])
local macro_rules | `(tactic| walk_at "g") => `(tactic| try simp only [st_same, st_st, GO.lst.injEq, Option.some.injEq, exists_eq_left', exists_eq_left, atI_0, atI_1, atI_2, atI_3, ixN_0, ixN_1, ixN_2, ixN_3, List.set_cons_zero, List.set_cons_succ, List.length_cons, List.length_nil, List.length_append, List.cons_append, List.nil_append, true_and, and_true, seq_st])
/-! ## words held and told -/
theorem okS_iff {x : Str} : PySem.PyData.strOk x = true ↔ ∀ c ∈ x.cps.toList, c < 0x110000 := by
  unfold PySem.PyData.strOk
  rw [Array.all_eq_true_iff_forall_mem]
  simp
theorem okS_of (s : String) : PySem.PyData.strOk (PySem.Str.ofString s) = true := by
  rw [okS_iff, PySem.Str.ofString_eq_toList]
  intro c hc
  simp only [List.mem_map] at hc
  obtain ⟨k, _, rfl⟩ := hc
  rcases k.valid with h | h
  · exact Nat.lt_trans h (by decide)
  · exact h.2
mutual
/-- no texts -/
def noS : D → Bool
  | .str _ => false
  | .tup xs => noSs xs
  | .lst xs => noSs xs
  | _ => true
def noSs : List D → Bool
  | [] => true
  | x :: xs => noS x && noSs xs
end
/-- what can be shown: bounds that add up -/
structure Rk (c n : Nat) (d : D) : Prop where
  ok : okD d = true
  dp : dep d ≤ n
  lv : lvB 8 d = true
  bk : blk d ≤ c
  ns : noS d = true
theorem Rk.mono {c n c' n' : Nat} {d : D} (h : Rk c n d) (h1 : c ≤ c') (h2 : n ≤ n') : Rk c' n' d := ⟨h.ok, Nat.le_trans h.dp h2, h.lv, Nat.le_trans h.bk h1, h.ns⟩
theorem rk_int {i : Int} (h : i.natAbs < 10 ^ 8) : Rk 0 0 (.int i) := ⟨rfl, Nat.le_refl _, by simp only [lvB]; exact decide_eq_true h, Nat.le_refl _, rfl⟩
theorem rk_all {c n : Nat} : ∀ {xs : List D}, (∀ x ∈ xs, Rk c n x) → okDs xs = true ∧ deps xs ≤ n ∧ lvBs 8 xs = true ∧ blks xs ≤ (c + 1) * xs.length ∧ noSs xs = true
  | [], _ => ⟨rfl, Nat.zero_le _, rfl, Nat.le_refl _, rfl⟩
  | x :: xs, h => by
    obtain ⟨h1, h2, h3, h4, h5⟩ := h x List.mem_cons_self
    obtain ⟨k1, k2, k3, k4, k5⟩ := rk_all fun q hq => h q (List.mem_cons_of_mem _ hq)
    refine ⟨by simp only [okDs, h1, k1, Bool.and_self], by simp only [deps]; omega, by simp only [lvBs, h3, k3, Bool.and_self], ?_, by simp only [noSs, h5, k5, Bool.and_self]⟩
    simp only [blks, List.length_cons, Nat.mul_succ]; omega
theorem rk_tup {c n m : Nat} {xs : List D} (l : xs.length ≤ m) (h : ∀ x ∈ xs, Rk c n x) : Rk ((c + 1) * m) (n + 1) (.tup xs) := by
  obtain ⟨k1, k2, k3, k4, k5⟩ := rk_all h
  have := Nat.mul_le_mul_left (c + 1) l
  exact ⟨by simp only [okD]; exact k1, by simp only [dep]; omega, by simp only [lvB]; exact k3, by simp only [blk]; omega, by simp only [noS]; exact k5⟩
theorem rk_lst {c n m : Nat} {xs : List D} (l : xs.length ≤ m) (h : ∀ x ∈ xs, Rk c n x) : Rk ((c + 1) * m) (n + 1) (.lst xs) := by
  obtain ⟨k1, k2, k3, k4, k5⟩ := rk_all h
  have := Nat.mul_le_mul_left (c + 1) l
  exact ⟨by simp only [okD]; exact k1, by simp only [dep]; omega, by simp only [lvB]; exact k3, by simp only [blk]; omega, by simp only [noS]; exact k5⟩
/-- words and a seven behind them -/
def w7 (Z : List BW) : List D := Z.map rB ++ [.int 7]
theorem dd_w7 {G : Hd} : ∀ Z : List BW, Dds G (w7 Z) (w7 Z)
  | [] => .cons (.int _) .nil
  | z :: Z => .cons (rB_dd z) (dd_w7 Z)
theorem dds_get {G : Hd} : ∀ {xs ds : List D}, xs.length = ds.length → (∀ (i : Nat) x d, xs[i]? = some x → ds[i]? = some d → Dd G x d) → Dds G xs ds
  | [], [], _, _ => .nil
  | [], _ :: _, h, _ => by simp at h
  | _ :: _, [], h, _ => by simp at h
  | x :: xs, d :: ds, h, k => .cons (k 0 x d rfl rfl) (dds_get (by simpa using h) fun i y e h1 h2 => k (i + 1) y e (by simpa using h1) (by simpa using h2))
structure HeldAt (G : Hd) (h : Addr) (as : List Addr) (F : Nat → List BW) (n : Nat) : Prop where
  l : as.length = n
  h : G h = some (.lst (as.map .ref))
  at_ : ∀ (i : Nat) a, as[i]? = some a → G a = some (.lst (w7 (F i)))
def heldD (F : Nat → List BW) (n : Nat) : D := .lst ((List.range n).map fun i => .lst (w7 (F i)))
theorem HeldAt.dd {G : Hd} {h : Addr} {as : List Addr} {F : Nat → List BW} {n : Nat} (t : HeldAt G h as F n) : Dd G (.ref h) (heldD F n) := .lst t.h (dds_get (by rw [List.length_map, List.length_map, List.length_range]; exact t.l) fun i x d h1 h2 => by
  rw [List.getElem?_map] at h1 h2
  obtain ⟨a, ea, rfl⟩ := Option.map_eq_some_iff.mp h1
  obtain ⟨j, ej, rfl⟩ := Option.map_eq_some_iff.mp h2
  have : j = i := by
    have hi : i < n := by have := (List.getElem?_eq_some_iff.mp ej).1; simpa using this
    rw [List.getElem?_range hi] at ej
    exact (Option.some.inj ej).symm
  subst this
  exact .lst (t.at_ j a ea) (dd_w7 _))
theorem HeldAt.xt {G G' : Hd} {h : Addr} {as : List Addr} {F : Nat → List BW} {n : Nat} {bs : List Addr} (t : HeldAt G h as F n) (x : Xt bs G G') (n1 : h ∉ bs) (n2 : ∀ a ∈ as, a ∉ bs) : HeldAt G' h as F n :=
  ⟨t.l, x.get n1 t.h, fun i a e => x.get (n2 a (List.mem_of_getElem? e)) (t.at_ i a e)⟩
end S
set_option Elab.async false
set_option linter.all false
set_option maxRecDepth 100000
set_option maxHeartbeats 4000000
namespace S
open PySem PySem.Spec L2
open PyProof.Rows hiding St
local macro_rules | `(tactic| walk_at "e") => `(tactic| try simp only [fld_eq, fld_r, setf_eq, setf_r, meth_eq, mth_r, dMake, dDict1, extD_t, extD_rr, eqR_ti, eqR_t0, slD_ti, lenD_ti, addD_ti1, addD_ti, ixD_ti, setD_ti, extD_ti, tupleD_ti, listD_ti, ixD_tii, itv_ti, dSeq, dNext, dRet, dRetN, dIf, dAsg, dAug, dDrop, par_eq, prs_2, par3_eq, prs3_3, dBreak, dCont, dgName, dgSub, gTup_t, gCons_c, gNil_n, dFor_eq, dLc_eq, dVar, dC, dOp, dUn, dBi, dCall, dCons, dNil, dTup, dLst, dSl, part_eq, prt_i, dNoPart, dAndV, dOrV, dNotV, dB, dAnd, dOr, dNot, dIfE, dChain, itv_eq, itv_t, itv_r, dRng, dWalk, dBm, rng1_i, rng2_i, rng3_i, enumR_r, enumR_t, gTup_r, tr_n, tr_t, dLitE, zipR_r, zipR_t,
  BI.r, addD_i, addD_s, addD_t, addD_r, subD_i, mulD_i, mulD_r, mulD_t, modD_i, divD_i, powD_i, ltD_i, leD_i, gtD_i, geD_i, incD_i, negD_i, lr1_i, lr2_i, revD_r, isND_n, isNon, ixD_t, ixD_r, ixD_d, setD_d, dDnew, itk_eq, itk_r, dDm, getD_r, ditD_r, dItI, iti_r, listK_r, sortedD_r, ixK_t, ixK_r, ixK_l, dKnew, dItJ, itj_r, dKm, getK_r, sdfK_r, dikD_r, sortedJ_r, sortedG_r, dBm0, clearD_r, revsD_r, dChain3, ixD_l, ixD_s, slD_t, slD_r, slD_s, setD_r, lenD_s, lenD_t, lenD_l, lenD_r, isiD_1, isiD_n, listD_t, listD_r, tupleD_t, tupleD_r, allD_r, anyD_r, sumD_r, maxD_r, maxD_t, minD_t, minLD_r, maxLD_r, sumLD_2, sumLD_1, minDf_r, maxD_2, minD_r, minD_2, absD_i, intB_i, intB_b, intB_s, itv_s, mulD_s, inD_s, tyD_s, joinD_r, splitD_s, partD_s, stripD_s, findD_s, countT_s, indexT_s, fmtD_s, fmtD_i, dFmt, jsD_s, js_nil, js_cons, strOf_i, strOf_s, appD_r, startD, wipeD,
  List.map_cons, List.map_nil, rep_z, rep_s, List.length_cons, List.length_nil, List.cons_append, List.nil_append, List.append_nil, List.getElem?_cons_zero, List.getElem?_cons_succ, List.set_cons_zero, List.set_cons_succ, Option.some.injEq, exists_eq_left', exists_eq_left, D.bl.injEq, D.int.injEq, D.tup.injEq, D.ref.injEq, true_and, and_true, Nat.reduceAdd, Nat.reduceSub, Nat.add_sub_cancel_left, exists_const, br_t, br_f, eqR_int, eqR_bl, Bool.false_bne, Bool.true_bne, Bool.false_xor, Bool.true_xor, Bool.not_true, Bool.not_false, Bool.not_not, ite_true, ite_false, Bool.true_eq_false, false_implies, decide_true, decide_false, tc_int, tc_bool, tc_str, tc_tup, tc_lst, tc_non, tc_dic, ln0, ln1, ln2, ln3, ln4, ln5, ln6, ln7, ln8, ln9, ln10, ln11, ln12, ln13, ln14, ln15, ln16, ln17, ln18, ln19, ln20, ln21, ln22, ln23, ln24, ln25, ln26, ln27, ln28, ln29, ln30, ln31, ln32, ln33, ln34, ln35, ln36, ln37, ln38, ln39, ln40, ln41, ln42, ln43, ln44, ln45, ln46, ln47, ln48, ln49, ln50, ln51, ln52, ln53, ln54, ln55, ln56, ln57, ln58, ln59, ln60])
local macro_rules | `(tactic| walk_at "g") => `(tactic| try simp only [st_same, st_st, GO.lst.injEq, Option.some.injEq, exists_eq_left', exists_eq_left, atI_0, atI_1, atI_2, atI_3, ixN_0, ixN_1, ixN_2, ixN_3, List.set_cons_zero, List.set_cons_succ, List.length_cons, List.length_nil, List.length_append, List.cons_append, List.nil_append, true_and, and_true, seq_st])
/-! ## texts of numbers, pieces, commits -/
theorem tl_join' (y : Str) (ps : List Str) : TL.tl (Txt.join y ps) = TL.joinL (TL.tl y) (ps.map TL.tl) := by rw [TL.join_eq, TL.tl_join]
theorem mem_joinL {S : List Nat} {c : Nat} : ∀ {ps : List (List Nat)}, c ∈ TL.joinL S ps → (∃ p ∈ ps, c ∈ p) ∨ c ∈ S
  | [], h => by cases h
  | [p], h => .inl ⟨p, List.mem_cons_self, h⟩
  | p :: q :: r, h => by
    unfold TL.joinL at h
    rcases List.mem_append.mp h with h | h
    · exact .inl ⟨p, List.mem_cons_self, h⟩
    rcases List.mem_append.mp h with h | h
    · exact .inr h
    rcases mem_joinL h with ⟨z, hz, hc⟩ | h
    · exact .inl ⟨z, List.mem_cons_of_mem _ hz, hc⟩
    · exact .inr h
theorem len_joinL {S : List Nat} : ∀ (ps : List (List Nat)), (TL.joinL S ps).length ≤ (ps.map fun p => p.length + S.length).sum
  | [] => Nat.le_refl _
  | [p] => by unfold TL.joinL; simp
  | p :: q :: r => by
    have := len_joinL (S := S) (q :: r)
    unfold TL.joinL
    rw [List.length_append, List.length_append, List.map_cons, List.sum_cons]
    omega
theorem sum_le {α : Type} {f : α → Nat} {B : Nat} : ∀ {l : List α}, (∀ x ∈ l, f x ≤ B) → (l.map f).sum ≤ l.length * B
  | [], _ => by simp
  | x :: l, h => by
    have h1 := h x List.mem_cons_self
    have h2 := sum_le (l := l) fun y hy => h y (List.mem_cons_of_mem _ hy)
    rw [List.map_cons, List.sum_cons, List.length_cons, Nat.add_mul, Nat.one_mul]
    omega
theorem len_join {y : Str} {ps : List Str} {B : Nat} (h : ∀ p ∈ ps, p.length ≤ B) : (Txt.join y ps).length ≤ ps.length * (B + y.length) := by
  rw [TL.len_tl, tl_join']
  refine Nat.le_trans (len_joinL _) ?_
  have := sum_le (f := fun p : List Nat => p.length + (TL.tl y).length) (B := B + y.length) (l := ps.map TL.tl) fun x hx => by
    obtain ⟨p, hp, rfl⟩ := List.mem_map.mp hx
    have := h p hp
    rw [TL.len_tl] at this
    rw [TL.len_tl]
    show (TL.tl p).length + _ ≤ _
    omega
  rwa [List.length_map] at this
/-- what a join asks -/
theorem join_fits {y : Str} {ps : List Str} {B : Nat} (h : ∀ p ∈ ps, p.length ≤ B) (hz : ps.length * (B + y.length) ≤ 16777216) : (ps.map (·.length)).sum + ps.length * y.length ≤ 16777216 := by
  have := sum_le (f := fun p : Str => p.length) h
  rw [Nat.mul_add] at hz
  omega
theorem len_app (a b : Str) : (a ++ b).length = a.length + b.length := by rw [TL.len_tl, TL.tl_append, List.length_append, ← TL.len_tl, ← TL.len_tl]
/-- figures, and some other signs -/
def Sg (S : List Nat) (z : Str) : Prop := ∀ c ∈ TL.tl z, (48 ≤ c ∧ c ≤ 57) ∨ c ∈ S
theorem Sg.mono {S S' : List Nat} {z : Str} (h : Sg S z) (m : ∀ c ∈ S, c ∈ S') : Sg S' z := fun c hc => (h c hc).imp id (m c)
theorem Sg.free {S : List Nat} {z : Str} {s : Nat} (h : Sg S z) (n : s ∉ S) (r : s < 48 ∨ 57 < s) : s ∉ TL.tl z := fun hc => by
  rcases h s hc with h | h
  · omega
  · exact n h
theorem Sg.join {S : List Nat} {y : Str} {ps : List Str} (h : ∀ p ∈ ps, Sg S p) (hy : ∀ c ∈ TL.tl y, c ∈ S) : Sg S (Txt.join y ps) := fun c hc => by
  rw [tl_join'] at hc
  rcases mem_joinL hc with ⟨p, hp, hc⟩ | hc
  · obtain ⟨z, hz, rfl⟩ := List.mem_map.mp hp
    exact h z hz c hc
  · exact .inr (hy c hc)
/-- signs that a text may hold -/
def Tx (z : Str) : Prop := ∀ c ∈ TL.tl z, c < 1114112
theorem Tx.ok {z : Str} (h : Tx z) : PySem.PyData.strOk z = true := okS_iff.mpr h
theorem tx_of (s : String) : Tx (Str.ofString s) := okS_iff.mp (okS_of s)
theorem Sg.tx {S : List Nat} {z : Str} (h : Sg S z) (m : ∀ c ∈ S, c < 1114112) : Tx z := fun c hc => by
  rcases h c hc with h | h
  · omega
  · exact m c h
def numT (i : Int) : Str := Str.ofString (toString i)
theorem tl_numT {i : Int} (h : 0 ≤ i) : TL.tl (numT i) = TL.numL i.toNat := by
  obtain ⟨n, rfl⟩ := Int.eq_ofNat_of_zero_le h
  exact TL.tl_num n
theorem len_numT {i : Int} {k : Nat} (h : 0 ≤ i) (hk : 0 < k) (hi : i.toNat < 10 ^ k) : (numT i).length ≤ k := by
  rw [TL.len_tl, tl_numT h]
  exact TL.numL_len hk hi
theorem len_numT0 {i : Int} (h : 0 ≤ i) : 1 ≤ (numT i).length := by
  rw [TL.len_tl, tl_numT h]
  have := TL.numL_ne i.toNat
  cases e : TL.numL i.toNat with
  | nil => exact absurd e this
  | cons => simp
theorem sg_num {i : Int} (h : 0 ≤ i) : Sg [] (numT i) := fun c hc => by
  rw [tl_numT h] at hc
  exact .inl (TL.numL_digits _ c hc)
/-- numbers of at most six figures -/
def N6 (ns : List Int) : Prop := ∀ z ∈ ns, 0 ≤ z ∧ z < 1000000
theorem len_num6 {i : Int} (h : 0 ≤ i ∧ i < 1000000) : (numT i).length ≤ 6 := len_numT h.1 (by decide) (by omega)
def dotsT (ns : List Int) : Str := Txt.join (Str.ofString ".") (ns.map numT)
theorem sg_dots {ns : List Int} (h : N6 ns) : Sg [46] (dotsT ns) := Sg.join (fun p hp => by
  obtain ⟨i, hi, rfl⟩ := List.mem_map.mp hp
  exact (sg_num (h i hi).1).mono (by simp)) (by rw [TL.tl_ofString]; decide)
theorem len_dots {ns : List Int} (h : N6 ns) : (dotsT ns).length ≤ ns.length * 7 := by
  have := len_join (y := Str.ofString ".") (ps := ns.map numT) (B := 6) fun p hp => by
    obtain ⟨i, hi, rfl⟩ := List.mem_map.mp hp
    exact len_num6 (h i hi)
  rwa [List.length_map] at this
structure Pc.V (p : Pc) : Prop where
  l1 : 1 ≤ p.signs.length
  l2 : p.signs.length ≤ 24
  sg : ∀ z ∈ p.signs, 0 ≤ z ∧ z < 1040
  kd : 0 ≤ p.kind ∧ p.kind < 9
  co : 0 ≤ p.cost ∧ p.cost < 100000
  at_ : 0 ≤ p.at_ ∧ p.at_ ≤ 24
def pieceT (p : Pc) : Str := Txt.join (Str.ofString ":") [numT p.at_, dotsT p.signs, numT p.kind, numT p.cost]
theorem Pc.V.n6 {p : Pc} (h : p.V) : N6 p.signs := fun z hz => by have := h.sg z hz; omega
theorem sg_piece {p : Pc} (h : p.V) : Sg [46, 58] (pieceT p) := Sg.join (fun z hz => by
  simp only [List.mem_cons, List.not_mem_nil, or_false] at hz
  rcases hz with rfl | rfl | rfl | rfl
  · exact (sg_num h.at_.1).mono (by simp)
  · exact (sg_dots h.n6).mono (by simp)
  · exact (sg_num h.kd.1).mono (by simp)
  · exact (sg_num h.co.1).mono (by simp)) (by rw [TL.tl_ofString]; decide)
theorem len_piece {p : Pc} (h : p.V) : (pieceT p).length ≤ 200 := by
  have h1 := len_num6 (i := p.at_) (by have := h.at_; omega)
  have h2 := len_dots h.n6
  have h3 := len_num6 (i := p.kind) (by have := h.kd; omega)
  have h4 := len_num6 (i := p.cost) (by have := h.co; omega)
  have h5 := h.l2
  have hc : (TL.tl (Str.ofString ":")).length = 1 := by rw [TL.tl_ofString]; decide
  unfold pieceT
  rw [TL.len_tl, tl_join']
  simp only [List.map_cons, List.map_nil, TL.joinL, List.length_append, hc]
  rw [TL.len_tl] at h1 h2 h3 h4
  omega
/-- pieces one behind another, to an end -/
def chV : Int → List Pc → Int → Prop
  | p, [], e => p = e
  | p, c :: r, e => (p < c.at_ ∧ c.at_ ≤ e) ∧ c.V ∧ chV c.at_ r e
theorem chV_len : ∀ {ps : List Pc} {p e : Int}, chV p ps e → (ps.length : Int) + p ≤ e
  | [], p, e, h => by rw [show p = e from h]; simp
  | x :: ps, p, e, ⟨h1, _, h3⟩ => by
    have := chV_len h3
    rw [List.length_cons]
    omega
structure Cm.V (c : Cm) : Prop where
  l1 : 1 ≤ c.S.length
  l2 : c.S.length ≤ 24
  sg : ∀ z ∈ c.S, 0 ≤ z ∧ z < 40
  ch : chV 0 c.ps c.S.length
theorem Cm.V.lp {c : Cm} (h : c.V) : c.ps.length ≤ 24 := by have := chV_len h.ch; have := h.l2; omega
theorem Cm.V.n6 {c : Cm} (h : c.V) : N6 c.S := fun z hz => by have := h.sg z hz; omega
end S
set_option Elab.async false
set_option linter.all false
set_option maxRecDepth 100000
set_option maxHeartbeats 4000000
namespace S
open PySem PySem.Spec L2
open PyProof.Rows hiding St
local macro_rules | `(tactic| walk_at "e") => `(tactic| try simp only [fld_eq, fld_r, setf_eq, setf_r, meth_eq, mth_r, dMake, dDict1, extD_t, extD_rr, eqR_ti, eqR_t0, slD_ti, lenD_ti, addD_ti1, addD_ti, ixD_ti, setD_ti, extD_ti, tupleD_ti, listD_ti, ixD_tii, itv_ti, dSeq, dNext, dRet, dRetN, dIf, dAsg, dAug, dDrop, par_eq, prs_2, par3_eq, prs3_3, dBreak, dCont, dgName, dgSub, gTup_t, gCons_c, gNil_n, dFor_eq, dLc_eq, dVar, dC, dOp, dUn, dBi, dCall, dCons, dNil, dTup, dLst, dSl, part_eq, prt_i, dNoPart, dAndV, dOrV, dNotV, dB, dAnd, dOr, dNot, dIfE, dChain, itv_eq, itv_t, itv_r, dRng, dWalk, dBm, rng1_i, rng2_i, rng3_i, enumR_r, enumR_t, gTup_r, tr_n, tr_t, dLitE, zipR_r, zipR_t,
  BI.r, addD_i, addD_s, addD_t, addD_r, subD_i, mulD_i, mulD_r, mulD_t, modD_i, divD_i, powD_i, ltD_i, leD_i, gtD_i, geD_i, incD_i, negD_i, lr1_i, lr2_i, revD_r, isND_n, isNon, ixD_t, ixD_r, ixD_d, setD_d, dDnew, itk_eq, itk_r, dDm, getD_r, ditD_r, dItI, iti_r, listK_r, sortedD_r, ixK_t, ixK_r, ixK_l, dKnew, dItJ, itj_r, dKm, getK_r, sdfK_r, dikD_r, sortedJ_r, sortedG_r, dBm0, clearD_r, revsD_r, dChain3, ixD_l, ixD_s, slD_t, slD_r, slD_s, setD_r, lenD_s, lenD_t, lenD_l, lenD_r, isiD_1, isiD_n, listD_t, listD_r, tupleD_t, tupleD_r, allD_r, anyD_r, sumD_r, maxD_r, maxD_t, minD_t, minLD_r, maxLD_r, sumLD_2, sumLD_1, minDf_r, maxD_2, minD_r, minD_2, absD_i, intB_i, intB_b, intB_s, itv_s, mulD_s, inD_s, tyD_s, joinD_r, splitD_s, partD_s, stripD_s, findD_s, countT_s, indexT_s, fmtD_s, fmtD_i, dFmt, jsD_s, js_nil, js_cons, strOf_i, strOf_s, appD_r, startD, wipeD,
  List.map_cons, List.map_nil, rep_z, rep_s, List.length_cons, List.length_nil, List.cons_append, List.nil_append, List.append_nil, List.getElem?_cons_zero, List.getElem?_cons_succ, List.set_cons_zero, List.set_cons_succ, Option.some.injEq, exists_eq_left', exists_eq_left, D.bl.injEq, D.int.injEq, D.tup.injEq, D.ref.injEq, true_and, and_true, Nat.reduceAdd, Nat.reduceSub, Nat.add_sub_cancel_left, exists_const, br_t, br_f, eqR_int, eqR_bl, Bool.false_bne, Bool.true_bne, Bool.false_xor, Bool.true_xor, Bool.not_true, Bool.not_false, Bool.not_not, ite_true, ite_false, Bool.true_eq_false, false_implies, decide_true, decide_false, tc_int, tc_bool, tc_str, tc_tup, tc_lst, tc_non, tc_dic, ln0, ln1, ln2, ln3, ln4, ln5, ln6, ln7, ln8, ln9, ln10, ln11, ln12, ln13, ln14, ln15, ln16, ln17, ln18, ln19, ln20, ln21, ln22, ln23, ln24, ln25, ln26, ln27, ln28, ln29, ln30, ln31, ln32, ln33, ln34, ln35, ln36, ln37, ln38, ln39, ln40, ln41, ln42, ln43, ln44, ln45, ln46, ln47, ln48, ln49, ln50, ln51, ln52, ln53, ln54, ln55, ln56, ln57, ln58, ln59, ln60])
local macro_rules | `(tactic| walk_at "g") => `(tactic| try simp only [st_same, st_st, GO.lst.injEq, Option.some.injEq, exists_eq_left', exists_eq_left, atI_0, atI_1, atI_2, atI_3, ixN_0, ixN_1, ixN_2, ixN_3, List.set_cons_zero, List.set_cons_succ, List.length_cons, List.length_nil, List.length_append, List.cons_append, List.nil_append, true_and, and_true, seq_st])
/-! ## texts read back -/
theorem tl_dot : TL.tl (Str.ofString ".") = [46] := by rw [TL.tl_ofString]; decide
theorem tl_colon : TL.tl (Str.ofString ":") = [58] := by rw [TL.tl_ofString]; decide
theorem tl_none : TL.tl (Str.ofString "") = [] := by rw [TL.tl_ofString]; decide
theorem split_one {y : Str} {s : Nat} (ey : TL.tl y = [s]) (hs : s < 256) {ps : List Str} (hne : ps ≠ []) (hp : ∀ p ∈ ps, s ∉ TL.tl p) : Txt.split (Txt.join y ps) y = ps :=
  TL.split_join (S := []) ey (by
    have : y.cps = #[s] := by rw [← Array.toList_inj]; exact ey
    rw [this]; simp [hs]) hne hp
theorem split_dots {ns : List Int} (h : ∀ z ∈ ns, 0 ≤ z) (l : ns ≠ []) : Txt.split (dotsT ns) (Str.ofString ".") = ns.map numT :=
  split_one tl_dot (by decide) (fun e => l (List.map_eq_nil_iff.mp e)) fun p hp => by
    obtain ⟨i, hi, rfl⟩ := List.mem_map.mp hp
    exact (sg_num (h i hi)).free (by simp) (by decide)
/-- a word's number -/
def figs : List Nat := (Str.ofString "0123456789").cps.toList
theorem mem_figs {c : Nat} : c ∈ figs ↔ 48 ≤ c ∧ c ≤ 57 := by
  have e : figs = [48, 49, 50, 51, 52, 53, 54, 55, 56, 57] := by unfold figs; decide
  rw [e]
  simp only [List.mem_cons, List.not_mem_nil, or_false]
  omega
def figB (z : Str) : Bool := (TL.tl z).all fun c => decide (c ∈ figs)
theorem figB_iff {z : Str} : figB z = true ↔ NumText.AllDigits (TL.tl z) := by
  unfold figB
  rw [List.all_eq_true]
  exact ⟨fun h c hc => mem_figs.mp (of_decide_eq_true (h c hc)), fun h c hc => decide_eq_true (mem_figs.mpr (h c hc))⟩
def valT' (z : Str) : Int := ((NumText.digitsVal (TL.tl z) : Nat) : Int)
theorem int_figs {z : Str} (h : figB z = true) (l : 1 ≤ z.length) (l2 : z.length ≤ 640) : PySem.intText? z = some (valT' z) :=
  PySem.intText_digits (figB_iff.mp h) (fun e => by rw [TL.len_tl, show TL.tl z = [] from e] at l; simp at l) (by omega)
def numberV (z : Str) : Option Int := if 1 ≤ z.length ∧ z.length ≤ 5 ∧ figB z = true then some (valT' z) else none
theorem figB_num {i : Int} (h : 0 ≤ i) : figB (numT i) = true := figB_iff.mpr (by rw [tl_numT h]; exact TL.numL_digits _)
theorem val_num {i : Int} (h : 0 ≤ i) : valT' (numT i) = i := by
  unfold valT'
  rw [tl_numT h, TL.numL_val]
  exact Int.toNat_of_nonneg h
theorem number_num {i : Int} (h : 0 ≤ i) (l : i < 100000) : numberV (numT i) = some i := by
  unfold numberV
  rw [if_pos ⟨len_numT0 h, len_numT (k := 5) h (by decide) (by omega), figB_num h⟩, val_num h]
def optI : Option Int → D
  | none => .non
  | some i => .int i
def numbersV (z : Str) : D := .tup ((Txt.split z (Str.ofString ".")).map fun p => optI (numberV p))
theorem numbers_dots {ns : List Int} (h : ∀ z ∈ ns, 0 ≤ z ∧ z < 100000) (l : ns ≠ []) : numbersV (dotsT ns) = .tup (ns.map .int) := by
  unfold numbersV
  rw [split_dots (fun z hz => (h z hz).1) l, List.map_map]
  congr 1
  refine List.map_congr_left fun i hi => ?_
  show optI (numberV (numT i)) = _
  rw [number_num (h i hi).1 (h i hi).2]; rfl
/-! what a commit's look says -/
theorem from_of {l m : Int} {d : D} (h : fromV l m d = true) : ∃ i, d = .int i ∧ l ≤ i ∧ i ≤ m := by
  cases d <;> first | cases h | skip
  rename_i i
  simp only [fromV, Bool.and_eq_true, decide_eq_true_eq] at h
  exact ⟨i, rfl, h⟩
theorem row_of {l m t : Int} {d : D} (h : rowV l m t d = true) : ∃ ns : List Int, d = .tup (ns.map .int) ∧ l ≤ ns.length ∧ (ns.length : Int) ≤ m ∧ ∀ z ∈ ns, 0 ≤ z ∧ z ≤ t := by
  cases d <;> first | cases h | skip
  rename_i xs
  simp only [rowV, Bool.and_eq_true, decide_eq_true_eq, List.all_eq_true] at h
  obtain ⟨⟨h1, h2⟩, h3⟩ := h
  obtain ⟨zs, rfl, hz⟩ := ints_of (P := fun z => 0 ≤ z ∧ z ≤ t) (ys := xs) fun i y e => from_of (h3 y (List.mem_of_getElem? e))
  rw [List.length_map] at h1 h2
  exact ⟨zs, rfl, h1, h2, hz⟩
theorem fromV_of {l m i : Int} (h : l ≤ i) (h2 : i ≤ m) : fromV l m (.int i) = true := by simp [fromV, h, h2]
theorem rowV_of {l m t : Int} {ns : List Int} (h1 : l ≤ ns.length) (h2 : (ns.length : Int) ≤ m) (h : ∀ z ∈ ns, 0 ≤ z ∧ z ≤ t) : rowV l m t (.tup (ns.map .int)) = true := by
  simp only [rowV, Bool.and_eq_true, decide_eq_true_eq, List.all_eq_true, List.length_map]
  refine ⟨⟨h1, h2⟩, fun y hy => ?_⟩
  obtain ⟨z, hz, rfl⟩ := List.mem_map.mp hy
  exact fromV_of (h z hz).1 (h z hz).2
/-! rows one behind the other -/
end S
set_option Elab.async false
set_option linter.all false
set_option maxRecDepth 100000
set_option maxHeartbeats 4000000
namespace S
open PySem PySem.Spec L2
open PyProof.Rows hiding St
local macro_rules | `(tactic| walk_at "e") => `(tactic| try simp only [fld_eq, fld_r, setf_eq, setf_r, meth_eq, mth_r, dMake, dDict1, extD_t, extD_rr, eqR_ti, eqR_t0, slD_ti, lenD_ti, addD_ti1, addD_ti, ixD_ti, setD_ti, extD_ti, tupleD_ti, listD_ti, ixD_tii, itv_ti, dSeq, dNext, dRet, dRetN, dIf, dAsg, dAug, dDrop, par_eq, prs_2, par3_eq, prs3_3, dBreak, dCont, dgName, dgSub, gTup_t, gCons_c, gNil_n, dFor_eq, dLc_eq, dVar, dC, dOp, dUn, dBi, dCall, dCons, dNil, dTup, dLst, dSl, part_eq, prt_i, dNoPart, dAndV, dOrV, dNotV, dB, dAnd, dOr, dNot, dIfE, dChain, itv_eq, itv_t, itv_r, dRng, dWalk, dBm, rng1_i, rng2_i, rng3_i, enumR_r, enumR_t, gTup_r, tr_n, tr_t, dLitE, zipR_r, zipR_t,
  BI.r, addD_i, addD_s, addD_t, addD_r, subD_i, mulD_i, mulD_r, mulD_t, modD_i, divD_i, powD_i, ltD_i, leD_i, gtD_i, geD_i, incD_i, negD_i, lr1_i, lr2_i, revD_r, isND_n, isNon, ixD_t, ixD_r, ixD_d, setD_d, dDnew, itk_eq, itk_r, dDm, getD_r, ditD_r, dItI, iti_r, listK_r, sortedD_r, ixK_t, ixK_r, ixK_l, dKnew, dItJ, itj_r, dKm, getK_r, sdfK_r, dikD_r, sortedJ_r, sortedG_r, dBm0, clearD_r, revsD_r, dChain3, ixD_l, ixD_s, slD_t, slD_r, slD_s, setD_r, lenD_s, lenD_t, lenD_l, lenD_r, isiD_1, isiD_n, listD_t, listD_r, tupleD_t, tupleD_r, allD_r, anyD_r, sumD_r, maxD_r, maxD_t, minD_t, minLD_r, maxLD_r, sumLD_2, sumLD_1, minDf_r, maxD_2, minD_r, minD_2, absD_i, intB_i, intB_b, intB_s, itv_s, mulD_s, inD_s, tyD_s, joinD_r, splitD_s, partD_s, stripD_s, findD_s, countT_s, indexT_s, fmtD_s, fmtD_i, dFmt, jsD_s, js_nil, js_cons, strOf_i, strOf_s, appD_r, startD, wipeD,
  List.map_cons, List.map_nil, rep_z, rep_s, List.length_cons, List.length_nil, List.cons_append, List.nil_append, List.append_nil, List.getElem?_cons_zero, List.getElem?_cons_succ, List.set_cons_zero, List.set_cons_succ, Option.some.injEq, exists_eq_left', exists_eq_left, D.bl.injEq, D.int.injEq, D.tup.injEq, D.ref.injEq, true_and, and_true, Nat.reduceAdd, Nat.reduceSub, Nat.add_sub_cancel_left, exists_const, br_t, br_f, eqR_int, eqR_bl, Bool.false_bne, Bool.true_bne, Bool.false_xor, Bool.true_xor, Bool.not_true, Bool.not_false, Bool.not_not, ite_true, ite_false, Bool.true_eq_false, false_implies, decide_true, decide_false, tc_int, tc_bool, tc_str, tc_tup, tc_lst, tc_non, tc_dic, ln0, ln1, ln2, ln3, ln4, ln5, ln6, ln7, ln8, ln9, ln10, ln11, ln12, ln13, ln14, ln15, ln16, ln17, ln18, ln19, ln20, ln21, ln22, ln23, ln24, ln25, ln26, ln27, ln28, ln29, ln30, ln31, ln32, ln33, ln34, ln35, ln36, ln37, ln38, ln39, ln40, ln41, ln42, ln43, ln44, ln45, ln46, ln47, ln48, ln49, ln50, ln51, ln52, ln53, ln54, ln55, ln56, ln57, ln58, ln59, ln60])
local macro_rules | `(tactic| walk_at "g") => `(tactic| try simp only [st_same, st_st, GO.lst.injEq, Option.some.injEq, exists_eq_left', exists_eq_left, atI_0, atI_1, atI_2, atI_3, ixN_0, ixN_1, ixN_2, ixN_3, List.set_cons_zero, List.set_cons_succ, List.length_cons, List.length_nil, List.length_append, List.cons_append, List.nil_append, true_and, and_true, seq_st])
/-! ## the journal's functions walked -/
theorem n500 {i : Int} (h : 0 ≤ i) (h2 : i < 1000000) : i.natAbs < 10 ^ 500 := Nat.lt_of_lt_of_le (show i.natAbs < 10 ^ 6 by omega) (Nat.pow_le_pow_right (by decide) (by decide))
/-- a list or a tuple -/
def SqA (G : Hd) (x : D) (xs : List D) : Prop := x = .tup xs ∨ ∃ a, x = .ref a ∧ seqG G a xs
theorem SqA.ext {G G' : Hd} {x : D} {xs : List D} (h : SqA G x xs) (e : Ext G G') : SqA G' x xs := by
  rcases h with h | ⟨a, rfl, h⟩
  · exact .inl h
  · exact .inr ⟨a, rfl, h.imp e.at e.at⟩
theorem itv_sq {G : Hd} {x : D} {xs : List D} {R : List D → (Hd → Prop) → Hd → Prop} (h : SqA G x xs) (q : ∀ stay : Hd → Prop, (∀ G', Ext G G' → stay G') → R xs stay G) : itv x G R := by
  rcases h with rfl | ⟨a, rfl, h⟩
  · exact q _ fun _ _ => trivial
  · exact ⟨xs, h, q _ fun G' e => h.imp e.at e.at⟩
def sp_with_dots : DSp := fun ds G q _ => ∃ x ns, ds = [x] ∧ SqA G x (ns.map .int) ∧ ns.length ≤ 1000 ∧ N6 ns ∧ ∀ G', Ext G G' → q (.str (dotsT ns)) G'
def N_with_dots : List Str := ["numbers", "number"]
def P_with_dots : List Str := ["numbers"]
def t_with_dots : TSd := dRet (dBm "str" joinD (dC (.str ".")) (dCons (dLc (dItV (dVar 0)) (dgName 1) dYes (dBi (BI.r .str) (dCons (dVar 1) (dNil))) [1]) (dNil)))
def gl_with_dots : List (Str × GI) := [("str", .bi .str)]
theorem len_with_dots : ∀ ds G q x, sp_with_dots ds G q x → ds.length = P_with_dots.length := by
  rintro _ _ _ _ ⟨x, ns, rfl, _⟩; rfl
theorem b_with_dots : Body t_with_dots N_with_dots sp_with_dots := by
  rintro ds G q x ⟨x, ns, rfl, sx, ln, h6, hq⟩
  unfold t_with_dots N_with_dots
  walk_at "e"
  refine itv_sq sx fun stay hs => ?_
  refine lcR_valM ns D.int (fun i => D.str (numT i)) (by omega) hs (fun i hi G' Q' x kk => ?_) fun p G1 hp x1 e1 => ?_
  · walk_at "e"
    exact ⟨n500 (h6 i hi).1 (h6 i hi).2, kk _ .refl⟩
  walk_at "e"
  refine ⟨ns.map numT, .inl (by rw [e1, List.map_map]; rfl), join_fits (B := 6) (fun z hz => ?_) ?_, hq _ x1⟩
  · obtain ⟨i, hi, rfl⟩ := List.mem_map.mp hz
    exact len_num6 (h6 i hi)
  · rw [List.length_map, show (Str.ofString ".").length = 1 by decide]; omega
def sp_piece_text : DSp := fun ds G q _ => ∃ p : Pc, ds = [p.d] ∧ p.V ∧ ∀ G', Ext G G' → q (.str (pieceT p)) G'
def N_piece_text : List Str := ["piece", "end", "signs", "kind", "cost"]
def P_piece_text : List Str := ["piece"]
def t_piece_text : TSd := dSeq (dAsg (dVar 0) (dgTup 4 (dgCons (dgName 1) (dgCons (dgName 2) (dgCons (dgName 3) (dgCons (dgName 4) (dgNil))))))) (dRet (dJs [dFmt (dVar 1), dC (.str ":"), dFmt (dCall sp_with_dots (dCons (dVar 2) (dNil))), dC (.str ":"), dFmt (dVar 3), dC (.str ":"), dFmt (dVar 4)] Str.empty))
def gl_piece_text : List (Str × GI) := [("with_dots", .fn sp_with_dots)]
theorem len_piece_text : ∀ ds G q x, sp_piece_text ds G q x → ds.length = P_piece_text.length := by
  rintro _ _ _ _ ⟨p, rfl, _⟩; rfl
theorem b_piece_text : Body t_piece_text N_piece_text sp_piece_text := by
  rintro ds G q x ⟨p, rfl, pv, hq⟩
  have l1 := len_num6 (i := p.at_) (by have := pv.at_; omega)
  have l2 := len_dots pv.n6
  have l3 := len_num6 (i := p.kind) (by have := pv.kd; omega)
  have l4 := len_num6 (i := p.cost) (by have := pv.co; omega)
  have l5 := pv.l2
  have lc : (Str.ofString ":").length = 1 := by decide
  have le : Str.empty.length = 0 := rfl
  have n1 := n500 (i := p.at_) (by have := pv.at_; omega) (by have := pv.at_; omega)
  have n3 := n500 (i := p.kind) (by have := pv.kd; omega) (by have := pv.kd; omega)
  have n4 := n500 (i := p.cost) (by have := pv.co; omega) (by have := pv.co; omega)
  have e : ((((((Str.empty ++ numT p.at_) ++ Str.ofString ":") ++ dotsT p.signs) ++ Str.ofString ":") ++ numT p.kind) ++ Str.ofString ":") ++ numT p.cost = pieceT p := TL.ext_tl (by
    unfold pieceT
    rw [tl_join']
    simp only [TL.tl_append, List.map_cons, List.map_nil, TL.joinL, List.append_assoc]
    rfl)
  unfold t_piece_text N_piece_text Pc.d
  walk_at "e"
  refine ⟨n1, ?_⟩
  rw [show Str.ofString (toString p.at_) = numT p.at_ from rfl]
  refine ⟨line_le (by simp only [len_app, lc, le]; omega), line_le (by simp only [len_app, lc, le]; omega), p.signs.map D.int |> D.tup, p.signs, rfl, .inl rfl, by omega, pv.n6, fun G1 x1 => ?_⟩
  walk_at "e"
  refine ⟨line_le (by omega), line_le (by simp only [len_app, lc, le]; omega), line_le (by simp only [len_app, lc, le]; omega), n3, ?_⟩
  rw [show Str.ofString (toString p.kind) = numT p.kind from rfl]
  refine ⟨line_le (by simp only [len_app, lc, le]; omega), line_le (by simp only [len_app, lc, le]; omega), n4, ?_⟩
  rw [show Str.ofString (toString p.cost) = numT p.cost from rfl, e]
  refine ⟨line_le (by have := len_piece pv; omega), ?_⟩
  exact hq _ x1
end S
set_option Elab.async false
set_option linter.all false
set_option maxRecDepth 100000
set_option maxHeartbeats 4000000
namespace S
open PySem PySem.Spec L2
open PyProof.Rows hiding St
local macro_rules | `(tactic| walk_at "e") => `(tactic| try simp only [fld_eq, fld_r, setf_eq, setf_r, meth_eq, mth_r, dMake, dDict1, extD_t, extD_rr, eqR_ti, eqR_t0, slD_ti, lenD_ti, addD_ti1, addD_ti, ixD_ti, setD_ti, extD_ti, tupleD_ti, listD_ti, ixD_tii, itv_ti, dSeq, dNext, dRet, dRetN, dIf, dAsg, dAug, dDrop, par_eq, prs_2, par3_eq, prs3_3, dBreak, dCont, dgName, dgSub, gTup_t, gCons_c, gNil_n, dFor_eq, dLc_eq, dVar, dC, dOp, dUn, dBi, dCall, dCons, dNil, dTup, dLst, dSl, part_eq, prt_i, dNoPart, dAndV, dOrV, dNotV, dB, dAnd, dOr, dNot, dIfE, dChain, itv_eq, itv_t, itv_r, dRng, dWalk, dBm, rng1_i, rng2_i, rng3_i, enumR_r, enumR_t, gTup_r, tr_n, tr_t, dLitE, zipR_r, zipR_t,
  BI.r, addD_i, addD_s, addD_t, addD_r, subD_i, mulD_i, mulD_r, mulD_t, modD_i, divD_i, powD_i, ltD_i, leD_i, gtD_i, geD_i, incD_i, negD_i, lr1_i, lr2_i, revD_r, isND_n, isNon, ixD_t, ixD_r, ixD_d, setD_d, dDnew, itk_eq, itk_r, dDm, getD_r, ditD_r, dItI, iti_r, listK_r, sortedD_r, ixK_t, ixK_r, ixK_l, dKnew, dItJ, itj_r, dKm, getK_r, sdfK_r, dikD_r, sortedJ_r, sortedG_r, dBm0, clearD_r, revsD_r, dChain3, ixD_l, ixD_s, slD_t, slD_r, slD_s, setD_r, lenD_s, lenD_t, lenD_l, lenD_r, isiD_1, isiD_n, listD_t, listD_r, tupleD_t, tupleD_r, allD_r, anyD_r, sumD_r, maxD_r, maxD_t, minD_t, minLD_r, maxLD_r, sumLD_2, sumLD_1, minDf_r, maxD_2, minD_r, minD_2, absD_i, intB_i, intB_b, intB_s, itv_s, mulD_s, inD_s, tyD_s, joinD_r, splitD_s, partD_s, stripD_s, findD_s, countT_s, indexT_s, fmtD_s, fmtD_i, dFmt, jsD_s, js_nil, js_cons, strOf_i, strOf_s, appD_r, startD, wipeD,
  List.map_cons, List.map_nil, rep_z, rep_s, List.length_cons, List.length_nil, List.cons_append, List.nil_append, List.append_nil, List.getElem?_cons_zero, List.getElem?_cons_succ, List.set_cons_zero, List.set_cons_succ, Option.some.injEq, exists_eq_left', exists_eq_left, D.bl.injEq, D.int.injEq, D.tup.injEq, D.ref.injEq, true_and, and_true, Nat.reduceAdd, Nat.reduceSub, Nat.add_sub_cancel_left, exists_const, br_t, br_f, eqR_int, eqR_bl, Bool.false_bne, Bool.true_bne, Bool.false_xor, Bool.true_xor, Bool.not_true, Bool.not_false, Bool.not_not, ite_true, ite_false, Bool.true_eq_false, false_implies, decide_true, decide_false, tc_int, tc_bool, tc_str, tc_tup, tc_lst, tc_non, tc_dic, ln0, ln1, ln2, ln3, ln4, ln5, ln6, ln7, ln8, ln9, ln10, ln11, ln12, ln13, ln14, ln15, ln16, ln17, ln18, ln19, ln20, ln21, ln22, ln23, ln24, ln25, ln26, ln27, ln28, ln29, ln30, ln31, ln32, ln33, ln34, ln35, ln36, ln37, ln38, ln39, ln40, ln41, ln42, ln43, ln44, ln45, ln46, ln47, ln48, ln49, ln50, ln51, ln52, ln53, ln54, ln55, ln56, ln57, ln58, ln59, ln60])
local macro_rules | `(tactic| walk_at "g") => `(tactic| try simp only [st_same, st_st, GO.lst.injEq, Option.some.injEq, exists_eq_left', exists_eq_left, atI_0, atI_1, atI_2, atI_3, ixN_0, ixN_1, ixN_2, ixN_3, List.set_cons_zero, List.set_cons_succ, List.length_cons, List.length_nil, List.length_append, List.cons_append, List.nil_append, true_and, and_true, seq_st])
/-! ## the journal's reading walked -/
theorem spl_parts {S : List Nat} : ∀ (l : List Nat) (k : Nat) (acc : List Nat), (TL.spl S k acc l).length ≤ l.length + 1 ∧ ∀ p ∈ TL.spl S k acc l, p.length ≤ acc.length + l.length ∧ ∀ c ∈ p, c ∈ acc ∨ c ∈ l
  | [], k, acc => by rw [TL.spl_nil]; simp
  | c :: r, 0, acc => by
    cases h : TL.pre S (c :: r) with
    | true =>
      rw [TL.spl_hit h]
      obtain ⟨h1, h2⟩ := spl_parts (S := S) r (S.length - 1) []
      refine ⟨by simp only [List.length_cons]; omega, fun p hp => ?_⟩
      rcases List.mem_cons.mp hp with rfl | hp
      · exact ⟨by omega, fun c hc => .inl hc⟩
      · obtain ⟨h3, h4⟩ := h2 p hp
        refine ⟨by simp only [List.length_nil, List.length_cons] at h3 ⊢; omega, fun c hc => ?_⟩
        rcases h4 c hc with h | h
        · cases h
        · exact .inr (List.mem_cons_of_mem _ h)
    | false =>
      rw [TL.spl_miss h]
      obtain ⟨h1, h2⟩ := spl_parts (S := S) r 0 (acc ++ [c])
      refine ⟨by simp only [List.length_cons]; omega, fun p hp => ?_⟩
      obtain ⟨h3, h4⟩ := h2 p hp
      refine ⟨by simp only [List.length_append, List.length_cons, List.length_nil] at h3 ⊢; omega, fun c hc => ?_⟩
      rcases h4 c hc with h | h
      · rcases List.mem_append.mp h with h | h
        · exact .inl h
        · rw [List.mem_singleton.mp h]; exact .inr List.mem_cons_self
      · exact .inr (List.mem_cons_of_mem _ h)
  | c :: r, k + 1, acc => by
    obtain ⟨h1, h2⟩ := spl_parts (S := S) r k acc
    refine ⟨by simp only [List.length_cons]; exact Nat.le_succ_of_le h1, fun p hp => ?_⟩
    obtain ⟨h3, h4⟩ := h2 p hp
    exact ⟨by simp only [List.length_cons]; omega, fun c hc => (h4 c hc).imp id (List.mem_cons_of_mem _)⟩
theorem split_parts {z y : Str} {s : Nat} (ey : TL.tl y = [s]) (hs : s < 256) : (Txt.split z y).length ≤ z.length + 1 ∧ (∀ p ∈ Txt.split z y, p.length ≤ z.length) ∧ (Tx z → ∀ p ∈ Txt.split z y, Tx p) := by
  have hy : TL.tl y ≠ [] := by rw [ey]; simp
  have e := TL.split_spl z y hy (TL.kind_ok (by
    have : y.cps = #[s] := by rw [← Array.toList_inj]; exact ey
    rw [this]; simp [hs]))
  obtain ⟨h1, h2⟩ := spl_parts (S := TL.tl y) (TL.tl z) 0 []
  rw [← e] at h1 h2
  rw [List.length_map, ← TL.len_tl] at h1
  refine ⟨h1, fun p hp => ?_, fun tz p hp c hc => ?_⟩
  · have := (h2 _ (List.mem_map.mpr ⟨p, hp, rfl⟩)).1
    rw [← TL.len_tl, ← TL.len_tl] at this
    simpa using this
  · rcases (h2 _ (List.mem_map.mpr ⟨p, hp, rfl⟩)).2 c hc with h | h
    · cases h
    · exact tz c h
def sp_number_in : DSp := fun ds G q _ => ∃ z : Str, ds = [.str z] ∧ z.length ≤ 1000000 ∧ ∀ G', Ext G G' → q (optI (numberV z)) G'
def t_number_in_r1 : TSd := dRet (dBi (BI.r .int) (dCons (dVar 0) (dNil)))
def N_number_in : List Str := ["word", "sign"]
def P_number_in : List Str := ["word"]
def t_number_in : TSd := dSeq (dIf (dOr (dNot (dB (dChain leD leD (dC (.int 1)) (dBi (BI.r .len) (dCons (dVar 0) (dNil))) (dC (.int 5))))) (dNot (dB (dBi (BI.r .all) (dCons (dLc (dItV (dVar 0)) (dgName 1) dYes (dOp (inD false) (dVar 1) (dC (.str "0123456789"))) [1]) (dNil)))))) (dRet (dC .non)) (dNext)) t_number_in_r1
def gl_number_in : List (Str × GI) := [("all", .bi .all), ("FIGURES", .cst (.str "0123456789")), ("len", .bi .len), ("MOST_FIGURES", .cst (.int 5)), ("int", .bi .int)]
theorem len_number_in : ∀ ds G q x, sp_number_in ds G q x → ds.length = P_number_in.length := by
  rintro _ _ _ _ ⟨z, rfl, _⟩; rfl
theorem b_number_in : Body t_number_in N_number_in sp_number_in := by
  rintro ds G q x ⟨z, rfl, lz, hq⟩
  unfold t_number_in N_number_in
  walk_at "e"
  have no : ¬ (1 ≤ z.length ∧ z.length ≤ 5 ∧ figB z = true) → numberV z = none := fun h => by unfold numberV; rw [if_neg h]
  refine ⟨line_le lz, ?_⟩
  by_cases h1 : 1 ≤ z.length
  · by_cases h5 : z.length ≤ 5
    · rw [decide_eq_true (show (1 : Int) ≤ (z.length : Int) by omega), br_t, decide_eq_true (show (z.length : Int) ≤ 5 by omega)]
      change Br false _ _
      rw [br_f]
      unfold signsD
      refine lcR_valM (TL.tl z) (fun c : Nat => D.str ⟨#[c]⟩) (fun c : Nat => D.bl (decide (c ∈ figs))) (by rw [← TL.len_tl]; omega) (fun _ _ => trivial) (fun c hc G' Q' x kk => ?_) fun p G1 hp x1 e1 => ?_
      · walk_at "e"
        exact ⟨c, rfl, kk _ .refl⟩
      walk_at "e"
      refine ⟨(TL.tl z).map fun c => decide (c ∈ figs), .inl (by rw [e1, List.map_map]; rfl), ?_⟩
      have ef : ((TL.tl z).map fun c => decide (c ∈ figs)).all id = figB z := by unfold figB; rw [List.all_map]; rfl
      rw [ef]
      cases hf : figB z with
      | false =>
        refine ⟨fun _ => ?_, fun h => by cases h⟩
        have := hq G1 x1
        rw [no (by simp [hf])] at this
        exact this
      | true =>
        refine ⟨fun h => (by cases h), fun _ => ?_⟩
        unfold t_number_in_r1
        walk_at "e"
        refine ⟨_, int_figs hf h1 (by omega), by omega, ?_⟩
        have := hq G1 x1
        unfold numberV at this
        rw [if_pos ⟨h1, h5, hf⟩] at this
        exact this
    · rw [decide_eq_true (show (1 : Int) ≤ (z.length : Int) by omega), br_t, decide_eq_false (show ¬ (z.length : Int) ≤ 5 by omega)]
      change Br true _ _
      rw [br_t]
      have := hq G .refl
      rw [no (by omega)] at this
      exact this
  · rw [decide_eq_false (show ¬ (1 : Int) ≤ (z.length : Int) by omega), br_f]
    have := hq G .refl
    rw [no (by omega)] at this
    exact this
def sp_numbers_in : DSp := fun ds G q _ => ∃ z : Str, ds = [.str z] ∧ z.length ≤ 990000 ∧ ∀ G', Ext G G' → q (numbersV z) G'
def N_numbers_in : List Str := ["word", "part"]
def P_numbers_in : List Str := ["word"]
def t_numbers_in : TSd := dRet (dBi (BI.r .tuple) (dCons (dLc (dItV (dBm "str" splitD (dVar 0) (dCons (dC (.str ".")) (dNil)))) (dgName 1) dYes (dCall sp_number_in (dCons (dVar 1) (dNil))) [1]) (dNil)))
def gl_numbers_in : List (Str × GI) := [("tuple", .bi .tuple), ("number_in", .fn sp_number_in)]
theorem len_numbers_in : ∀ ds G q x, sp_numbers_in ds G q x → ds.length = P_numbers_in.length := by
  rintro _ _ _ _ ⟨z, rfl, _⟩; rfl
theorem b_numbers_in : Body t_numbers_in N_numbers_in sp_numbers_in := by
  rintro ds G q x ⟨z, rfl, lz, hq⟩
  obtain ⟨s1, s2, s3⟩ := split_parts (z := z) tl_dot (by decide)
  unfold t_numbers_in N_numbers_in
  walk_at "e"
  refine ⟨by decide, by rw [sizeLine_eq]; omega, ?_⟩
  intro p hp
  generalize ep : st G p _ = G1
  obtain ⟨xp, kp⟩ := nu hp ep
  refine ⟨_, .inl kp, ?_⟩
  refine lcR_valM (Txt.split z (Str.ofString ".")) D.str (fun p => optI (numberV p)) (by omega) (fun G' x => .inl (x.at kp)) (fun w hw G' Q' x kk => ?_) fun p2 G2 hp2 x2 e2 => ?_
  · walk_at "e"
    exact ⟨w, rfl, by have := s2 w hw; omega, fun G'' x' => kk _ x'⟩
  walk_at "e"
  refine ⟨_, .inl e2, ?_⟩
  exact hq _ (xp.trans x2)
/-! a row -/
theorem dd_opt {G : Hd} (o : Option Int) : Dd G (optI o) (optI o) := by cases o <;> first | exact .non | exact .int _
theorem dd_numbers {G : Hd} (z : Str) : Dd G (numbersV z) (numbersV z) := .tup (by
  generalize Txt.split z (Str.ofString ".") = ws
  induction ws with
  | nil => exact .nil
  | cons w ws ih => exact .cons (dd_opt _) ih)
theorem gd_opt {m n : Nat} (o : Option Int) : gd m n (optI o) := by cases o <;> cases n <;> trivial
theorem gd_numbers {z : Str} {n : Nat} (h : z.length ≤ 990000) : gd 1000000 (n + 1) (numbersV z) := gd_tup.mpr ⟨by
  have := (split_parts (z := z) tl_dot (by decide)).1
  rw [List.length_map]; omega, fun y hy => by
  obtain ⟨w, _, rfl⟩ := List.mem_map.mp hy
  exact gd_opt _⟩
end S
set_option Elab.async false
set_option linter.all false
set_option maxRecDepth 100000
set_option maxHeartbeats 4000000
namespace S
open PySem PySem.Spec L2
open PyProof.Rows hiding St
local macro_rules | `(tactic| walk_at "e") => `(tactic| try simp only [fld_eq, fld_r, setf_eq, setf_r, meth_eq, mth_r, dMake, dDict1, extD_t, extD_rr, eqR_ti, eqR_t0, slD_ti, lenD_ti, addD_ti1, addD_ti, ixD_ti, setD_ti, extD_ti, tupleD_ti, listD_ti, ixD_tii, itv_ti, dSeq, dNext, dRet, dRetN, dIf, dAsg, dAug, dDrop, par_eq, prs_2, par3_eq, prs3_3, dBreak, dCont, dgName, dgSub, gTup_t, gCons_c, gNil_n, dFor_eq, dLc_eq, dVar, dC, dOp, dUn, dBi, dCall, dCons, dNil, dTup, dLst, dSl, part_eq, prt_i, dNoPart, dAndV, dOrV, dNotV, dB, dAnd, dOr, dNot, dIfE, dChain, itv_eq, itv_t, itv_r, dRng, dWalk, dBm, rng1_i, rng2_i, rng3_i, enumR_r, enumR_t, gTup_r, tr_n, tr_t, dLitE, zipR_r, zipR_t,
  BI.r, addD_i, addD_s, addD_t, addD_r, subD_i, mulD_i, mulD_r, mulD_t, modD_i, divD_i, powD_i, ltD_i, leD_i, gtD_i, geD_i, incD_i, negD_i, lr1_i, lr2_i, revD_r, isND_n, isNon, ixD_t, ixD_r, ixD_d, setD_d, dDnew, itk_eq, itk_r, dDm, getD_r, ditD_r, dItI, iti_r, listK_r, sortedD_r, ixK_t, ixK_r, ixK_l, dKnew, dItJ, itj_r, dKm, getK_r, sdfK_r, dikD_r, sortedJ_r, sortedG_r, dBm0, clearD_r, revsD_r, dChain3, ixD_l, ixD_s, slD_t, slD_r, slD_s, setD_r, lenD_s, lenD_t, lenD_l, lenD_r, isiD_1, isiD_n, listD_t, listD_r, tupleD_t, tupleD_r, allD_r, anyD_r, sumD_r, maxD_r, maxD_t, minD_t, minLD_r, maxLD_r, sumLD_2, sumLD_1, minDf_r, maxD_2, minD_r, minD_2, absD_i, intB_i, intB_b, intB_s, itv_s, mulD_s, inD_s, tyD_s, joinD_r, splitD_s, partD_s, stripD_s, findD_s, countT_s, indexT_s, fmtD_s, fmtD_i, dFmt, jsD_s, js_nil, js_cons, strOf_i, strOf_s, appD_r, startD, wipeD,
  List.map_cons, List.map_nil, rep_z, rep_s, List.length_cons, List.length_nil, List.cons_append, List.nil_append, List.append_nil, List.getElem?_cons_zero, List.getElem?_cons_succ, List.set_cons_zero, List.set_cons_succ, Option.some.injEq, exists_eq_left', exists_eq_left, D.bl.injEq, D.int.injEq, D.tup.injEq, D.ref.injEq, true_and, and_true, Nat.reduceAdd, Nat.reduceSub, Nat.add_sub_cancel_left, exists_const, br_t, br_f, eqR_int, eqR_bl, Bool.false_bne, Bool.true_bne, Bool.false_xor, Bool.true_xor, Bool.not_true, Bool.not_false, Bool.not_not, ite_true, ite_false, Bool.true_eq_false, false_implies, decide_true, decide_false, tc_int, tc_bool, tc_str, tc_tup, tc_lst, tc_non, tc_dic, ln0, ln1, ln2, ln3, ln4, ln5, ln6, ln7, ln8, ln9, ln10, ln11, ln12, ln13, ln14, ln15, ln16, ln17, ln18, ln19, ln20, ln21, ln22, ln23, ln24, ln25, ln26, ln27, ln28, ln29, ln30, ln31, ln32, ln33, ln34, ln35, ln36, ln37, ln38, ln39, ln40, ln41, ln42, ln43, ln44, ln45, ln46, ln47, ln48, ln49, ln50, ln51, ln52, ln53, ln54, ln55, ln56, ln57, ln58, ln59, ln60])
local macro_rules | `(tactic| walk_at "g") => `(tactic| try simp only [st_same, st_st, GO.lst.injEq, Option.some.injEq, exists_eq_left', exists_eq_left, atI_0, atI_1, atI_2, atI_3, ixN_0, ixN_1, ixN_2, ixN_3, List.set_cons_zero, List.set_cons_succ, List.length_cons, List.length_nil, List.length_append, List.cons_append, List.nil_append, true_and, and_true, seq_st])
/-! ## journals' commits drawn, written by the law -/
def sp__law_numbers_of : DSp := fun ds G q _ => ∃ (b : Addr) (n m : Int), ds = [.ref b, .int n, .int m] ∧ Bag G b ∧ 0 ≤ n ∧ n ≤ 1000 ∧ 0 < m ∧ m ≤ 1000000 ∧ ∀ (S : List Int) G', S.length = n.toNat → (∀ z ∈ S, 0 ≤ z ∧ z < m) → Xt [b] G G' → Bag G' b → q (.tup (S.map .int)) G'
def N__law_numbers_of : List Str := ["_law_bag_here", "_law_many", "_law_most", "_law_k"]
def P__law_numbers_of : List Str := ["_law_bag_here", "_law_many", "_law_most"]
def t__law_numbers_of : TSd := dRet (dBi (BI.r .tuple) (dCons (dLc (dRng rng1 (dCons (dVar 1) (dNil))) (dgName 3) dYes (dCall sp__law_take (dCons (dVar 0) (dCons (dVar 2) (dNil)))) [3]) (dNil)))
theorem len__law_numbers_of : ∀ ds G q x, sp__law_numbers_of ds G q x → ds.length = P__law_numbers_of.length := by
  rintro _ _ _ _ ⟨b, n, m, rfl, _⟩; rfl
theorem b__law_numbers_of : Body t__law_numbers_of N__law_numbers_of sp__law_numbers_of := by
  rintro ds G q x ⟨b, n, m, rfl, bag, n0, n1, m0, m1, hq⟩
  unfold t__law_numbers_of N__law_numbers_of
  walk_at "e"
  refine ⟨by omega, ?_⟩
  refine lcR_takes (k := m) bag (by simp [rngL]; omega) (fun i x e G' Q' bg kk => ?_) fun pa G3 za hpa x3 bag3 ea la hza => ?_
  · walk_at "e"
    exact ⟨b, m, rfl, bg, m0, Int.lt_of_le_of_lt m1 (by decide), kk⟩
  walk_at "e"
  exact ⟨_, .inl ea, hq za G3 (by rw [la]; simp [rngL]) hza x3 bag3⟩
/-! the law's own writing -/
end S
set_option Elab.async false
set_option linter.all false
set_option maxRecDepth 100000
set_option maxHeartbeats 4000000
namespace S
open PySem PySem.Spec L2
open PyProof.Rows hiding St
local macro_rules | `(tactic| walk_at "e") => `(tactic| try simp only [fld_eq, fld_r, setf_eq, setf_r, meth_eq, mth_r, dMake, dDict1, extD_t, extD_rr, eqR_ti, eqR_t0, slD_ti, lenD_ti, addD_ti1, addD_ti, ixD_ti, setD_ti, extD_ti, tupleD_ti, listD_ti, ixD_tii, itv_ti, dSeq, dNext, dRet, dRetN, dIf, dAsg, dAug, dDrop, par_eq, prs_2, par3_eq, prs3_3, dBreak, dCont, dgName, dgSub, gTup_t, gCons_c, gNil_n, dFor_eq, dLc_eq, dVar, dC, dOp, dUn, dBi, dCall, dCons, dNil, dTup, dLst, dSl, part_eq, prt_i, dNoPart, dAndV, dOrV, dNotV, dB, dAnd, dOr, dNot, dIfE, dChain, itv_eq, itv_t, itv_r, dRng, dWalk, dBm, rng1_i, rng2_i, rng3_i, enumR_r, enumR_t, gTup_r, tr_n, tr_t, dLitE, zipR_r, zipR_t,
  BI.r, addD_i, addD_s, addD_t, addD_r, subD_i, mulD_i, mulD_r, mulD_t, modD_i, divD_i, powD_i, ltD_i, leD_i, gtD_i, geD_i, incD_i, negD_i, lr1_i, lr2_i, revD_r, isND_n, isNon, ixD_t, ixD_r, ixD_d, setD_d, dDnew, itk_eq, itk_r, dDm, getD_r, ditD_r, dItI, iti_r, listK_r, sortedD_r, ixK_t, ixK_r, ixK_l, dKnew, dItJ, itj_r, dKm, getK_r, sdfK_r, dikD_r, sortedJ_r, sortedG_r, dBm0, clearD_r, revsD_r, dChain3, ixD_l, ixD_s, slD_t, slD_r, slD_s, setD_r, lenD_s, lenD_t, lenD_l, lenD_r, isiD_1, isiD_n, listD_t, listD_r, tupleD_t, tupleD_r, allD_r, anyD_r, sumD_r, maxD_r, maxD_t, minD_t, minLD_r, maxLD_r, sumLD_2, sumLD_1, minDf_r, maxD_2, minD_r, minD_2, absD_i, intB_i, intB_b, intB_s, itv_s, mulD_s, inD_s, tyD_s, joinD_r, splitD_s, partD_s, stripD_s, findD_s, countT_s, indexT_s, fmtD_s, fmtD_i, dFmt, jsD_s, js_nil, js_cons, strOf_i, strOf_s, appD_r, startD, wipeD,
  List.map_cons, List.map_nil, rep_z, rep_s, List.length_cons, List.length_nil, List.cons_append, List.nil_append, List.append_nil, List.getElem?_cons_zero, List.getElem?_cons_succ, List.set_cons_zero, List.set_cons_succ, Option.some.injEq, exists_eq_left', exists_eq_left, D.bl.injEq, D.int.injEq, D.tup.injEq, D.ref.injEq, true_and, and_true, Nat.reduceAdd, Nat.reduceSub, Nat.add_sub_cancel_left, exists_const, br_t, br_f, eqR_int, eqR_bl, Bool.false_bne, Bool.true_bne, Bool.false_xor, Bool.true_xor, Bool.not_true, Bool.not_false, Bool.not_not, ite_true, ite_false, Bool.true_eq_false, false_implies, decide_true, decide_false, tc_int, tc_bool, tc_str, tc_tup, tc_lst, tc_non, tc_dic, ln0, ln1, ln2, ln3, ln4, ln5, ln6, ln7, ln8, ln9, ln10, ln11, ln12, ln13, ln14, ln15, ln16, ln17, ln18, ln19, ln20, ln21, ln22, ln23, ln24, ln25, ln26, ln27, ln28, ln29, ln30, ln31, ln32, ln33, ln34, ln35, ln36, ln37, ln38, ln39, ln40, ln41, ln42, ln43, ln44, ln45, ln46, ln47, ln48, ln49, ln50, ln51, ln52, ln53, ln54, ln55, ln56, ln57, ln58, ln59, ln60])
local macro_rules | `(tactic| walk_at "g") => `(tactic| try simp only [st_same, st_st, GO.lst.injEq, Option.some.injEq, exists_eq_left', exists_eq_left, atI_0, atI_1, atI_2, atI_3, ixN_0, ixN_1, ixN_2, ixN_3, List.set_cons_zero, List.set_cons_succ, List.length_cons, List.length_nil, List.length_append, List.cons_append, List.nil_append, true_and, and_true, seq_st])
/-! ## journals come up again -/
theorem tx_join {y : Str} {ps : List Str} (hy : Tx y) (h : ∀ p ∈ ps, Tx p) : Tx (Txt.join y ps) := fun c hc => by
  rw [tl_join'] at hc
  rcases mem_joinL hc with ⟨p, hp, hc⟩ | hc
  · obtain ⟨z, hz, rfl⟩ := List.mem_map.mp hp
    exact h z hz c hc
  · exact hy c hc
theorem rk_ints {ns : List Int} (l : ns.length ≤ 24) (h : ∀ z ∈ ns, 0 ≤ z ∧ z < 1000000) : Rk 24 1 (.tup (ns.map .int)) := (rk_tup (c := 0) (n := 0) (m := 24) (by rw [List.length_map]; exact l) fun x hx => by
  obtain ⟨z, hz, rfl⟩ := List.mem_map.mp hx
  exact rk_int (by have := h z hz; omega)).mono (by decide) (by decide)
theorem rk_pc {p : Pc} (h : p.V) : Rk 100 2 p.d := (rk_tup (c := 24) (n := 1) (m := 4) (by simp) fun x hx => by
  simp only [List.mem_cons, List.not_mem_nil, or_false] at hx
  rcases hx with rfl | rfl | rfl | rfl
  · exact (rk_int (by have := h.at_; omega)).mono (by decide) (by decide)
  · exact rk_ints h.l2 h.n6
  · exact (rk_int (by have := h.kd; omega)).mono (by decide) (by decide)
  · exact (rk_int (by have := h.co; omega)).mono (by decide) (by decide))
theorem dd_pc {G : Hd} (p : Pc) : Dd G p.d p.d := .tup (.cons (.int _) (.cons (.tup (Dds.map_int _)) (.cons (.int _) (.cons (.int _) .nil))))
theorem Rk.sh {c n : Nat} {d : D} (h : Rk c n d) (hn : n ≤ 64) : sh d := ⟨h.ok, Nat.le_trans h.dp hn⟩
theorem eqR_rk {neg : Bool} {x y d : D} {G : Hd} {Q : Qd} {c n : Nat} (h1 : Dd G x d) (h2 : Dd G y d) (rk : Rk c n d) (hn : n ≤ 64) (h : Q (.bl (!neg)) G) : eqR neg x y G Q :=
  ⟨d, d, h1, h2, rk.sh hn, rk.sh hn, by rw [eqB_refl d rk.ok]; cases neg <;> exact h⟩
end S
set_option Elab.async false
set_option linter.all false
set_option maxRecDepth 100000
set_option maxHeartbeats 4000000
namespace S
open PySem PySem.Spec L2
open PyProof.Rows hiding St
local macro_rules | `(tactic| walk_at "e") => `(tactic| try simp only [fld_eq, fld_r, setf_eq, setf_r, meth_eq, mth_r, dMake, dDict1, extD_t, extD_rr, eqR_ti, eqR_t0, slD_ti, lenD_ti, addD_ti1, addD_ti, ixD_ti, setD_ti, extD_ti, tupleD_ti, listD_ti, ixD_tii, itv_ti, dSeq, dNext, dRet, dRetN, dIf, dAsg, dAug, dDrop, par_eq, prs_2, par3_eq, prs3_3, dBreak, dCont, dgName, dgSub, gTup_t, gCons_c, gNil_n, dFor_eq, dLc_eq, dVar, dC, dOp, dUn, dBi, dCall, dCons, dNil, dTup, dLst, dSl, part_eq, prt_i, dNoPart, dAndV, dOrV, dNotV, dB, dAnd, dOr, dNot, dIfE, dChain, itv_eq, itv_t, itv_r, dRng, dWalk, dBm, rng1_i, rng2_i, rng3_i, enumR_r, enumR_t, gTup_r, tr_n, tr_t, dLitE, zipR_r, zipR_t,
  BI.r, addD_i, addD_s, addD_t, addD_r, subD_i, mulD_i, mulD_r, mulD_t, modD_i, divD_i, powD_i, ltD_i, leD_i, gtD_i, geD_i, incD_i, negD_i, lr1_i, lr2_i, revD_r, isND_n, isNon, ixD_t, ixD_r, ixD_d, setD_d, dDnew, itk_eq, itk_r, dDm, getD_r, ditD_r, dItI, iti_r, listK_r, sortedD_r, ixK_t, ixK_r, ixK_l, dKnew, dItJ, itj_r, dKm, getK_r, sdfK_r, dikD_r, sortedJ_r, sortedG_r, dBm0, clearD_r, revsD_r, dChain3, ixD_l, ixD_s, slD_t, slD_r, slD_s, setD_r, lenD_s, lenD_t, lenD_l, lenD_r, isiD_1, isiD_n, listD_t, listD_r, tupleD_t, tupleD_r, allD_r, anyD_r, sumD_r, maxD_r, maxD_t, minD_t, minLD_r, maxLD_r, sumLD_2, sumLD_1, minDf_r, maxD_2, minD_r, minD_2, absD_i, intB_i, intB_b, intB_s, itv_s, mulD_s, inD_s, tyD_s, joinD_r, splitD_s, partD_s, stripD_s, findD_s, countT_s, indexT_s, fmtD_s, fmtD_i, dFmt, jsD_s, js_nil, js_cons, strOf_i, strOf_s, appD_r, startD, wipeD,
  List.map_cons, List.map_nil, rep_z, rep_s, List.length_cons, List.length_nil, List.cons_append, List.nil_append, List.append_nil, List.getElem?_cons_zero, List.getElem?_cons_succ, List.set_cons_zero, List.set_cons_succ, Option.some.injEq, exists_eq_left', exists_eq_left, D.bl.injEq, D.int.injEq, D.tup.injEq, D.ref.injEq, true_and, and_true, Nat.reduceAdd, Nat.reduceSub, Nat.add_sub_cancel_left, exists_const, br_t, br_f, eqR_int, eqR_bl, Bool.false_bne, Bool.true_bne, Bool.false_xor, Bool.true_xor, Bool.not_true, Bool.not_false, Bool.not_not, ite_true, ite_false, Bool.true_eq_false, false_implies, decide_true, decide_false, tc_int, tc_bool, tc_str, tc_tup, tc_lst, tc_non, tc_dic, ln0, ln1, ln2, ln3, ln4, ln5, ln6, ln7, ln8, ln9, ln10, ln11, ln12, ln13, ln14, ln15, ln16, ln17, ln18, ln19, ln20, ln21, ln22, ln23, ln24, ln25, ln26, ln27, ln28, ln29, ln30, ln31, ln32, ln33, ln34, ln35, ln36, ln37, ln38, ln39, ln40, ln41, ln42, ln43, ln44, ln45, ln46, ln47, ln48, ln49, ln50, ln51, ln52, ln53, ln54, ln55, ln56, ln57, ln58, ln59, ln60])
local macro_rules | `(tactic| walk_at "g") => `(tactic| try simp only [st_same, st_st, GO.lst.injEq, Option.some.injEq, exists_eq_left', exists_eq_left, atI_0, atI_1, atI_2, atI_3, ixN_0, ixN_1, ixN_2, ixN_3, List.set_cons_zero, List.set_cons_succ, List.length_cons, List.length_nil, List.length_append, List.cons_append, List.nil_append, true_and, and_true, seq_st])
/-! ## texts cut, counted, stripped -/
/-! stripped -/
/-! cut, joined, repeated -/
/-! partition -/
/-! the law's own reading -/
end S
set_option Elab.async false
set_option linter.all false
set_option maxRecDepth 100000
set_option maxHeartbeats 4000000
namespace S
open PySem PySem.Spec L2
open PyProof.Rows hiding St
local macro_rules | `(tactic| walk_at "e") => `(tactic| try simp only [fld_eq, fld_r, setf_eq, setf_r, meth_eq, mth_r, dMake, dDict1, extD_t, extD_rr, eqR_ti, eqR_t0, slD_ti, lenD_ti, addD_ti1, addD_ti, ixD_ti, setD_ti, extD_ti, tupleD_ti, listD_ti, ixD_tii, itv_ti, dSeq, dNext, dRet, dRetN, dIf, dAsg, dAug, dDrop, par_eq, prs_2, par3_eq, prs3_3, dBreak, dCont, dgName, dgSub, gTup_t, gCons_c, gNil_n, dFor_eq, dLc_eq, dVar, dC, dOp, dUn, dBi, dCall, dCons, dNil, dTup, dLst, dSl, part_eq, prt_i, dNoPart, dAndV, dOrV, dNotV, dB, dAnd, dOr, dNot, dIfE, dChain, itv_eq, itv_t, itv_r, dRng, dWalk, dBm, rng1_i, rng2_i, rng3_i, enumR_r, enumR_t, gTup_r, tr_n, tr_t, dLitE, zipR_r, zipR_t,
  BI.r, addD_i, addD_s, addD_t, addD_r, subD_i, mulD_i, mulD_r, mulD_t, modD_i, divD_i, powD_i, ltD_i, leD_i, gtD_i, geD_i, incD_i, negD_i, lr1_i, lr2_i, revD_r, isND_n, isNon, ixD_t, ixD_r, ixD_d, setD_d, dDnew, itk_eq, itk_r, dDm, getD_r, ditD_r, dItI, iti_r, listK_r, sortedD_r, ixK_t, ixK_r, ixK_l, dKnew, dItJ, itj_r, dKm, getK_r, sdfK_r, dikD_r, sortedJ_r, sortedG_r, dBm0, clearD_r, revsD_r, dChain3, ixD_l, ixD_s, slD_t, slD_r, slD_s, setD_r, lenD_s, lenD_t, lenD_l, lenD_r, isiD_1, isiD_n, listD_t, listD_r, tupleD_t, tupleD_r, allD_r, anyD_r, sumD_r, maxD_r, maxD_t, minD_t, minLD_r, maxLD_r, sumLD_2, sumLD_1, minDf_r, maxD_2, minD_r, minD_2, absD_i, intB_i, intB_b, intB_s, itv_s, mulD_s, inD_s, tyD_s, joinD_r, splitD_s, partD_s, stripD_s, findD_s, countT_s, indexT_s, fmtD_s, fmtD_i, dFmt, jsD_s, js_nil, js_cons, strOf_i, strOf_s, appD_r, startD, wipeD,
  List.map_cons, List.map_nil, rep_z, rep_s, List.length_cons, List.length_nil, List.cons_append, List.nil_append, List.append_nil, List.getElem?_cons_zero, List.getElem?_cons_succ, List.set_cons_zero, List.set_cons_succ, Option.some.injEq, exists_eq_left', exists_eq_left, D.bl.injEq, D.int.injEq, D.tup.injEq, D.ref.injEq, true_and, and_true, Nat.reduceAdd, Nat.reduceSub, Nat.add_sub_cancel_left, exists_const, br_t, br_f, eqR_int, eqR_bl, Bool.false_bne, Bool.true_bne, Bool.false_xor, Bool.true_xor, Bool.not_true, Bool.not_false, Bool.not_not, ite_true, ite_false, Bool.true_eq_false, false_implies, decide_true, decide_false, tc_int, tc_bool, tc_str, tc_tup, tc_lst, tc_non, tc_dic, ln0, ln1, ln2, ln3, ln4, ln5, ln6, ln7, ln8, ln9, ln10, ln11, ln12, ln13, ln14, ln15, ln16, ln17, ln18, ln19, ln20, ln21, ln22, ln23, ln24, ln25, ln26, ln27, ln28, ln29, ln30, ln31, ln32, ln33, ln34, ln35, ln36, ln37, ln38, ln39, ln40, ln41, ln42, ln43, ln44, ln45, ln46, ln47, ln48, ln49, ln50, ln51, ln52, ln53, ln54, ln55, ln56, ln57, ln58, ln59, ln60])
local macro_rules | `(tactic| walk_at "g") => `(tactic| try simp only [st_same, st_st, GO.lst.injEq, Option.some.injEq, exists_eq_left', exists_eq_left, atI_0, atI_1, atI_2, atI_3, ixN_0, ixN_1, ixN_2, ixN_3, List.set_cons_zero, List.set_cons_succ, List.length_cons, List.length_nil, List.length_append, List.cons_append, List.nil_append, true_and, and_true, seq_st])
/-! ## the law's own reading of journals, walked -/
end S
set_option Elab.async false
set_option linter.all false
set_option maxRecDepth 100000
set_option maxHeartbeats 4000000
namespace S
open PySem PySem.Spec L2
open PyProof.Rows hiding St
local macro_rules | `(tactic| walk_at "e") => `(tactic| try simp only [fld_eq, fld_r, setf_eq, setf_r, meth_eq, mth_r, dMake, dDict1, extD_t, extD_rr, eqR_ti, eqR_t0, slD_ti, lenD_ti, addD_ti1, addD_ti, ixD_ti, setD_ti, extD_ti, tupleD_ti, listD_ti, ixD_tii, itv_ti, dSeq, dNext, dRet, dRetN, dIf, dAsg, dAug, dDrop, par_eq, prs_2, par3_eq, prs3_3, dBreak, dCont, dgName, dgSub, gTup_t, gCons_c, gNil_n, dFor_eq, dLc_eq, dVar, dC, dOp, dUn, dBi, dCall, dCons, dNil, dTup, dLst, dSl, part_eq, prt_i, dNoPart, dAndV, dOrV, dNotV, dB, dAnd, dOr, dNot, dIfE, dChain, itv_eq, itv_t, itv_r, dRng, dWalk, dBm, rng1_i, rng2_i, rng3_i, enumR_r, enumR_t, gTup_r, tr_n, tr_t, dLitE, zipR_r, zipR_t,
  BI.r, addD_i, addD_s, addD_t, addD_r, subD_i, mulD_i, mulD_r, mulD_t, modD_i, divD_i, powD_i, ltD_i, leD_i, gtD_i, geD_i, incD_i, negD_i, lr1_i, lr2_i, revD_r, isND_n, isNon, ixD_t, ixD_r, ixD_d, setD_d, dDnew, itk_eq, itk_r, dDm, getD_r, ditD_r, dItI, iti_r, listK_r, sortedD_r, ixK_t, ixK_r, ixK_l, dKnew, dItJ, itj_r, dKm, getK_r, sdfK_r, dikD_r, sortedJ_r, sortedG_r, dBm0, clearD_r, revsD_r, dChain3, ixD_l, ixD_s, slD_t, slD_r, slD_s, setD_r, lenD_s, lenD_t, lenD_l, lenD_r, isiD_1, isiD_n, listD_t, listD_r, tupleD_t, tupleD_r, allD_r, anyD_r, sumD_r, maxD_r, maxD_t, minD_t, minLD_r, maxLD_r, sumLD_2, sumLD_1, minDf_r, maxD_2, minD_r, minD_2, absD_i, intB_i, intB_b, intB_s, itv_s, mulD_s, inD_s, tyD_s, joinD_r, splitD_s, partD_s, stripD_s, findD_s, countT_s, indexT_s, fmtD_s, fmtD_i, dFmt, jsD_s, js_nil, js_cons, strOf_i, strOf_s, appD_r, startD, wipeD,
  List.map_cons, List.map_nil, rep_z, rep_s, List.length_cons, List.length_nil, List.cons_append, List.nil_append, List.append_nil, List.getElem?_cons_zero, List.getElem?_cons_succ, List.set_cons_zero, List.set_cons_succ, Option.some.injEq, exists_eq_left', exists_eq_left, D.bl.injEq, D.int.injEq, D.tup.injEq, D.ref.injEq, true_and, and_true, Nat.reduceAdd, Nat.reduceSub, Nat.add_sub_cancel_left, exists_const, br_t, br_f, eqR_int, eqR_bl, Bool.false_bne, Bool.true_bne, Bool.false_xor, Bool.true_xor, Bool.not_true, Bool.not_false, Bool.not_not, ite_true, ite_false, Bool.true_eq_false, false_implies, decide_true, decide_false, tc_int, tc_bool, tc_str, tc_tup, tc_lst, tc_non, tc_dic, ln0, ln1, ln2, ln3, ln4, ln5, ln6, ln7, ln8, ln9, ln10, ln11, ln12, ln13, ln14, ln15, ln16, ln17, ln18, ln19, ln20, ln21, ln22, ln23, ln24, ln25, ln26, ln27, ln28, ln29, ln30, ln31, ln32, ln33, ln34, ln35, ln36, ln37, ln38, ln39, ln40, ln41, ln42, ln43, ln44, ln45, ln46, ln47, ln48, ln49, ln50, ln51, ln52, ln53, ln54, ln55, ln56, ln57, ln58, ln59, ln60])
local macro_rules | `(tactic| walk_at "g") => `(tactic| try simp only [st_same, st_st, GO.lst.injEq, Option.some.injEq, exists_eq_left', exists_eq_left, atI_0, atI_1, atI_2, atI_3, ixN_0, ixN_1, ixN_2, ixN_3, List.set_cons_zero, List.set_cons_succ, List.length_cons, List.length_nil, List.length_append, List.cons_append, List.nil_append, true_and, and_true, seq_st])
/-! ## a row read by the law; what came -/
theorem nth_word {ws : List Str} {i : Nat} (h : i < ws.length) : atI (ws.map D.str) (i : Int) = some (.str (ws.getD i Str.empty)) ∧ ws.getD i Str.empty ∈ ws := by
  have g : ws[i]? = some (ws.getD i Str.empty) := by rw [List.getD_eq_getElem?_getD, List.getElem?_eq_getElem h]; rfl
  refine ⟨?_, List.mem_of_getElem? g⟩
  rw [atI_of (by omega) (by rw [List.length_map]; omega), List.getElem?_map, Int.toNat_natCast, g]; rfl
end S
set_option Elab.async false
set_option linter.all false
set_option maxRecDepth 100000
set_option maxHeartbeats 4000000
namespace S
open PySem PySem.Spec L2
open PyProof.Rows hiding St
local macro_rules | `(tactic| walk_at "e") => `(tactic| try simp only [fld_eq, fld_r, setf_eq, setf_r, meth_eq, mth_r, dMake, dDict1, extD_t, extD_rr, eqR_ti, eqR_t0, slD_ti, lenD_ti, addD_ti1, addD_ti, ixD_ti, setD_ti, extD_ti, tupleD_ti, listD_ti, ixD_tii, itv_ti, dSeq, dNext, dRet, dRetN, dIf, dAsg, dAug, dDrop, par_eq, prs_2, par3_eq, prs3_3, dBreak, dCont, dgName, dgSub, gTup_t, gCons_c, gNil_n, dFor_eq, dLc_eq, dVar, dC, dOp, dUn, dBi, dCall, dCons, dNil, dTup, dLst, dSl, part_eq, prt_i, dNoPart, dAndV, dOrV, dNotV, dB, dAnd, dOr, dNot, dIfE, dChain, itv_eq, itv_t, itv_r, dRng, dWalk, dBm, rng1_i, rng2_i, rng3_i, enumR_r, enumR_t, gTup_r, tr_n, tr_t, dLitE, zipR_r, zipR_t,
  BI.r, addD_i, addD_s, addD_t, addD_r, subD_i, mulD_i, mulD_r, mulD_t, modD_i, divD_i, powD_i, ltD_i, leD_i, gtD_i, geD_i, incD_i, negD_i, lr1_i, lr2_i, revD_r, isND_n, isNon, ixD_t, ixD_r, ixD_d, setD_d, dDnew, itk_eq, itk_r, dDm, getD_r, ditD_r, dItI, iti_r, listK_r, sortedD_r, ixK_t, ixK_r, ixK_l, dKnew, dItJ, itj_r, dKm, getK_r, sdfK_r, dikD_r, sortedJ_r, sortedG_r, dBm0, clearD_r, revsD_r, dChain3, ixD_l, ixD_s, slD_t, slD_r, slD_s, setD_r, lenD_s, lenD_t, lenD_l, lenD_r, isiD_1, isiD_n, listD_t, listD_r, tupleD_t, tupleD_r, allD_r, anyD_r, sumD_r, maxD_r, maxD_t, minD_t, minLD_r, maxLD_r, sumLD_2, sumLD_1, minDf_r, maxD_2, minD_r, minD_2, absD_i, intB_i, intB_b, intB_s, itv_s, mulD_s, inD_s, tyD_s, joinD_r, splitD_s, partD_s, stripD_s, findD_s, countT_s, indexT_s, fmtD_s, fmtD_i, dFmt, jsD_s, js_nil, js_cons, strOf_i, strOf_s, appD_r, startD, wipeD,
  List.map_cons, List.map_nil, rep_z, rep_s, List.length_cons, List.length_nil, List.cons_append, List.nil_append, List.append_nil, List.getElem?_cons_zero, List.getElem?_cons_succ, List.set_cons_zero, List.set_cons_succ, Option.some.injEq, exists_eq_left', exists_eq_left, D.bl.injEq, D.int.injEq, D.tup.injEq, D.ref.injEq, true_and, and_true, Nat.reduceAdd, Nat.reduceSub, Nat.add_sub_cancel_left, exists_const, br_t, br_f, eqR_int, eqR_bl, Bool.false_bne, Bool.true_bne, Bool.false_xor, Bool.true_xor, Bool.not_true, Bool.not_false, Bool.not_not, ite_true, ite_false, Bool.true_eq_false, false_implies, decide_true, decide_false, tc_int, tc_bool, tc_str, tc_tup, tc_lst, tc_non, tc_dic, ln0, ln1, ln2, ln3, ln4, ln5, ln6, ln7, ln8, ln9, ln10, ln11, ln12, ln13, ln14, ln15, ln16, ln17, ln18, ln19, ln20, ln21, ln22, ln23, ln24, ln25, ln26, ln27, ln28, ln29, ln30, ln31, ln32, ln33, ln34, ln35, ln36, ln37, ln38, ln39, ln40, ln41, ln42, ln43, ln44, ln45, ln46, ln47, ln48, ln49, ln50, ln51, ln52, ln53, ln54, ln55, ln56, ln57, ln58, ln59, ln60])
local macro_rules | `(tactic| walk_at "g") => `(tactic| try simp only [st_same, st_st, GO.lst.injEq, Option.some.injEq, exists_eq_left', exists_eq_left, atI_0, atI_1, atI_2, atI_3, ixN_0, ixN_1, ixN_2, ixN_3, List.set_cons_zero, List.set_cons_succ, List.length_cons, List.length_nil, List.length_append, List.cons_append, List.nil_append, true_and, and_true, seq_st])
/-! ## what came, by the law; both are the same -/
/-! rows torn -/
structure Rows (L : Nat) (rs : List Str) : Prop where
  l : rs.length ≤ L
  b : ∀ r ∈ rs, r.length ≤ 5428
  t : ∀ r ∈ rs, Tx r
theorem Rows.join {L : Nat} {rs : List Str} (h : Rows L rs) : (Txt.join (Str.ofString "") rs).length ≤ L * 5428 ∧ Tx (Txt.join (Str.ofString "") rs) := by
  have h1 := len_join (y := Str.ofString "") (ps := rs) (B := 5428) h.b
  rw [show (Str.ofString "").length = 0 by decide, Nat.add_zero] at h1
  exact ⟨Nat.le_trans h1 (Nat.mul_le_mul_right _ h.l), tx_join (tx_of "") h.t⟩
theorem Rows.fits {L : Nat} {rs : List Str} (h : Rows L rs) (hL : L ≤ 1000) : (rs.map (·.length)).sum + rs.length * (Str.ofString "").length ≤ 16777216 := join_fits (B := 5428) h.b (by
  have := h.l
  rw [show (Str.ofString "").length = 0 by decide, Nat.add_zero]
  omega)
theorem Rows.cut {L : Nat} {rs : List Str} (h : Rows L rs) (lo hi : Option Int) : Rows L (S.cut rs lo hi) := ⟨Nat.le_trans cut_le h.l, fun r hr => h.b r (cut_sub hr), fun r hr => h.t r (cut_sub hr)⟩
end S
set_option Elab.async false
set_option linter.all false
set_option maxRecDepth 100000
set_option maxHeartbeats 4000000
namespace S
open PySem PySem.Spec L2
open PyProof.Rows hiding St
local macro_rules | `(tactic| walk_at "e") => `(tactic| try simp only [fld_eq, fld_r, setf_eq, setf_r, meth_eq, mth_r, dMake, dDict1, extD_t, extD_rr, eqR_ti, eqR_t0, slD_ti, lenD_ti, addD_ti1, addD_ti, ixD_ti, setD_ti, extD_ti, tupleD_ti, listD_ti, ixD_tii, itv_ti, dSeq, dNext, dRet, dRetN, dIf, dAsg, dAug, dDrop, par_eq, prs_2, par3_eq, prs3_3, dBreak, dCont, dgName, dgSub, gTup_t, gCons_c, gNil_n, dFor_eq, dLc_eq, dVar, dC, dOp, dUn, dBi, dCall, dCons, dNil, dTup, dLst, dSl, part_eq, prt_i, dNoPart, dAndV, dOrV, dNotV, dB, dAnd, dOr, dNot, dIfE, dChain, itv_eq, itv_t, itv_r, dRng, dWalk, dBm, rng1_i, rng2_i, rng3_i, enumR_r, enumR_t, gTup_r, tr_n, tr_t, dLitE, zipR_r, zipR_t,
  BI.r, addD_i, addD_s, addD_t, addD_r, subD_i, mulD_i, mulD_r, mulD_t, modD_i, divD_i, powD_i, ltD_i, leD_i, gtD_i, geD_i, incD_i, negD_i, lr1_i, lr2_i, revD_r, isND_n, isNon, ixD_t, ixD_r, ixD_d, setD_d, dDnew, itk_eq, itk_r, dDm, getD_r, ditD_r, dItI, iti_r, listK_r, sortedD_r, ixK_t, ixK_r, ixK_l, dKnew, dItJ, itj_r, dKm, getK_r, sdfK_r, dikD_r, sortedJ_r, sortedG_r, dBm0, clearD_r, revsD_r, dChain3, ixD_l, ixD_s, slD_t, slD_r, slD_s, setD_r, lenD_s, lenD_t, lenD_l, lenD_r, isiD_1, isiD_n, listD_t, listD_r, tupleD_t, tupleD_r, allD_r, anyD_r, sumD_r, maxD_r, maxD_t, minD_t, minLD_r, maxLD_r, sumLD_2, sumLD_1, minDf_r, maxD_2, minD_r, minD_2, absD_i, intB_i, intB_b, intB_s, itv_s, mulD_s, inD_s, tyD_s, joinD_r, splitD_s, partD_s, stripD_s, findD_s, countT_s, indexT_s, fmtD_s, fmtD_i, dFmt, jsD_s, js_nil, js_cons, strOf_i, strOf_s, appD_r, startD, wipeD,
  List.map_cons, List.map_nil, rep_z, rep_s, List.length_cons, List.length_nil, List.cons_append, List.nil_append, List.append_nil, List.getElem?_cons_zero, List.getElem?_cons_succ, List.set_cons_zero, List.set_cons_succ, Option.some.injEq, exists_eq_left', exists_eq_left, D.bl.injEq, D.int.injEq, D.tup.injEq, D.ref.injEq, true_and, and_true, Nat.reduceAdd, Nat.reduceSub, Nat.add_sub_cancel_left, exists_const, br_t, br_f, eqR_int, eqR_bl, Bool.false_bne, Bool.true_bne, Bool.false_xor, Bool.true_xor, Bool.not_true, Bool.not_false, Bool.not_not, ite_true, ite_false, Bool.true_eq_false, false_implies, decide_true, decide_false, tc_int, tc_bool, tc_str, tc_tup, tc_lst, tc_non, tc_dic, ln0, ln1, ln2, ln3, ln4, ln5, ln6, ln7, ln8, ln9, ln10, ln11, ln12, ln13, ln14, ln15, ln16, ln17, ln18, ln19, ln20, ln21, ln22, ln23, ln24, ln25, ln26, ln27, ln28, ln29, ln30, ln31, ln32, ln33, ln34, ln35, ln36, ln37, ln38, ln39, ln40, ln41, ln42, ln43, ln44, ln45, ln46, ln47, ln48, ln49, ln50, ln51, ln52, ln53, ln54, ln55, ln56, ln57, ln58, ln59, ln60])
local macro_rules | `(tactic| walk_at "g") => `(tactic| try simp only [st_same, st_st, GO.lst.injEq, Option.some.injEq, exists_eq_left', exists_eq_left, atI_0, atI_1, atI_2, atI_3, ixN_0, ixN_1, ixN_2, ixN_3, List.set_cons_zero, List.set_cons_succ, List.length_cons, List.length_nil, List.length_append, List.cons_append, List.nil_append, true_and, and_true, seq_st])
/-! ## texts bent -/
end S
set_option Elab.async false
set_option linter.all false
set_option maxRecDepth 100000
set_option maxHeartbeats 4000000
namespace S
open PySem PySem.Spec L2
open PyProof.Rows hiding St
local macro_rules | `(tactic| walk_at "e") => `(tactic| try simp only [fld_eq, fld_r, setf_eq, setf_r, meth_eq, mth_r, dMake, dDict1, extD_t, extD_rr, eqR_ti, eqR_t0, slD_ti, lenD_ti, addD_ti1, addD_ti, ixD_ti, setD_ti, extD_ti, tupleD_ti, listD_ti, ixD_tii, itv_ti, dSeq, dNext, dRet, dRetN, dIf, dAsg, dAug, dDrop, par_eq, prs_2, par3_eq, prs3_3, dBreak, dCont, dgName, dgSub, gTup_t, gCons_c, gNil_n, dFor_eq, dLc_eq, dVar, dC, dOp, dUn, dBi, dCall, dCons, dNil, dTup, dLst, dSl, part_eq, prt_i, dNoPart, dAndV, dOrV, dNotV, dB, dAnd, dOr, dNot, dIfE, dChain, itv_eq, itv_t, itv_r, dRng, dWalk, dBm, rng1_i, rng2_i, rng3_i, enumR_r, enumR_t, gTup_r, tr_n, tr_t, dLitE, zipR_r, zipR_t,
  BI.r, addD_i, addD_s, addD_t, addD_r, subD_i, mulD_i, mulD_r, mulD_t, modD_i, divD_i, powD_i, ltD_i, leD_i, gtD_i, geD_i, incD_i, negD_i, lr1_i, lr2_i, revD_r, isND_n, isNon, ixD_t, ixD_r, ixD_d, setD_d, dDnew, itk_eq, itk_r, dDm, getD_r, ditD_r, dItI, iti_r, listK_r, sortedD_r, ixK_t, ixK_r, ixK_l, dKnew, dItJ, itj_r, dKm, getK_r, sdfK_r, dikD_r, sortedJ_r, sortedG_r, dBm0, clearD_r, revsD_r, dChain3, ixD_l, ixD_s, slD_t, slD_r, slD_s, setD_r, lenD_s, lenD_t, lenD_l, lenD_r, isiD_1, isiD_n, listD_t, listD_r, tupleD_t, tupleD_r, allD_r, anyD_r, sumD_r, maxD_r, maxD_t, minD_t, minLD_r, maxLD_r, sumLD_2, sumLD_1, minDf_r, maxD_2, minD_r, minD_2, absD_i, intB_i, intB_b, intB_s, itv_s, mulD_s, inD_s, tyD_s, joinD_r, splitD_s, partD_s, stripD_s, findD_s, countT_s, indexT_s, fmtD_s, fmtD_i, dFmt, jsD_s, js_nil, js_cons, strOf_i, strOf_s, appD_r, startD, wipeD,
  List.map_cons, List.map_nil, rep_z, rep_s, List.length_cons, List.length_nil, List.cons_append, List.nil_append, List.append_nil, List.getElem?_cons_zero, List.getElem?_cons_succ, List.set_cons_zero, List.set_cons_succ, Option.some.injEq, exists_eq_left', exists_eq_left, D.bl.injEq, D.int.injEq, D.tup.injEq, D.ref.injEq, true_and, and_true, Nat.reduceAdd, Nat.reduceSub, Nat.add_sub_cancel_left, exists_const, br_t, br_f, eqR_int, eqR_bl, Bool.false_bne, Bool.true_bne, Bool.false_xor, Bool.true_xor, Bool.not_true, Bool.not_false, Bool.not_not, ite_true, ite_false, Bool.true_eq_false, false_implies, decide_true, decide_false, tc_int, tc_bool, tc_str, tc_tup, tc_lst, tc_non, tc_dic, ln0, ln1, ln2, ln3, ln4, ln5, ln6, ln7, ln8, ln9, ln10, ln11, ln12, ln13, ln14, ln15, ln16, ln17, ln18, ln19, ln20, ln21, ln22, ln23, ln24, ln25, ln26, ln27, ln28, ln29, ln30, ln31, ln32, ln33, ln34, ln35, ln36, ln37, ln38, ln39, ln40, ln41, ln42, ln43, ln44, ln45, ln46, ln47, ln48, ln49, ln50, ln51, ln52, ln53, ln54, ln55, ln56, ln57, ln58, ln59, ln60])
local macro_rules | `(tactic| walk_at "g") => `(tactic| try simp only [st_same, st_st, GO.lst.injEq, Option.some.injEq, exists_eq_left', exists_eq_left, atI_0, atI_1, atI_2, atI_3, ixN_0, ixN_1, ixN_2, ixN_3, List.set_cons_zero, List.set_cons_succ, List.length_cons, List.length_nil, List.length_append, List.cons_append, List.nil_append, true_and, and_true, seq_st])
/-! ## texts bent by signs and words -/
end S
set_option Elab.async false
set_option linter.all false
set_option maxRecDepth 100000
set_option maxHeartbeats 4000000
namespace S
open PySem PySem.Spec L2
open PyProof.Rows hiding St
local macro_rules | `(tactic| walk_at "e") => `(tactic| try simp only [fld_eq, fld_r, setf_eq, setf_r, meth_eq, mth_r, dMake, dDict1, extD_t, extD_rr, eqR_ti, eqR_t0, slD_ti, lenD_ti, addD_ti1, addD_ti, ixD_ti, setD_ti, extD_ti, tupleD_ti, listD_ti, ixD_tii, itv_ti, dSeq, dNext, dRet, dRetN, dIf, dAsg, dAug, dDrop, par_eq, prs_2, par3_eq, prs3_3, dBreak, dCont, dgName, dgSub, gTup_t, gCons_c, gNil_n, dFor_eq, dLc_eq, dVar, dC, dOp, dUn, dBi, dCall, dCons, dNil, dTup, dLst, dSl, part_eq, prt_i, dNoPart, dAndV, dOrV, dNotV, dB, dAnd, dOr, dNot, dIfE, dChain, itv_eq, itv_t, itv_r, dRng, dWalk, dBm, rng1_i, rng2_i, rng3_i, enumR_r, enumR_t, gTup_r, tr_n, tr_t, dLitE, zipR_r, zipR_t,
  BI.r, addD_i, addD_s, addD_t, addD_r, subD_i, mulD_i, mulD_r, mulD_t, modD_i, divD_i, powD_i, ltD_i, leD_i, gtD_i, geD_i, incD_i, negD_i, lr1_i, lr2_i, revD_r, isND_n, isNon, ixD_t, ixD_r, ixD_d, setD_d, dDnew, itk_eq, itk_r, dDm, getD_r, ditD_r, dItI, iti_r, listK_r, sortedD_r, ixK_t, ixK_r, ixK_l, dKnew, dItJ, itj_r, dKm, getK_r, sdfK_r, dikD_r, sortedJ_r, sortedG_r, dBm0, clearD_r, revsD_r, dChain3, ixD_l, ixD_s, slD_t, slD_r, slD_s, setD_r, lenD_s, lenD_t, lenD_l, lenD_r, isiD_1, isiD_n, listD_t, listD_r, tupleD_t, tupleD_r, allD_r, anyD_r, sumD_r, maxD_r, maxD_t, minD_t, minLD_r, maxLD_r, sumLD_2, sumLD_1, minDf_r, maxD_2, minD_r, minD_2, absD_i, intB_i, intB_b, intB_s, itv_s, mulD_s, inD_s, tyD_s, joinD_r, splitD_s, partD_s, stripD_s, findD_s, countT_s, indexT_s, fmtD_s, fmtD_i, dFmt, jsD_s, js_nil, js_cons, strOf_i, strOf_s, appD_r, startD, wipeD,
  List.map_cons, List.map_nil, rep_z, rep_s, List.length_cons, List.length_nil, List.cons_append, List.nil_append, List.append_nil, List.getElem?_cons_zero, List.getElem?_cons_succ, List.set_cons_zero, List.set_cons_succ, Option.some.injEq, exists_eq_left', exists_eq_left, D.bl.injEq, D.int.injEq, D.tup.injEq, D.ref.injEq, true_and, and_true, Nat.reduceAdd, Nat.reduceSub, Nat.add_sub_cancel_left, exists_const, br_t, br_f, eqR_int, eqR_bl, Bool.false_bne, Bool.true_bne, Bool.false_xor, Bool.true_xor, Bool.not_true, Bool.not_false, Bool.not_not, ite_true, ite_false, Bool.true_eq_false, false_implies, decide_true, decide_false, tc_int, tc_bool, tc_str, tc_tup, tc_lst, tc_non, tc_dic, ln0, ln1, ln2, ln3, ln4, ln5, ln6, ln7, ln8, ln9, ln10, ln11, ln12, ln13, ln14, ln15, ln16, ln17, ln18, ln19, ln20, ln21, ln22, ln23, ln24, ln25, ln26, ln27, ln28, ln29, ln30, ln31, ln32, ln33, ln34, ln35, ln36, ln37, ln38, ln39, ln40, ln41, ln42, ln43, ln44, ln45, ln46, ln47, ln48, ln49, ln50, ln51, ln52, ln53, ln54, ln55, ln56, ln57, ln58, ln59, ln60])
local macro_rules | `(tactic| walk_at "g") => `(tactic| try simp only [st_same, st_st, GO.lst.injEq, Option.some.injEq, exists_eq_left', exists_eq_left, atI_0, atI_1, atI_2, atI_3, ixN_0, ixN_1, ixN_2, ixN_3, List.set_cons_zero, List.set_cons_succ, List.length_cons, List.length_nil, List.length_append, List.cons_append, List.nil_append, true_and, and_true, seq_st])
/-! ## texts of numbers, keys, words, cuttings -/
def emptyT : Str := Str.ofString "-"
def numsT (ns : List Int) : Str := if ns = [] then emptyT else dotsT ns
theorem sq_len {G : Hd} {x : D} {xs : List D} {Q : Qd} (h : SqA G x xs) (q : Q (.int xs.length) G) : lenD [x] G Q := by
  rcases h with rfl | ⟨a, rfl, h⟩
  · exact q
  · exact ⟨_, .inl ⟨_, h, rfl⟩, q⟩
def sp_show_numbers : DSp := fun ds G q _ => ∃ x ns, ds = [x] ∧ SqA G x (ns.map .int) ∧ ns.length ≤ 1000 ∧ N6 ns ∧ ∀ G', Ext G G' → q (.str (numsT ns)) G'
def t_show_numbers_r1 : TSd := dRet (dCall sp_with_dots (dCons (dVar 0) (dNil)))
def N_show_numbers : List Str := ["row"]
def P_show_numbers : List Str := ["row"]
def t_show_numbers : TSd := dSeq (dIf (dB (dOp (eqR false) (dBi (BI.r .len) (dCons (dVar 0) (dNil))) (dC (.int 0)))) (dRet (dC (.str "-"))) (dNext)) t_show_numbers_r1
def gl_show_numbers : List (Str × GI) := [("len", .bi .len), ("NONE", .cst (.str "-")), ("with_dots", .fn sp_with_dots)]
theorem len_show_numbers : ∀ ds G q x, sp_show_numbers ds G q x → ds.length = P_show_numbers.length := by
  rintro _ _ _ _ ⟨x, ns, rfl, _⟩; rfl
theorem b_show_numbers : Body t_show_numbers N_show_numbers sp_show_numbers := by
  rintro ds G q x ⟨x, ns, rfl, sx, ln, h6, hq⟩
  unfold t_show_numbers N_show_numbers
  walk_at "e"
  refine sq_len sx ?_
  walk_at "e"
  rw [List.length_map]
  cases ns with
  | nil =>
    change Br true _ _
    rw [br_t]
    exact hq _ .refl
  | cons n r =>
    rw [decide_eq_false (by rw [List.length_cons]; omega), br_f]
    unfold t_show_numbers_r1
    walk_at "e"
    exact ⟨x, n :: r, rfl, sx, ln, h6, hq⟩
/-! keys -/
def lets : List Nat := (Str.ofString "abcdefghijklmnopqrstuvwxyz").cps.toList
theorem lets_eq : lets = (List.range 26).map fun i => 97 + i := by unfold lets; decide
theorem mem_lets {c : Nat} : c ∈ lets ↔ 97 ≤ c ∧ c ≤ 122 := by
  rw [lets_eq]
  simp only [List.mem_map, List.mem_range]
  exact ⟨fun ⟨i, h, e⟩ => by omega, fun h => ⟨c - 97, by omega, by omega⟩⟩
def keyT (k : Int) : Str := ⟨#[97 + k.toNat]⟩
def Kys (ks : List Int) : Prop := ∀ z ∈ ks, 0 ≤ z ∧ z < 26
def keysT (ks : List Int) : Str := if ks = [] then emptyT else Txt.join (Str.ofString "") (ks.map keyT)
theorem at_lets {k : Int} (h : 0 ≤ k ∧ k < 26) : atI (Str.ofString "abcdefghijklmnopqrstuvwxyz").cps.toList k = some (97 + k.toNat) := by
  show atI lets k = _
  rw [atI_of h.1 (by rw [lets_eq, List.length_map, List.length_range]; omega), lets_eq, List.getElem?_map, List.getElem?_range (by omega)]
  rfl
theorem joinL_nil : ∀ ps : List (List Nat), TL.joinL [] ps = ps.flatten
  | [] => rfl
  | [p] => by simp [TL.joinL]
  | p :: q :: r => by
    have := joinL_nil (q :: r)
    unfold TL.joinL
    rw [this]; simp
theorem tl_keys (ks : List Int) : TL.tl (Txt.join (Str.ofString "") (ks.map keyT)) = ks.map fun k => 97 + k.toNat := by
  rw [tl_join', tl_none, joinL_nil, List.map_map]
  induction ks with
  | nil => rfl
  | cons k ks ih => rw [List.map_cons, List.flatten_cons, ih]; rfl
def sp_show_keys : DSp := fun ds G q _ => ∃ x ks, ds = [x] ∧ SqA G x (ks.map .int) ∧ ks.length ≤ 1000 ∧ Kys ks ∧ ∀ G', Ext G G' → q (.str (keysT ks)) G'
def t_show_keys_r1 : TSd := dRet (dBm "str" joinD (dC (.str "")) (dCons (dLc (dItV (dVar 0)) (dgName 1) dYes (dOp ixD (dC (.str "abcdefghijklmnopqrstuvwxyz")) (dVar 1)) [1]) (dNil)))
def N_show_keys : List Str := ["row", "key"]
def P_show_keys : List Str := ["row"]
def t_show_keys : TSd := dSeq (dIf (dB (dOp (eqR false) (dBi (BI.r .len) (dCons (dVar 0) (dNil))) (dC (.int 0)))) (dRet (dC (.str "-"))) (dNext)) t_show_keys_r1
def gl_show_keys : List (Str × GI) := [("len", .bi .len), ("NONE", .cst (.str "-")), ("LETTERS", .cst (.str "abcdefghijklmnopqrstuvwxyz"))]
theorem len_show_keys : ∀ ds G q x, sp_show_keys ds G q x → ds.length = P_show_keys.length := by
  rintro _ _ _ _ ⟨x, ns, rfl, _⟩; rfl
theorem b_show_keys : Body t_show_keys N_show_keys sp_show_keys := by
  rintro ds G q x ⟨x, ks, rfl, sx, ln, hk, hq⟩
  unfold t_show_keys N_show_keys
  walk_at "e"
  refine sq_len sx ?_
  walk_at "e"
  rw [List.length_map]
  by_cases e : ks = []
  · subst e
    change Br true _ _
    rw [br_t]
    exact hq _ .refl
  · have hl : 0 < ks.length := List.length_pos_iff.mpr e
    rw [decide_eq_false (by omega), br_f]
    unfold t_show_keys_r1
    walk_at "e"
    refine itv_sq sx fun stay hs => ?_
    refine lcR_valM ks D.int (fun i => D.str (keyT i)) (by omega) hs (fun i hi G' Q' x kk => ?_) fun p G1 hp x1 e1 => ?_
    · walk_at "e"
      exact ⟨line_le (by decide), _, at_lets (hk i hi), kk _ .refl⟩
    walk_at "e"
    refine ⟨ks.map keyT, .inl (by rw [e1, List.map_map]; rfl), join_fits (B := 1) (fun z hz => ?_) ?_, ?_⟩
    · obtain ⟨i, hi, rfl⟩ := List.mem_map.mp hz
      exact Nat.le_refl 1
    · rw [List.length_map, show (Str.ofString "").length = 0 by decide]; omega
    · have := hq G1 x1
      unfold keysT at this
      rwa [if_neg e] at this
/-! words -/
def wordT (w : BW) : Str := Txt.join (Str.ofString "/") [dotsT w.1.1, dotsT w.1.2.1, numT w.1.2.2, numT w.2]
theorem tl_slash : TL.tl (Str.ofString "/") = [47] := by rw [TL.tl_ofString]; decide
theorem wd_n6 {w : BW} (h : WdOk w) : N6 w.1.1 ∧ N6 w.1.2.1 := ⟨fun z hz => by have := h.sr z hz; omega, fun z hz => by have := h.gr z hz; omega⟩
theorem js4 {y a b c d : Str} : ((((((Str.empty ++ a) ++ y) ++ b) ++ y) ++ c) ++ y) ++ d = Txt.join y [a, b, c, d] := TL.ext_tl (by
  rw [tl_join']
  simp only [TL.tl_append, List.map_cons, List.map_nil, TL.joinL, List.append_assoc]
  rfl)
theorem len_word {w : BW} (h : WdOk w) : (wordT w).length ≤ 200 := by
  have := len_join (y := Str.ofString "/") (ps := [dotsT w.1.1, dotsT w.1.2.1, numT w.1.2.2, numT w.2]) (B := 42) fun z hz => by
    have h1 := len_dots (wd_n6 h).1
    have h2 := len_dots (wd_n6 h).2
    have h3 := len_num6 (i := w.1.2.2) (by have := h.k; omega)
    have h4 := len_num6 (i := w.2) (by have := h.c; omega)
    have h5 := h.s6
    have h6 := h.g4
    simp only [List.mem_cons, List.not_mem_nil, or_false] at hz
    rcases hz with rfl | rfl | rfl | rfl <;> omega
  rw [show (Str.ofString "/").length = 1 by decide] at this
  exact Nat.le_trans this (by simp)
theorem tx_word {w : BW} (h : WdOk w) : Tx (wordT w) := tx_join (tx_of "/") fun z hz => by
  simp only [List.mem_cons, List.not_mem_nil, or_false] at hz
  rcases hz with rfl | rfl | rfl | rfl
  · exact (sg_dots (wd_n6 h).1).tx (by simp)
  · exact (sg_dots (wd_n6 h).2).tx (by simp)
  · exact (sg_num h.k.1).tx (by simp)
  · exact (sg_num h.c.1).tx (by simp)
def sp_show_word : DSp := fun ds G q _ => ∃ w : BW, ds = [rB w] ∧ WdOk w ∧ ∀ G', Ext G G' → q (.str (wordT w)) G'
def N_show_word : List Str := ["word", "sounds", "signs", "kind", "cost"]
def P_show_word : List Str := ["word"]
def t_show_word : TSd := dSeq (dAsg (dVar 0) (dgTup 4 (dgCons (dgName 1) (dgCons (dgName 2) (dgCons (dgName 3) (dgCons (dgName 4) (dgNil))))))) (dRet (dJs [dFmt (dCall sp_with_dots (dCons (dVar 1) (dNil))), dC (.str "/"), dFmt (dCall sp_with_dots (dCons (dVar 2) (dNil))), dC (.str "/"), dFmt (dVar 3), dC (.str "/"), dFmt (dVar 4)] Str.empty))
def gl_show_word : List (Str × GI) := [("with_dots", .fn sp_with_dots)]
theorem len_show_word : ∀ ds G q x, sp_show_word ds G q x → ds.length = P_show_word.length := by
  rintro _ _ _ _ ⟨w, rfl, _⟩; rfl
theorem b_show_word : Body t_show_word N_show_word sp_show_word := by
  rintro ds G q x ⟨w, rfl, ok, hq⟩
  have h1 := len_dots (wd_n6 ok).1
  have h2 := len_dots (wd_n6 ok).2
  have l3 := len_num6 (i := w.1.2.2) (by have := ok.k; omega)
  have l4 := len_num6 (i := w.2) (by have := ok.c; omega)
  have h5 := ok.s6
  have h6 := ok.g4
  have lc : (Str.ofString "/").length = 1 := by decide
  have le : Str.empty.length = 0 := rfl
  have n3 := n500 (i := w.1.2.2) (by have := ok.k; omega) (by have := ok.k; omega)
  have n4 := n500 (i := w.2) (by have := ok.c; omega) (by have := ok.c; omega)
  unfold t_show_word N_show_word rB ti
  walk_at "e"
  refine ⟨_, w.1.1, rfl, .inl rfl, by omega, (wd_n6 ok).1, fun G1 x1 => ?_⟩
  walk_at "e"
  refine ⟨line_le (by omega), line_le (by simp only [len_app, lc, le]; omega), line_le (by simp only [len_app, lc, le]; omega), _, w.1.2.1, rfl, .inl rfl, by omega, (wd_n6 ok).2, fun G2 x2 => ?_⟩
  walk_at "e"
  refine ⟨line_le (by omega), line_le (by simp only [len_app, lc, le]; omega), line_le (by simp only [len_app, lc, le]; omega), n3, ?_⟩
  rw [show Str.ofString (toString w.1.2.2) = numT w.1.2.2 from rfl]
  refine ⟨line_le (by simp only [len_app, lc, le]; omega), line_le (by simp only [len_app, lc, le]; omega), n4, ?_⟩
  rw [show Str.ofString (toString w.2) = numT w.2 from rfl, js4]
  refine ⟨line_le (by have := len_word ok; unfold wordT at this; omega), ?_⟩
  exact hq _ (x1.trans x2)
/-! cuttings -/
def cutT (ps : List Pc) : Str := if ps = [] then emptyT else Txt.join (Str.ofString " ") (ps.map pieceT)
def sp_show_cutting : DSp := fun ds G q _ => ∃ (a : Addr) (ps : List Pc), ds = [.ref a] ∧ G a = some (.lst (ps.map Pc.d)) ∧ ps.length ≤ 1000 ∧ (∀ p ∈ ps, p.V) ∧ ∀ G', Ext G G' → q (.str (cutT ps)) G'
def t_show_cutting_r1 : TSd := dRet (dBm "str" joinD (dC (.str " ")) (dCons (dLc (dItV (dVar 0)) (dgName 1) dYes (dCall sp_piece_text (dCons (dVar 1) (dNil))) [1]) (dNil)))
def N_show_cutting : List Str := ["cutting", "piece"]
def P_show_cutting : List Str := ["cutting"]
def t_show_cutting : TSd := dSeq (dIf (dB (dOp (eqR false) (dBi (BI.r .len) (dCons (dVar 0) (dNil))) (dC (.int 0)))) (dRet (dC (.str "-"))) (dNext)) t_show_cutting_r1
def gl_show_cutting : List (Str × GI) := [("len", .bi .len), ("NONE", .cst (.str "-")), ("piece_text", .fn sp_piece_text)]
theorem len_show_cutting : ∀ ds G q x, sp_show_cutting ds G q x → ds.length = P_show_cutting.length := by
  rintro _ _ _ _ ⟨a, ps, rfl, _⟩; rfl
theorem b_show_cutting : Body t_show_cutting N_show_cutting sp_show_cutting := by
  rintro ds G q x ⟨a, ps, rfl, ea, lp, pv, hq⟩
  unfold t_show_cutting N_show_cutting
  walk_at "e"
  refine ⟨_, .inl ⟨_, .inl ea, rfl⟩, ?_⟩
  rw [List.length_map]
  by_cases e : ps = []
  · subst e
    change Br true _ _
    rw [br_t]
    exact hq _ .refl
  · have hl : 0 < ps.length := List.length_pos_iff.mpr e
    rw [decide_eq_false (by omega), br_f]
    unfold t_show_cutting_r1
    walk_at "e"
    refine ⟨_, .inl ea, ?_⟩
    refine lcR_valM ps Pc.d (fun p => D.str (pieceT p)) (by omega) (fun G' x => .inl (x.at ea)) (fun p hp G' Q' x kk => ?_) fun p1 G1 hp1 x1 e1 => ?_
    · walk_at "e"
      exact ⟨p, rfl, pv p hp, fun G'' x' => kk _ x'⟩
    walk_at "e"
    refine ⟨ps.map pieceT, .inl (by rw [e1, List.map_map]; rfl), join_fits (B := 200) (fun z hz => ?_) ?_, ?_⟩
    · obtain ⟨p, hp, rfl⟩ := List.mem_map.mp hz
      exact len_piece (pv p hp)
    · rw [List.length_map, show (Str.ofString " ").length = 1 by decide]; omega
    · have := hq G1 x1
      unfold cutT at this
      rwa [if_neg e] at this
/-! wishes -/
inductive Wsh where
  | bj (j : Bool) (a : Int) | span (i j : Int) | held (i j : Int) (ss : List Int)
def Wsh.kind : Wsh → String
  | .bj false _ => "border" | .bj true _ => "joined" | .span .. => "span" | .held .. => "held"
def Wsh.pl : Wsh → List Int
  | .bj _ a => [a] | .span i j => [i, j] | .held i j _ => [i, j]
def Wsh.sg : Wsh → List (List Int)
  | .held _ _ ss => [ss] | _ => []
def Wsh.d (w : Wsh) : D := .tup ((.str (Str.ofString w.kind) :: w.pl.map .int) ++ w.sg.map fun ss => .tup (ss.map .int))
def Wsh.words (w : Wsh) : List Str := (Str.ofString w.kind :: w.pl.map numT) ++ w.sg.map dotsT
def Wsh.T (w : Wsh) : Str := Txt.join (Str.ofString ":") w.words
def Wsh.V (n : Int) : Wsh → Prop
  | .bj _ a => 1 ≤ a ∧ a ≤ n - 1
  | .span i j => 0 ≤ i ∧ i ≤ n ∧ i + 1 ≤ j ∧ j ≤ n
  | .held i j ss => (0 ≤ i ∧ i ≤ n ∧ i + 1 ≤ j ∧ j ≤ n) ∧ 1 ≤ ss.length ∧ ss.length ≤ 24 ∧ ∀ z ∈ ss, 0 ≤ z ∧ z ≤ 1039
theorem Wsh.V.pl {n : Int} {w : Wsh} (h : w.V n) (hn : n ≤ 24) : ∀ z ∈ w.pl, 0 ≤ z ∧ z ≤ 24 := fun z hz => by
  cases w with
  | bj j a =>
    rw [List.mem_singleton.mp hz]
    have h : 1 ≤ a ∧ a ≤ n - 1 := h
    omega
  | span i j =>
    have h : 0 ≤ i ∧ i ≤ n ∧ i + 1 ≤ j ∧ j ≤ n := h
    simp only [Wsh.pl, List.mem_cons, List.not_mem_nil, or_false] at hz
    rcases hz with rfl | rfl <;> omega
  | held i j ss =>
    have h : (0 ≤ i ∧ i ≤ n ∧ i + 1 ≤ j ∧ j ≤ n) ∧ _ := h
    have h := h.1
    simp only [Wsh.pl, List.mem_cons, List.not_mem_nil, or_false] at hz
    rcases hz with rfl | rfl <;> omega
theorem Wsh.V.sg {n : Int} {w : Wsh} (h : w.V n) : ∀ ss ∈ w.sg, 1 ≤ ss.length ∧ ss.length ≤ 24 ∧ ∀ z ∈ ss, 0 ≤ z ∧ z < 100000 := fun ss hs => by
  cases w with
  | bj j a => cases hs
  | span i j => cases hs
  | held i j ss' =>
    rw [List.mem_singleton.mp hs]
    have h : _ ∧ 1 ≤ ss'.length ∧ ss'.length ≤ 24 ∧ ∀ z ∈ ss', 0 ≤ z ∧ z ≤ 1039 := h
    exact ⟨h.2.1, h.2.2.1, fun z hz => by have := h.2.2.2 z hz; omega⟩
theorem kind_ok (w : Wsh) : (Str.ofString w.kind).length ≤ 6 ∧ 58 ∉ TL.tl (Str.ofString w.kind) := by
  have go : ∀ s ∈ ["border", "joined", "span", "held"], (Str.ofString s).length ≤ 6 ∧ 58 ∉ s.toList.map Char.toNat := by decide
  rw [TL.tl_ofString]
  refine go _ ?_
  rcases w with ⟨_ | _, a⟩ | ⟨i, j⟩ | ⟨i, j, ss⟩ <;> simp [Wsh.kind]
theorem wish_words {n : Int} {w : Wsh} (h : w.V n) (hn : n ≤ 24) : ∀ z ∈ w.words, z.length ≤ 168 ∧ 58 ∉ TL.tl z ∧ Tx z := fun z hz => by
  rcases List.mem_append.mp hz with hz | hz
  · rcases List.mem_cons.mp hz with rfl | hz
    · exact ⟨Nat.le_trans (kind_ok w).1 (by decide), (kind_ok w).2, tx_of _⟩
    · obtain ⟨i, hi, rfl⟩ := List.mem_map.mp hz
      have := h.pl hn i hi
      have l := len_num6 (i := i) (by omega)
      exact ⟨by omega, (sg_num this.1).free (by simp) (by decide), (sg_num this.1).tx (by simp)⟩
  · obtain ⟨ss, hs, rfl⟩ := List.mem_map.mp hz
    obtain ⟨s1, s2, s3⟩ := h.sg ss hs
    have n6 : N6 ss := fun z hz => by have := s3 z hz; omega
    have := len_dots n6
    exact ⟨by omega, (sg_dots n6).free (by simp) (by decide), (sg_dots n6).tx (by simp)⟩
theorem words_few (w : Wsh) : w.words.length ≤ 4 := by rcases w with ⟨_ | _, a⟩ | ⟨i, j⟩ | ⟨i, j, ss⟩ <;> simp [Wsh.words, Wsh.pl, Wsh.sg]
theorem len_wish {n : Int} {w : Wsh} (h : w.V n) (hn : n ≤ 24) : w.T.length ≤ 700 ∧ Tx w.T := by
  have h1 := len_join (y := Str.ofString ":") (ps := w.words) (B := 168) fun z hz => (wish_words h hn z hz).1
  have := words_few w
  rw [show (Str.ofString ":").length = 1 by decide] at h1
  exact ⟨by unfold Wsh.T; have := Nat.mul_le_mul_right (168 + 1) this; omega, tx_join (tx_of ":") fun z hz => (wish_words h hn z hz).2.2⟩
theorem split_wish {n : Int} {w : Wsh} (h : w.V n) (hn : n ≤ 24) : Txt.split w.T (Str.ofString ":") = w.words :=
  split_one tl_colon (by decide) (by unfold Wsh.words; simp) fun z hz => (wish_words h hn z hz).2.1
theorem cut13 (w : Wsh) {f : Int → D} {g : List Int → D} {k : D} : cut (k :: (w.pl.map f ++ w.sg.map g)) (some 1) (some 3) = w.pl.map f := by
  rw [cut_mid (by decide) (by decide)]
  rcases w with ⟨_ | _, a⟩ | ⟨i, j⟩ | ⟨i, j, ss⟩ <;> rfl
theorem held_iff (w : Wsh) : (Str.ofString w.kind == Str.ofString "held") = decide (w.sg ≠ []) := by
  rcases w with ⟨_ | _, a⟩ | ⟨i, j⟩ | ⟨i, j, ss⟩
  · exact (show (Str.ofString "border" == Str.ofString "held") = false by decide)
  · exact (show (Str.ofString "joined" == Str.ofString "held") = false by decide)
  · exact (show (Str.ofString "span" == Str.ofString "held") = false by decide)
  · exact (show (Str.ofString "held" == Str.ofString "held") = true by decide)
def sp_show_wish : DSp := fun ds G q _ => ∃ (w : Wsh) (n : Int), ds = [w.d] ∧ w.V n ∧ n ≤ 24 ∧ ∀ G', Ext G G' → q (.str w.T) G'
def t_show_wish_r1 : TSd := dRet (dBm "str" joinD (dC (.str ":")) (dCons (dVar 1) (dNil)))
def t_show_wish_s1 : TSd := dSeq (dIf (dB (dOp (eqR false) (dOp ixD (dVar 0) (dC (.int 0))) (dC (.str "held")))) (dDrop (dBm "list" appendD (dVar 1) (dCons (dCall sp_with_dots (dCons (dOp ixD (dVar 0) (dC (.int 3))) (dNil))) (dNil)))) (dNext)) t_show_wish_r1
def N_show_wish : List Str := ["wish", "words", "place"]
def P_show_wish : List Str := ["wish"]
def t_show_wish : TSd := dSeq (dAsg (dOp addD (dLst (dCons (dOp ixD (dVar 0) (dC (.int 0))) (dNil))) (dLc (dItV (dSl (dVar 0) (dPart (dC (.int 1))) (dPart (dC (.int 3))))) (dgName 2) dYes (dBi (BI.r .str) (dCons (dVar 2) (dNil))) [2])) (dgName 1)) t_show_wish_s1
def gl_show_wish : List (Str × GI) := [("str", .bi .str), ("with_dots", .fn sp_with_dots)]
theorem len_show_wish : ∀ ds G q x, sp_show_wish ds G q x → ds.length = P_show_wish.length := by
  rintro _ _ _ _ ⟨w, n, rfl, _⟩; rfl
theorem b_show_wish : Body t_show_wish N_show_wish sp_show_wish := by
  rintro ds G q x ⟨w, n, rfl, hv, hn, hq⟩
  have hpl := hv.pl hn
  have hww := wish_words hv hn
  unfold t_show_wish N_show_wish Wsh.d
  walk_at "e"
  refine ⟨_, atI_0, ?_⟩
  intro p hp
  generalize ep : st G p _ = G1
  obtain ⟨xp, kp⟩ := nu hp ep
  rw [cut13]
  have lpl : w.pl.length ≤ 2 := by rcases w with ⟨_ | _, a⟩ | ⟨i, j⟩ | ⟨i, j, ss⟩ <;> simp [Wsh.pl]
  refine lcR_valM w.pl D.int (fun i => D.str (numT i)) (by omega) (fun _ _ => trivial) (fun i hi G' Q' x kk => ?_) fun p2 G2 hp2 x2 e2 => ?_
  · walk_at "e"
    have := hpl i hi
    exact ⟨n500 (by omega) (by omega), kk _ .refl⟩
  refine ⟨_, x2.at kp, _, e2, line_le (by simp only [List.length_cons, List.length_nil, List.length_map]; omega), ?_⟩
  intro p3 hp3
  generalize ep3 : st G2 p3 _ = G3
  obtain ⟨xp3, kp3⟩ := nu hp3 ep3
  have x03 := (xp.trans x2).trans xp3
  unfold t_show_wish_s1
  walk_at "e"
  refine ⟨_, atI_0, ?_⟩
  rw [eqR_s (tx_of w.kind).ok (tx_of "held").ok, Bool.false_xor, held_iff]
  have fin : ∀ G', Ext G G' → ∀ p', G' p' = some (.lst (w.words.map .str)) → joinD (.str (Str.ofString ":")) [.ref p'] G' q := fun G' x p' e => by
    rw [joinD_r]
    refine ⟨w.words, .inl e, join_fits (B := 168) (fun z hz => (hww z hz).1) ?_, ?_⟩
    · have := words_few w
      rw [show (Str.ofString ":").length = 1 by decide]; omega
    · exact hq _ x
  cases hs : w.sg with
  | nil =>
    refine ⟨_, rfl, ?_⟩
    change Br false _ _
    rw [br_f]
    unfold t_show_wish_r1
    walk_at "e"
    refine fin G3 x03 p3 ?_
    rw [kp3]
    unfold Wsh.words
    rw [hs]
    simp
  | cons ss r =>
    have hr : r = [] := by rcases w with ⟨_ | _, a⟩ | ⟨i, j⟩ | ⟨i, j, s⟩ <;> first | (cases hs; done) | (cases hs; rfl)
    subst hr
    obtain ⟨s1, s2, s3⟩ := hv.sg ss (by rw [hs]; exact List.mem_cons_self)
    refine ⟨_, rfl, ?_⟩
    change Br true _ _
    rw [br_t]
    refine ⟨tyD_l (.inl kp3), ?_⟩
    have a3 : atI (D.str (Str.ofString w.kind) :: (w.pl.map D.int ++ [ss].map fun ss => D.tup (ss.map D.int))) 3 = some (.tup (ss.map .int)) := by
      rcases w with ⟨_ | _, a⟩ | ⟨i, j⟩ | ⟨i, j, s⟩ <;> first | (cases hs; done) | (cases hs; exact atI_3)
    refine ⟨_, a3, _, ss, rfl, .inl rfl, by omega, fun z hz => by have := s3 z hz; omega, fun G4 x4 => ?_⟩
    walk_at "e"
    refine ⟨_, x4.at kp3, line_lt (by simp only [List.length_append, List.length_cons, List.length_nil, List.length_map]; omega), ?_⟩
    generalize eu5 : st G4 p3 _ = G5
    obtain ⟨xu5, ku5⟩ := put eu5
    unfold t_show_wish_r1
    walk_at "e"
    have n3 : G p3 = none := (xp.trans x2).none hp3
    refine fin G5 (Xt.own (x03.trans x4) xu5 fun c hc => .inr (by rw [List.mem_singleton.mp hc]; exact n3)) p3 ?_
    rw [ku5]
    unfold Wsh.words
    rw [hs]
    simp
end S
set_option Elab.async false
set_option linter.all false
set_option maxRecDepth 100000
set_option maxHeartbeats 4000000
namespace S
open PySem PySem.Spec L2
open PyProof.Rows hiding St
local macro_rules | `(tactic| walk_at "e") => `(tactic| try simp only [fld_eq, fld_r, setf_eq, setf_r, meth_eq, mth_r, dMake, dDict1, extD_t, extD_rr, eqR_ti, eqR_t0, slD_ti, lenD_ti, addD_ti1, addD_ti, ixD_ti, setD_ti, extD_ti, tupleD_ti, listD_ti, ixD_tii, itv_ti, dSeq, dNext, dRet, dRetN, dIf, dAsg, dAug, dDrop, par_eq, prs_2, par3_eq, prs3_3, dBreak, dCont, dgName, dgSub, gTup_t, gCons_c, gNil_n, dFor_eq, dLc_eq, dVar, dC, dOp, dUn, dBi, dCall, dCons, dNil, dTup, dLst, dSl, part_eq, prt_i, dNoPart, dAndV, dOrV, dNotV, dB, dAnd, dOr, dNot, dIfE, dChain, itv_eq, itv_t, itv_r, dRng, dWalk, dBm, rng1_i, rng2_i, rng3_i, enumR_r, enumR_t, gTup_r, tr_n, tr_t, dLitE, zipR_r, zipR_t,
  BI.r, addD_i, addD_s, addD_t, addD_r, subD_i, mulD_i, mulD_r, mulD_t, modD_i, divD_i, powD_i, ltD_i, leD_i, gtD_i, geD_i, incD_i, negD_i, lr1_i, lr2_i, revD_r, isND_n, isNon, ixD_t, ixD_r, ixD_d, setD_d, dDnew, itk_eq, itk_r, dDm, getD_r, ditD_r, dItI, iti_r, listK_r, sortedD_r, ixK_t, ixK_r, ixK_l, dKnew, dItJ, itj_r, dKm, getK_r, sdfK_r, dikD_r, sortedJ_r, sortedG_r, dBm0, clearD_r, revsD_r, dChain3, ixD_l, ixD_s, slD_t, slD_r, slD_s, setD_r, lenD_s, lenD_t, lenD_l, lenD_r, isiD_1, isiD_n, listD_t, listD_r, tupleD_t, tupleD_r, allD_r, anyD_r, sumD_r, maxD_r, maxD_t, minD_t, minLD_r, maxLD_r, sumLD_2, sumLD_1, minDf_r, maxD_2, minD_r, minD_2, absD_i, intB_i, intB_b, intB_s, itv_s, mulD_s, inD_s, tyD_s, joinD_r, splitD_s, partD_s, stripD_s, findD_s, countT_s, indexT_s, fmtD_s, fmtD_i, dFmt, jsD_s, js_nil, js_cons, strOf_i, strOf_s, appD_r, startD, wipeD,
  List.map_cons, List.map_nil, rep_z, rep_s, List.length_cons, List.length_nil, List.cons_append, List.nil_append, List.append_nil, List.getElem?_cons_zero, List.getElem?_cons_succ, List.set_cons_zero, List.set_cons_succ, Option.some.injEq, exists_eq_left', exists_eq_left, D.bl.injEq, D.int.injEq, D.tup.injEq, D.ref.injEq, true_and, and_true, Nat.reduceAdd, Nat.reduceSub, Nat.add_sub_cancel_left, exists_const, br_t, br_f, eqR_int, eqR_bl, Bool.false_bne, Bool.true_bne, Bool.false_xor, Bool.true_xor, Bool.not_true, Bool.not_false, Bool.not_not, ite_true, ite_false, Bool.true_eq_false, false_implies, decide_true, decide_false, tc_int, tc_bool, tc_str, tc_tup, tc_lst, tc_non, tc_dic, ln0, ln1, ln2, ln3, ln4, ln5, ln6, ln7, ln8, ln9, ln10, ln11, ln12, ln13, ln14, ln15, ln16, ln17, ln18, ln19, ln20, ln21, ln22, ln23, ln24, ln25, ln26, ln27, ln28, ln29, ln30, ln31, ln32, ln33, ln34, ln35, ln36, ln37, ln38, ln39, ln40, ln41, ln42, ln43, ln44, ln45, ln46, ln47, ln48, ln49, ln50, ln51, ln52, ln53, ln54, ln55, ln56, ln57, ln58, ln59, ln60])
local macro_rules | `(tactic| walk_at "g") => `(tactic| try simp only [st_same, st_st, GO.lst.injEq, Option.some.injEq, exists_eq_left', exists_eq_left, atI_0, atI_1, atI_2, atI_3, ixN_0, ixN_1, ixN_2, ixN_3, List.set_cons_zero, List.set_cons_succ, List.length_cons, List.length_nil, List.length_append, List.cons_append, List.nil_append, true_and, and_true, seq_st])
/-! ## keys, words, wishes read -/
def keysV (z : Str) : Option (List Int) := if z = emptyT then some [] else if 1 ≤ z.length ∧ z.length ≤ 60 ∧ ((TL.tl z).all fun c => decide (c ∈ lets)) = true then some ((TL.tl z).map fun c : Nat => (c : Int) - 97) else none
theorem idx_lets : ∀ c ∈ lets, Builtin.Str.occurrences (Str.ofString "abcdefghijklmnopqrstuvwxyz") ⟨#[c]⟩ 0 (Str.ofString "abcdefghijklmnopqrstuvwxyz").length 1 = [c - 97] := by decide +kernel
theorem keys_back {ks : List Int} (h : Kys ks) (l : ks.length ≤ 60) : keysV (keysT ks) = some ks := by
  unfold keysT keysV
  by_cases e : ks = []
  · rw [if_pos e, if_pos rfl, e]
  have hl : 0 < ks.length := List.length_pos_iff.mpr e
  rw [if_neg e]
  have ne : Txt.join (Str.ofString "") (ks.map keyT) ≠ emptyT := fun h' => by
    have := congrArg TL.tl h'
    rw [tl_keys] at this
    unfold emptyT at this
    rw [TL.tl_ofString] at this
    have hm : (45 : Nat) ∈ ks.map fun k => 97 + k.toNat := by rw [this]; decide
    obtain ⟨k, _, hk⟩ := List.mem_map.mp hm
    omega
  have len : (Txt.join (Str.ofString "") (ks.map keyT)).length = ks.length := by rw [TL.len_tl, tl_keys, List.length_map]
  have ha : ((TL.tl (Txt.join (Str.ofString "") (ks.map keyT))).all fun c => decide (c ∈ lets)) = true := by
    rw [tl_keys, List.all_eq_true]
    intro c hc
    obtain ⟨k, hk, rfl⟩ := List.mem_map.mp hc
    have := h k hk
    exact decide_eq_true (mem_lets.mpr (by omega))
  rw [if_neg ne, if_pos ⟨by rw [len]; omega, by rw [len]; omega, ha⟩, tl_keys, List.map_map]
  · refine congrArg some ?_
    have : ks.map ((fun c : Nat => (c : Int) - 97) ∘ fun k : Int => 97 + k.toNat) = ks.map id := List.map_congr_left fun k hk => by
      have := h k hk
      show ((97 + k.toNat : Nat) : Int) - 97 = k
      omega
    rw [this, List.map_id]
theorem tx_keys {ks : List Int} (h : Kys ks) : Tx (keysT ks) := by
  unfold keysT
  split
  · exact tx_of _
  · intro c hc
    rw [tl_keys] at hc
    obtain ⟨k, hk, rfl⟩ := List.mem_map.mp hc
    have := h k hk
    omega
def sp_keys_in : DSp := fun ds G q _ => ∃ z : Str, ds = [.str z] ∧ z.length ≤ 1000000 ∧ Tx z ∧ (keysV z = none → ∀ G', Ext G G' → q .non G') ∧ ∀ ks, keysV z = some ks → ∀ p G', G p = none → Ext G G' → G' p = some (.lst (ks.map .int)) → q (.ref p) G'
def t_keys_in_r1 : TSd := dRet (dLc (dItV (dVar 0)) (dgName 1) dYes (dBm "str" indexT (dC (.str "abcdefghijklmnopqrstuvwxyz")) (dCons (dVar 1) (dNil))) [1])
def t_keys_in_r2 : TSd := dSeq (dIf (dOr (dNot (dB (dChain leD leD (dC (.int 1)) (dBi (BI.r .len) (dCons (dVar 0) (dNil))) (dC (.int 60))))) (dNot (dB (dBi (BI.r .all) (dCons (dLc (dItV (dVar 0)) (dgName 1) dYes (dOp (inD false) (dVar 1) (dC (.str "abcdefghijklmnopqrstuvwxyz"))) [1]) (dNil)))))) (dRet (dC .non)) (dNext)) t_keys_in_r1
def N_keys_in : List Str := ["text", "sign"]
def P_keys_in : List Str := ["text"]
def t_keys_in : TSd := dSeq (dIf (dB (dOp (eqR false) (dVar 0) (dC (.str "-")))) (dRet (dLst (dNil))) (dNext)) t_keys_in_r2
def gl_keys_in : List (Str × GI) := [("NONE", .cst (.str "-")), ("all", .bi .all), ("LETTERS", .cst (.str "abcdefghijklmnopqrstuvwxyz")), ("len", .bi .len), ("MOST_TYPED", .cst (.int 60))]
theorem len_keys_in : ∀ ds G q x, sp_keys_in ds G q x → ds.length = P_keys_in.length := by
  rintro _ _ _ _ ⟨z, rfl, _⟩; rfl
theorem b_keys_in : Body t_keys_in N_keys_in sp_keys_in := by
  rintro ds G q x ⟨z, rfl, lz, tz, hn, hs⟩
  unfold t_keys_in N_keys_in
  walk_at "e"
  rw [eqR_s tz.ok (tx_of "-").ok, Bool.false_xor]
  by_cases e0 : z = emptyT
  · rw [show (z == Str.ofString "-") = true by rw [e0]; exact beq_self_eq_true _]
    refine ⟨_, rfl, ?_⟩
    rw [br_t]
    intro p hp
    exact hs [] (by unfold keysV; rw [if_pos e0]) p _ hp (.new hp) st_same
  rw [show (z == Str.ofString "-") = false from beq_eq_false_iff_ne.mpr e0]
  refine ⟨_, rfl, ?_⟩
  rw [br_f]
  have no : ¬ (1 ≤ z.length ∧ z.length ≤ 60 ∧ ((TL.tl z).all fun c => decide (c ∈ lets)) = true) → ∀ G', Ext G G' → q .non G' := fun h => hn (by unfold keysV; rw [if_neg e0, if_neg h])
  unfold t_keys_in_r2
  walk_at "e"
  refine ⟨line_le lz, ?_⟩
  by_cases h1 : 1 ≤ z.length
  rotate_left
  · rw [decide_eq_false (show ¬ (1 : Int) ≤ (z.length : Int) by omega), br_f]
    exact no (by omega) _ .refl
  rw [decide_eq_true (show (1 : Int) ≤ (z.length : Int) by omega), br_t]
  by_cases h5 : z.length ≤ 60
  rotate_left
  · rw [decide_eq_false (show ¬ (z.length : Int) ≤ 60 by omega)]
    change Br true _ _
    rw [br_t]
    exact no (by omega) _ .refl
  rw [decide_eq_true (show (z.length : Int) ≤ 60 by omega)]
  change Br false _ _
  rw [br_f]
  have lt : (TL.tl z).length ≤ 60 := by rw [← TL.len_tl]; exact h5
  unfold signsD
  refine lcR_valM (TL.tl z) (fun c : Nat => D.str ⟨#[c]⟩) (fun c : Nat => D.bl (decide (c ∈ lets))) (by omega) (fun _ _ => trivial) (fun c hc G' Q' x kk => ?_) fun p G1 hp x1 e1 => ?_
  · walk_at "e"
    exact ⟨c, rfl, kk _ .refl⟩
  walk_at "e"
  refine ⟨(TL.tl z).map fun c => decide (c ∈ lets), .inl (by rw [e1, List.map_map]; rfl), ?_⟩
  have ef : ((TL.tl z).map fun c => decide (c ∈ lets)).all id = (TL.tl z).all fun c => decide (c ∈ lets) := by rw [List.all_map]; rfl
  rw [ef]
  cases hf : (TL.tl z).all fun c => decide (c ∈ lets) with
  | false =>
    refine ⟨fun _ => no (by simp [hf]) _ x1, fun h => (by cases h)⟩
  | true =>
    refine ⟨fun h => (by cases h), fun _ => ?_⟩
    unfold t_keys_in_r1
    walk_at "e"
    unfold signsD
    refine lcR_valM (TL.tl z) (fun c : Nat => D.str ⟨#[c]⟩) (fun c : Nat => D.int ((c : Int) - 97)) (by omega) (fun _ _ => trivial) (fun c hc G' Q' x kk => ?_) fun p2 G2 hp2 x2 e2 => ?_
    · have hm := of_decide_eq_true (List.all_eq_true.mp hf c hc)
      have hr := mem_lets.mp hm
      walk_at "e"
      refine ⟨c - 97, [], idx_lets c hm, ?_⟩
      rw [show (((c - 97 : Nat)) : Int) = (c : Int) - 97 by omega]
      exact kk _ .refl
    refine hs ((TL.tl z).map fun c : Nat => (c : Int) - 97) (by unfold keysV; rw [if_neg e0, if_pos ⟨h1, h5, hf⟩]) p2 G2 (x1.none hp2) (x1.trans x2) ?_
    rw [e2, List.map_map]; rfl
def sp_read_keys_text : DSp := fun ds G q xx => (∃ z : Str, ds = [.str z] ∧ z.length ≤ 1000000 ∧ Tx z ∧ (keysV z = none → ∀ G', Ext G G' → xx 15 .non G') ∧ ∀ ks, keysV z = some ks → ∀ p G', G p = none → Ext G G' → G' p = some (.lst (ks.map .int)) → q (.ref p) G') ∨
  ∃ x d, ds = [x] ∧ Dd G x d ∧ isV d "str" = false ∧ ∀ G', Ext G G' → xx 15 .non G'
def t_read_keys_text_r1 : TSd := dRet (dCall sp_keys_in (dCons (dVar 0) (dNil)))
def N_read_keys_text : List Str := ["text"]
def P_read_keys_text : List Str := ["text"]
def t_read_keys_text : TSd := dSeq (dIf (dOr (dNot (dB (dBi (BI.r .isi) (dCons (dVar 0) (dCons (dC (.ty "str")) (dNil)))))) (dB (dOp (isND false) (dCall sp_keys_in (dCons (dVar 0) (dNil))) (dC .non)))) (dRaise 15) (dNext)) t_read_keys_text_r1
def gl_read_keys_text : List (Str × GI) := [("keys_in", .fn sp_keys_in), ("isinstance", .bi .isi), ("str", .ty "str"), ("NoText", .exc)]
theorem len_read_keys_text : ∀ ds G q x, sp_read_keys_text ds G q x → ds.length = P_read_keys_text.length := by
  rintro _ _ _ _ (⟨z, rfl, _⟩ | ⟨x, d, rfl, _⟩) <;> rfl
theorem b_read_keys_text : Body t_read_keys_text N_read_keys_text sp_read_keys_text := by
  rintro ds G q x (⟨z, rfl, lz, tz, hn, hs⟩ | ⟨x, d, rfl, dd, nd, hq⟩)
  rotate_left
  · unfold t_read_keys_text N_read_keys_text
    walk_at "e"
    refine ⟨dd.kn, ?_⟩
    rw [dd.is, nd]
    walk_at "e"
    exact hq _ .refl
  unfold t_read_keys_text N_read_keys_text
  walk_at "e"
  refine ⟨(Dd.str z : Dd G (.str z) (.str z)).kn, ?_⟩
  rw [(Dd.str z : Dd G (.str z) (.str z)).is, show isV (.str z) "str" = true from rfl]
  walk_at "e"
  refine ⟨z, rfl, lz, tz, fun e G' x => ?_, fun ks e p G' hp x ep => ?_⟩
  · walk_at "e"
    exact hn e G' x
  · walk_at "e"
    unfold t_read_keys_text_r1
    walk_at "e"
    refine ⟨z, rfl, lz, tz, fun e' => (by rw [e] at e'; cases e'), fun ks' e' p' G'' hp' x' ep' => ?_⟩
    exact hs ks' e' p' G'' (x.none hp') (x.trans x') ep'
/-! words -/
def foundW (ws : List Str) : D := .tup [numbersV (ws.getD 0 Str.empty), numbersV (ws.getD 1 Str.empty), optI (numberV (ws.getD 2 Str.empty)), optI (numberV (ws.getD 3 Str.empty))]
theorem split_word {w : BW} (h : WdOk w) : Txt.split (wordT w) (Str.ofString "/") = [dotsT w.1.1, dotsT w.1.2.1, numT w.1.2.2, numT w.2] :=
  split_one tl_slash (by decide) (by simp) fun z hz => by
    simp only [List.mem_cons, List.not_mem_nil, or_false] at hz
    rcases hz with rfl | rfl | rfl | rfl
    · exact (sg_dots (wd_n6 h).1).free (by simp) (by decide)
    · exact (sg_dots (wd_n6 h).2).free (by simp) (by decide)
    · exact (sg_num h.k.1).free (by simp) (by decide)
    · exact (sg_num h.c.1).free (by simp) (by decide)
theorem found_word {w : BW} (h : WdOk w) : foundW (Txt.split (wordT w) (Str.ofString "/")) = rB w := by
  rw [split_word h]
  show D.tup [numbersV (dotsT w.1.1), numbersV (dotsT w.1.2.1), optI (numberV (numT w.1.2.2)), optI (numberV (numT w.2))] = _
  rw [numbers_dots (fun z hz => by have := h.sr z hz; omega) (fun e => by have := h.s1; rw [e] at this; simp at this), numbers_dots (fun z hz => by have := h.gr z hz; omega) (fun e => by have := h.g1; rw [e] at this; simp at this), number_num h.k.1 (by have := h.k; omega), number_num h.c.1 (by have := h.c; omega)]
  rfl
theorem word_of {d : D} (h : wordV d = true) : ∃ w : BW, d = rB w ∧ WdOk w := by
  unfold wordV at h
  split at h
  · simp only [Bool.and_eq_true] at h
    obtain ⟨⟨⟨h1, h2⟩, h3⟩, h4⟩ := h
    obtain ⟨a, rfl, a1, a2, a3⟩ := row_of h1
    obtain ⟨s, rfl, s1, s2, s3⟩ := row_of h2
    obtain ⟨k, rfl, k1, k2⟩ := from_of h3
    obtain ⟨c, rfl, c1, c2⟩ := from_of h4
    exact ⟨((a, s, k), c), rfl, ⟨by show 1 ≤ a.length; omega, by show a.length ≤ 6; omega, a3, by show 1 ≤ s.length; omega, by show s.length ≤ 4; omega, s3, ⟨k1, k2⟩, ⟨c1, c2⟩⟩⟩
  · cases h
/-- the word that a text tells, or none -/
def UpW (z : Str) : Option BW → Prop
  | some w => WdOk w ∧ wordT w = z
  | none => ∀ w, WdOk w → wordT w ≠ z
theorem upw_uniq {w v : BW} (h : WdOk w) (h' : WdOk v) (e : wordT w = wordT v) : w = v := rB_inj (by rw [← found_word h, ← found_word h', e])
theorem dd_foundW {G : Hd} (ws : List Str) : Dd G (foundW ws) (foundW ws) := .tup (.cons (dd_numbers _) (.cons (dd_numbers _) (.cons (dd_opt _) (.cons (dd_opt _) .nil))))
def sp_read_word : DSp := fun ds G q xx => (∃ z : Str, ds = [.str z] ∧ z.length ≤ 987000 ∧ Tx z ∧ (UpW z none → ∀ G', Ext G G' → xx 15 .non G') ∧ ∀ w, UpW z (some w) → ∀ G', Ext G G' → q (rB w) G') ∨
  ∃ x d, ds = [x] ∧ Dd G x d ∧ isV d "str" = false ∧ ∀ G', Ext G G' → xx 15 .non G'
def t_read_word_s1 : TSd := dIf (dAnd (dB (dCall sp_is_word (dCons (dVar 2) (dNil)))) (dB (dOp (eqR false) (dCall sp_show_word (dCons (dVar 2) (dNil))) (dVar 0)))) (dRet (dVar 2)) (dNext)
def t_read_word_s2 : TSd := dIf (dB (dOp (eqR false) (dBi (BI.r .len) (dCons (dVar 1) (dNil))) (dC (.int 4)))) (dSeq (dAsg (dTup (dCons (dCall sp_numbers_in (dCons (dOp ixD (dVar 1) (dC (.int 0))) (dNil))) (dCons (dCall sp_numbers_in (dCons (dOp ixD (dVar 1) (dC (.int 1))) (dNil))) (dCons (dCall sp_number_in (dCons (dOp ixD (dVar 1) (dC (.int 2))) (dNil))) (dCons (dCall sp_number_in (dCons (dOp ixD (dVar 1) (dC (.int 3))) (dNil))) (dNil)))))) (dgName 2)) t_read_word_s1) (dNext)
def N_read_word : List Str := ["text", "parts", "found"]
def P_read_word : List Str := ["text"]
def t_read_word : TSd := dSeq (dIf (dB (dBi (BI.r .isi) (dCons (dVar 0) (dCons (dC (.ty "str")) (dNil))))) (dSeq (dAsg (dBm "str" splitD (dVar 0) (dCons (dC (.str "/")) (dNil))) (dgName 1)) t_read_word_s2) (dNext)) (dRaise 15)
def gl_read_word : List (Str × GI) := [("isinstance", .bi .isi), ("str", .ty "str"), ("len", .bi .len), ("number_in", .fn sp_number_in), ("numbers_in", .fn sp_numbers_in), ("show_word", .fn sp_show_word), ("is_word", .fn sp_is_word), ("NoText", .exc)]
theorem len_read_word : ∀ ds G q x, sp_read_word ds G q x → ds.length = P_read_word.length := by
  rintro _ _ _ _ (⟨z, rfl, _⟩ | ⟨x, d, rfl, _⟩) <;> rfl
theorem b_read_word : Body t_read_word N_read_word sp_read_word := by
  rintro ds G q x (⟨z, rfl, lz, tz, hn, hs⟩ | ⟨x, d, rfl, dd, nd, hq⟩)
  rotate_left
  · unfold t_read_word N_read_word
    walk_at "e"
    refine ⟨dd.kn, ?_⟩
    rw [dd.is, nd]
    walk_at "e"
    exact hq _ .refl
  obtain ⟨s1, s2, s3⟩ := split_parts (z := z) tl_slash (by decide)
  have hfw : ∀ w, WdOk w → wordT w = z → foundW (Txt.split z (Str.ofString "/")) = rB w ∧ (Txt.split z (Str.ofString "/")).length = 4 := fun w h e => by
    rw [← e, found_word h, split_word h]; exact ⟨rfl, rfl⟩
  unfold t_read_word N_read_word
  walk_at "e"
  refine ⟨(Dd.str z : Dd G (.str z) (.str z)).kn, ?_⟩
  rw [(Dd.str z : Dd G (.str z) (.str z)).is, show isV (.str z) "str" = true from rfl]
  walk_at "e"
  refine ⟨by decide, by rw [sizeLine_eq]; omega, ?_⟩
  intro p hp
  generalize ep : st G p _ = G1
  obtain ⟨xp, kp⟩ := nu hp ep
  generalize Txt.split z (Str.ofString "/") = ws at kp s1 s2 s3 hfw
  unfold t_read_word_s2
  walk_at "e"
  refine ⟨_, .inl ⟨_, .inl kp, rfl⟩, ?_⟩
  rw [List.length_map]
  by_cases l4 : ws.length = 4
  rotate_left
  · rw [decide_eq_false (by omega), br_f]
    exact hn (fun w h e => l4 (hfw w h e).2) _ xp
  rw [decide_eq_true (by omega), br_t]
  obtain ⟨a0, m0⟩ := nth_word (ws := ws) (i := 0) (by omega)
  obtain ⟨a1, m1⟩ := nth_word (ws := ws) (i := 1) (by omega)
  obtain ⟨a2, m2⟩ := nth_word (ws := ws) (i := 2) (by omega)
  obtain ⟨a3, m3⟩ := nth_word (ws := ws) (i := 3) (by omega)
  have l0 := s2 _ m0
  have l1 := s2 _ m1
  have l2 := s2 _ m2
  have l3 := s2 _ m3
  refine ⟨_, .inl kp, _, a0, _, rfl, by omega, fun G2 x2 => ?_⟩
  walk_at "e"
  refine ⟨_, .inl (x2.at kp), _, a1, _, rfl, by omega, fun G3 x3 => ?_⟩
  walk_at "e"
  refine ⟨_, .inl ((x2.trans x3).at kp), _, a2, _, rfl, by omega, fun G4 x4 => ?_⟩
  walk_at "e"
  refine ⟨_, .inl (((x2.trans x3).trans x4).at kp), _, a3, _, rfl, by omega, fun G5 x5 => ?_⟩
  unfold t_read_word_s1
  walk_at "e"
  have x05 := xp.trans (((x2.trans x3).trans x4).trans x5)
  have ef : D.tup [numbersV (ws.getD 0 Str.empty), numbersV (ws.getD 1 Str.empty), optI (numberV (ws.getD 2 Str.empty)), optI (numberV (ws.getD 3 Str.empty))] = foundW ws := rfl
  rw [ef]
  refine ⟨foundW ws, foundW ws, rfl, dd_foundW ws, fun G6 x6 => ?_⟩
  have x06 := x05.trans x6
  walk_at "e"
  cases hc : wordV (foundW ws) with
  | false =>
    refine ⟨fun h => (by cases h), fun _ => hn (fun w h e => ?_) _ x06⟩
    rw [(hfw w h e).1, wordV_ok h] at hc
    cases hc
  | true =>
    refine ⟨fun _ => ?_, fun h => (by cases h)⟩
    obtain ⟨w, ec, wok⟩ := word_of hc
    rw [ec]
    refine ⟨w, rfl, wok, fun G7 x7 => ?_⟩
    have x07 := x06.trans x7
    walk_at "e"
    rw [eqR_s (tx_word wok).ok tz.ok, Bool.false_xor]
    by_cases e : wordT w = z
    · rw [e, beq_self_eq_true]
      walk_at "e"
      exact hs w ⟨wok, e⟩ _ x07
    · rw [beq_eq_false_iff_ne.mpr e]
      walk_at "e"
      refine hn (fun v h r => ?_) _ x07
      rw [(hfw v h r).1] at ec
      rw [rB_inj ec] at r
      exact e r
/-! wishes -/
def foundH (ws : List Str) : D := .tup (((cut ws none (some 1)).map D.str ++ (cut ws (some 1) (some 3)).map fun p => optI (numberV p)) ++ (cut ws (some 3) none).map numbersV)
theorem cut1 (w : Wsh) : cut w.words none (some 1) = [Str.ofString w.kind] ∧ cut w.words (some 1) (some 3) = w.pl.map numT ∧ cut w.words (some 3) none = w.sg.map dotsT := by
  rw [cut_to (by decide), cut_mid (by decide) (by decide), cut_from (by decide)]
  rcases w with ⟨_ | _, a⟩ | ⟨i, j⟩ | ⟨i, j, ss⟩ <;> exact ⟨rfl, rfl, rfl⟩
theorem found_wish {n : Int} {w : Wsh} (h : w.V n) (hn : n ≤ 24) : foundH (Txt.split w.T (Str.ofString ":")) = w.d := by
  rw [split_wish h hn]
  unfold foundH Wsh.d
  obtain ⟨c1, c2, c3⟩ := cut1 w
  rw [c1, c2, c3, List.map_map, List.map_map]
  have e1 : w.pl.map ((fun p => optI (numberV p)) ∘ numT) = w.pl.map .int := List.map_congr_left fun z hz => by
    have := h.pl hn z hz
    show optI (numberV (numT z)) = _
    rw [number_num this.1 (by omega)]; rfl
  have e2 : w.sg.map (numbersV ∘ dotsT) = w.sg.map fun ss => D.tup (ss.map .int) := List.map_congr_left fun ss hs => by
    obtain ⟨s1, _, s3⟩ := h.sg ss hs
    exact numbers_dots s3 (fun e => by rw [e] at s1; simp at s1)
  rw [e1, e2]; rfl
theorem bj_of {s : Str} (h : bjS s = true) : ∃ j : Bool, s = Str.ofString (Wsh.bj j 0).kind := by
  unfold bjS at h
  rw [Bool.or_eq_true] at h
  rcases h with h | h
  · exact ⟨false, (eq_of_beq h).symm⟩
  · exact ⟨true, (eq_of_beq h).symm⟩
theorem wish_of {n : Int} {d : D} (h : wishV n d = true) : ∃ w : Wsh, d = w.d ∧ w.V n := by
  unfold wishV at h
  split at h
  · rename_i s r
    split at h
    · rename_i hb
      obtain ⟨j, rfl⟩ := bj_of hb
      split at h
      · obtain ⟨a, rfl, a1, a2⟩ := from_of h
        exact ⟨.bj j a, by cases j <;> rfl, a1, a2⟩
      · cases h
    · split at h
      · simp only [Bool.and_eq_true] at h
        obtain ⟨⟨h1, h2⟩, h3⟩ := h
        obtain ⟨i, rfl, i1, i2⟩ := from_of h2
        obtain ⟨j, rfl, j1, j2⟩ := from_of h3
        obtain rfl := eq_of_beq h1
        exact ⟨.span i j, rfl, i1, i2, j1, j2⟩
      · simp only [Bool.and_eq_true] at h
        obtain ⟨⟨⟨h1, h2⟩, h3⟩, h4⟩ := h
        obtain ⟨i, rfl, i1, i2⟩ := from_of h2
        obtain ⟨j, rfl, j1, j2⟩ := from_of h3
        obtain ⟨ss, rfl, s1, s2, s3⟩ := row_of h4
        obtain rfl := eq_of_beq h1
        exact ⟨.held i j ss, rfl, ⟨i1, i2, j1, j2⟩, by omega, by omega, s3⟩
      · cases h
  · cases h
theorem wish_v {n : Int} {w : Wsh} (h : w.V n) : wishV n w.d = true := by
  rcases w with ⟨_ | _, a⟩ | ⟨i, j⟩ | ⟨i, j, ss⟩
  · show (if bjS (Str.ofString "border") = true then fromV 1 (n - 1) (.int a) else false) = true
    rw [if_pos (by decide)]; exact fromV_of h.1 h.2
  · show (if bjS (Str.ofString "joined") = true then fromV 1 (n - 1) (.int a) else false) = true
    rw [if_pos (by decide)]; exact fromV_of h.1 h.2
  · show (if bjS (Str.ofString "span") = true then false else ((("span" : Str) == Str.ofString "span") && fromV 0 n (.int i) && fromV (i + 1) n (.int j))) = true
    rw [if_neg (by decide), fromV_of h.1 h.2.1, fromV_of h.2.2.1 h.2.2.2, beq_self_eq_true]; rfl
  · obtain ⟨⟨h1, h2, h3, h4⟩, h5, h6, h7⟩ := h
    show (if bjS (Str.ofString "held") = true then false else ((("held" : Str) == Str.ofString "held") && fromV 0 n (.int i) && fromV (i + 1) n (.int j) && rowV 1 24 1039 (.tup (ss.map .int)))) = true
    rw [if_neg (by decide), fromV_of h1 h2, fromV_of h3 h4, beq_self_eq_true, rowV_of (by omega) (by omega) h7]; rfl
theorem wish_inj {v w : Wsh} (h : v.d = w.d) : v = w := by
  unfold Wsh.d at h
  have hi : Function.Injective (D.int) := fun _ _ h => by cases h; rfl
  have hm : ∀ {a b : List Int}, a.map D.int = b.map D.int → a = b := fun h => (List.map_inj_right (fun _ _ h => hi h)).mp h
  rcases v with ⟨_ | _, a⟩ | ⟨i, j⟩ | ⟨i, j, ss⟩ <;> rcases w with ⟨_ | _, a'⟩ | ⟨i', j'⟩ | ⟨i', j', ss'⟩ <;>
    simp [Wsh.kind, Wsh.pl, Wsh.sg] at h <;> first | (rw [h]; done) | (obtain ⟨h1, h2⟩ := h; subst h1; subst h2; rfl) | (obtain ⟨h1, h2, h3⟩ := h; subst h1; subst h2; rw [hm h3]) | (exfalso; revert h; decide) | (exfalso; have := h.1; revert this; decide)
def UpH (n : Int) (z : Str) : Option Wsh → Prop
  | some w => w.V n ∧ w.T = z
  | none => ∀ w : Wsh, w.V n → w.T ≠ z
theorem dd_foundH {G : Hd} (ws : List Str) : Dd G (foundH ws) (foundH ws) := by
  have go : ∀ {xs : List D}, (∀ y ∈ xs, Dd G y y) → Dds G xs xs := fun {xs} => by
    induction xs with
    | nil => intro _; exact .nil
    | cons x xs ih => intro h; exact .cons (h x List.mem_cons_self) (ih fun y hy => h y (List.mem_cons_of_mem _ hy))
  refine .tup (go fun y hy => ?_)
  rcases List.mem_append.mp hy with hy | hy
  · rcases List.mem_append.mp hy with hy | hy
    · obtain ⟨w, _, rfl⟩ := List.mem_map.mp hy
      exact .str w
    · obtain ⟨w, _, rfl⟩ := List.mem_map.mp hy
      exact dd_opt _
  · obtain ⟨w, _, rfl⟩ := List.mem_map.mp hy
    exact dd_numbers w
theorem gd_foundH {ws : List Str} (l : ws.length ≤ 330000) (h : ∀ w ∈ ws, w.length ≤ 987000 ∧ Tx w) : gd 1000000 9 (foundH ws) := by
  refine gd_tup.mpr ⟨?_, fun y hy => ?_⟩
  · have h1 := @cut_le _ ws none (some 1)
    have h2 := @cut_le _ ws (some 1) (some 3)
    have h3 := @cut_le _ ws (some 3) none
    simp only [List.length_append, List.length_map]
    omega
  rcases List.mem_append.mp hy with hy | hy
  · rcases List.mem_append.mp hy with hy | hy
    · obtain ⟨w, hw, rfl⟩ := List.mem_map.mp hy
      have := h w (cut_sub hw)
      exact gd_str ⟨this.2.ok, by omega⟩
    · obtain ⟨w, _, rfl⟩ := List.mem_map.mp hy
      exact gd_opt _
  · obtain ⟨w, hw, rfl⟩ := List.mem_map.mp hy
    exact gd_numbers (by have := h w (cut_sub hw); omega)
def sp_read_wish : DSp := fun ds G q xx => (∃ (n : Int) (z : Str), ds = [.int n, .str z] ∧ n ≤ 24 ∧ z.length ≤ 300000 ∧ Tx z ∧ (UpH n z none → ∀ G', Ext G G' → xx 15 .non G') ∧ ∀ w, UpH n z (some w) → ∀ G', Ext G G' → q w.d G') ∨
  ∃ n x d, ds = [.int n, x] ∧ Dd G x d ∧ isV d "str" = false ∧ ∀ G', Ext G G' → xx 15 .non G'
def t_read_wish_s1 : TSd := dIf (dAnd (dB (dCall sp_is_wish (dCons (dVar 0) (dCons (dVar 5) (dNil))))) (dB (dOp (eqR false) (dCall sp_show_wish (dCons (dVar 5) (dNil))) (dVar 1)))) (dRet (dVar 5)) (dNext)
def N_read_wish : List Str := ["n", "text", "parts", "places", "part", "found"]
def P_read_wish : List Str := ["n", "text"]
def t_read_wish : TSd := dSeq (dIf (dB (dBi (BI.r .isi) (dCons (dVar 1) (dCons (dC (.ty "str")) (dNil))))) (dSeq (dAsg (dBm "str" splitD (dVar 1) (dCons (dC (.str ":")) (dNil))) (dgName 2)) (dSeq (dAsg (dLc (dItV (dSl (dVar 2) (dPart (dC (.int 1))) (dPart (dC (.int 3))))) (dgName 4) dYes (dCall sp_number_in (dCons (dVar 4) (dNil))) [4]) (dgName 3)) (dSeq (dAsg (dBi (BI.r .tuple) (dCons (dOp addD (dOp addD (dSl (dVar 2) dNoPart (dPart (dC (.int 1)))) (dVar 3)) (dLc (dItV (dSl (dVar 2) (dPart (dC (.int 3))) dNoPart)) (dgName 4) dYes (dCall sp_numbers_in (dCons (dVar 4) (dNil))) [4])) (dNil))) (dgName 5)) t_read_wish_s1))) (dNext)) (dRaise 15)
def gl_read_wish : List (Str × GI) := [("isinstance", .bi .isi), ("str", .ty "str"), ("number_in", .fn sp_number_in), ("tuple", .bi .tuple), ("numbers_in", .fn sp_numbers_in), ("show_wish", .fn sp_show_wish), ("is_wish", .fn sp_is_wish), ("NoText", .exc)]
theorem len_read_wish : ∀ ds G q x, sp_read_wish ds G q x → ds.length = P_read_wish.length := by
  rintro _ _ _ _ (⟨n, z, rfl, _⟩ | ⟨n, x, d, rfl, _⟩) <;> rfl
theorem b_read_wish : Body t_read_wish N_read_wish sp_read_wish := by
  rintro ds G q x (⟨n, z, rfl, n24, lz, tz, hn, hs⟩ | ⟨n, x, d, rfl, dd, nd, hq⟩)
  rotate_left
  · unfold t_read_wish N_read_wish
    walk_at "e"
    refine ⟨dd.kn, ?_⟩
    rw [dd.is, nd]
    walk_at "e"
    exact hq _ .refl
  obtain ⟨s1, s2, s3⟩ := split_parts (z := z) tl_colon (by decide)
  have s3 := s3 tz
  have hfw : ∀ w : Wsh, w.V n → w.T = z → foundH (Txt.split z (Str.ofString ":")) = w.d := fun w h e => by rw [← e, found_wish h n24]
  unfold t_read_wish N_read_wish
  walk_at "e"
  refine ⟨(Dd.str z : Dd G (.str z) (.str z)).kn, ?_⟩
  rw [(Dd.str z : Dd G (.str z) (.str z)).is, show isV (.str z) "str" = true from rfl]
  walk_at "e"
  refine ⟨by decide, by rw [sizeLine_eq]; omega, ?_⟩
  intro p hp
  generalize ep : st G p _ = G1
  obtain ⟨xp, kp⟩ := nu hp ep
  generalize Txt.split z (Str.ofString ":") = ws at kp s1 s2 s3 hfw
  refine ⟨_, .inl kp, ?_⟩
  rw [cut_map]
  intro p1 hp1
  generalize ep1 : st G1 p1 _ = G2
  obtain ⟨xp1, kp1⟩ := nu hp1 ep1
  refine ⟨_, .inl kp1, ?_⟩
  have cl := fun lo hi => @cut_le _ ws lo hi
  refine lcR_valM (cut ws (some 1) (some 3)) D.str (fun p => optI (numberV p)) (Nat.le_trans (cl _ _) (by omega)) (fun G' x => .inl (x.at kp1)) (fun w hw G' Q' x kk => ?_) fun p2 G3 hp2 x3 e3 => ?_
  · walk_at "e"
    exact ⟨w, rfl, by have := s2 w (cut_sub hw); omega, fun G'' x' => kk _ x'⟩
  have x13 := xp1.trans x3
  walk_at "e"
  refine ⟨_, .inl (x13.at kp), ?_⟩
  rw [cut_map]
  intro p4 hp4
  generalize ep4 : st G3 p4 _ = G4
  obtain ⟨xp4, kp4⟩ := nu hp4 ep4
  refine ⟨_, kp4, _, xp4.at e3, line_le (by have h1 := cl none (some 1); have h2 := cl (some 1) (some 3); simp only [List.length_map]; omega), ?_⟩
  intro p5 hp5
  generalize ep5 : st G4 p5 _ = G5
  obtain ⟨xp5, kp5⟩ := nu hp5 ep5
  have x15 := x13.trans (xp4.trans xp5)
  refine ⟨_, .inl (x15.at kp), ?_⟩
  rw [cut_map]
  intro p6 hp6
  generalize ep6 : st G5 p6 _ = G6
  obtain ⟨xp6, kp6⟩ := nu hp6 ep6
  refine ⟨_, .inl kp6, ?_⟩
  refine lcR_valM (cut ws (some 3) none) D.str numbersV (Nat.le_trans (cl _ _) (by omega)) (fun G' x => .inl (x.at kp6)) (fun w hw G' Q' x kk => ?_) fun p7 G7 hp7 x7 e7 => ?_
  · walk_at "e"
    exact ⟨w, rfl, by have := s2 w (cut_sub hw); omega, fun G'' x' => kk _ x'⟩
  refine ⟨_, (xp6.trans x7).at kp5, _, e7, line_le (by have h1 := cl none (some 1); have h2 := cl (some 1) (some 3); have h3 := cl (some 3) none; simp only [List.length_append, List.length_map]; omega), ?_⟩
  intro p8 hp8
  generalize ep8 : st G7 p8 _ = G8
  obtain ⟨xp8, kp8⟩ := nu hp8 ep8
  refine ⟨_, .inl kp8, ?_⟩
  unfold t_read_wish_s1
  walk_at "e"
  have x08 := (xp.trans x15).trans ((xp6.trans x7).trans xp8)
  have ef : D.tup (((cut ws none (some 1)).map D.str ++ (cut ws (some 1) (some 3)).map fun p => optI (numberV p)) ++ (cut ws (some 3) none).map numbersV) = foundH ws := rfl
  rw [ef]
  refine ⟨foundH ws, foundH ws, n, rfl, dd_foundH ws, gd_foundH (by omega) (fun w hw => ⟨by have := s2 w hw; omega, s3 w hw⟩), fun G9 x9 => ?_⟩
  have x09 := x08.trans x9
  walk_at "e"
  cases hc : wishV n (foundH ws) with
  | false =>
    refine ⟨fun h => (by cases h), fun _ => hn (fun w h e => ?_) _ x09⟩
    rw [hfw w h e, wish_v h] at hc
    cases hc
  | true =>
    refine ⟨fun _ => ?_, fun h => (by cases h)⟩
    obtain ⟨w, ec, wv⟩ := wish_of hc
    rw [ec]
    refine ⟨w, n, rfl, wv, n24, fun G10 x10 => ?_⟩
    have x010 := x09.trans x10
    walk_at "e"
    rw [eqR_s (len_wish wv n24).2.ok tz.ok, Bool.false_xor]
    by_cases e : w.T = z
    · rw [e, beq_self_eq_true]
      walk_at "e"
      exact hs w ⟨wv, e⟩ _ x010
    · rw [beq_eq_false_iff_ne.mpr e]
      walk_at "e"
      refine hn (fun v h r => ?_) _ x010
      rw [hfw v h r] at ec
      rw [wish_inj ec] at r
      exact e r
end S
set_option Elab.async false
set_option linter.all false
set_option maxRecDepth 100000
set_option maxHeartbeats 4000000
namespace S
open PySem PySem.Spec L2
open PyProof.Rows hiding St
local macro_rules | `(tactic| walk_at "e") => `(tactic| try simp only [fld_eq, fld_r, setf_eq, setf_r, meth_eq, mth_r, dMake, dDict1, extD_t, extD_rr, eqR_ti, eqR_t0, slD_ti, lenD_ti, addD_ti1, addD_ti, ixD_ti, setD_ti, extD_ti, tupleD_ti, listD_ti, ixD_tii, itv_ti, dSeq, dNext, dRet, dRetN, dIf, dAsg, dAug, dDrop, par_eq, prs_2, par3_eq, prs3_3, dBreak, dCont, dgName, dgSub, gTup_t, gCons_c, gNil_n, dFor_eq, dLc_eq, dVar, dC, dOp, dUn, dBi, dCall, dCons, dNil, dTup, dLst, dSl, part_eq, prt_i, dNoPart, dAndV, dOrV, dNotV, dB, dAnd, dOr, dNot, dIfE, dChain, itv_eq, itv_t, itv_r, dRng, dWalk, dBm, rng1_i, rng2_i, rng3_i, enumR_r, enumR_t, gTup_r, tr_n, tr_t, dLitE, zipR_r, zipR_t,
  BI.r, addD_i, addD_s, addD_t, addD_r, subD_i, mulD_i, mulD_r, mulD_t, modD_i, divD_i, powD_i, ltD_i, leD_i, gtD_i, geD_i, incD_i, negD_i, lr1_i, lr2_i, revD_r, isND_n, isNon, ixD_t, ixD_r, ixD_d, setD_d, dDnew, itk_eq, itk_r, dDm, getD_r, ditD_r, dItI, iti_r, listK_r, sortedD_r, ixK_t, ixK_r, ixK_l, dKnew, dItJ, itj_r, dKm, getK_r, sdfK_r, dikD_r, sortedJ_r, sortedG_r, dBm0, clearD_r, revsD_r, dChain3, ixD_l, ixD_s, slD_t, slD_r, slD_s, setD_r, lenD_s, lenD_t, lenD_l, lenD_r, isiD_1, isiD_n, listD_t, listD_r, tupleD_t, tupleD_r, allD_r, anyD_r, sumD_r, maxD_r, maxD_t, minD_t, minLD_r, maxLD_r, sumLD_2, sumLD_1, minDf_r, maxD_2, minD_r, minD_2, absD_i, intB_i, intB_b, intB_s, itv_s, mulD_s, inD_s, tyD_s, joinD_r, splitD_s, partD_s, stripD_s, findD_s, countT_s, indexT_s, fmtD_s, fmtD_i, dFmt, jsD_s, js_nil, js_cons, strOf_i, strOf_s, appD_r, startD, wipeD,
  List.map_cons, List.map_nil, rep_z, rep_s, List.length_cons, List.length_nil, List.cons_append, List.nil_append, List.append_nil, List.getElem?_cons_zero, List.getElem?_cons_succ, List.set_cons_zero, List.set_cons_succ, Option.some.injEq, exists_eq_left', exists_eq_left, D.bl.injEq, D.int.injEq, D.tup.injEq, D.ref.injEq, true_and, and_true, Nat.reduceAdd, Nat.reduceSub, Nat.add_sub_cancel_left, exists_const, br_t, br_f, eqR_int, eqR_bl, Bool.false_bne, Bool.true_bne, Bool.false_xor, Bool.true_xor, Bool.not_true, Bool.not_false, Bool.not_not, ite_true, ite_false, Bool.true_eq_false, false_implies, decide_true, decide_false, tc_int, tc_bool, tc_str, tc_tup, tc_lst, tc_non, tc_dic, ln0, ln1, ln2, ln3, ln4, ln5, ln6, ln7, ln8, ln9, ln10, ln11, ln12, ln13, ln14, ln15, ln16, ln17, ln18, ln19, ln20, ln21, ln22, ln23, ln24, ln25, ln26, ln27, ln28, ln29, ln30, ln31, ln32, ln33, ln34, ln35, ln36, ln37, ln38, ln39, ln40, ln41, ln42, ln43, ln44, ln45, ln46, ln47, ln48, ln49, ln50, ln51, ln52, ln53, ln54, ln55, ln56, ln57, ln58, ln59, ln60])
local macro_rules | `(tactic| walk_at "g") => `(tactic| try simp only [st_same, st_st, GO.lst.injEq, Option.some.injEq, exists_eq_left', exists_eq_left, atI_0, atI_1, atI_2, atI_3, ixN_0, ixN_1, ixN_2, ixN_3, List.set_cons_zero, List.set_cons_succ, List.length_cons, List.length_nil, List.length_append, List.cons_append, List.nil_append, true_and, and_true, seq_st])
/-! ## the law's own writing of texts -/
abbrev sp__law_numbers81 : DSp := sp__law_numbers_of
def N__law_numbers81 : List Str := ["_law_bag_here", "_law_many", "_law_most", "_law_k"]
def P__law_numbers81 : List Str := ["_law_bag_here", "_law_many", "_law_most"]
def t__law_numbers81 : TSd := dRet (dBi (BI.r .tuple) (dCons (dLc (dRng rng1 (dCons (dVar 1) (dNil))) (dgName 3) dYes (dCall sp__law_take (dCons (dVar 0) (dCons (dVar 2) (dNil)))) [3]) (dNil)))
def gl__law_numbers81 : List (Str × GI) := [("tuple", .bi .tuple), ("range", .rng), ("_law_take", .fn sp__law_take)]
theorem len__law_numbers81 : ∀ ds G q x, sp__law_numbers81 ds G q x → ds.length = P__law_numbers81.length := len__law_numbers_of
theorem b__law_numbers81 : Body t__law_numbers81 N__law_numbers81 sp__law_numbers81 := b__law_numbers_of
abbrev sp__law_keys_text : DSp := sp_show_keys
def t__law_keys_text_r1 : TSd := dRet (dBm "str" joinD (dC (.str "")) (dCons (dLc (dItV (dVar 0)) (dgName 1) dYes (dOp ixD (dC (.str "abcdefghijklmnopqrstuvwxyz")) (dVar 1)) [1]) (dNil)))
def N__law_keys_text : List Str := ["_law_keys", "_law_key"]
def P__law_keys_text : List Str := ["_law_keys"]
def t__law_keys_text : TSd := dSeq (dIf (dB (dOp (eqR false) (dBi (BI.r .len) (dCons (dVar 0) (dNil))) (dC (.int 0)))) (dRet (dC (.str "-"))) (dNext)) t__law_keys_text_r1
def gl__law_keys_text : List (Str × GI) := [("len", .bi .len)]
theorem len__law_keys_text : ∀ ds G q x, sp__law_keys_text ds G q x → ds.length = P__law_keys_text.length := len_show_keys
theorem b__law_keys_text : Body t__law_keys_text N__law_keys_text sp__law_keys_text := b_show_keys
def sp__law_dots81 : DSp := sp_show_numbers
def t__law_dots81_r1 : TSd := dRet (dBm "str" joinD (dC (.str ".")) (dCons (dLc (dItV (dVar 0)) (dgName 1) dYes (dBi (BI.r .str) (dCons (dVar 1) (dNil))) [1]) (dNil)))
def N__law_dots81 : List Str := ["_law_numbers_here", "_law_number"]
def P__law_dots81 : List Str := ["_law_numbers_here"]
def t__law_dots81 : TSd := dSeq (dIf (dB (dOp (eqR false) (dBi (BI.r .len) (dCons (dVar 0) (dNil))) (dC (.int 0)))) (dRet (dC (.str "-"))) (dNext)) t__law_dots81_r1
def gl__law_dots81 : List (Str × GI) := [("len", .bi .len), ("str", .bi .str)]
theorem len__law_dots81 : ∀ ds G q x, sp__law_dots81 ds G q x → ds.length = P__law_dots81.length := len_show_numbers
theorem b__law_dots81 : Body t__law_dots81 N__law_dots81 sp__law_dots81 := by
  rintro ds G q x ⟨x, ns, rfl, sx, ln, h6, hq⟩
  unfold t__law_dots81 N__law_dots81
  walk_at "e"
  refine sq_len sx ?_
  walk_at "e"
  rw [List.length_map]
  by_cases e : ns = []
  · subst e
    change Br true _ _
    rw [br_t]
    exact hq _ .refl
  · have hl : 0 < ns.length := List.length_pos_iff.mpr e
    rw [decide_eq_false (by omega), br_f]
    unfold t__law_dots81_r1
    walk_at "e"
    refine itv_sq sx fun stay hs => ?_
    refine lcR_valM ns D.int (fun i => D.str (numT i)) (by omega) hs (fun i hi G' Q' x kk => ?_) fun p G1 hp x1 e1 => ?_
    · walk_at "e"
      exact ⟨n500 (h6 i hi).1 (h6 i hi).2, kk _ .refl⟩
    walk_at "e"
    refine ⟨ns.map numT, .inl (by rw [e1, List.map_map]; rfl), join_fits (B := 6) (fun z hz => ?_) ?_, ?_⟩
    · obtain ⟨i, hi, rfl⟩ := List.mem_map.mp hz
      exact len_num6 (h6 i hi)
    · rw [List.length_map, show (Str.ofString ".").length = 1 by decide]; omega
    · have := hq G1 x1
      unfold numsT at this
      rwa [if_neg e] at this
theorem numsT_ne {ns : List Int} (h : 1 ≤ ns.length) : numsT ns = dotsT ns := by
  unfold numsT
  rw [if_neg fun e => by rw [e] at h; simp at h]
def sp__law_word_text : DSp := fun ds G q _ => ∃ w : BW, ds = [rB w] ∧ WdOk w ∧ ∀ G', Ext G G' → q (.str (wordT w)) G'
def N__law_word_text : List Str := ["_law_word_here"]
def P__law_word_text : List Str := ["_law_word_here"]
def t__law_word_text : TSd := dRet (dBm "str" joinD (dC (.str "/")) (dCons (dLst (dCons (dCall sp__law_dots81 (dCons (dOp ixD (dVar 0) (dC (.int 0))) (dNil))) (dCons (dCall sp__law_dots81 (dCons (dOp ixD (dVar 0) (dC (.int 1))) (dNil))) (dCons (dBi (BI.r .str) (dCons (dOp ixD (dVar 0) (dC (.int 2))) (dNil))) (dCons (dBi (BI.r .str) (dCons (dOp ixD (dVar 0) (dC (.int 3))) (dNil))) (dNil)))))) (dNil)))
def gl__law_word_text : List (Str × GI) := [("str", .bi .str), ("_law_dots", .fn sp__law_dots81)]
theorem len__law_word_text : ∀ ds G q x, sp__law_word_text ds G q x → ds.length = P__law_word_text.length := by
  rintro _ _ _ _ ⟨w, rfl, _⟩; rfl
theorem b__law_word_text : Body t__law_word_text N__law_word_text sp__law_word_text := by
  rintro ds G q x ⟨w, rfl, ok, hq⟩
  have h5 := ok.s6
  have h6 := ok.g4
  have l1 := len_dots (wd_n6 ok).1
  have l2 := len_dots (wd_n6 ok).2
  have l3 := len_num6 (i := w.1.2.2) (by have := ok.k; omega)
  have l4 := len_num6 (i := w.2) (by have := ok.c; omega)
  have n3 := n500 (i := w.1.2.2) (by have := ok.k; omega) (by have := ok.k; omega)
  have n4 := n500 (i := w.2) (by have := ok.c; omega) (by have := ok.c; omega)
  unfold t__law_word_text N__law_word_text rB ti
  walk_at "e"
  refine ⟨_, atI_0, _, w.1.1, rfl, .inl rfl, by omega, (wd_n6 ok).1, fun G1 x1 => ?_⟩
  walk_at "e"
  refine ⟨_, atI_1, _, w.1.2.1, rfl, .inl rfl, by omega, (wd_n6 ok).2, fun G2 x2 => ?_⟩
  walk_at "e"
  refine ⟨_, atI_2, n3, _, atI_3, n4, ?_⟩
  intro p hp
  generalize ep : st G2 p _ = G3
  obtain ⟨xp, kp⟩ := nu hp ep
  rw [numsT_ne ok.s1, numsT_ne ok.g1] at kp
  refine ⟨[dotsT w.1.1, dotsT w.1.2.1, numT w.1.2.2, numT w.2], .inl kp, join_fits (B := 42) (fun z hz => ?_) (by rw [show (Str.ofString "/").length = 1 by decide]; simp), ?_⟩
  · simp only [List.mem_cons, List.not_mem_nil, or_false] at hz
    rcases hz with rfl | rfl | rfl | rfl <;> omega
  · exact hq _ ((x1.trans x2).trans xp)
def sp__law_piece_text : DSp := fun ds G q _ => ∃ p : Pc, ds = [p.d] ∧ p.V ∧ ∀ G', Ext G G' → q (.str (pieceT p)) G'
def N__law_piece_text : List Str := ["_law_piece", "_law_end", "_law_signs", "_law_kind", "_law_cost"]
def P__law_piece_text : List Str := ["_law_piece"]
def t__law_piece_text : TSd := dSeq (dAsg (dVar 0) (dgTup 4 (dgCons (dgName 1) (dgCons (dgName 2) (dgCons (dgName 3) (dgCons (dgName 4) (dgNil))))))) (dRet (dBm "str" joinD (dC (.str ":")) (dCons (dLst (dCons (dBi (BI.r .str) (dCons (dVar 1) (dNil))) (dCons (dCall sp__law_dots81 (dCons (dVar 2) (dNil))) (dCons (dBi (BI.r .str) (dCons (dVar 3) (dNil))) (dCons (dBi (BI.r .str) (dCons (dVar 4) (dNil))) (dNil)))))) (dNil))))
def gl__law_piece_text : List (Str × GI) := [("str", .bi .str), ("_law_dots", .fn sp__law_dots81)]
theorem len__law_piece_text : ∀ ds G q x, sp__law_piece_text ds G q x → ds.length = P__law_piece_text.length := by
  rintro _ _ _ _ ⟨w, rfl, _⟩; rfl
theorem b__law_piece_text : Body t__law_piece_text N__law_piece_text sp__law_piece_text := by
  rintro ds G q x ⟨p, rfl, pv, hq⟩
  have ls := pv.l2
  have l1 := len_num6 (i := p.at_) (by have := pv.at_; omega)
  have ld := len_dots pv.n6
  have l3 := len_num6 (i := p.kind) (by have := pv.kd; omega)
  have l4 := len_num6 (i := p.cost) (by have := pv.co; omega)
  have n1 := n500 (i := p.at_) (by have := pv.at_; omega) (by have := pv.at_; omega)
  have n3 := n500 (i := p.kind) (by have := pv.kd; omega) (by have := pv.kd; omega)
  have n4 := n500 (i := p.cost) (by have := pv.co; omega) (by have := pv.co; omega)
  unfold t__law_piece_text N__law_piece_text Pc.d
  walk_at "e"
  refine ⟨n1, _, p.signs, rfl, .inl rfl, by omega, pv.n6, fun G1 x1 => ?_⟩
  walk_at "e"
  refine ⟨n3, n4, ?_⟩
  intro p1 hp1
  generalize ep1 : st G1 p1 _ = G2
  obtain ⟨xp1, kp1⟩ := nu hp1 ep1
  rw [numsT_ne pv.l1] at kp1
  refine ⟨[numT p.at_, dotsT p.signs, numT p.kind, numT p.cost], .inl kp1, join_fits (B := 168) (fun z hz => ?_) (by rw [show (Str.ofString ":").length = 1 by decide]; simp), ?_⟩
  · simp only [List.mem_cons, List.not_mem_nil, or_false] at hz
    rcases hz with rfl | rfl | rfl | rfl <;> omega
  · exact hq _ (x1.trans xp1)
def sp__law_wish_text : DSp := sp_show_wish
def N__law_wish_text : List Str := ["_law_wish_here", "_law_places", "_law_place", "_law_signs"]
def P__law_wish_text : List Str := ["_law_wish_here"]
def t__law_wish_text : TSd := dSeq (dAsg (dLc (dItV (dSl (dVar 0) (dPart (dC (.int 1))) (dPart (dC (.int 3))))) (dgName 2) dYes (dBi (BI.r .str) (dCons (dVar 2) (dNil))) [2]) (dgName 1)) (dRet (dBm "str" joinD (dC (.str ":")) (dCons (dOp addD (dOp addD (dLst (dCons (dOp ixD (dVar 0) (dC (.int 0))) (dNil))) (dVar 1)) (dLc (dItV (dSl (dVar 0) (dPart (dC (.int 3))) dNoPart)) (dgName 3) dYes (dCall sp__law_dots81 (dCons (dVar 3) (dNil))) [3])) (dNil))))
def gl__law_wish_text : List (Str × GI) := [("str", .bi .str), ("_law_dots", .fn sp__law_dots81)]
theorem len__law_wish_text : ∀ ds G q x, sp__law_wish_text ds G q x → ds.length = P__law_wish_text.length := len_show_wish
theorem cut3 (w : Wsh) {f : Int → D} {g : List Int → D} {k : D} : cut (k :: (w.pl.map f ++ w.sg.map g)) (some 3) none = w.sg.map g := by
  rw [cut_from (by decide)]
  rcases w with ⟨_ | _, a⟩ | ⟨i, j⟩ | ⟨i, j, ss⟩ <;> rfl
theorem b__law_wish_text : Body t__law_wish_text N__law_wish_text sp__law_wish_text := by
  rintro ds G q x ⟨w, n, rfl, hv, hn, hq⟩
  have hpl := hv.pl hn
  have hww := wish_words hv hn
  have hsg := hv.sg
  have lpl : w.pl.length ≤ 2 := by rcases w with ⟨_ | _, a⟩ | ⟨i, j⟩ | ⟨i, j, ss⟩ <;> simp [Wsh.pl]
  have lsg : w.sg.length ≤ 1 := by rcases w with ⟨_ | _, a⟩ | ⟨i, j⟩ | ⟨i, j, ss⟩ <;> simp [Wsh.sg]
  unfold t__law_wish_text N__law_wish_text Wsh.d
  walk_at "e"
  rw [cut13]
  refine lcR_valM w.pl D.int (fun i => D.str (numT i)) (by omega) (fun _ _ => trivial) (fun i hi G' Q' x kk => ?_) fun p2 G2 hp2 x2 e2 => ?_
  · walk_at "e"
    have := hpl i hi
    exact ⟨n500 (by omega) (by omega), kk _ .refl⟩
  refine ⟨_, atI_0, ?_⟩
  intro p3 hp3
  generalize ep3 : st G2 p3 _ = G3
  obtain ⟨xp3, kp3⟩ := nu hp3 ep3
  refine ⟨_, kp3, _, xp3.at e2, line_le (by simp only [List.length_cons, List.length_nil, List.length_map]; omega), ?_⟩
  intro p4 hp4
  generalize ep4 : st G3 p4 _ = G4
  obtain ⟨xp4, kp4⟩ := nu hp4 ep4
  rw [cut3]
  refine lcR_valM w.sg (fun ss => D.tup (ss.map .int)) (fun ss => D.str (dotsT ss)) (by omega) (fun _ _ => trivial) (fun ss hs G' Q' x kk => ?_) fun p5 G5 hp5 x5 e5 => ?_
  · walk_at "e"
    obtain ⟨s1, s2, s3⟩ := hsg ss hs
    refine ⟨_, ss, rfl, .inl rfl, by omega, fun z hz => by have := s3 z hz; omega, fun G'' x' => ?_⟩
    rw [numsT_ne s1]
    exact kk _ x'
  refine ⟨_, x5.at kp4, _, e5, line_le (by simp only [List.length_append, List.length_cons, List.length_nil, List.length_map]; omega), ?_⟩
  intro p6 hp6
  generalize ep6 : st G5 p6 _ = G6
  obtain ⟨xp6, kp6⟩ := nu hp6 ep6
  refine ⟨w.words, .inl ?_, join_fits (B := 168) (fun z hz => (hww z hz).1) ?_, ?_⟩
  · rw [kp6]
    unfold Wsh.words
    simp
    constructor <;> rfl
  · have := words_few w
    rw [show (Str.ofString ":").length = 1 by decide]; omega
  · exact hq _ (((x2.trans xp3).trans xp4).trans (x5.trans xp6))
/-! drawn -/
def sp__law_word81 : DSp := fun ds G q _ => ∃ b, ds = [.ref b] ∧ Bag G b ∧ ∀ (w : BW) G', WdOk w → Xt [b] G G' → Bag G' b → q (rB w) G'
def N__law_word81 : List Str := ["_law_bag_here", "_law_sounds", "_law_signs"]
def P__law_word81 : List Str := ["_law_bag_here"]
def t__law_word81 : TSd := dSeq (dAsg (dCall sp__law_numbers81 (dCons (dVar 0) (dCons (dOp addD (dC (.int 1)) (dCall sp__law_take (dCons (dVar 0) (dCons (dC (.int 6)) (dNil))))) (dCons (dC (.int 40)) (dNil))))) (dgName 1)) (dSeq (dAsg (dCall sp__law_numbers81 (dCons (dVar 0) (dCons (dOp addD (dC (.int 1)) (dCall sp__law_take (dCons (dVar 0) (dCons (dC (.int 4)) (dNil))))) (dCons (dC (.int 1000)) (dNil))))) (dgName 2)) (dRet (dTup (dCons (dVar 1) (dCons (dVar 2) (dCons (dCall sp__law_take (dCons (dVar 0) (dCons (dC (.int 8)) (dNil)))) (dCons (dCall sp__law_take (dCons (dVar 0) (dCons (dOp ixD (dLst (dCons (dC (.int 10)) (dCons (dC (.int 10000)) (dNil)))) (dCall sp__law_take (dCons (dVar 0) (dCons (dC (.int 2)) (dNil))))) (dNil)))) (dNil))))))))
def gl__law_word81 : List (Str × GI) := [("_law_numbers", .fn sp__law_numbers81), ("_law_take", .fn sp__law_take)]
theorem len__law_word81 : ∀ ds G q x, sp__law_word81 ds G q x → ds.length = P__law_word81.length := by
  rintro _ _ _ _ ⟨b, rfl, _⟩; rfl
theorem at2 {a b : Int} {r : Int} (r0 : 0 ≤ r) (r1 : r < 2) : ∃ z, atI [D.int a, D.int b] r = some (.int z) ∧ (z = a ∨ z = b) := by
  have : r = 0 ∨ r = 1 := by omega
  rcases this with rfl | rfl
  · exact ⟨a, atI_0, .inl rfl⟩
  · exact ⟨b, atI_1, .inr rfl⟩
theorem b__law_word81 : Body t__law_word81 N__law_word81 sp__law_word81 := by
  rintro ds G q x ⟨b, rfl, bag, hq⟩
  unfold t__law_word81 N__law_word81
  walk_at "e"
  refine takes_here bag (by decide) (by decide) fun r1 G1 a0 a1 x1 bag1 => ?_
  refine ⟨b, 1 + r1, 40, rfl, bag1, by omega, by omega, by decide, by decide, fun S G2 lS hS x2 bag2 => ?_⟩
  walk_at "e"
  refine takes_here bag2 (by decide) (by decide) fun r2 G3 b0 b1 x3 bag3 => ?_
  refine ⟨b, 1 + r2, 1000, rfl, bag3, by omega, by omega, by decide, by decide, fun T G4 lT hT x4 bag4 => ?_⟩
  walk_at "e"
  refine takes_here bag4 (by decide) (by decide) fun k G5 k0 k1 x5 bag5 => ?_
  intro p hp
  generalize ep : st G5 p _ = G6
  obtain ⟨xp, kp⟩ := nu hp ep
  have np : p ∉ [b] := fresh_b bag5 hp
  refine takes_here (bag5.ext xp) (by decide) (by decide) fun r G7 r0 r1' x7 bag7 => ?_
  obtain ⟨z, ez, hz⟩ := at2 (a := 10) (b := 10000) r0 r1'
  refine ⟨_, .inl (x7.get np kp), _, ez, ?_⟩
  refine takes_here bag7 (by omega) (by omega) fun c G8 c0 c1 x8 bag8 => ?_
  refine hq ((S, T, k), c) G8 ⟨?_, ?_, ?_, ?_, ?_, ?_, ?_, ?_⟩ ((((((x1.trans x2).trans x3).trans x4).trans x5).trans xp.ext).trans (x7.trans x8)) bag8
  · show 1 ≤ S.length; omega
  · show S.length ≤ 6; omega
  · intro y hy; have := hS y hy; omega
  · show 1 ≤ T.length; omega
  · show T.length ≤ 4; omega
  · intro y hy; have := hT y hy; omega
  · exact ⟨k0, by show k ≤ 7; omega⟩
  · exact ⟨c0, by show c ≤ 9999; omega⟩
def sp__law_wish81 : DSp := fun ds G q _ => ∃ (b : Addr) (n : Int), ds = [.ref b, .int n] ∧ Bag G b ∧ 1 ≤ n ∧ n ≤ 24 ∧ ∀ (w : Wsh) G', w.V n → Xt [b] G G' → Bag G' b → q w.d G'
def t__law_wish81_r1 : TSd := dRet (dTup (dCons (dC (.str "held")) (dCons (dVar 3) (dCons (dVar 4) (dCons (dCall sp__law_numbers81 (dCons (dVar 0) (dCons (dOp addD (dC (.int 1)) (dCall sp__law_take (dCons (dVar 0) (dCons (dOp ixD (dLst (dCons (dC (.int 3)) (dCons (dC (.int 24)) (dNil)))) (dCall sp__law_take (dCons (dVar 0) (dCons (dC (.int 2)) (dNil))))) (dNil))))) (dCons (dC (.int 1040)) (dNil))))) (dNil))))))
def t__law_wish81_r2 : TSd := dSeq (dIf (dB (dOp (eqR false) (dVar 2) (dC (.int 2)))) (dRet (dTup (dCons (dC (.str "span")) (dCons (dVar 3) (dCons (dVar 4) (dNil)))))) (dNext)) t__law_wish81_r1
def t__law_wish81_s1 : TSd := dSeq (dIf (dAnd (dB (dOp ltD (dVar 2) (dC (.int 2)))) (dB (dOp gtD (dVar 1) (dC (.int 1))))) (dRet (dTup (dCons (dOp ixD (dLst (dCons (dC (.str "border")) (dCons (dC (.str "joined")) (dNil)))) (dVar 2)) (dCons (dOp addD (dC (.int 1)) (dCall sp__law_take (dCons (dVar 0) (dCons (dOp subD (dVar 1) (dC (.int 1))) (dNil))))) (dNil))))) (dNext)) t__law_wish81_r2
def N__law_wish81 : List Str := ["_law_bag_here", "_law_n", "_law_way", "_law_i", "_law_j"]
def P__law_wish81 : List Str := ["_law_bag_here", "_law_n"]
def t__law_wish81 : TSd := dSeq (dAsg (dCall sp__law_take (dCons (dVar 0) (dCons (dC (.int 4)) (dNil)))) (dgName 2)) (dSeq (dAsg (dCall sp__law_take (dCons (dVar 0) (dCons (dVar 1) (dNil)))) (dgName 3)) (dSeq (dAsg (dOp addD (dOp addD (dVar 3) (dC (.int 1))) (dCall sp__law_take (dCons (dVar 0) (dCons (dOp subD (dVar 1) (dVar 3)) (dNil))))) (dgName 4)) t__law_wish81_s1))
def gl__law_wish81 : List (Str × GI) := [("_law_take", .fn sp__law_take), ("_law_numbers", .fn sp__law_numbers81)]
theorem len__law_wish81 : ∀ ds G q x, sp__law_wish81 ds G q x → ds.length = P__law_wish81.length := by
  rintro _ _ _ _ ⟨b, n, rfl, _⟩; rfl
theorem b__law_wish81 : Body t__law_wish81 N__law_wish81 sp__law_wish81 := by
  rintro ds G q x ⟨b, n, rfl, bag, n1, n2, hq⟩
  unfold t__law_wish81 N__law_wish81
  walk_at "e"
  refine takes_here bag (by decide) (by decide) fun way G1 w0 w1 x1 bag1 => ?_
  walk_at "e"
  refine takes_here bag1 (by omega) (by omega) fun i G2 i0 i1 x2 bag2 => ?_
  walk_at "e"
  refine takes_here bag2 (by omega) (by omega) fun j G3 j0 j1 x3 bag3 => ?_
  walk_at "e"
  have x13 := (x1.trans x2).trans x3
  have hsp : 0 ≤ i ∧ i ≤ n ∧ i + 1 ≤ i + 1 + j ∧ i + 1 + j ≤ n := by omega
  have rest : ∀ w : Wx, t__law_wish81_r2 w { nx := fun x G => q D.non G, rt := q } [some (.ref b), some (.int n), some (.int way), some (.int i), some (.int (i + 1 + j))] G3 := fun w => by
    unfold t__law_wish81_r2
    walk_at "e"
    refine ⟨fun _ => hq (.span i (i + 1 + j)) G3 hsp x13 bag3, fun _ => ?_⟩
    unfold t__law_wish81_r1
    walk_at "e"
    intro p hp
    generalize ep : st G3 p _ = G4
    obtain ⟨xp, kp⟩ := nu hp ep
    have np : p ∉ [b] := fresh_b bag3 hp
    refine takes_here (bag3.ext xp) (by decide) (by decide) fun r G5 r0 r1 x5 bag5 => ?_
    obtain ⟨z, ez, hz⟩ := at2 (a := 3) (b := 24) r0 r1
    refine ⟨_, .inl (x5.get np kp), _, ez, ?_⟩
    refine takes_here bag5 (by omega) (by omega) fun m G6 m0 m1 x6 bag6 => ?_
    refine ⟨b, 1 + m, 1040, rfl, bag6, by omega, by omega, by decide, by decide, fun S G7 lS hS x7 bag7 => ?_⟩
    walk_at "e"
    exact hq (.held i (i + 1 + j) S) G7 ⟨hsp, by omega, by omega, fun z hz => by have := hS z hz; omega⟩ (((x13.trans xp.ext).trans x5).trans (x6.trans x7)) bag7
  unfold t__law_wish81_s1
  walk_at "e"
  refine ⟨fun h1 => ⟨fun h2 => ?_, fun _ => rest _⟩, fun _ => rest _⟩
  simp only [decide_eq_true_eq] at h1 h2
  intro p hp
  generalize ep : st G3 p _ = G4
  obtain ⟨xp, kp⟩ := nu hp ep
  have hk : atI [D.str (Str.ofString "border"), D.str (Str.ofString "joined")] way = some (.str (Str.ofString (Wsh.bj (decide (way = 1)) 0).kind)) := by
    have : way = 0 ∨ way = 1 := by omega
    rcases this with rfl | rfl
    · exact atI_0
    · exact atI_1
  refine ⟨_, .inl kp, _, hk, ?_⟩
  refine takes_here (bag3.ext xp) (by omega) (by omega) fun m G5 m0 m1 x5 bag5 => ?_
  have := hq (.bj (decide (way = 1)) (1 + m)) G5 ⟨by omega, by omega⟩ ((x13.trans xp.ext).trans x5) bag5
  unfold Wsh.d at this
  have e : (Wsh.bj (decide (way = 1)) (1 + m)).kind = (Wsh.bj (decide (way = 1)) 0).kind := by cases decide (way = 1) <;> rfl
  rw [e] at this
  exact this
def sp__law_cutting81 : DSp := fun ds G q _ => ∃ b, ds = [.ref b] ∧ Bag G b ∧ ∀ (ps : List Pc) p G', G p = none → ps.length ≤ 24 → (∀ c ∈ ps, c.V) → Xt [b] G G' → Bag G' b → G' p = some (.lst (ps.map Pc.d)) → q (.ref p) G'
def t__law_cutting81_s1 : TSd := dIf (dB (dOp ltD (dVar 2) (dC (.int 25)))) (dSeq (dAsg (dCall sp__law_numbers81 (dCons (dVar 0) (dCons (dOp addD (dC (.int 1)) (dCall sp__law_take (dCons (dVar 0) (dCons (dOp ixD (dLst (dCons (dC (.int 2)) (dCons (dC (.int 24)) (dNil)))) (dBi (BI.r .int) (dCons (dOp (eqR false) (dVar 3) (dC (.int 0))) (dNil)))) (dNil))))) (dCons (dC (.int 1040)) (dNil))))) (dgName 4)) (dDrop (dBm "list" appendD (dVar 1) (dCons (dTup (dCons (dVar 2) (dCons (dVar 4) (dCons (dCall sp__law_take (dCons (dVar 0) (dCons (dC (.int 9)) (dNil)))) (dCons (dCall sp__law_take (dCons (dVar 0) (dCons (dOp ixD (dLst (dCons (dC (.int 100)) (dCons (dC (.int 100000)) (dNil)))) (dCall sp__law_take (dCons (dVar 0) (dCons (dC (.int 2)) (dNil))))) (dNil)))) (dNil)))))) (dNil))))) (dNext)
def t__law_cutting81_b1 : TSd := dSeq (dAsg (dOp addD (dOp addD (dVar 2) (dC (.int 1))) (dCall sp__law_take (dCons (dVar 0) (dCons (dC (.int 2)) (dNil))))) (dgName 2)) t__law_cutting81_s1
def t__law_cutting81_s2 : TSd := dSeq (dFor (dRng rng1 (dCons (dCall sp__law_take (dCons (dVar 0) (dCons (dC (.int 25)) (dNil)))) (dNil))) (dgName 3) t__law_cutting81_b1) (dRet (dVar 1))
def N__law_cutting81 : List Str := ["_law_bag_here", "_law_found", "_law_place", "_law_turn", "_law_signs"]
def P__law_cutting81 : List Str := ["_law_bag_here"]
def t__law_cutting81 : TSd := dSeq (dAsg (dLst (dNil)) (dgName 1)) (dSeq (dAsg (dC (.int 0)) (dgName 2)) t__law_cutting81_s2)
def gl__law_cutting81 : List (Str × GI) := [("range", .rng), ("_law_take", .fn sp__law_take), ("_law_numbers", .fn sp__law_numbers81), ("int", .bi .int)]
theorem len__law_cutting81 : ∀ ds G q x, sp__law_cutting81 ds G q x → ds.length = P__law_cutting81.length := by
  rintro _ _ _ _ ⟨b, rfl, _⟩; rfl
theorem b__law_cutting81 : Body t__law_cutting81 N__law_cutting81 sp__law_cutting81 := by
  rintro ds G q x ⟨b, rfl, bag, hq⟩
  unfold t__law_cutting81 N__law_cutting81
  walk_at "e"
  intro p hp
  generalize ep : st G p _ = G1
  obtain ⟨xp, kp⟩ := nu hp ep
  have np : p ∉ [b] := fresh_b bag hp
  unfold t__law_cutting81_s2
  walk_at "e"
  refine takes_here (bag.ext xp) (by decide) (by decide) fun n G2 n0 n1 x2 bag2 => ?_
  have e2 := x2.get np kp
  refine ⟨by omega, ?_⟩
  refine ⟨fun i σ G3 => Xt [b, p] G2 G3 ∧ Bag G3 b ∧ ∃ (pl : Int) (ps : List Pc) (o3 o4 : Option D), σ = [some (.ref b), some (.ref p), some (.int pl), o3, o4] ∧ 0 ≤ pl ∧ ps.length ≤ i ∧ (∀ c ∈ ps, c.V) ∧ G3 p = some (.lst (ps.map Pc.d)),
    ⟨.refl, bag2, 0, [], _, _, rfl, by decide, Nat.le_refl _, by simp, e2⟩, fun _ _ _ _ => trivial, ?_, ?_⟩
  · rintro i y σ G3 ey ⟨x3, bag3, pl, ps, o3, o4, rfl, pl0, lps, pv, e3⟩
    obtain ⟨hi, rfl⟩ := rngL_some0 ey
    unfold t__law_cutting81_b1
    walk_at "e"
    refine takes_here bag3 (by decide) (by decide) fun r G4 r0 r1 x4 bag4 => ?_
    unfold t__law_cutting81_s1
    walk_at "e"
    refine ⟨fun h => ?_, fun _ => ⟨x3.trans (x4.wk (by simp)), bag4, _, ps, _, _, rfl, by omega, by omega, pv, x4.get np e3⟩⟩
    have h := of_decide_eq_true h
    intro q1 hq1
    generalize eq1 : st G4 q1 _ = G5
    obtain ⟨xq1, kq1⟩ := nu hq1 eq1
    have hb : ∃ w : Int, atI [D.int 2, D.int 24] (if decide ((i : Int) = 0) then 1 else 0) = some (.int w) ∧ 1 ≤ w ∧ w ≤ 24 := by
      cases decide ((i : Int) = 0)
      · exact ⟨2, atI_0, by decide, by decide⟩
      · exact ⟨24, atI_1, by decide, by decide⟩
    obtain ⟨w, ew, hw⟩ := hb
    refine ⟨_, .inl kq1, _, ew, ?_⟩
    have bag5 := bag4.ext xq1
    refine takes_here bag5 (by omega) (by omega) fun m G6 m0 m1 x6 bag6 => ?_
    refine ⟨b, 1 + m, 1040, rfl, bag6, by omega, by omega, by decide, by decide, fun S G7 lS hS x7 bag7 => ?_⟩
    walk_at "e"
    have x47 := (xq1.ext.trans x6).trans x7
    have e7 := x47.get np (x4.get np e3)
    refine ⟨tyD_l (.inl e7), ?_⟩
    refine takes_here bag7 (by decide) (by decide) fun k G8 k0 k1 x8 bag8 => ?_
    intro q2 hq2
    generalize eq2 : st G8 q2 _ = G9
    obtain ⟨xq2, kq2⟩ := nu hq2 eq2
    have bag9 := bag8.ext xq2
    have nq2 : q2 ∉ [b] := fresh_b bag8 hq2
    refine takes_here bag9 (by decide) (by decide) fun r2 G10 r20 r21 x10 bag10 => ?_
    obtain ⟨z, ez, hz⟩ := at2 (a := 100) (b := 100000) r20 r21
    refine ⟨_, .inl (x10.get nq2 kq2), _, ez, ?_⟩
    refine takes_here bag10 (by omega) (by omega) fun c G11 c0 c1 x11 bag11 => ?_
    have x711 := ((x8.trans xq2.ext).trans x10).trans x11
    have e11 := x711.get np e7
    refine ⟨_, e11, line_lt (by rw [List.length_map]; omega), ?_⟩
    generalize eu12 : st G11 p _ = G12
    obtain ⟨xu12, ku12⟩ := put eu12
    have npb : b ∉ [p] := fun m => np (by rw [List.mem_singleton.mp m]; simp)
    have cv : (Pc.mk (pl + 1 + r) S k c).V := ⟨by show 1 ≤ S.length; omega, by show S.length ≤ 24; omega, hS, ⟨k0, k1⟩, ⟨c0, by show c < 100000; omega⟩, ⟨by show 0 ≤ pl + 1 + r; omega, by show pl + 1 + r ≤ 24; omega⟩⟩
    refine ⟨(x3.trans (((x4.trans x47).trans x711).wk (by simp))).trans (xu12.wk (by simp)), bag11.xt xu12 npb, _, ps ++ [⟨pl + 1 + r, S, k, c⟩], _, _, rfl, by omega, by rw [List.length_append, List.length_singleton]; omega, fun d hd => ?_, by rw [ku12]; simp [Pc.d]⟩
    rcases List.mem_append.mp hd with hd | hd
    · exact pv d hd
    · rw [List.mem_singleton.mp hd]; exact cv
  · rintro σ G3 ⟨x3, bag3, pl, ps, o3, o4, rfl, pl0, lps, pv, e3⟩
    rw [rngL_length] at lps
    walk_at "e"
    refine hq ps p G3 hp (by omega) pv (Xt.own (xp.ext.trans x2) x3 fun c hc => ?_) bag3 e3
    rcases List.mem_cons.mp hc with rfl | hc
    · exact .inl (by simp)
    · rw [List.mem_singleton.mp hc]; exact .inr hp
/-! keys, there and back -/
def sp__law_keys_right : DSp := fun ds G q _ => ∃ ks : List Int, ds = [.tup (ks.map .int)] ∧ ks.length ≤ 60 ∧ Kys ks ∧ ∀ G', Ext G G' → q (.bl true) G'
def t__law_keys_right_r1 : TSd := dDrop (dBm "list" appendD (dVar 4) (dCons (dC (.int 7)) (dNil)))
def t__law_keys_right_s1 : TSd := dSeq (dIf (dOr (dNot (dB (dBi (BI.r .isi) (dCons (dVar 4) (dCons (dC (.ty "list")) (dNil)))))) (dB (dOp (eqR true) (dVar 4) (dBi (BI.r .list) (dCons (dVar 0) (dNil)))))) (dRet (dC (.bl false))) (dNext)) t__law_keys_right_r1
def t__law_keys_right_b1 : TSd := dSeq (dAsg (dCall sp_read_keys_text (dCons (dVar 1) (dNil))) (dgName 4)) t__law_keys_right_s1
def t__law_keys_right_r2 : TSd := dSeq (dFor (dRng rng1 (dCons (dC (.int 2)) (dNil))) (dgName 3) t__law_keys_right_b1) (dRet (dC (.bl true)))
def t__law_keys_right_s2 : TSd := dSeq (dIf (dOr (dB (dOp (eqR true) (dCall sp_show_keys (dCons (dVar 2) (dNil))) (dVar 1))) (dOr (dB (dOp (eqR true) (dCall sp_show_keys (dCons (dVar 0) (dNil))) (dVar 1))) (dB (dOp (eqR true) (dVar 2) (dBi (BI.r .list) (dCons (dVar 0) (dNil))))))) (dRet (dC (.bl false))) (dNext)) t__law_keys_right_r2
def N__law_keys_right : List Str := ["_law_keys", "_law_text", "_law_handed", "_law_turn", "_law_found"]
def P__law_keys_right : List Str := ["_law_keys"]
def t__law_keys_right : TSd := dSeq (dAsg (dCall sp__law_keys_text (dCons (dVar 0) (dNil))) (dgName 1)) (dSeq (dAsg (dBi (BI.r .list) (dCons (dVar 0) (dNil))) (dgName 2)) t__law_keys_right_s2)
def gl__law_keys_right : List (Str × GI) := [("_law_keys_text", .fn sp__law_keys_text), ("list", .bi .list), ("show_keys", .fn sp_show_keys), ("range", .rng), ("read_keys_text", .fn sp_read_keys_text), ("isinstance", .bi .isi)]
theorem len__law_keys_right : ∀ ds G q x, sp__law_keys_right ds G q x → ds.length = P__law_keys_right.length := by
  rintro _ _ _ _ ⟨b, rfl, _⟩; rfl
theorem eq_li {neg : Bool} {u v : Addr} {L : List Int} {G : Hd} {Q : Qd} (eu : G u = some (.lst (L.map .int))) (ev : G v = some (.lst (L.map .int))) (l : L.length ≤ 1000) (q : Q (.bl (!neg)) G) : eqR neg (.ref u) (.ref v) G Q :=
  eqR_twin (m := 1000) (n := 2) (.lst eu (Dds.map_int _)) (.lst ev (Dds.map_int _)) (gd_lst.mpr ⟨by rw [List.length_map]; exact l, fun y hy => by
    obtain ⟨i, _, rfl⟩ := List.mem_map.mp hy
    exact gd_int⟩) (by decide) q
theorem b__law_keys_right : Body t__law_keys_right N__law_keys_right sp__law_keys_right := by
  rintro ds G q x ⟨ks, rfl, lk, hk, hq⟩
  have tk := tx_keys hk
  have lt : (keysT ks).length ≤ 1000 := by
    unfold keysT
    split
    · decide
    · have := len_join (y := Str.ofString "") (ps := ks.map keyT) (B := 1) fun z hz => by
        obtain ⟨k, _, rfl⟩ := List.mem_map.mp hz
        exact Nat.le_refl 1
      rw [List.length_map, show (Str.ofString "").length = 0 by decide] at this
      omega
  unfold t__law_keys_right N__law_keys_right
  walk_at "e"
  refine ⟨_, ks, rfl, .inl rfl, by omega, hk, fun G1 x1 => ?_⟩
  walk_at "e"
  refine ⟨line_le (by rw [List.length_map]; omega), ?_⟩
  intro h hh
  generalize eh : st G1 h _ = G2
  obtain ⟨xh, kh⟩ := nu hh eh
  unfold t__law_keys_right_s2
  walk_at "e"
  refine ⟨_, ks, rfl, .inr ⟨h, rfl, .inl kh⟩, by omega, hk, fun G3 x3 => ?_⟩
  walk_at "e"
  rw [eqR_s tk.ok tk.ok, beq_self_eq_true]
  refine ⟨_, rfl, ?_⟩
  change Br false _ _
  rw [br_f]
  refine ⟨_, ks, rfl, .inl rfl, by omega, hk, fun G4 x4 => ?_⟩
  walk_at "e"
  rw [eqR_s tk.ok tk.ok, beq_self_eq_true]
  refine ⟨_, rfl, ?_⟩
  change Br false _ _
  rw [br_f]
  refine ⟨line_le (by rw [List.length_map]; omega), ?_⟩
  intro p5 hp5
  generalize ep5 : st G4 p5 _ = G5
  obtain ⟨xp5, kp5⟩ := nu hp5 ep5
  refine eq_li ((((x3.trans x4).trans xp5)).at kh) kp5 (by omega) ?_
  refine ⟨_, rfl, ?_⟩
  change Br false _ _
  rw [br_f]
  have x05 := (x1.trans xh).trans ((x3.trans x4).trans xp5)
  unfold t__law_keys_right_r2
  walk_at "e"
  refine ⟨by decide, ?_⟩
  refine ⟨fun n σ G6 => Ext G5 G6 ∧ ∃ o3 o4, σ = [some (.tup (ks.map .int)), some (.str (keysT ks)), some (.ref h), o3, o4], ⟨.refl, _, _, rfl⟩, fun _ _ _ _ => trivial, ?_, ?_⟩
  · rintro n y σ G6 ey ⟨x6, o3, o4, rfl⟩
    obtain ⟨hn, rfl⟩ := rngL_some0 ey
    unfold t__law_keys_right_b1
    walk_at "e"
    refine .inl ⟨keysT ks, rfl, by omega, tk, fun e => (by rw [keys_back hk lk] at e; cases e), fun ks' e p G7 hp x7 ep => ?_⟩
    rw [keys_back hk lk] at e
    cases e
    unfold t__law_keys_right_s1
    walk_at "e"
    have dd : Dd G7 (.ref p) (.lst (ks.map .int)) := .lst ep (Dds.map_int _)
    refine ⟨dd.kn, ?_⟩
    rw [dd.is, show isV (.lst (ks.map .int)) "list" = true from rfl]
    walk_at "e"
    refine ⟨line_le (by rw [List.length_map]; omega), ?_⟩
    intro p8 hp8
    generalize ep8 : st G7 p8 _ = G8
    obtain ⟨xp8, kp8⟩ := nu hp8 ep8
    refine eq_li (xp8.at ep) kp8 (by omega) ?_
    refine ⟨_, rfl, ?_⟩
    change Br false _ _
    rw [br_f]
    unfold t__law_keys_right_r1
    walk_at "e"
    have e8 := xp8.at ep
    refine ⟨tyD_l (.inl e8), _, e8, line_lt (by rw [List.length_map]; omega), ?_⟩
    generalize eu9 : st G8 p _ = G9
    obtain ⟨xu9, ku9⟩ := put eu9
    have np : G5 p = none := x6.none hp
    exact ⟨Xt.own (x6.trans (x7.trans xp8)) xu9 (by simpa using np), _, _, rfl⟩
  · rintro σ G6 ⟨x6, o3, o4, rfl⟩
    walk_at "e"
    exact hq _ (x05.trans x6)
end S
set_option Elab.async false
set_option linter.all false
set_option maxRecDepth 100000
set_option maxHeartbeats 4000000
namespace S
open PySem PySem.Spec L2
open PyProof.Rows hiding St
local macro_rules | `(tactic| walk_at "e") => `(tactic| try simp only [fld_eq, fld_r, setf_eq, setf_r, meth_eq, mth_r, dMake, dDict1, extD_t, extD_rr, eqR_ti, eqR_t0, slD_ti, lenD_ti, addD_ti1, addD_ti, ixD_ti, setD_ti, extD_ti, tupleD_ti, listD_ti, ixD_tii, itv_ti, dSeq, dNext, dRet, dRetN, dIf, dAsg, dAug, dDrop, par_eq, prs_2, par3_eq, prs3_3, dBreak, dCont, dgName, dgSub, gTup_t, gCons_c, gNil_n, dFor_eq, dLc_eq, dVar, dC, dOp, dUn, dBi, dCall, dCons, dNil, dTup, dLst, dSl, part_eq, prt_i, dNoPart, dAndV, dOrV, dNotV, dB, dAnd, dOr, dNot, dIfE, dChain, itv_eq, itv_t, itv_r, dRng, dWalk, dBm, rng1_i, rng2_i, rng3_i, enumR_r, enumR_t, gTup_r, tr_n, tr_t, dLitE, zipR_r, zipR_t,
  BI.r, addD_i, addD_s, addD_t, addD_r, subD_i, mulD_i, mulD_r, mulD_t, modD_i, divD_i, powD_i, ltD_i, leD_i, gtD_i, geD_i, incD_i, negD_i, lr1_i, lr2_i, revD_r, isND_n, isNon, ixD_t, ixD_r, ixD_d, setD_d, dDnew, itk_eq, itk_r, dDm, getD_r, ditD_r, dItI, iti_r, listK_r, sortedD_r, ixK_t, ixK_r, ixK_l, dKnew, dItJ, itj_r, dKm, getK_r, sdfK_r, dikD_r, sortedJ_r, sortedG_r, dBm0, clearD_r, revsD_r, dChain3, ixD_l, ixD_s, slD_t, slD_r, slD_s, setD_r, lenD_s, lenD_t, lenD_l, lenD_r, isiD_1, isiD_n, listD_t, listD_r, tupleD_t, tupleD_r, allD_r, anyD_r, sumD_r, maxD_r, maxD_t, minD_t, minLD_r, maxLD_r, sumLD_2, sumLD_1, minDf_r, maxD_2, minD_r, minD_2, absD_i, intB_i, intB_b, intB_s, itv_s, mulD_s, inD_s, tyD_s, joinD_r, splitD_s, partD_s, stripD_s, findD_s, countT_s, indexT_s, fmtD_s, fmtD_i, dFmt, jsD_s, js_nil, js_cons, strOf_i, strOf_s, appD_r, startD, wipeD,
  List.map_cons, List.map_nil, rep_z, rep_s, List.length_cons, List.length_nil, List.cons_append, List.nil_append, List.append_nil, List.getElem?_cons_zero, List.getElem?_cons_succ, List.set_cons_zero, List.set_cons_succ, Option.some.injEq, exists_eq_left', exists_eq_left, D.bl.injEq, D.int.injEq, D.tup.injEq, D.ref.injEq, true_and, and_true, Nat.reduceAdd, Nat.reduceSub, Nat.add_sub_cancel_left, exists_const, br_t, br_f, eqR_int, eqR_bl, Bool.false_bne, Bool.true_bne, Bool.false_xor, Bool.true_xor, Bool.not_true, Bool.not_false, Bool.not_not, ite_true, ite_false, Bool.true_eq_false, false_implies, decide_true, decide_false, tc_int, tc_bool, tc_str, tc_tup, tc_lst, tc_non, tc_dic, ln0, ln1, ln2, ln3, ln4, ln5, ln6, ln7, ln8, ln9, ln10, ln11, ln12, ln13, ln14, ln15, ln16, ln17, ln18, ln19, ln20, ln21, ln22, ln23, ln24, ln25, ln26, ln27, ln28, ln29, ln30, ln31, ln32, ln33, ln34, ln35, ln36, ln37, ln38, ln39, ln40, ln41, ln42, ln43, ln44, ln45, ln46, ln47, ln48, ln49, ln50, ln51, ln52, ln53, ln54, ln55, ln56, ln57, ln58, ln59, ln60])
local macro_rules | `(tactic| walk_at "g") => `(tactic| try simp only [st_same, st_st, GO.lst.injEq, Option.some.injEq, exists_eq_left', exists_eq_left, atI_0, atI_1, atI_2, atI_3, ixN_0, ixN_1, ixN_2, ixN_3, List.set_cons_zero, List.set_cons_succ, List.length_cons, List.length_nil, List.length_append, List.cons_append, List.nil_append, true_and, and_true, seq_st])
/-! ## the law of texts written and read -/
abbrev sp_law : DSp := spLaw
def t_law_s1 : TSd := dIf (dOr (dB (dOp (eqR true) (dCall sp_show_wish (dCons (dVar 11) (dNil))) (dCall sp__law_wish_text (dCons (dVar 11) (dNil))))) (dB (dOp (eqR true) (dCall sp_read_wish (dCons (dVar 10) (dCons (dCall sp__law_wish_text (dCons (dVar 11) (dNil))) (dNil)))) (dVar 11)))) (dRet (dC (.bl false))) (dNext)
def t_law_r1 : TSd := dSeq (dAsg (dOp addD (dC (.int 1)) (dCall sp__law_take (dCons (dVar 2) (dCons (dC (.int 24)) (dNil))))) (dgName 10)) (dSeq (dAsg (dCall sp__law_wish81 (dCons (dVar 2) (dCons (dVar 10) (dNil)))) (dgName 11)) t_law_s1)
def t_law_r2 : TSd := dSeq (dIf (dOr (dB (dOp (eqR true) (dCall sp_show_cutting (dCons (dVar 6) (dNil))) (dVar 8))) (dB (dOp (eqR true) (dVar 6) (dVar 7)))) (dRet (dC (.bl false))) (dNext)) t_law_r1
def t_law_s2 : TSd := dSeq (dIf (dB (dOp (eqR true) (dVar 6) (dLst (dNil)))) (dAsg (dBm "str" joinD (dC (.str " ")) (dCons (dLc (dItV (dVar 6)) (dgName 9) dYes (dCall sp__law_piece_text (dCons (dVar 9) (dNil))) [9]) (dNil))) (dgName 8)) (dNext)) t_law_r2
def t_law_r3 : TSd := dSeq (dAsg (dCall sp__law_cutting81 (dCons (dVar 2) (dNil))) (dgName 6)) (dSeq (dAsg (dBi (BI.r .list) (dCons (dVar 6) (dNil))) (dgName 7)) (dSeq (dAsg (dC (.str "-")) (dgName 8)) t_law_s2))
def t_law_s3 : TSd := dSeq (dIf (dOr (dB (dOp (eqR true) (dCall sp_show_word (dCons (dVar 5) (dNil))) (dCall sp__law_word_text (dCons (dVar 5) (dNil))))) (dB (dOp (eqR true) (dCall sp_read_word (dCons (dCall sp__law_word_text (dCons (dVar 5) (dNil))) (dNil))) (dVar 5)))) (dRet (dC (.bl false))) (dNext)) t_law_r3
def t_law_r4 : TSd := dSeq (dAsg (dCall sp__law_word81 (dCons (dVar 2) (dNil))) (dgName 5)) t_law_s3
def t_law_s4 : TSd := dSeq (dIf (dOr (dB (dOp (eqR true) (dLst (dCons (dCall sp_show_numbers (dCons (dVar 3) (dNil))) (dCons (dCall sp_show_numbers (dCons (dVar 4) (dNil))) (dNil)))) (dOp mulD (dLst (dCons (dCall sp__law_dots81 (dCons (dVar 3) (dNil))) (dNil))) (dC (.int 2))))) (dB (dOp (eqR true) (dVar 4) (dBi (BI.r .list) (dCons (dVar 3) (dNil)))))) (dRet (dC (.bl false))) (dNext)) t_law_r4
def t_law_r5 : TSd := dSeq (dAsg (dCall sp__law_numbers81 (dCons (dVar 2) (dCons (dCall sp__law_take (dCons (dVar 2) (dCons (dC (.int 10)) (dNil)))) (dCons (dOp ixD (dLst (dCons (dC (.int 40)) (dCons (dOp powD (dC (.int 10)) (dC (.int 6))) (dNil)))) (dCall sp__law_take (dCons (dVar 2) (dCons (dC (.int 2)) (dNil))))) (dNil))))) (dgName 3)) (dSeq (dAsg (dBi (BI.r .list) (dCons (dVar 3) (dNil))) (dgName 4)) t_law_s4)
def t_law_s5 : TSd := dSeq (dIf (dNot (dB (dCall sp__law_keys_right (dCons (dCall sp__law_numbers81 (dCons (dVar 2) (dCons (dCall sp__law_take (dCons (dVar 2) (dCons (dOp ixD (dLst (dCons (dC (.int 9)) (dCons (dC (.int 61)) (dNil)))) (dCall sp__law_take (dCons (dVar 2) (dCons (dC (.int 2)) (dNil))))) (dNil)))) (dCons (dC (.int 26)) (dNil))))) (dNil))))) (dRet (dC (.bl false))) (dNext)) t_law_r5
def t_law_b1 : TSd := dSeq (dAsg (dCall sp__law_bag (dCons (dVar 0) (dCons (dVar 1) (dNil)))) (dgName 2)) t_law_s5
def t_law_r6 : TSd := dRet (dAndV (dOp (eqR false) (dCall sp_show_keys (dCons (dLst (dNil)) (dNil))) (dC (.str "-"))) (dAndV (dOp (eqR false) (dCall sp_show_numbers (dCons (dTup (dNil)) (dNil))) (dC (.str "-"))) (dAndV (dOp (eqR false) (dCall sp_read_keys_text (dCons (dC (.str "-")) (dNil))) (dLst (dNil))) (dOp (eqR false) (dCall sp_show_cutting (dCons (dLst (dNil)) (dNil))) (dC (.str "-"))))))
def N_law : List Str := ["_law_script", "_law_at", "_law_bag_here", "_law_numbers_here", "_law_handed", "_law_word_here", "_law_cutting_here", "_law_kept", "_law_due", "_law_piece", "_law_n", "_law_wish_here"]
def P_law : List Str := ["_law_script"]
def t_law : TSd := dSeq (dFor (dRng rng1 (dCons (dBi (BI.r .max) (dCons (dC (.int 3)) (dCons (dBi (BI.r .min) (dCons (dBi (BI.r .len) (dCons (dVar 0) (dNil))) (dCons (dC (.int 8)) (dNil)))) (dNil)))) (dNil))) (dgName 1) t_law_b1) t_law_r6
def gl_law : List (Str × GI) := [("range", .rng), ("max", .bi .max), ("min", .bi .min), ("len", .bi .len), ("_law_bag", .fn sp__law_bag), ("_law_keys_right", .fn sp__law_keys_right), ("_law_numbers", .fn sp__law_numbers81), ("_law_take", .fn sp__law_take), ("list", .bi .list), ("show_numbers", .fn sp_show_numbers), ("_law_dots", .fn sp__law_dots81), ("_law_word", .fn sp__law_word81), ("read_word", .fn sp_read_word), ("_law_word_text", .fn sp__law_word_text), ("show_word", .fn sp_show_word), ("_law_cutting", .fn sp__law_cutting81), ("_law_piece_text", .fn sp__law_piece_text), ("show_cutting", .fn sp_show_cutting), ("_law_wish", .fn sp__law_wish81), ("read_wish", .fn sp_read_wish), ("_law_wish_text", .fn sp__law_wish_text), ("show_wish", .fn sp_show_wish), ("read_keys_text", .fn sp_read_keys_text), ("show_keys", .fn sp_show_keys)]
theorem len_law : ∀ ds G q x, sp_law ds G q x → ds.length = P_law.length := by
  rintro _ _ _ _ ⟨ns, rfl, _⟩; rfl
theorem tx_nums {ns : List Int} (h : N6 ns) : Tx (numsT ns) := by
  unfold numsT
  split
  · exact tx_of _
  · exact (sg_dots h).tx (by simp)
theorem len_nums {ns : List Int} (h : N6 ns) (l : ns.length ≤ 1000) : (numsT ns).length ≤ 7000 := by
  unfold numsT
  split
  · decide
  · have := len_dots h; omega
theorem tx_cutT {ps : List Pc} (h : ∀ p ∈ ps, p.V) : Tx (cutT ps) := by
  unfold cutT
  split
  · exact tx_of _
  · exact tx_join (tx_of " ") fun z hz => by
      obtain ⟨p, hp, rfl⟩ := List.mem_map.mp hz
      exact (sg_piece (h p hp)).tx (by simp)
theorem rk_pcs {ps : List Pc} (l : ps.length ≤ 24) (h : ∀ c ∈ ps, c.V) : Rk 2424 3 (.lst (ps.map Pc.d)) := (rk_lst (c := 100) (n := 2) (m := 24) (by rw [List.length_map]; exact l) fun y hy => by
  obtain ⟨p, hp, rfl⟩ := List.mem_map.mp hy
  exact rk_pc (h p hp)).mono (by decide) (by decide)
theorem dds_pcs {G : Hd} : ∀ ps : List Pc, Dds G (ps.map Pc.d) (ps.map Pc.d)
  | [] => .nil
  | p :: ps => .cons (dd_pc p) (dds_pcs ps)
theorem dd_wish {G : Hd} (w : Wsh) : Dd G w.d w.d := by
  unfold Wsh.d
  rcases w with ⟨_ | _, a⟩ | ⟨i, j⟩ | ⟨i, j, ss⟩
  · exact .tup (.cons (.str _) (.cons (.int _) .nil))
  · exact .tup (.cons (.str _) (.cons (.int _) .nil))
  · exact .tup (.cons (.str _) (.cons (.int _) (.cons (.int _) .nil)))
  · exact .tup (.cons (.str _) (.cons (.int _) (.cons (.int _) (.cons (.tup (Dds.map_int _)) .nil))))
theorem gd_wish {n : Int} {w : Wsh} (h : w.V n) : gd 1000 3 w.d := by
  unfold Wsh.d
  refine gd_tup.mpr ⟨?_, fun y hy => ?_⟩
  · rcases w with ⟨_ | _, a⟩ | ⟨i, j⟩ | ⟨i, j, ss⟩ <;> simp [Wsh.pl, Wsh.sg]
  rcases List.mem_append.mp hy with hy | hy
  · rcases List.mem_cons.mp hy with rfl | hy
    · exact gd_str ⟨(tx_of _).ok, Nat.le_trans (kind_ok w).1 (by decide)⟩
    · obtain ⟨i, _, rfl⟩ := List.mem_map.mp hy
      exact gd_int
  · obtain ⟨ss, hs, rfl⟩ := List.mem_map.mp hy
    obtain ⟨s1, s2, _⟩ := h.sg ss hs
    exact gd_tup.mpr ⟨by rw [List.length_map]; omega, fun y hy => by
      obtain ⟨i, _, rfl⟩ := List.mem_map.mp hy
      exact gd_int⟩
theorem b_law : Body t_law N_law sp_law := by
  rintro ds G q x ⟨ns, rfl, hl, h0, hq⟩
  unfold t_law N_law
  walk_at "e"
  rw [List.length_map]
  refine ⟨by omega, ?_⟩
  refine ⟨fun i σ G1 => ∃ o1 o2 o3 o4 o5 o6 o7 o8 o9 o10 o11, σ = [some (.rl (ns.map .int)), o1, o2, o3, o4, o5, o6, o7, o8, o9, o10, o11], ⟨_, _, _, _, _, _, _, _, _, _, _, rfl⟩, fun _ _ _ _ => trivial, ?_, ?_⟩
  rotate_left
  · rintro σ G1 ⟨o1, o2, o3, o4, o5, o6, o7, o8, o9, o10, o11, rfl⟩
    unfold t_law_r6
    walk_at "e"
    intro p1 hp1
    generalize ep1 : st G1 p1 _ = G2
    obtain ⟨xp1, kp1⟩ := nu hp1 ep1
    refine ⟨_, [], rfl, .inr ⟨p1, rfl, .inl kp1⟩, by decide, fun z hz => (by cases hz), fun G3 x3 => ?_⟩
    walk_at "e"
    rw [show keysT [] = Str.ofString "-" from rfl, eqR_s (tx_of "-").ok (tx_of "-").ok, beq_self_eq_true]
    refine ⟨_, rfl, ?_⟩
    change Br true _ _
    rw [br_t]
    refine ⟨_, [], rfl, .inl rfl, by decide, fun z hz => (by cases hz), fun G4 x4 => ?_⟩
    walk_at "e"
    rw [show numsT [] = Str.ofString "-" from rfl, eqR_s (tx_of "-").ok (tx_of "-").ok, beq_self_eq_true]
    refine ⟨_, rfl, ?_⟩
    change Br true _ _
    rw [br_t]
    have kb := keys_back (ks := []) (fun z hz => (by cases hz)) (by decide)
    have kb : keysV (Str.ofString "-") = some [] := kb
    refine .inl ⟨Str.ofString "-", rfl, by decide, tx_of "-", fun e => (by rw [kb] at e; cases e), fun ks e p5 G5 hp5 x5 e5 => ?_⟩
    rw [kb] at e
    cases e
    intro p6 hp6
    generalize ep6 : st G5 p6 _ = G6
    obtain ⟨xp6, kp6⟩ := nu hp6 ep6
    refine eq_li (L := []) (xp6.at e5) kp6 (by decide) ?_
    refine ⟨_, rfl, ?_⟩
    change Br true _ _
    rw [br_t]
    intro p7 hp7
    generalize ep7 : st G6 p7 _ = G7
    obtain ⟨xp7, kp7⟩ := nu hp7 ep7
    refine ⟨p7, [], rfl, kp7, by decide, by simp, fun G8 x8 => ?_⟩
    walk_at "e"
    rw [show cutT [] = Str.ofString "-" from rfl, eqR_s (tx_of "-").ok (tx_of "-").ok, beq_self_eq_true]
    exact hq _
  rintro i x σ G1 ex ⟨o1, o2, o3, o4, o5, o6, o7, o8, o9, o10, o11, rfl⟩
  obtain ⟨h1, rfl⟩ := rngL_some0 ex
  unfold t_law_b1
  walk_at "e"
  refine ⟨ns, i, rfl, hl, by omega, by omega, fun b G2 hb x2 bag2 => ?_⟩
  unfold t_law_s5
  walk_at "e"
  intro p3 hp3
  generalize ep3 : st G2 p3 _ = G3
  obtain ⟨xp3, kp3⟩ := nu hp3 ep3
  have n3 : p3 ∉ [b] := fresh_b bag2 hp3
  refine takes_here (bag2.ext xp3) (by decide) (by decide) fun r1 G4 a0 a1 x4 bag4 => ?_
  obtain ⟨z1, e1, hz1⟩ := at2 (a := 9) (b := 61) a0 a1
  refine ⟨_, .inl (x4.get n3 kp3), _, e1, ?_⟩
  refine takes_here bag4 (by omega) (by omega) fun r2 G5 b0 b1 x5 bag5 => ?_
  refine ⟨b, r2, 26, rfl, bag5, by omega, by omega, by decide, by decide, fun ks G6 lk hk x6 bag6 => ?_⟩
  refine ⟨ks, rfl, by omega, hk, fun G7 x7 => ?_⟩
  walk_at "e"
  have bag7 := bag6.ext x7
  unfold t_law_r5
  walk_at "e"
  refine takes_here bag7 (by decide) (by decide) fun r3 G8 c0 c1 x8 bag8 => ?_
  have hp6' : CPow 10 6 := by unfold CPow; decide
  refine ⟨hp6', ?_⟩
  intro p9 hp9
  generalize ep9 : st G8 p9 _ = G9
  obtain ⟨xp9, kp9⟩ := nu hp9 ep9
  have n9 : p9 ∉ [b] := fresh_b bag8 hp9
  refine takes_here (bag8.ext xp9) (by decide) (by decide) fun r4 G10 d0 d1 x10 bag10 => ?_
  obtain ⟨z2, e2, hz2⟩ := at2 (a := 40) (b := 10 ^ (6 : Int).toNat) d0 d1
  refine ⟨_, .inl (x10.get n9 kp9), _, e2, ?_⟩
  have hz2' : 0 < z2 ∧ z2 ≤ 1000000 := by
    rcases hz2 with rfl | rfl
    · decide
    · decide
  refine ⟨b, r3, z2, rfl, bag10, by omega, by omega, hz2'.1, hz2'.2, fun S G11 lS hS x11 bag11 => ?_⟩
  have n6 : N6 S := fun z hz => by have := hS z hz; omega
  walk_at "e"
  refine ⟨line_le (by rw [List.length_map]; omega), ?_⟩
  intro h hh
  generalize eh : st G11 h _ = G12
  obtain ⟨xh, kh⟩ := nu hh eh
  unfold t_law_s4
  walk_at "e"
  refine ⟨_, S, rfl, .inl rfl, by omega, n6, fun G13 x13 => ?_⟩
  refine ⟨_, S, rfl, .inr ⟨h, rfl, .inl (x13.at kh)⟩, by omega, n6, fun G14 x14 => ?_⟩
  walk_at "e"
  intro p15 hp15
  generalize ep15 : st G14 p15 _ = G15
  obtain ⟨xp15, kp15⟩ := nu hp15 ep15
  refine ⟨_, S, rfl, .inl rfl, by omega, n6, fun G16 x16 => ?_⟩
  walk_at "e"
  intro p17 hp17
  generalize ep17 : st G16 p17 _ = G17
  obtain ⟨xp17, kp17⟩ := nu hp17 ep17
  refine ⟨_, kp17, ⟨by decide, by decide, line_le (by simp)⟩, ?_⟩
  intro p18 hp18
  generalize ep18 : st G17 p18 _ = G18
  obtain ⟨xp18, kp18⟩ := nu hp18 ep18
  have tn := tx_nums n6
  have ln := len_nums n6 (by omega)
  have e18 : G18 p18 = some (.lst [.str (numsT S), .str (numsT S)]) := kp18
  have e15 : G18 p15 = some (.lst [.str (numsT S), .str (numsT S)]) := ((x16.trans xp17).trans xp18).at kp15
  refine eqR_twin (m := 7000) (n := 2) (.lst e15 (.cons (.str _) (.cons (.str _) .nil))) (.lst e18 (.cons (.str _) (.cons (.str _) .nil))) (gd_lst.mpr ⟨by simp, fun y hy => by
    simp only [List.mem_cons, List.not_mem_nil, or_false, or_self] at hy
    rw [hy]; exact gd_str ⟨tn.ok, ln⟩⟩) (by decide) ?_
  refine ⟨_, rfl, ?_⟩
  change Br false _ _
  rw [br_f]
  refine ⟨line_le (by rw [List.length_map]; omega), ?_⟩
  intro p19 hp19
  generalize ep19 : st G18 p19 _ = G19
  obtain ⟨xp19, kp19⟩ := nu hp19 ep19
  have x1119 := ((xh.trans x13).trans ((x14.trans xp15).trans (x16.trans xp17))).trans (xp18.trans xp19)
  have bag19 := bag11.ext x1119
  refine eq_li ((((x13.trans x14).trans xp15).trans ((x16.trans xp17).trans (xp18.trans xp19))).at kh) kp19 (by omega) ?_
  refine ⟨_, rfl, ?_⟩
  change Br false _ _
  rw [br_f]
  unfold t_law_r4
  walk_at "e"
  refine ⟨b, rfl, bag19, fun w G20 wok x20 bag20 => ?_⟩
  have tw := tx_word wok
  unfold t_law_s3
  walk_at "e"
  refine ⟨w, rfl, wok, fun G21 x21 => ?_⟩
  refine ⟨w, rfl, wok, fun G22 x22 => ?_⟩
  walk_at "e"
  rw [eqR_s tw.ok tw.ok, beq_self_eq_true]
  refine ⟨_, rfl, ?_⟩
  change Br false _ _
  rw [br_f]
  refine ⟨w, rfl, wok, fun G23 x23 => ?_⟩
  refine .inl ⟨wordT w, rfl, by have := len_word wok; omega, tw, fun h => absurd rfl (h w wok), fun v hv G24 x24 => ?_⟩
  obtain rfl := upw_uniq hv.1 wok hv.2
  walk_at "e"
  refine eqR_twin (m := 1000) (n := 3) (rB_dd v) (rB_dd v) ((pu_rB wok).2.weak (by decide) (by decide)) (by decide) ?_
  refine ⟨_, rfl, ?_⟩
  change Br false _ _
  rw [br_f]
  have bag24 := ((bag20.ext x21).ext x22).ext (x23.trans x24)
  unfold t_law_r3
  walk_at "e"
  refine ⟨b, rfl, bag24, fun ps ca G25 hca lps pv x25 bag25 ec => ?_⟩
  walk_at "e"
  refine ⟨_, .inl ec, ?_⟩
  intro ck hck
  generalize eck : st G25 ck _ = G26
  obtain ⟨xck, kck⟩ := nu hck eck
  have ec26 := xck.at ec
  have bag26 := bag25.ext xck
  have tct := tx_cutT pv
  have rkp := rk_pcs lps pv
  have rest : ∀ (w' : Wx) (G' : Hd) (o9 : Option D), Ext G26 G' → t_law_r2 w' { nx := fun σ G1 => ∃ o1 o2 o3 o4 o5 o6 o7 o8 o9 o10 o11, σ = [some (.rl (ns.map .int)), o1, o2, o3, o4, o5, o6, o7, o8, o9, o10, o11], rt := q, bk := t_law_r6 w' { nx := fun x G => q D.non G, rt := q }, ct := fun σ G1 => ∃ o1 o2 o3 o4 o5 o6 o7 o8 o9 o10 o11, σ = [some (.rl (ns.map .int)), o1, o2, o3, o4, o5, o6, o7, o8, o9, o10, o11] }
      [some (.rl (ns.map .int)), some (.int (i : Int)), some (.ref b), some (.tup (S.map .int)), some (.ref h), some (rB v), some (.ref ca), some (.ref ck), some (.str (cutT ps)), o9, o10, o11] G' := fun w' G' o9 x27 => by
    have bag27 := bag26.ext x27
    unfold t_law_r2
    walk_at "e"
    refine ⟨ca, ps, rfl, x27.at ec26, by omega, pv, fun G28 x28 => ?_⟩
    walk_at "e"
    rw [eqR_s tct.ok tct.ok, beq_self_eq_true]
    refine ⟨_, rfl, ?_⟩
    change Br false _ _
    rw [br_f]
    refine eqR_rk (.lst ((x27.trans x28).at ec26) (dds_pcs ps)) (.lst ((x27.trans x28).at kck) (dds_pcs ps)) rkp (by decide) ?_
    refine ⟨_, rfl, ?_⟩
    change Br false _ _
    rw [br_f]
    unfold t_law_r1
    walk_at "e"
    refine takes_here (bag27.ext x28) (by decide) (by decide) fun m G29 m0 m1 x29 bag29 => ?_
    refine ⟨b, 1 + m, rfl, bag29, by omega, by omega, fun u G30 uv x30 bag30 => ?_⟩
    have n24 : 1 + m ≤ 24 := by omega
    obtain ⟨lu, tu⟩ := len_wish uv n24
    unfold t_law_s1
    walk_at "e"
    refine ⟨u, _, rfl, uv, n24, fun G31 x31 => ?_⟩
    refine ⟨u, _, rfl, uv, n24, fun G32 x32 => ?_⟩
    walk_at "e"
    rw [eqR_s tu.ok tu.ok, beq_self_eq_true]
    refine ⟨_, rfl, ?_⟩
    change Br false _ _
    rw [br_f]
    refine ⟨u, _, rfl, uv, n24, fun G33 x33 => ?_⟩
    refine .inl ⟨_, u.T, rfl, n24, by omega, tu, fun h => absurd rfl (h u uv), fun y hy G34 x34 => ?_⟩
    have ey : y = u := wish_inj (by rw [← found_wish hy.1 n24, ← found_wish uv n24, hy.2])
    subst ey
    walk_at "e"
    refine eqR_twin (m := 1000) (n := 3) (dd_wish _) (dd_wish _) (gd_wish uv) (by decide) ?_
    refine ⟨_, rfl, ?_⟩
    change Br false _ _
    rw [br_f]
    exact ⟨_, _, _, _, _, _, _, _, _, _, _, rfl⟩
  unfold t_law_s2
  walk_at "e"
  intro p27 hp27
  generalize ep27 : st G26 p27 _ = G27
  obtain ⟨xp27, kp27⟩ := nu hp27 ep27
  refine ⟨_, .lst [], .lst (xp27.at ec26) (dds_pcs ps), .lst kp27 .nil, rkp.sh (by decide), ⟨rfl, by decide⟩, ?_⟩
  cases ps with
  | nil =>
    refine ⟨_, rfl, ?_⟩
    change Br false _ _
    rw [br_f]
    exact rest _ G27 o9 xp27
  | cons p ps =>
    refine ⟨_, rfl, ?_⟩
    change Br true _ _
    rw [br_t]
    refine ⟨_, .inl (xp27.at ec26), ?_⟩
    refine lcR_valM (p :: ps) Pc.d (fun p => D.str (pieceT p)) (by omega) (fun G' x => .inl (x.at (xp27.at ec26))) (fun c hc G' Q' x kk => ?_) fun p28 G28 hp28 x28 e28 => ?_
    · walk_at "e"
      exact ⟨c, rfl, pv c hc, fun G'' x' => kk _ x'⟩
    walk_at "e"
    refine ⟨(p :: ps).map pieceT, .inl (by rw [e28, List.map_map]; rfl), join_fits (B := 200) (fun z hz => ?_) ?_, ?_⟩
    · obtain ⟨c, hc, rfl⟩ := List.mem_map.mp hz
      exact len_piece (pv c hc)
    · rw [List.length_map, show (Str.ofString " ").length = 1 by decide]; omega
    · exact rest _ G28 _ (xp27.trans x28)
end S
set_option Elab.async false
set_option linter.all false
set_option maxRecDepth 100000
set_option maxHeartbeats 0
namespace S
open PySem PySem.Spec L2
open PyProof.Rows hiding St
theorem sc__law_bag : FnScope N__law_bag P__law_bag (defScope s__law_bag) := ⟨rfl, rfl, rfl, by decide +kernel, rfl, by decide +kernel, by decide +kernel⟩
theorem cc__law_bag : mapS (compS 60 (ccOf N__law_bag (defScope s__law_bag) gl__law_bag [] [0, 15] ["BenchError", "NoText"])) (defBody s__law_bag) = some t__law_bag := by kernel_rfl
theorem sc__law_keys_text : FnScope N__law_keys_text P__law_keys_text (defScope s__law_keys_text) := ⟨rfl, rfl, rfl, by decide +kernel, rfl, by decide +kernel, by decide +kernel⟩
theorem cc__law_keys_text : mapS (compS 60 (ccOf N__law_keys_text (defScope s__law_keys_text) gl__law_keys_text [] [0, 15] ["BenchError", "NoText"])) (defBody s__law_keys_text) = some t__law_keys_text := by kernel_rfl
theorem sc_show_keys : FnScope N_show_keys P_show_keys (defScope s_show_keys) := ⟨rfl, rfl, rfl, by decide +kernel, rfl, by decide +kernel, by decide +kernel⟩
theorem cc_show_keys : mapS (compS 60 (ccOf N_show_keys (defScope s_show_keys) gl_show_keys [] [0, 15] ["BenchError", "NoText"])) (defBody s_show_keys) = some t_show_keys := by kernel_rfl
theorem sc_keys_in : FnScope N_keys_in P_keys_in (defScope s_keys_in) := ⟨rfl, rfl, rfl, by decide +kernel, rfl, by decide +kernel, by decide +kernel⟩
theorem cc_keys_in : mapS (compS 60 (ccOf N_keys_in (defScope s_keys_in) gl_keys_in ["#x"] [0, 15] ["BenchError", "NoText"])) (defBody s_keys_in) = some t_keys_in := by kernel_rfl
theorem sc_read_keys_text : FnScope N_read_keys_text P_read_keys_text (defScope s_read_keys_text) := ⟨rfl, rfl, rfl, by decide +kernel, rfl, by decide +kernel, by decide +kernel⟩
theorem cc_read_keys_text : mapS (compS 60 (ccOf N_read_keys_text (defScope s_read_keys_text) gl_read_keys_text [] [0, 15] ["BenchError", "NoText"])) (defBody s_read_keys_text) = some t_read_keys_text := by kernel_rfl
theorem sc__law_keys_right : FnScope N__law_keys_right P__law_keys_right (defScope s__law_keys_right) := ⟨rfl, rfl, rfl, by decide +kernel, rfl, by decide +kernel, by decide +kernel⟩
theorem cc__law_keys_right : mapS (compS 60 (ccOf N__law_keys_right (defScope s__law_keys_right) gl__law_keys_right [] [0, 15] ["BenchError", "NoText"])) (defBody s__law_keys_right) = some t__law_keys_right := by kernel_rfl
theorem sc__law_take : FnScope N__law_take P__law_take (defScope s__law_take) := ⟨rfl, rfl, rfl, by decide +kernel, rfl, by decide +kernel, by decide +kernel⟩
theorem cc__law_take : mapS (compS 60 (ccOf N__law_take (defScope s__law_take) gl__law_take [] [0, 15] ["BenchError", "NoText"])) (defBody s__law_take) = some t__law_take := by kernel_rfl
theorem sc__law_numbers : FnScope N__law_numbers81 P__law_numbers81 (defScope s__law_numbers) := ⟨rfl, rfl, rfl, by decide +kernel, rfl, by decide +kernel, by decide +kernel⟩
theorem cc__law_numbers : mapS (compS 60 (ccOf N__law_numbers81 (defScope s__law_numbers) gl__law_numbers81 [] [0, 15] ["BenchError", "NoText"])) (defBody s__law_numbers) = some t__law_numbers81 := by kernel_rfl
theorem sc_with_dots : FnScope N_with_dots P_with_dots (defScope s_with_dots) := ⟨rfl, rfl, rfl, by decide +kernel, rfl, by decide +kernel, by decide +kernel⟩
theorem cc_with_dots : mapS (compS 60 (ccOf N_with_dots (defScope s_with_dots) gl_with_dots [] [0, 15] ["BenchError", "NoText"])) (defBody s_with_dots) = some t_with_dots := by kernel_rfl
theorem sc_show_numbers : FnScope N_show_numbers P_show_numbers (defScope s_show_numbers) := ⟨rfl, rfl, rfl, by decide +kernel, rfl, by decide +kernel, by decide +kernel⟩
theorem cc_show_numbers : mapS (compS 60 (ccOf N_show_numbers (defScope s_show_numbers) gl_show_numbers [] [0, 15] ["BenchError", "NoText"])) (defBody s_show_numbers) = some t_show_numbers := by kernel_rfl
theorem sc__law_dots : FnScope N__law_dots81 P__law_dots81 (defScope s__law_dots) := ⟨rfl, rfl, rfl, by decide +kernel, rfl, by decide +kernel, by decide +kernel⟩
theorem cc__law_dots : mapS (compS 60 (ccOf N__law_dots81 (defScope s__law_dots) gl__law_dots81 [] [0, 15] ["BenchError", "NoText"])) (defBody s__law_dots) = some t__law_dots81 := by kernel_rfl
theorem sc__law_word : FnScope N__law_word81 P__law_word81 (defScope s__law_word) := ⟨rfl, rfl, rfl, by decide +kernel, rfl, by decide +kernel, by decide +kernel⟩
theorem cc__law_word : mapS (compS 60 (ccOf N__law_word81 (defScope s__law_word) gl__law_word81 [] [0, 15] ["BenchError", "NoText"])) (defBody s__law_word) = some t__law_word81 := by kernel_rfl
theorem sc_number_in : FnScope N_number_in P_number_in (defScope s_number_in) := ⟨rfl, rfl, rfl, by decide +kernel, rfl, by decide +kernel, by decide +kernel⟩
theorem cc_number_in : mapS (compS 60 (ccOf N_number_in (defScope s_number_in) gl_number_in [] [0, 15] ["BenchError", "NoText"])) (defBody s_number_in) = some t_number_in := by kernel_rfl
theorem sc_numbers_in : FnScope N_numbers_in P_numbers_in (defScope s_numbers_in) := ⟨rfl, rfl, rfl, by decide +kernel, rfl, by decide +kernel, by decide +kernel⟩
theorem cc_numbers_in : mapS (compS 60 (ccOf N_numbers_in (defScope s_numbers_in) gl_numbers_in [] [0, 15] ["BenchError", "NoText"])) (defBody s_numbers_in) = some t_numbers_in := by kernel_rfl
theorem sc_show_word : FnScope N_show_word P_show_word (defScope s_show_word) := ⟨rfl, rfl, rfl, by decide +kernel, rfl, by decide +kernel, by decide +kernel⟩
theorem cc_show_word : mapS (compS 60 (ccOf N_show_word (defScope s_show_word) gl_show_word [] [0, 15] ["BenchError", "NoText"])) (defBody s_show_word) = some t_show_word := by kernel_rfl
theorem sc_is_number : FnScope N_is_number P_is_number (defScope s_is_number) := ⟨rfl, rfl, rfl, by decide +kernel, rfl, by decide +kernel, by decide +kernel⟩
theorem cc_is_number : mapS (compS 60 (ccOf N_is_number (defScope s_is_number) gl_is_number [] [0, 15] ["BenchError", "NoText"])) (defBody s_is_number) = some t_is_number := by kernel_rfl
theorem sc_are_numbers : FnScope N_are_numbers P_are_numbers (defScope s_are_numbers) := ⟨rfl, rfl, rfl, by decide +kernel, rfl, by decide +kernel, by decide +kernel⟩
theorem cc_are_numbers : mapS (compS 60 (ccOf N_are_numbers (defScope s_are_numbers) gl_are_numbers [] [0, 15] ["BenchError", "NoText"])) (defBody s_are_numbers) = some t_are_numbers := by kernel_rfl
theorem sc_is_word : FnScope N_is_word P_is_word (defScope s_is_word) := ⟨rfl, rfl, rfl, by decide +kernel, rfl, by decide +kernel, by decide +kernel⟩
theorem cc_is_word : mapS (compS 60 (ccOf N_is_word (defScope s_is_word) gl_is_word [] [0, 15] ["BenchError", "NoText"])) (defBody s_is_word) = some t_is_word := by kernel_rfl
theorem sc_read_word : FnScope N_read_word P_read_word (defScope s_read_word) := ⟨rfl, rfl, rfl, by decide +kernel, rfl, by decide +kernel, by decide +kernel⟩
theorem cc_read_word : mapS (compS 60 (ccOf N_read_word (defScope s_read_word) gl_read_word [] [0, 15] ["BenchError", "NoText"])) (defBody s_read_word) = some t_read_word := by kernel_rfl
theorem sc__law_word_text : FnScope N__law_word_text P__law_word_text (defScope s__law_word_text) := ⟨rfl, rfl, rfl, by decide +kernel, rfl, by decide +kernel, by decide +kernel⟩
theorem cc__law_word_text : mapS (compS 60 (ccOf N__law_word_text (defScope s__law_word_text) gl__law_word_text [] [0, 15] ["BenchError", "NoText"])) (defBody s__law_word_text) = some t__law_word_text := by kernel_rfl
theorem sc__law_cutting : FnScope N__law_cutting81 P__law_cutting81 (defScope s__law_cutting) := ⟨rfl, rfl, rfl, by decide +kernel, rfl, by decide +kernel, by decide +kernel⟩
theorem cc__law_cutting : mapS (compS 60 (ccOf N__law_cutting81 (defScope s__law_cutting) gl__law_cutting81 [] [0, 15] ["BenchError", "NoText"])) (defBody s__law_cutting) = some t__law_cutting81 := by kernel_rfl
theorem sc__law_piece_text : FnScope N__law_piece_text P__law_piece_text (defScope s__law_piece_text) := ⟨rfl, rfl, rfl, by decide +kernel, rfl, by decide +kernel, by decide +kernel⟩
theorem cc__law_piece_text : mapS (compS 60 (ccOf N__law_piece_text (defScope s__law_piece_text) gl__law_piece_text [] [0, 15] ["BenchError", "NoText"])) (defBody s__law_piece_text) = some t__law_piece_text := by kernel_rfl
theorem sc_piece_text : FnScope N_piece_text P_piece_text (defScope s_piece_text) := ⟨rfl, rfl, rfl, by decide +kernel, rfl, by decide +kernel, by decide +kernel⟩
theorem cc_piece_text : mapS (compS 60 (ccOf N_piece_text (defScope s_piece_text) gl_piece_text [] [0, 15] ["BenchError", "NoText"])) (defBody s_piece_text) = some t_piece_text := by kernel_rfl
theorem sc_show_cutting : FnScope N_show_cutting P_show_cutting (defScope s_show_cutting) := ⟨rfl, rfl, rfl, by decide +kernel, rfl, by decide +kernel, by decide +kernel⟩
theorem cc_show_cutting : mapS (compS 60 (ccOf N_show_cutting (defScope s_show_cutting) gl_show_cutting [] [0, 15] ["BenchError", "NoText"])) (defBody s_show_cutting) = some t_show_cutting := by kernel_rfl
theorem sc__law_wish : FnScope N__law_wish81 P__law_wish81 (defScope s__law_wish) := ⟨rfl, rfl, rfl, by decide +kernel, rfl, by decide +kernel, by decide +kernel⟩
theorem cc__law_wish : mapS (compS 60 (ccOf N__law_wish81 (defScope s__law_wish) gl__law_wish81 [] [0, 15] ["BenchError", "NoText"])) (defBody s__law_wish) = some t__law_wish81 := by kernel_rfl
theorem sc_show_wish : FnScope N_show_wish P_show_wish (defScope s_show_wish) := ⟨rfl, rfl, rfl, by decide +kernel, rfl, by decide +kernel, by decide +kernel⟩
theorem cc_show_wish : mapS (compS 60 (ccOf N_show_wish (defScope s_show_wish) gl_show_wish [] [0, 15] ["BenchError", "NoText"])) (defBody s_show_wish) = some t_show_wish := by kernel_rfl
theorem sc_is_whole : FnScope N_is_whole P_is_whole (defScope s_is_whole) := ⟨rfl, rfl, rfl, by decide +kernel, rfl, by decide +kernel, by decide +kernel⟩
theorem cc_is_whole : mapS (compS 60 (ccOf N_is_whole (defScope s_is_whole) gl_is_whole [] [0, 15] ["BenchError", "NoText"])) (defBody s_is_whole) = some t_is_whole := by kernel_rfl
theorem sc_is_from : FnScope N_is_from P_is_from (defScope s_is_from) := ⟨rfl, rfl, rfl, by decide +kernel, rfl, by decide +kernel, by decide +kernel⟩
theorem cc_is_from : mapS (compS 60 (ccOf N_is_from (defScope s_is_from) gl_is_from [] [0, 15] ["BenchError", "NoText"])) (defBody s_is_from) = some t_is_from := by kernel_rfl
theorem sc_is_row : FnScope N_is_row P_is_row (defScope s_is_row) := ⟨rfl, rfl, rfl, by decide +kernel, rfl, by decide +kernel, by decide +kernel⟩
theorem cc_is_row : mapS (compS 60 (ccOf N_is_row (defScope s_is_row) gl_is_row [] [0, 15] ["BenchError", "NoText"])) (defBody s_is_row) = some t_is_row := by kernel_rfl
theorem sc_is_wish : FnScope N_is_wish P_is_wish (defScope s_is_wish) := ⟨rfl, rfl, rfl, by decide +kernel, rfl, by decide +kernel, by decide +kernel⟩
theorem cc_is_wish : mapS (compS 60 (ccOf N_is_wish (defScope s_is_wish) gl_is_wish [] [0, 15] ["BenchError", "NoText"])) (defBody s_is_wish) = some t_is_wish := by kernel_rfl
theorem sc_read_wish : FnScope N_read_wish P_read_wish (defScope s_read_wish) := ⟨rfl, rfl, rfl, by decide +kernel, rfl, by decide +kernel, by decide +kernel⟩
theorem cc_read_wish : mapS (compS 60 (ccOf N_read_wish (defScope s_read_wish) gl_read_wish [] [0, 15] ["BenchError", "NoText"])) (defBody s_read_wish) = some t_read_wish := by kernel_rfl
theorem sc__law_wish_text : FnScope N__law_wish_text P__law_wish_text (defScope s__law_wish_text) := ⟨rfl, rfl, rfl, by decide +kernel, rfl, by decide +kernel, by decide +kernel⟩
theorem cc__law_wish_text : mapS (compS 60 (ccOf N__law_wish_text (defScope s__law_wish_text) gl__law_wish_text [] [0, 15] ["BenchError", "NoText"])) (defBody s__law_wish_text) = some t__law_wish_text := by kernel_rfl
theorem sc_law : FnScope N_law P_law (defScope s_law) := ⟨rfl, rfl, rfl, by decide +kernel, rfl, by decide +kernel, by decide +kernel⟩
theorem cc_law : mapS (compS 60 (ccOf N_law (defScope s_law) gl_law [] [0, 15] ["BenchError", "NoText"])) (defBody s_law) = some t_law := by kernel_rfl
section
variable {P : Program} {w : World} {K : PySem.W.Frag} {h : Heap} {mg : Str → Option Value}
theorem facts {f : Addr} (X : K.In h) (G : h.Ns mainGlobals mg) (hfa : mg ("law" : Str) = some (.ref f)) (c : He.SaysD fa fn K) (cx : EcK K ecs ets) (ct : TcK K tcs) : ∃ fd : FuncData, (∀ (s : Shared) (v : Value), BindsTo s fd ⟨[v], []⟩ [("_law_script", v)]) ∧ ∀ base : Heap, K.In base → base.Ns mainGlobals mg → FnG P w K mg base (L2N.CX P w) 6 f fd ["_law_script"] (liftSp ⟨K, P, w⟩ spLaw) := by
  obtain ⟨fd__law_bag, F0__law_bag⟩ := c.def_ 20 (d := d__law_bag) rfl
  have F__law_bag : FunD K "_law_bag" "_law_bag" (defArgs s__law_bag) (defBody s__law_bag) (defScope s__law_bag) [] [] (He.ga K "_law_bag") fd__law_bag := F0__law_bag
  have M__law_bag : mg "_law_bag" = some (.ref (He.ga K "_law_bag")) := He.glo_ok X G (c.fact 20 (f := .glo "_law_bag") rfl)
  have B__law_bag : Binds K fd__law_bag P__law_bag [] := F__law_bag.bindsN fun _ _ _ _ _ _ us hl => match us, hl with | [_, _], _ => rfl
  obtain ⟨fd__law_keys_text, F0__law_keys_text⟩ := c.def_ 23 (d := d__law_keys_text) rfl
  have F__law_keys_text : FunD K "_law_keys_text" "_law_keys_text" (defArgs s__law_keys_text) (defBody s__law_keys_text) (defScope s__law_keys_text) [] [] (He.ga K "_law_keys_text") fd__law_keys_text := F0__law_keys_text
  have M__law_keys_text : mg "_law_keys_text" = some (.ref (He.ga K "_law_keys_text")) := He.glo_ok X G (c.fact 23 (f := .glo "_law_keys_text") rfl)
  have B__law_keys_text : Binds K fd__law_keys_text P__law_keys_text [] := F__law_keys_text.bindsN fun _ _ _ _ _ _ us hl => match us, hl with | [_], _ => rfl
  obtain ⟨fd_show_keys, F0_show_keys⟩ := c.def_ 12 (d := d_show_keys) rfl
  have F_show_keys : FunD K "show_keys" "show_keys" (defArgs s_show_keys) (defBody s_show_keys) (defScope s_show_keys) [] [] (He.ga K "show_keys") fd_show_keys := F0_show_keys
  have M_show_keys : mg "show_keys" = some (.ref (He.ga K "show_keys")) := He.glo_ok X G (c.fact 12 (f := .glo "show_keys") rfl)
  have B_show_keys : Binds K fd_show_keys P_show_keys [] := F_show_keys.bindsN fun _ _ _ _ _ _ us hl => match us, hl with | [_], _ => rfl
  obtain ⟨fd_keys_in, F0_keys_in⟩ := c.def_ 16 (d := d_keys_in) rfl
  have F_keys_in : FunD K "keys_in" "keys_in" (defArgs s_keys_in) (defBody s_keys_in) (defScope s_keys_in) [] [] (He.ga K "keys_in") fd_keys_in := F0_keys_in
  have M_keys_in : mg "keys_in" = some (.ref (He.ga K "keys_in")) := He.glo_ok X G (c.fact 16 (f := .glo "keys_in") rfl)
  have B_keys_in : Binds K fd_keys_in P_keys_in [] := F_keys_in.bindsN fun _ _ _ _ _ _ us hl => match us, hl with | [_], _ => rfl
  obtain ⟨fd_read_keys_text, F0_read_keys_text⟩ := c.def_ 17 (d := d_read_keys_text) rfl
  have F_read_keys_text : FunD K "read_keys_text" "read_keys_text" (defArgs s_read_keys_text) (defBody s_read_keys_text) (defScope s_read_keys_text) [] [] (He.ga K "read_keys_text") fd_read_keys_text := F0_read_keys_text
  have M_read_keys_text : mg "read_keys_text" = some (.ref (He.ga K "read_keys_text")) := He.glo_ok X G (c.fact 17 (f := .glo "read_keys_text") rfl)
  have B_read_keys_text : Binds K fd_read_keys_text P_read_keys_text [] := F_read_keys_text.bindsN fun _ _ _ _ _ _ us hl => match us, hl with | [_], _ => rfl
  obtain ⟨fd__law_keys_right, F0__law_keys_right⟩ := c.def_ 31 (d := d__law_keys_right) rfl
  have F__law_keys_right : FunD K "_law_keys_right" "_law_keys_right" (defArgs s__law_keys_right) (defBody s__law_keys_right) (defScope s__law_keys_right) [] [] (He.ga K "_law_keys_right") fd__law_keys_right := F0__law_keys_right
  have M__law_keys_right : mg "_law_keys_right" = some (.ref (He.ga K "_law_keys_right")) := He.glo_ok X G (c.fact 31 (f := .glo "_law_keys_right") rfl)
  have B__law_keys_right : Binds K fd__law_keys_right P__law_keys_right [] := F__law_keys_right.bindsN fun _ _ _ _ _ _ us hl => match us, hl with | [_], _ => rfl
  obtain ⟨fd__law_take, F0__law_take⟩ := c.def_ 21 (d := d__law_take) rfl
  have F__law_take : FunD K "_law_take" "_law_take" (defArgs s__law_take) (defBody s__law_take) (defScope s__law_take) [] [] (He.ga K "_law_take") fd__law_take := F0__law_take
  have M__law_take : mg "_law_take" = some (.ref (He.ga K "_law_take")) := He.glo_ok X G (c.fact 21 (f := .glo "_law_take") rfl)
  have B__law_take : Binds K fd__law_take P__law_take [] := F__law_take.bindsN fun _ _ _ _ _ _ us hl => match us, hl with | [_, _], _ => rfl
  obtain ⟨fd__law_numbers, F0__law_numbers⟩ := c.def_ 27 (d := d__law_numbers) rfl
  have F__law_numbers : FunD K "_law_numbers" "_law_numbers" (defArgs s__law_numbers) (defBody s__law_numbers) (defScope s__law_numbers) [] [] (He.ga K "_law_numbers") fd__law_numbers := F0__law_numbers
  have M__law_numbers : mg "_law_numbers" = some (.ref (He.ga K "_law_numbers")) := He.glo_ok X G (c.fact 27 (f := .glo "_law_numbers") rfl)
  have B__law_numbers : Binds K fd__law_numbers P__law_numbers81 [] := F__law_numbers.bindsN fun _ _ _ _ _ _ us hl => match us, hl with | [_, _, _], _ => rfl
  obtain ⟨fd_with_dots, F0_with_dots⟩ := c.def_ 6 (d := d_with_dots) rfl
  have F_with_dots : FunD K "with_dots" "with_dots" (defArgs s_with_dots) (defBody s_with_dots) (defScope s_with_dots) [] [] (He.ga K "with_dots") fd_with_dots := F0_with_dots
  have M_with_dots : mg "with_dots" = some (.ref (He.ga K "with_dots")) := He.glo_ok X G (c.fact 6 (f := .glo "with_dots") rfl)
  have B_with_dots : Binds K fd_with_dots P_with_dots [] := F_with_dots.bindsN fun _ _ _ _ _ _ us hl => match us, hl with | [_], _ => rfl
  obtain ⟨fd_show_numbers, F0_show_numbers⟩ := c.def_ 11 (d := d_show_numbers) rfl
  have F_show_numbers : FunD K "show_numbers" "show_numbers" (defArgs s_show_numbers) (defBody s_show_numbers) (defScope s_show_numbers) [] [] (He.ga K "show_numbers") fd_show_numbers := F0_show_numbers
  have M_show_numbers : mg "show_numbers" = some (.ref (He.ga K "show_numbers")) := He.glo_ok X G (c.fact 11 (f := .glo "show_numbers") rfl)
  have B_show_numbers : Binds K fd_show_numbers P_show_numbers [] := F_show_numbers.bindsN fun _ _ _ _ _ _ us hl => match us, hl with | [_], _ => rfl
  obtain ⟨fd__law_dots, F0__law_dots⟩ := c.def_ 22 (d := d__law_dots) rfl
  have F__law_dots : FunD K "_law_dots" "_law_dots" (defArgs s__law_dots) (defBody s__law_dots) (defScope s__law_dots) [] [] (He.ga K "_law_dots") fd__law_dots := F0__law_dots
  have M__law_dots : mg "_law_dots" = some (.ref (He.ga K "_law_dots")) := He.glo_ok X G (c.fact 22 (f := .glo "_law_dots") rfl)
  have B__law_dots : Binds K fd__law_dots P__law_dots81 [] := F__law_dots.bindsN fun _ _ _ _ _ _ us hl => match us, hl with | [_], _ => rfl
  obtain ⟨fd__law_word, F0__law_word⟩ := c.def_ 28 (d := d__law_word) rfl
  have F__law_word : FunD K "_law_word" "_law_word" (defArgs s__law_word) (defBody s__law_word) (defScope s__law_word) [] [] (He.ga K "_law_word") fd__law_word := F0__law_word
  have M__law_word : mg "_law_word" = some (.ref (He.ga K "_law_word")) := He.glo_ok X G (c.fact 28 (f := .glo "_law_word") rfl)
  have B__law_word : Binds K fd__law_word P__law_word81 [] := F__law_word.bindsN fun _ _ _ _ _ _ us hl => match us, hl with | [_], _ => rfl
  obtain ⟨fd_number_in, F0_number_in⟩ := c.def_ 8 (d := d_number_in) rfl
  have F_number_in : FunD K "number_in" "number_in" (defArgs s_number_in) (defBody s_number_in) (defScope s_number_in) [] [] (He.ga K "number_in") fd_number_in := F0_number_in
  have M_number_in : mg "number_in" = some (.ref (He.ga K "number_in")) := He.glo_ok X G (c.fact 8 (f := .glo "number_in") rfl)
  have B_number_in : Binds K fd_number_in P_number_in [] := F_number_in.bindsN fun _ _ _ _ _ _ us hl => match us, hl with | [_], _ => rfl
  obtain ⟨fd_numbers_in, F0_numbers_in⟩ := c.def_ 9 (d := d_numbers_in) rfl
  have F_numbers_in : FunD K "numbers_in" "numbers_in" (defArgs s_numbers_in) (defBody s_numbers_in) (defScope s_numbers_in) [] [] (He.ga K "numbers_in") fd_numbers_in := F0_numbers_in
  have M_numbers_in : mg "numbers_in" = some (.ref (He.ga K "numbers_in")) := He.glo_ok X G (c.fact 9 (f := .glo "numbers_in") rfl)
  have B_numbers_in : Binds K fd_numbers_in P_numbers_in [] := F_numbers_in.bindsN fun _ _ _ _ _ _ us hl => match us, hl with | [_], _ => rfl
  obtain ⟨fd_show_word, F0_show_word⟩ := c.def_ 13 (d := d_show_word) rfl
  have F_show_word : FunD K "show_word" "show_word" (defArgs s_show_word) (defBody s_show_word) (defScope s_show_word) [] [] (He.ga K "show_word") fd_show_word := F0_show_word
  have M_show_word : mg "show_word" = some (.ref (He.ga K "show_word")) := He.glo_ok X G (c.fact 13 (f := .glo "show_word") rfl)
  have B_show_word : Binds K fd_show_word P_show_word [] := F_show_word.bindsN fun _ _ _ _ _ _ us hl => match us, hl with | [_], _ => rfl
  obtain ⟨fd_is_number, F0_is_number⟩ := c.def_ 0 (d := d_is_number) rfl
  have F_is_number : FunD K "is_number" "is_number" (defArgs s_is_number) (defBody s_is_number) (defScope s_is_number) [] [] (He.ga K "is_number") fd_is_number := F0_is_number
  have M_is_number : mg "is_number" = some (.ref (He.ga K "is_number")) := He.glo_ok X G (c.fact 0 (f := .glo "is_number") rfl)
  have B_is_number : Binds K fd_is_number P_is_number [] := F_is_number.bindsN fun _ _ _ _ _ _ us hl => match us, hl with | [_, _], _ => rfl
  obtain ⟨fd_are_numbers, F0_are_numbers⟩ := c.def_ 1 (d := d_are_numbers) rfl
  have F_are_numbers : FunD K "are_numbers" "are_numbers" (defArgs s_are_numbers) (defBody s_are_numbers) (defScope s_are_numbers) [] [] (He.ga K "are_numbers") fd_are_numbers := F0_are_numbers
  have M_are_numbers : mg "are_numbers" = some (.ref (He.ga K "are_numbers")) := He.glo_ok X G (c.fact 1 (f := .glo "are_numbers") rfl)
  have B_are_numbers : Binds K fd_are_numbers P_are_numbers [] := F_are_numbers.bindsN fun _ _ _ _ _ _ us hl => match us, hl with | [_, _, _, _], _ => rfl
  obtain ⟨fd_is_word, F0_is_word⟩ := c.def_ 2 (d := d_is_word) rfl
  have F_is_word : FunD K "is_word" "is_word" (defArgs s_is_word) (defBody s_is_word) (defScope s_is_word) [] [] (He.ga K "is_word") fd_is_word := F0_is_word
  have M_is_word : mg "is_word" = some (.ref (He.ga K "is_word")) := He.glo_ok X G (c.fact 2 (f := .glo "is_word") rfl)
  have B_is_word : Binds K fd_is_word P_is_word [] := F_is_word.bindsN fun _ _ _ _ _ _ us hl => match us, hl with | [_], _ => rfl
  obtain ⟨fd_read_word, F0_read_word⟩ := c.def_ 18 (d := d_read_word) rfl
  have F_read_word : FunD K "read_word" "read_word" (defArgs s_read_word) (defBody s_read_word) (defScope s_read_word) [] [] (He.ga K "read_word") fd_read_word := F0_read_word
  have M_read_word : mg "read_word" = some (.ref (He.ga K "read_word")) := He.glo_ok X G (c.fact 18 (f := .glo "read_word") rfl)
  have B_read_word : Binds K fd_read_word P_read_word [] := F_read_word.bindsN fun _ _ _ _ _ _ us hl => match us, hl with | [_], _ => rfl
  obtain ⟨fd__law_word_text, F0__law_word_text⟩ := c.def_ 24 (d := d__law_word_text) rfl
  have F__law_word_text : FunD K "_law_word_text" "_law_word_text" (defArgs s__law_word_text) (defBody s__law_word_text) (defScope s__law_word_text) [] [] (He.ga K "_law_word_text") fd__law_word_text := F0__law_word_text
  have M__law_word_text : mg "_law_word_text" = some (.ref (He.ga K "_law_word_text")) := He.glo_ok X G (c.fact 24 (f := .glo "_law_word_text") rfl)
  have B__law_word_text : Binds K fd__law_word_text P__law_word_text [] := F__law_word_text.bindsN fun _ _ _ _ _ _ us hl => match us, hl with | [_], _ => rfl
  obtain ⟨fd__law_cutting, F0__law_cutting⟩ := c.def_ 30 (d := d__law_cutting) rfl
  have F__law_cutting : FunD K "_law_cutting" "_law_cutting" (defArgs s__law_cutting) (defBody s__law_cutting) (defScope s__law_cutting) [] [] (He.ga K "_law_cutting") fd__law_cutting := F0__law_cutting
  have M__law_cutting : mg "_law_cutting" = some (.ref (He.ga K "_law_cutting")) := He.glo_ok X G (c.fact 30 (f := .glo "_law_cutting") rfl)
  have B__law_cutting : Binds K fd__law_cutting P__law_cutting81 [] := F__law_cutting.bindsN fun _ _ _ _ _ _ us hl => match us, hl with | [_], _ => rfl
  obtain ⟨fd__law_piece_text, F0__law_piece_text⟩ := c.def_ 25 (d := d__law_piece_text) rfl
  have F__law_piece_text : FunD K "_law_piece_text" "_law_piece_text" (defArgs s__law_piece_text) (defBody s__law_piece_text) (defScope s__law_piece_text) [] [] (He.ga K "_law_piece_text") fd__law_piece_text := F0__law_piece_text
  have M__law_piece_text : mg "_law_piece_text" = some (.ref (He.ga K "_law_piece_text")) := He.glo_ok X G (c.fact 25 (f := .glo "_law_piece_text") rfl)
  have B__law_piece_text : Binds K fd__law_piece_text P__law_piece_text [] := F__law_piece_text.bindsN fun _ _ _ _ _ _ us hl => match us, hl with | [_], _ => rfl
  obtain ⟨fd_piece_text, F0_piece_text⟩ := c.def_ 7 (d := d_piece_text) rfl
  have F_piece_text : FunD K "piece_text" "piece_text" (defArgs s_piece_text) (defBody s_piece_text) (defScope s_piece_text) [] [] (He.ga K "piece_text") fd_piece_text := F0_piece_text
  have M_piece_text : mg "piece_text" = some (.ref (He.ga K "piece_text")) := He.glo_ok X G (c.fact 7 (f := .glo "piece_text") rfl)
  have B_piece_text : Binds K fd_piece_text P_piece_text [] := F_piece_text.bindsN fun _ _ _ _ _ _ us hl => match us, hl with | [_], _ => rfl
  obtain ⟨fd_show_cutting, F0_show_cutting⟩ := c.def_ 14 (d := d_show_cutting) rfl
  have F_show_cutting : FunD K "show_cutting" "show_cutting" (defArgs s_show_cutting) (defBody s_show_cutting) (defScope s_show_cutting) [] [] (He.ga K "show_cutting") fd_show_cutting := F0_show_cutting
  have M_show_cutting : mg "show_cutting" = some (.ref (He.ga K "show_cutting")) := He.glo_ok X G (c.fact 14 (f := .glo "show_cutting") rfl)
  have B_show_cutting : Binds K fd_show_cutting P_show_cutting [] := F_show_cutting.bindsN fun _ _ _ _ _ _ us hl => match us, hl with | [_], _ => rfl
  obtain ⟨fd__law_wish, F0__law_wish⟩ := c.def_ 29 (d := d__law_wish) rfl
  have F__law_wish : FunD K "_law_wish" "_law_wish" (defArgs s__law_wish) (defBody s__law_wish) (defScope s__law_wish) [] [] (He.ga K "_law_wish") fd__law_wish := F0__law_wish
  have M__law_wish : mg "_law_wish" = some (.ref (He.ga K "_law_wish")) := He.glo_ok X G (c.fact 29 (f := .glo "_law_wish") rfl)
  have B__law_wish : Binds K fd__law_wish P__law_wish81 [] := F__law_wish.bindsN fun _ _ _ _ _ _ us hl => match us, hl with | [_, _], _ => rfl
  obtain ⟨fd_show_wish, F0_show_wish⟩ := c.def_ 15 (d := d_show_wish) rfl
  have F_show_wish : FunD K "show_wish" "show_wish" (defArgs s_show_wish) (defBody s_show_wish) (defScope s_show_wish) [] [] (He.ga K "show_wish") fd_show_wish := F0_show_wish
  have M_show_wish : mg "show_wish" = some (.ref (He.ga K "show_wish")) := He.glo_ok X G (c.fact 15 (f := .glo "show_wish") rfl)
  have B_show_wish : Binds K fd_show_wish P_show_wish [] := F_show_wish.bindsN fun _ _ _ _ _ _ us hl => match us, hl with | [_], _ => rfl
  obtain ⟨fd_is_whole, F0_is_whole⟩ := c.def_ 3 (d := d_is_whole) rfl
  have F_is_whole : FunD K "is_whole" "is_whole" (defArgs s_is_whole) (defBody s_is_whole) (defScope s_is_whole) [] [] (He.ga K "is_whole") fd_is_whole := F0_is_whole
  have M_is_whole : mg "is_whole" = some (.ref (He.ga K "is_whole")) := He.glo_ok X G (c.fact 3 (f := .glo "is_whole") rfl)
  have B_is_whole : Binds K fd_is_whole P_is_whole [] := F_is_whole.bindsN fun _ _ _ _ _ _ us hl => match us, hl with | [_], _ => rfl
  obtain ⟨fd_is_from, F0_is_from⟩ := c.def_ 4 (d := d_is_from) rfl
  have F_is_from : FunD K "is_from" "is_from" (defArgs s_is_from) (defBody s_is_from) (defScope s_is_from) [] [] (He.ga K "is_from") fd_is_from := F0_is_from
  have M_is_from : mg "is_from" = some (.ref (He.ga K "is_from")) := He.glo_ok X G (c.fact 4 (f := .glo "is_from") rfl)
  have B_is_from : Binds K fd_is_from P_is_from [] := F_is_from.bindsN fun _ _ _ _ _ _ us hl => match us, hl with | [_, _, _], _ => rfl
  obtain ⟨fd_is_row, F0_is_row⟩ := c.def_ 5 (d := d_is_row) rfl
  have F_is_row : FunD K "is_row" "is_row" (defArgs s_is_row) (defBody s_is_row) (defScope s_is_row) [] [] (He.ga K "is_row") fd_is_row := F0_is_row
  have M_is_row : mg "is_row" = some (.ref (He.ga K "is_row")) := He.glo_ok X G (c.fact 5 (f := .glo "is_row") rfl)
  have B_is_row : Binds K fd_is_row P_is_row [] := F_is_row.bindsN fun _ _ _ _ _ _ us hl => match us, hl with | [_, _, _, _], _ => rfl
  obtain ⟨fd_is_wish, F0_is_wish⟩ := c.def_ 10 (d := d_is_wish) rfl
  have F_is_wish : FunD K "is_wish" "is_wish" (defArgs s_is_wish) (defBody s_is_wish) (defScope s_is_wish) [] [] (He.ga K "is_wish") fd_is_wish := F0_is_wish
  have M_is_wish : mg "is_wish" = some (.ref (He.ga K "is_wish")) := He.glo_ok X G (c.fact 10 (f := .glo "is_wish") rfl)
  have B_is_wish : Binds K fd_is_wish P_is_wish [] := F_is_wish.bindsN fun _ _ _ _ _ _ us hl => match us, hl with | [_, _], _ => rfl
  obtain ⟨fd_read_wish, F0_read_wish⟩ := c.def_ 19 (d := d_read_wish) rfl
  have F_read_wish : FunD K "read_wish" "read_wish" (defArgs s_read_wish) (defBody s_read_wish) (defScope s_read_wish) [] [] (He.ga K "read_wish") fd_read_wish := F0_read_wish
  have M_read_wish : mg "read_wish" = some (.ref (He.ga K "read_wish")) := He.glo_ok X G (c.fact 19 (f := .glo "read_wish") rfl)
  have B_read_wish : Binds K fd_read_wish P_read_wish [] := F_read_wish.bindsN fun _ _ _ _ _ _ us hl => match us, hl with | [_, _], _ => rfl
  obtain ⟨fd__law_wish_text, F0__law_wish_text⟩ := c.def_ 26 (d := d__law_wish_text) rfl
  have F__law_wish_text : FunD K "_law_wish_text" "_law_wish_text" (defArgs s__law_wish_text) (defBody s__law_wish_text) (defScope s__law_wish_text) [] [] (He.ga K "_law_wish_text") fd__law_wish_text := F0__law_wish_text
  have M__law_wish_text : mg "_law_wish_text" = some (.ref (He.ga K "_law_wish_text")) := He.glo_ok X G (c.fact 26 (f := .glo "_law_wish_text") rfl)
  have B__law_wish_text : Binds K fd__law_wish_text P__law_wish_text [] := F__law_wish_text.bindsN fun _ _ _ _ _ _ us hl => match us, hl with | [_], _ => rfl
  obtain ⟨fd_law, F0_law⟩ := c.def_ 32 (d := d_law) rfl
  have F_law : FunD K "law" "law" (defArgs s_law) (defBody s_law) (defScope s_law) [] [] (He.ga K "law") fd_law := F0_law
  have M_law : mg "law" = some (.ref (He.ga K "law")) := He.glo_ok X G (c.fact 32 (f := .glo "law") rfl)
  have B_law : Binds K fd_law P_law [] := F_law.bindsN fun _ _ _ _ _ _ us hl => match us, hl with | [_], _ => rfl
  have bA := FunD.bindsA (ps := P_law) F_law fun _ _ _ _ _ _ us hl => match us, hl with | [_], _ => rfl
  have e := hfa.symm.trans M_law
  cases e
  refine ⟨fd_law, fun s v => bA s [v] rfl, fun base _ _ => ?_⟩
  have C__law_bag : CalG P w K mg base 1 "_law_bag" sp__law_bag := call_mk F__law_bag sc__law_bag cc__law_bag (AllG.ok (show AllG P w K mg base 0 gl__law_bag from ⟨⟨He.free_ok X G (c.fact 39 (f := .free "len") rfl), rfl⟩, ⟨He.free_ok X G (c.fact 34 (f := .free "abs") rfl), rfl⟩, ⟨He.free_ok X G (c.fact 43 (f := .free "range") rfl), rfl⟩, ⟨He.free_ok X G (c.fact 42 (f := .free "min") rfl), rfl⟩, trivial⟩)) len__law_bag b__law_bag M__law_bag B__law_bag cx
  have C__law_keys_text : CalG P w K mg base 1 "_law_keys_text" sp__law_keys_text := call_mk F__law_keys_text sc__law_keys_text cc__law_keys_text (AllG.ok (show AllG P w K mg base 0 gl__law_keys_text from ⟨⟨He.free_ok X G (c.fact 39 (f := .free "len") rfl), rfl⟩, trivial⟩)) len__law_keys_text b__law_keys_text M__law_keys_text B__law_keys_text cx
  have C_show_keys : CalG P w K mg base 1 "show_keys" sp_show_keys := call_mk F_show_keys sc_show_keys cc_show_keys (AllG.ok (show AllG P w K mg base 0 gl_show_keys from ⟨⟨He.free_ok X G (c.fact 39 (f := .free "len") rfl), rfl⟩, TcK.cst ct X G (List.mem_of_getElem? (i := 2) rfl), TcK.cst ct X G (List.mem_of_getElem? (i := 1) rfl), trivial⟩)) len_show_keys b_show_keys M_show_keys B_show_keys cx
  have C_keys_in : CalG P w K mg base 1 "keys_in" sp_keys_in := call_mk F_keys_in sc_keys_in cc_keys_in (AllG.ok (show AllG P w K mg base 0 gl_keys_in from ⟨TcK.cst ct X G (List.mem_of_getElem? (i := 2) rfl), ⟨He.free_ok X G (c.fact 35 (f := .free "all") rfl), rfl⟩, TcK.cst ct X G (List.mem_of_getElem? (i := 1) rfl), ⟨He.free_ok X G (c.fact 39 (f := .free "len") rfl), rfl⟩, GIg.int (He.int_ok X G (c.fact 57 (f := .int "MOST_TYPED" 60) rfl)), trivial⟩)) len_keys_in b_keys_in M_keys_in B_keys_in cx
  have C_read_keys_text : CalG P w K mg base 2 "read_keys_text" sp_read_keys_text := call_mk F_read_keys_text sc_read_keys_text cc_read_keys_text (AllG.ok (show AllG P w K mg base 1 gl_read_keys_text from ⟨.fn C_keys_in (by omega), ⟨He.free_ok X G (c.fact 38 (f := .free "isinstance") rfl), rfl⟩, ⟨He.free_ok X G (c.fact 44 (f := .free "str") rfl), PyProof.Rows.boot_str, by decide⟩, He.glo_ok X G (c.fact 47 (f := .glo "NoText") rfl), trivial⟩)) len_read_keys_text b_read_keys_text M_read_keys_text B_read_keys_text cx
  have C__law_keys_right : CalG P w K mg base 3 "_law_keys_right" sp__law_keys_right := call_mk F__law_keys_right sc__law_keys_right cc__law_keys_right (AllG.ok (show AllG P w K mg base 2 gl__law_keys_right from ⟨.fn C__law_keys_text (by omega), ⟨He.free_ok X G (c.fact 40 (f := .free "list") rfl), rfl⟩, .fn C_show_keys (by omega), ⟨He.free_ok X G (c.fact 43 (f := .free "range") rfl), rfl⟩, .fn C_read_keys_text (by omega), ⟨He.free_ok X G (c.fact 38 (f := .free "isinstance") rfl), rfl⟩, trivial⟩)) len__law_keys_right b__law_keys_right M__law_keys_right B__law_keys_right cx
  have C__law_take : CalG P w K mg base 1 "_law_take" sp__law_take := call_mk F__law_take sc__law_take cc__law_take (AllG.ok (show AllG P w K mg base 0 gl__law_take from trivial)) len__law_take b__law_take M__law_take B__law_take cx
  have C__law_numbers : CalG P w K mg base 2 "_law_numbers" sp__law_numbers81 := call_mk F__law_numbers sc__law_numbers cc__law_numbers (AllG.ok (show AllG P w K mg base 1 gl__law_numbers81 from ⟨⟨He.free_ok X G (c.fact 45 (f := .free "tuple") rfl), rfl⟩, ⟨He.free_ok X G (c.fact 43 (f := .free "range") rfl), rfl⟩, .fn C__law_take (by omega), trivial⟩)) len__law_numbers81 b__law_numbers81 M__law_numbers B__law_numbers cx
  have C_with_dots : CalG P w K mg base 1 "with_dots" sp_with_dots := call_mk F_with_dots sc_with_dots cc_with_dots (AllG.ok (show AllG P w K mg base 0 gl_with_dots from ⟨⟨He.free_ok X G (c.fact 44 (f := .free "str") rfl), rfl⟩, trivial⟩)) len_with_dots b_with_dots M_with_dots B_with_dots cx
  have C_show_numbers : CalG P w K mg base 2 "show_numbers" sp_show_numbers := call_mk F_show_numbers sc_show_numbers cc_show_numbers (AllG.ok (show AllG P w K mg base 1 gl_show_numbers from ⟨⟨He.free_ok X G (c.fact 39 (f := .free "len") rfl), rfl⟩, TcK.cst ct X G (List.mem_of_getElem? (i := 2) rfl), .fn C_with_dots (by omega), trivial⟩)) len_show_numbers b_show_numbers M_show_numbers B_show_numbers cx
  have C__law_dots : CalG P w K mg base 1 "_law_dots" sp__law_dots81 := call_mk F__law_dots sc__law_dots cc__law_dots (AllG.ok (show AllG P w K mg base 0 gl__law_dots81 from ⟨⟨He.free_ok X G (c.fact 39 (f := .free "len") rfl), rfl⟩, ⟨He.free_ok X G (c.fact 44 (f := .free "str") rfl), rfl⟩, trivial⟩)) len__law_dots81 b__law_dots81 M__law_dots B__law_dots cx
  have C__law_word : CalG P w K mg base 3 "_law_word" sp__law_word81 := call_mk F__law_word sc__law_word cc__law_word (AllG.ok (show AllG P w K mg base 2 gl__law_word81 from ⟨.fn C__law_numbers (by omega), .fn C__law_take (by omega), trivial⟩)) len__law_word81 b__law_word81 M__law_word B__law_word cx
  have C_number_in : CalG P w K mg base 1 "number_in" sp_number_in := call_mk F_number_in sc_number_in cc_number_in (AllG.ok (show AllG P w K mg base 0 gl_number_in from ⟨⟨He.free_ok X G (c.fact 35 (f := .free "all") rfl), rfl⟩, TcK.cst ct X G (List.mem_of_getElem? (i := 0) rfl), ⟨He.free_ok X G (c.fact 39 (f := .free "len") rfl), rfl⟩, GIg.int (He.int_ok X G (c.fact 56 (f := .int "MOST_FIGURES" 5) rfl)), ⟨He.free_ok X G (c.fact 37 (f := .free "int") rfl), rfl⟩, trivial⟩)) len_number_in b_number_in M_number_in B_number_in cx
  have C_numbers_in : CalG P w K mg base 2 "numbers_in" sp_numbers_in := call_mk F_numbers_in sc_numbers_in cc_numbers_in (AllG.ok (show AllG P w K mg base 1 gl_numbers_in from ⟨⟨He.free_ok X G (c.fact 45 (f := .free "tuple") rfl), rfl⟩, .fn C_number_in (by omega), trivial⟩)) len_numbers_in b_numbers_in M_numbers_in B_numbers_in cx
  have C_show_word : CalG P w K mg base 2 "show_word" sp_show_word := call_mk F_show_word sc_show_word cc_show_word (AllG.ok (show AllG P w K mg base 1 gl_show_word from ⟨.fn C_with_dots (by omega), trivial⟩)) len_show_word b_show_word M_show_word B_show_word cx
  have C_is_number : CalG P w K mg base 1 "is_number" sp_is_number := call_mk F_is_number sc_is_number cc_is_number (AllG.ok (show AllG P w K mg base 0 gl_is_number from ⟨⟨He.free_ok X G (c.fact 38 (f := .free "isinstance") rfl), rfl⟩, ⟨He.free_ok X G (c.fact 36 (f := .free "bool") rfl), PyProof.Rows.boot_bool, by decide⟩, ⟨He.free_ok X G (c.fact 37 (f := .free "int") rfl), rfl⟩, trivial⟩)) len_is_number b_is_number M_is_number B_is_number cx
  have C_are_numbers : CalG P w K mg base 2 "are_numbers" sp_are_numbers := call_mk F_are_numbers sc_are_numbers cc_are_numbers (AllG.ok (show AllG P w K mg base 1 gl_are_numbers from ⟨⟨He.free_ok X G (c.fact 39 (f := .free "len") rfl), rfl⟩, ⟨He.free_ok X G (c.fact 38 (f := .free "isinstance") rfl), rfl⟩, ⟨He.free_ok X G (c.fact 45 (f := .free "tuple") rfl), rfl⟩, ⟨He.free_ok X G (c.fact 35 (f := .free "all") rfl), rfl⟩, .fn C_is_number (by omega), trivial⟩)) len_are_numbers b_are_numbers M_are_numbers B_are_numbers cx
  have C_is_word : CalG P w K mg base 3 "is_word" sp_is_word := call_mk F_is_word sc_is_word cc_is_word (AllG.ok (show AllG P w K mg base 2 gl_is_word from ⟨⟨He.free_ok X G (c.fact 39 (f := .free "len") rfl), rfl⟩, ⟨He.free_ok X G (c.fact 38 (f := .free "isinstance") rfl), rfl⟩, ⟨He.free_ok X G (c.fact 45 (f := .free "tuple") rfl), rfl⟩, .fn C_are_numbers (by omega), GIg.int (He.int_ok X G (c.fact 48 (f := .int "MOST_SOUND" 39) rfl)), GIg.int (He.int_ok X G (c.fact 49 (f := .int "MOST_WORD_SOUNDS" 6) rfl)), GIg.int (He.int_ok X G (c.fact 51 (f := .int "MOST_WORD_SIGN" 999) rfl)), GIg.int (He.int_ok X G (c.fact 50 (f := .int "MOST_WORD_SIGNS" 4) rfl)), .fn C_is_number (by omega), GIg.int (He.int_ok X G (c.fact 53 (f := .int "MOST_WORD_COST" 9999) rfl)), GIg.int (He.int_ok X G (c.fact 52 (f := .int "MOST_WORD_KIND" 7) rfl)), trivial⟩)) len_is_word b_is_word M_is_word B_is_word cx
  have C_read_word : CalG P w K mg base 4 "read_word" sp_read_word := call_mk F_read_word sc_read_word cc_read_word (AllG.ok (show AllG P w K mg base 3 gl_read_word from ⟨⟨He.free_ok X G (c.fact 38 (f := .free "isinstance") rfl), rfl⟩, ⟨He.free_ok X G (c.fact 44 (f := .free "str") rfl), PyProof.Rows.boot_str, by decide⟩, ⟨He.free_ok X G (c.fact 39 (f := .free "len") rfl), rfl⟩, .fn C_number_in (by omega), .fn C_numbers_in (by omega), .fn C_show_word (by omega), .fn C_is_word (by omega), He.glo_ok X G (c.fact 47 (f := .glo "NoText") rfl), trivial⟩)) len_read_word b_read_word M_read_word B_read_word cx
  have C__law_word_text : CalG P w K mg base 2 "_law_word_text" sp__law_word_text := call_mk F__law_word_text sc__law_word_text cc__law_word_text (AllG.ok (show AllG P w K mg base 1 gl__law_word_text from ⟨⟨He.free_ok X G (c.fact 44 (f := .free "str") rfl), rfl⟩, .fn C__law_dots (by omega), trivial⟩)) len__law_word_text b__law_word_text M__law_word_text B__law_word_text cx
  have C__law_cutting : CalG P w K mg base 3 "_law_cutting" sp__law_cutting81 := call_mk F__law_cutting sc__law_cutting cc__law_cutting (AllG.ok (show AllG P w K mg base 2 gl__law_cutting81 from ⟨⟨He.free_ok X G (c.fact 43 (f := .free "range") rfl), rfl⟩, .fn C__law_take (by omega), .fn C__law_numbers (by omega), ⟨He.free_ok X G (c.fact 37 (f := .free "int") rfl), rfl⟩, trivial⟩)) len__law_cutting81 b__law_cutting81 M__law_cutting B__law_cutting cx
  have C__law_piece_text : CalG P w K mg base 2 "_law_piece_text" sp__law_piece_text := call_mk F__law_piece_text sc__law_piece_text cc__law_piece_text (AllG.ok (show AllG P w K mg base 1 gl__law_piece_text from ⟨⟨He.free_ok X G (c.fact 44 (f := .free "str") rfl), rfl⟩, .fn C__law_dots (by omega), trivial⟩)) len__law_piece_text b__law_piece_text M__law_piece_text B__law_piece_text cx
  have C_piece_text : CalG P w K mg base 2 "piece_text" sp_piece_text := call_mk F_piece_text sc_piece_text cc_piece_text (AllG.ok (show AllG P w K mg base 1 gl_piece_text from ⟨.fn C_with_dots (by omega), trivial⟩)) len_piece_text b_piece_text M_piece_text B_piece_text cx
  have C_show_cutting : CalG P w K mg base 3 "show_cutting" sp_show_cutting := call_mk F_show_cutting sc_show_cutting cc_show_cutting (AllG.ok (show AllG P w K mg base 2 gl_show_cutting from ⟨⟨He.free_ok X G (c.fact 39 (f := .free "len") rfl), rfl⟩, TcK.cst ct X G (List.mem_of_getElem? (i := 2) rfl), .fn C_piece_text (by omega), trivial⟩)) len_show_cutting b_show_cutting M_show_cutting B_show_cutting cx
  have C__law_wish : CalG P w K mg base 3 "_law_wish" sp__law_wish81 := call_mk F__law_wish sc__law_wish cc__law_wish (AllG.ok (show AllG P w K mg base 2 gl__law_wish81 from ⟨.fn C__law_take (by omega), .fn C__law_numbers (by omega), trivial⟩)) len__law_wish81 b__law_wish81 M__law_wish B__law_wish cx
  have C_show_wish : CalG P w K mg base 2 "show_wish" sp_show_wish := call_mk F_show_wish sc_show_wish cc_show_wish (AllG.ok (show AllG P w K mg base 1 gl_show_wish from ⟨⟨He.free_ok X G (c.fact 44 (f := .free "str") rfl), rfl⟩, .fn C_with_dots (by omega), trivial⟩)) len_show_wish b_show_wish M_show_wish B_show_wish cx
  have C_is_whole : CalG P w K mg base 1 "is_whole" sp_is_whole := call_mk F_is_whole sc_is_whole cc_is_whole (AllG.ok (show AllG P w K mg base 0 gl_is_whole from ⟨⟨He.free_ok X G (c.fact 38 (f := .free "isinstance") rfl), rfl⟩, ⟨He.free_ok X G (c.fact 36 (f := .free "bool") rfl), PyProof.Rows.boot_bool, by decide⟩, ⟨He.free_ok X G (c.fact 37 (f := .free "int") rfl), rfl⟩, trivial⟩)) len_is_whole b_is_whole M_is_whole B_is_whole cx
  have C_is_from : CalG P w K mg base 2 "is_from" sp_is_from := call_mk F_is_from sc_is_from cc_is_from (AllG.ok (show AllG P w K mg base 1 gl_is_from from ⟨.fn C_is_whole (by omega), trivial⟩)) len_is_from b_is_from M_is_from B_is_from cx
  have C_is_row : CalG P w K mg base 3 "is_row" sp_is_row := call_mk F_is_row sc_is_row cc_is_row (AllG.ok (show AllG P w K mg base 2 gl_is_row from ⟨⟨He.free_ok X G (c.fact 39 (f := .free "len") rfl), rfl⟩, ⟨He.free_ok X G (c.fact 38 (f := .free "isinstance") rfl), rfl⟩, ⟨He.free_ok X G (c.fact 45 (f := .free "tuple") rfl), rfl⟩, ⟨He.free_ok X G (c.fact 35 (f := .free "all") rfl), rfl⟩, .fn C_is_from (by omega), trivial⟩)) len_is_row b_is_row M_is_row B_is_row cx
  have C_is_wish : CalG P w K mg base 4 "is_wish" sp_is_wish := call_mk F_is_wish sc_is_wish cc_is_wish (AllG.ok (show AllG P w K mg base 3 gl_is_wish from ⟨⟨He.free_ok X G (c.fact 38 (f := .free "isinstance") rfl), rfl⟩, ⟨He.free_ok X G (c.fact 44 (f := .free "str") rfl), PyProof.Rows.boot_str, by decide⟩, ⟨He.free_ok X G (c.fact 39 (f := .free "len") rfl), rfl⟩, ⟨He.free_ok X G (c.fact 45 (f := .free "tuple") rfl), rfl⟩, .fn C_is_from (by omega), .fn C_is_row (by omega), GIg.int (He.int_ok X G (c.fact 55 (f := .int "MOST_SIGN" 1039) rfl)), GIg.int (He.int_ok X G (c.fact 54 (f := .int "MOST_SIGNS" 24) rfl)), trivial⟩)) len_is_wish b_is_wish M_is_wish B_is_wish cx
  have C_read_wish : CalG P w K mg base 5 "read_wish" sp_read_wish := call_mk F_read_wish sc_read_wish cc_read_wish (AllG.ok (show AllG P w K mg base 4 gl_read_wish from ⟨⟨He.free_ok X G (c.fact 38 (f := .free "isinstance") rfl), rfl⟩, ⟨He.free_ok X G (c.fact 44 (f := .free "str") rfl), PyProof.Rows.boot_str, by decide⟩, .fn C_number_in (by omega), ⟨He.free_ok X G (c.fact 45 (f := .free "tuple") rfl), rfl⟩, .fn C_numbers_in (by omega), .fn C_show_wish (by omega), .fn C_is_wish (by omega), He.glo_ok X G (c.fact 47 (f := .glo "NoText") rfl), trivial⟩)) len_read_wish b_read_wish M_read_wish B_read_wish cx
  have C__law_wish_text : CalG P w K mg base 2 "_law_wish_text" sp__law_wish_text := call_mk F__law_wish_text sc__law_wish_text cc__law_wish_text (AllG.ok (show AllG P w K mg base 1 gl__law_wish_text from ⟨⟨He.free_ok X G (c.fact 44 (f := .free "str") rfl), rfl⟩, .fn C__law_dots (by omega), trivial⟩)) len__law_wish_text b__law_wish_text M__law_wish_text B__law_wish_text cx
  exact def_ok F_law sc_law cc_law (AllG.ok (show AllG P w K mg base 5 gl_law from ⟨⟨He.free_ok X G (c.fact 43 (f := .free "range") rfl), rfl⟩, ⟨He.free_ok X G (c.fact 41 (f := .free "max") rfl), rfl⟩, ⟨He.free_ok X G (c.fact 42 (f := .free "min") rfl), rfl⟩, ⟨He.free_ok X G (c.fact 39 (f := .free "len") rfl), rfl⟩, .fn C__law_bag (by omega), .fn C__law_keys_right (by omega), .fn C__law_numbers (by omega), .fn C__law_take (by omega), ⟨He.free_ok X G (c.fact 40 (f := .free "list") rfl), rfl⟩, .fn C_show_numbers (by omega), .fn C__law_dots (by omega), .fn C__law_word (by omega), .fn C_read_word (by omega), .fn C__law_word_text (by omega), .fn C_show_word (by omega), .fn C__law_cutting (by omega), .fn C__law_piece_text (by omega), .fn C_show_cutting (by omega), .fn C__law_wish (by omega), .fn C_read_wish (by omega), .fn C__law_wish_text (by omega), .fn C_show_wish (by omega), .fn C_read_keys_text (by omega), .fn C_show_keys (by omega), trivial⟩)) len_law b_law cx
end
end S
open PySem PySem.W PySem.Calls PyProof.Rows
theorem PySem.Challenge.cw_signbench_k81_texts_written_and_read_holds : PySem.Challenge.rw_signbench_k81_texts_written_and_read.Holds := by
  w_on; o_law
  refine HandSHeadRun.head_any (r := OpenLaw.row PySem.Challenge.rw_signbench_k81_texts_written_and_read) (q := view (OpenLaw.row PySem.Challenge.rw_signbench_k81_texts_written_and_read).prog [55]) (H := S.hk) (ob := S.ob) (M := 30000) (loose := S.loose) (d := HandSHeadRun.topDef (OpenLaw.row PySem.Challenge.rw_signbench_k81_texts_written_and_read).prog 55) (kwd := []) S.ob_eq
    (by kernel_rfl) (fun s => by kernel_rfl) S.run (by kernel_rfl) (by kernel_rfl) (by kernel_rfl) (by rfl) (by first | assumption | decide +kernel) (by decide +kernel) ⟨rfl, rfl, rfl, rfl, rfl, by decide +kernel⟩ ?hw ?hc
  case hw => w_witness2
  case hc =>
    refine S.walk_mine (l := PySem.Challenge.rw_signbench_k81_texts_written_and_read) (n := 63) (k := 6) (x := "_law_script") rfl (by decide) (by kernel_rfl) ⟨rfl, by decide, by decide⟩ ?F
    intro w mg fa h Y G hmg0
    obtain ⟨K, KX, c, cx, ct⟩ := Y
    have hmg : mg ("law" : PySem.Str) = some (.ref fa) := by
      have e : (HandSHeadRun.topDef (OpenLaw.row PySem.Challenge.rw_signbench_k81_texts_written_and_read).prog 55).name = ("law" : PySem.Str) := by kernel_rfl
      rw [← e]
      exact hmg0
    obtain ⟨fd, hb, hF⟩ := S.facts (P := (PySem.Challenge.rw_signbench_k81_texts_written_and_read).prog) (w := w) KX G hmg c cx ct
    exact ⟨K, fd, S.liftSp ⟨K, (PySem.Challenge.rw_signbench_k81_texts_written_and_read).prog, w⟩ S.spLaw, KX, hb, fun H a ns hl hO hS => S.law_sp hl hO hS, hF⟩
