import PyProof.Rows.All
import Wide.All
import OpenK.AllK
import Wide.FinOn
import HandS.ForMost
import HandS.ForExc
import HandS.Lambda
import HandS.Flow
import HandS.Deep
import HandS.TupAny
import HandS.IsInst
import HandS.ExcValue
import HandS.Style
import HandS.Wide
import HandS.CallSlots
import HandS.ExcIs
import HandS.Text
import PyProof.ReprRoads
import HandS.EndTab
import HandS.HeadWalk
import HandS.WrittenGet
import KE.GoesMore
import KE.GoesEnum
import KE.KDictWalk
import HandS.HeadHook3
import HandS.ExcInit
import KE.KExcSuper
import KE.KSuper
import HandS.ExcField
import KE.KExcIs
import HandS.Replace
import HandS.Steps
import PyProof.ReprLen
import PySem.Challenge.RW_onebase_k17_whole_trees_there_and_back
set_option Elab.async false
set_option linter.all false
set_option maxRecDepth 100000
set_option maxHeartbeats 0
/-! PL1: data and state of the pure layer -/
namespace PL
open PySem PySem.Spec PyProof.Rows L2 LamX

/-! ### values -/
/-- what a slot holds: frozen data, or an object of its own -/
inductive OV where
  | d (x : PyData)
  | lst (xs : List OV)
  | dct (kvs : List (Key × OV))
  | ins (C : Addr) (fs : List (Str × OV))

/-- an exception as data: its class, its attributes -/
def excD (C : Addr) (fs : List (Str × PyData)) : PyData := .dict ((.none, .int (C : Nat)) :: fs.map fun p => (.str p.1, p.2))

/-- an instance of an own class that nobody writes any more, as data -/
def insD (C : Addr) (fs : List (Str × PyData)) : PyData := .dict ((.bool false, .int (C : Nat)) :: fs.map fun p => (.str p.1, p.2))

/-- the script as data: read only by len and loops -/
def scrD (ns : List Int) : PyData := .dict [(.bool true, .list (ns.map .int))]

/-- an exception object that nobody writes any more -/
def ExV (cls : Value) (d : Option Addr) (a : Addr) : HO := .ext fun h => ∃ (oe : Obj) (vs : Array Value), h.get? a = some oe ∧ Zc cls d oe ∧ oe.data = .fields vs

mutual
inductive Fr (K : PySem.W.Frag) (Z : Hp) : V → PyData → Prop
  | non : Fr K Z .non .none
  | bl (b : Bool) : Fr K Z (.bl b) (.bool b)
  | int (i : Int) : Fr K Z (.int i) (.int i)
  | str (x : Str) : Fr K Z (.str x) (.str x)
  | lst {a : Addr} {xs : List V} {ds : List PyData} : Rd Z a (.lst xs) → FrAll K Z xs ds → Fr K Z (.ref a) (.list ds)
  | tup {a : Addr} {xs : List V} {ds : List PyData} : SqT K Z a xs → FrAll K Z xs ds → Fr K Z (.ref a) (.tuple ds)
  | exc0 {a C : Addr} : Z a = some (ExV (.ref C) none a) → Fr K Z (.ref a) (excD C [])
  | exc {a C dx : Addr} {ws : List V} {fs : List (Str × PyData)} : fs ≠ [] → Z a = some (ExV (.ref C) (some dx) a) → Z dx = some (.xd ((fs.map (·.1)).zip ws)) → FrAll K Z ws (fs.map (·.2)) → Fr K Z (.ref a) (excD C fs)
  | scr {a : Addr} {ns : List Int} : SqL K Z a (ns.map V.int) → Fr K Z (.ref a) (scrD ns)
  | ins {a C dx : Addr} {ws : List V} {fs : List (Str × PyData)} : Z a = some (.ins C dx ((fs.map (·.1)).zip ws)) → FrAll K Z ws (fs.map (·.2)) → Fr K Z (.ref a) (insD C fs)
inductive FrAll (K : PySem.W.Frag) (Z : Hp) : List V → List PyData → Prop
  | nil : FrAll K Z [] []
  | cons {v : V} {vs : List V} {d : PyData} {ds : List PyData} : Fr K Z v d → FrAll K Z vs ds → FrAll K Z (v :: vs) (d :: ds)
end

def Sub (Z Z' : Hp) : Prop := ∀ a o, Z a = some o → Z' a = some o
theorem Sub.refl (Z : Hp) : Sub Z Z := fun _ _ h => h
theorem Sub.trans {Z Z' Z'' : Hp} (a : Sub Z Z') (b : Sub Z' Z'') : Sub Z Z'' := fun c o h => b c o (a c o h)
theorem Sub.same {Z Z' : Hp} (a : Sub Z Z') : Same Z Z' := a

theorem Rd.sub {Z Z' : Hp} {a : Addr} {u : HO} (h : Rd Z a u) (s : Sub Z Z') : Rd Z' a u := by
  rcases h with h | ⟨o, h⟩
  · exact .inl (s _ _ h)
  · exact .inr ⟨o, s _ _ h⟩
theorem sqL_sub {K : PySem.W.Frag} {Z Z' : Hp} {a : Addr} {xs : List V} (h : SqL K Z a xs) (s : Sub Z Z') : SqL K Z' a xs := h.imp (fun h => Rd.sub h s) id
theorem sqT_sub {K : PySem.W.Frag} {Z Z' : Hp} {a : Addr} {xs : List V} (h : SqT K Z a xs) (s : Sub Z Z') : SqT K Z' a xs := h.imp (fun h => Rd.sub h s) id

section
variable {K : PySem.W.Frag} {Z Z' H H' : Hp}
mutual
theorem Fr.sub (s : Sub Z Z') : ∀ {v : V} {d : PyData}, Fr K Z v d → Fr K Z' v d
  | _, _, .non => .non
  | _, _, .bl b => .bl b
  | _, _, .int i => .int i
  | _, _, .str x => .str x
  | _, _, .lst h a => .lst (Rd.sub h s) (FrAll.sub s a)
  | _, _, .tup h a => .tup (sqT_sub h s) (FrAll.sub s a)
  | _, _, .exc0 h => .exc0 (s _ _ h)
  | _, _, .exc n h h2 a => .exc n (s _ _ h) (s _ _ h2) (FrAll.sub s a)
  | _, _, .scr h => .scr (sqL_sub h s)
  | _, _, .ins h a => .ins (s _ _ h) (FrAll.sub s a)
theorem FrAll.sub (s : Sub Z Z') : ∀ {vs : List V} {ds : List PyData}, FrAll K Z vs ds → FrAll K Z' vs ds
  | _, _, .nil => .nil
  | _, _, .cons a b => .cons (Fr.sub s a) (FrAll.sub s b)
end
theorem FrAll.length : ∀ {vs : List V} {ds : List PyData}, FrAll K Z vs ds → vs.length = ds.length
  | _, _, .nil => rfl
  | _, _, .cons _ b => congrArg (· + 1) (FrAll.length b)
theorem FrAll.get : ∀ {vs : List V} {ds : List PyData} {i : Nat} {d : PyData}, FrAll K Z vs ds → ds[i]? = some d → ∃ v, vs[i]? = some v ∧ Fr K Z v d
  | _, _, _, _, .nil, e => by simp at e
  | _, _, 0, _, .cons a _, e => by simp at e; subst e; exact ⟨_, rfl, a⟩
  | _, _, i + 1, _, .cons _ b, e => by
    obtain ⟨v, h1, h2⟩ := FrAll.get (i := i) b (by simpa using e)
    exact ⟨v, by simpa using h1, h2⟩
theorem FrAll.getV : ∀ {vs : List V} {ds : List PyData} {i : Nat} {v : V}, FrAll K Z vs ds → vs[i]? = some v → ∃ d, ds[i]? = some d ∧ Fr K Z v d
  | _, _, _, _, .nil, e => by simp at e
  | _, _, 0, _, .cons a _, e => by simp at e; subst e; exact ⟨_, rfl, a⟩
  | _, _, i + 1, _, .cons _ b, e => by
    obtain ⟨v, h1, h2⟩ := FrAll.getV (i := i) b (by simpa using e)
    exact ⟨v, by simpa using h1, h2⟩
theorem FrAll.append : ∀ {vs ws : List V} {ds es : List PyData}, FrAll K Z vs ds → FrAll K Z ws es → FrAll K Z (vs ++ ws) (ds ++ es)
  | _, _, _, _, .nil, h => h
  | _, _, _, _, .cons a b, h => .cons a (FrAll.append b h)
theorem FrAll.take : ∀ {vs : List V} {ds : List PyData} (n : Nat), FrAll K Z vs ds → FrAll K Z (vs.take n) (ds.take n)
  | _, _, 0, _ => .nil
  | _, _, _ + 1, .nil => .nil
  | _, _, n + 1, .cons a b => .cons a (FrAll.take n b)
theorem FrAll.drop : ∀ {vs : List V} {ds : List PyData} (n : Nat), FrAll K Z vs ds → FrAll K Z (vs.drop n) (ds.drop n)
  | _, _, 0, h => h
  | _, _, _ + 1, .nil => .nil
  | _, _, n + 1, .cons _ b => FrAll.drop n b
theorem FrAll.set : ∀ {vs : List V} {ds : List PyData} {v : V} {d : PyData} (i : Nat), FrAll K Z vs ds → Fr K Z v d → FrAll K Z (vs.set i v) (ds.set i d)
  | _, _, _, _, _, .nil, _ => .nil
  | _, _, _, _, 0, .cons _ b, h => .cons h b
  | _, _, _, _, i + 1, .cons a b, h => .cons a (FrAll.set i b h)

/-! ### no exception within: the library's data -/
mutual
def flat : PyData → Bool
  | .none => true
  | .bool _ => true
  | .int _ => true
  | .str _ => true
  | .list xs => flatAll xs
  | .tuple xs => flatAll xs
  | .dict _ => false
def flatAll : List PyData → Bool
  | [] => true
  | x :: xs => flat x && flatAll xs
end
mutual
theorem Fr.dp : ∀ {v : V} {d : PyData}, Fr K Z v d → flat d = true → Dp K Z v d
  | _, _, .non, _ => .non
  | _, _, .bl b, _ => .bl b
  | _, _, .int i, _ => .int i
  | _, _, .str x, _ => .str x
  | _, _, .lst h a, e => .lst (.inl h) (FrAll.dp a (by simpa only [flat] using e))
  | _, _, .tup h a, e => .tup h (FrAll.dp a (by simpa only [flat] using e))
  | _, _, .exc0 h, e => by simp [excD, flat] at e
  | _, _, .exc n h h2 a, e => by simp [excD, flat] at e
  | _, _, .scr h, e => by simp [scrD, flat] at e
  | _, _, .ins h a, e => by simp [insD, flat] at e
theorem FrAll.dp : ∀ {vs : List V} {ds : List PyData}, FrAll K Z vs ds → flatAll ds = true → DpAll K Z vs ds
  | _, _, .nil, _ => .nil
  | _, _, .cons a b, e => by
    simp only [flatAll, Bool.and_eq_true] at e
    exact .cons (Fr.dp a e.1) (FrAll.dp b e.2)
end
mutual
theorem Dp.sub {v : V} {d : PyData} (s : Sub Z Z') (h : Dp K Z v d) : Dp K Z' v d := by
  cases h with
  | non => exact .non
  | bl b => exact .bl b
  | int i => exact .int i
  | str x => exact .str x
  | lst h a => exact .lst (sqL_sub h s) (DpAll.sub s a)
  | tup h a => exact .tup (sqT_sub h s) (DpAll.sub s a)
theorem DpAll.sub {vs : List V} {ds : List PyData} (s : Sub Z Z') (h : DpAll K Z vs ds) : DpAll K Z' vs ds := by
  cases h with
  | nil => exact .nil
  | cons a b => exact .cons (Dp.sub s a) (DpAll.sub s b)
end
end

/-! ### ownership -/
mutual
inductive Own (K : PySem.W.Frag) (Z H : Hp) : V → OV → List Addr → Prop
  | d {v : V} {x : PyData} : Fr K Z v x → Own K Z H v (.d x) []
  | lst {a : Addr} {vs : List V} {xs : List OV} {L : List Addr} : H a = some (.lst vs) → OwnL K Z H vs xs L → Own K Z H (.ref a) (.lst xs) (a :: L)
  | dct {a : Addr} {ws : List V} {xs : List (Key × OV)} {L : List Addr} : H a = some (.dK ((xs.map (·.1)).zip ws)) → OwnL K Z H ws (xs.map (·.2)) L → Own K Z H (.ref a) (.dct xs) (a :: L)
  | ins {a C dx : Addr} {ws : List V} {fs : List (Str × OV)} {L : List Addr} : H a = some (.ins C dx ((fs.map (·.1)).zip ws)) → H dx = some (.own a) → OwnL K Z H ws (fs.map (·.2)) L → Own K Z H (.ref a) (.ins C fs) (a :: dx :: L)
inductive OwnL (K : PySem.W.Frag) (Z H : Hp) : List V → List OV → List Addr → Prop
  | nil : OwnL K Z H [] [] []
  | cons {v : V} {vs : List V} {x : OV} {xs : List OV} {L M : List Addr} : Own K Z H v x L → OwnL K Z H vs xs M → OwnL K Z H (v :: vs) (x :: xs) (L ++ M)
end
/-- the slots -/
inductive OwnS (K : PySem.W.Frag) (Z H : Hp) : L2.St → List (Option OV) → List Addr → Prop
  | emp : OwnS K Z H [] [] []
  | out {u : Option V} {σ : L2.St} {S : List (Option OV)} {L : List Addr} : OwnS K Z H σ S L → OwnS K Z H (u :: σ) (none :: S) L
  | own {v : V} {x : OV} {σ : L2.St} {S : List (Option OV)} {L M : List Addr} : Own K Z H v x L → OwnS K Z H σ S M → OwnS K Z H (some v :: σ) (some x :: S) (L ++ M)

section
variable {K : PySem.W.Frag} {Z Z' H H' : Hp}
mutual
theorem Own.mono (s : Sub Z Z') : ∀ {v : V} {x : OV} {L : List Addr}, Own K Z H v x L → (∀ a ∈ L, H' a = H a) → Own K Z' H' v x L
  | _, _, _, .d h, _ => .d (h.sub s)
  | _, _, _, .lst h r, e => .lst ((e _ (List.mem_cons_self)).trans h) (OwnL.mono s r fun a ha => e a (List.mem_cons_of_mem _ ha))
  | _, _, _, .dct h r, e => .dct ((e _ (List.mem_cons_self)).trans h) (OwnL.mono s r fun a ha => e a (List.mem_cons_of_mem _ ha))
  | _, _, _, .ins h h2 r, e => .ins ((e _ (List.mem_cons_self)).trans h) ((e _ (List.mem_cons_of_mem _ List.mem_cons_self)).trans h2) (OwnL.mono s r fun a ha => e a (List.mem_cons_of_mem _ (List.mem_cons_of_mem _ ha)))
theorem OwnL.mono (s : Sub Z Z') : ∀ {vs : List V} {xs : List OV} {L : List Addr}, OwnL K Z H vs xs L → (∀ a ∈ L, H' a = H a) → OwnL K Z' H' vs xs L
  | _, _, _, .nil, _ => .nil
  | _, _, _, .cons a b, e => .cons (Own.mono s a fun c hc => e c (List.mem_append_left _ hc)) (OwnL.mono s b fun c hc => e c (List.mem_append_right _ hc))
end
theorem OwnS.mono (s : Sub Z Z') : ∀ {σ : L2.St} {S : List (Option OV)} {L : List Addr}, OwnS K Z H σ S L → (∀ a ∈ L, H' a = H a) → OwnS K Z' H' σ S L
  | _, _, _, .emp, _ => .emp
  | _, _, _, .out r, e => .out (OwnS.mono s r e)
  | _, _, _, .own a b, e => .own (Own.mono s a fun c hc => e c (List.mem_append_left _ hc)) (OwnS.mono s b fun c hc => e c (List.mem_append_right _ hc))
theorem OwnS.length : ∀ {σ : L2.St} {S : List (Option OV)} {L : List Addr}, OwnS K Z H σ S L → σ.length = S.length
  | _, _, _, .emp => rfl
  | _, _, _, .out r => congrArg (· + 1) r.length
  | _, _, _, .own _ r => congrArg (· + 1) r.length
theorem Own.frz {v : V} {x : PyData} {L : List Addr} (h : Own K Z H v (.d x) L) : L = [] ∧ Fr K Z v x := by
  cases h with
  | d h => exact ⟨rfl, h⟩
/-! what stands at the owned addresses -/
mutual
theorem Own.at_ : ∀ {v : V} {x : OV} {L : List Addr}, Own K Z H v x L → ∀ a ∈ L, ∃ o, H a = some o ∧ ∀ ps, o ≠ .tbl ps
  | _, _, _, .d _, a, ha => by cases ha
  | _, _, _, .lst h r, a, ha => by
    rcases List.mem_cons.mp ha with rfl | ha
    · exact ⟨_, h, fun _ z => by cases z⟩
    · exact OwnL.at_ r a ha
  | _, _, _, .dct h r, a, ha => by
    rcases List.mem_cons.mp ha with rfl | ha
    · exact ⟨_, h, fun _ z => by cases z⟩
    · exact OwnL.at_ r a ha
  | _, _, _, .ins h h2 r, a, ha => by
    rcases List.mem_cons.mp ha with rfl | ha
    · exact ⟨_, h, fun _ z => by cases z⟩
    · rcases List.mem_cons.mp ha with rfl | ha
      · exact ⟨_, h2, fun _ z => by cases z⟩
      · exact OwnL.at_ r a ha
theorem OwnL.at_ : ∀ {vs : List V} {xs : List OV} {L : List Addr}, OwnL K Z H vs xs L → ∀ a ∈ L, ∃ o, H a = some o ∧ ∀ ps, o ≠ .tbl ps
  | _, _, _, .nil, a, ha => by cases ha
  | _, _, _, .cons h r, a, ha => by
    rcases List.mem_append.mp ha with ha | ha
    · exact Own.at_ h a ha
    · exact OwnL.at_ r a ha
end
theorem OwnS.at_ : ∀ {σ : L2.St} {S : List (Option OV)} {L : List Addr}, OwnS K Z H σ S L → ∀ a ∈ L, ∃ o, H a = some o ∧ ∀ ps, o ≠ .tbl ps
  | _, _, _, .emp, a, ha => by cases ha
  | _, _, _, .out r, a, ha => OwnS.at_ r a ha
  | _, _, _, .own h r, a, ha => by
    rcases List.mem_append.mp ha with ha | ha
    · exact h.at_ a ha
    · exact OwnS.at_ r a ha
theorem OwnL.length : ∀ {vs : List V} {xs : List OV} {L : List Addr}, OwnL K Z H vs xs L → vs.length = xs.length
  | _, _, _, .nil => rfl
  | _, _, _, .cons _ r => congrArg (· + 1) r.length
theorem OwnL.ofFr : ∀ {vs : List V} {ds : List PyData}, FrAll K Z vs ds → OwnL K Z H vs (ds.map .d) []
  | _, _, .nil => .nil
  | _, _, .cons a b => OwnL.cons (L := []) (M := []) (.d a) (OwnL.ofFr b)
theorem OwnL.toFr : ∀ {vs : List V} {ds : List PyData} {L : List Addr}, OwnL K Z H vs (ds.map .d) L → L = [] ∧ FrAll K Z vs ds
  | vs, [], _, h => by cases h; exact ⟨rfl, .nil⟩
  | vs, d :: ds, _, h => by
    cases h with
    | cons a b =>
      obtain ⟨rfl, f⟩ := a.frz
      obtain ⟨rfl, g⟩ := OwnL.toFr b
      exact ⟨rfl, .cons f g⟩

/-- slot i taken out -/
theorem OwnS.get : ∀ {σ : L2.St} {S : List (Option OV)} {L : List Addr} {i : Nat} {x : OV}, OwnS K Z H σ S L → S[i]? = some (some x) →
    ∃ v Li Lr, σ[i]? = some (some v) ∧ Own K Z H v x Li ∧ OwnS K Z H σ (S.set i none) Lr ∧ L.Perm (Li ++ Lr)
  | _, _, _, _, _, .emp, e => by simp at e
  | _, _, _, 0, _, .out r, e => by simp at e
  | _, _, _, 0, _, .own (M := M) h r, e => by
    simp at e; subst e
    exact ⟨_, _, M, rfl, h, .out r, List.Perm.refl _⟩
  | _, _, _, i + 1, _, .out r, e => by
    obtain ⟨v, Li, Lr, h1, h2, h3, h4⟩ := OwnS.get (i := i) r (by simpa using e)
    exact ⟨v, Li, Lr, by simpa using h1, h2, .out h3, h4⟩
  | _, _, _, i + 1, _, .own (L := L1) h r, e => by
    obtain ⟨v, Li, Lr, h1, h2, h3, h4⟩ := OwnS.get (i := i) r (by simpa using e)
    refine ⟨v, Li, L1 ++ Lr, by simpa using h1, h2, .own h h3, ?_⟩
    refine (List.Perm.append_left L1 h4).trans ?_
    rw [← List.append_assoc, ← List.append_assoc]
    exact List.Perm.append_right _ List.perm_append_comm
/-- slot i filled -/
theorem OwnS.put : ∀ {σ : L2.St} {S : List (Option OV)} {L : List Addr} {i : Nat} {v : V} {x : OV} {Li : List Addr}, OwnS K Z H σ S L → Own K Z H v x Li → i < S.length →
    ∃ M, OwnS K Z H (σ.set i (some v)) (S.set i (some x)) M ∧ (∃ D, (Li ++ L).Perm (D ++ M))
  | _, _, _, _, _, _, _, .emp, _, h => by simp at h
  | _, _, _, 0, _, _, Li, .out (L := L) r, h, _ => ⟨Li ++ L, .own h r, [], List.Perm.refl _⟩
  | _, _, _, 0, _, _, Li, .own (L := L1) (M := M1) _ r, h, _ => ⟨Li ++ M1, .own h r, L1, by
      rw [← List.append_assoc, ← List.append_assoc]
      exact List.Perm.append_right _ List.perm_append_comm⟩
  | _, _, _, i + 1, _, _, Li, .out (L := L) r, h, hl => by
    obtain ⟨M, h1, h2⟩ := OwnS.put (i := i) r h (by simpa using hl)
    exact ⟨M, .out h1, h2⟩
  | _, _, _, i + 1, _, _, Li, .own (L := L1) (M := M1) h0 r, h, hl => by
    obtain ⟨M, h1, D, h2⟩ := OwnS.put (i := i) r h (by simpa using hl)
    refine ⟨L1 ++ M, .own h0 h1, D, ?_⟩
    have e1 : (Li ++ (L1 ++ M1)).Perm (L1 ++ (Li ++ M1)) := by
      rw [← List.append_assoc, ← List.append_assoc]
      exact List.Perm.append_right _ List.perm_append_comm
    refine e1.trans ((List.Perm.append_left L1 h2).trans ?_)
    rw [← List.append_assoc, ← List.append_assoc]
    exact List.Perm.append_right _ List.perm_append_comm
theorem OwnS.clear : ∀ {σ : L2.St} {S : List (Option OV)} {L : List Addr} (i : Nat) (u : Option V), OwnS K Z H σ S L → ∃ M, OwnS K Z H (σ.set i u) (S.set i none) M ∧ (∃ D, L.Perm (D ++ M))
  | _, _, _, _, _, .emp => ⟨[], .emp, [], List.Perm.refl _⟩
  | _, _, _, 0, u, .out (L := L) r => ⟨L, .out r, [], List.Perm.refl _⟩
  | _, _, _, 0, u, .own (L := L1) (M := M1) _ r => ⟨M1, .out r, L1, List.Perm.refl _⟩
  | _, _, _, i + 1, u, .out r => by
    obtain ⟨M, h1, h2⟩ := OwnS.clear i u r
    exact ⟨M, .out h1, h2⟩
  | _, _, _, i + 1, u, .own (L := L1) (M := M1) h0 r => by
    obtain ⟨M, h1, D, h2⟩ := OwnS.clear i u r
    refine ⟨L1 ++ M, .own h0 h1, D, ?_⟩
    refine (List.Perm.append_left L1 h2).trans ?_
    rw [← List.append_assoc, ← List.append_assoc]
    exact List.Perm.append_right _ List.perm_append_comm
end
end PL

/-! PL2: the state's relation, the monad, readings -/
namespace PL
open PySem PySem.Spec PyProof.Rows L2 LamX

abbrev SS := List (Option OV)
def M (α : Type) : Type := SS → Option (Except PyData α × SS)
def M.ret {α : Type} (a : α) : M α := fun S => some (.ok a, S)
def M.bind {α β : Type} (f : M α) (g : α → M β) : M β := fun S => match f S with
  | none => none
  | some (.error e, S') => some (.error e, S')
  | some (.ok a, S') => g a S'
instance : Monad M where
  pure := M.ret
  bind := M.bind
def stuck {α : Type} : M α := fun _ => none
def M.lift {α : Type} (o : Option α) : M α := fun S => o.map fun a => (.ok a, S)
def M.fail {α : Type} (x : PyData) : M α := fun S => some (.error x, S)
structure Rel (K : PySem.W.Frag) (T : List (Addr × Str)) (Z R : Hp) (S : SS) (σ : L2.St) (H : Hp) : Prop where
  own : ∃ L, OwnS K Z H σ S L ∧ L.Nodup ∧ ∀ a ∈ L, Z a = none ∧ R a = none
  z : Sub Z H
  r : Sub R H
  zt : ∀ a ps, Z a ≠ some (.tbl ps)
  rt : ∀ a ps, R a ≠ some (.tbl ps)
  zr : ∀ a o, Z a = some o → R a = none
  tab : Tabs T H

/-- an exception's class and dict -/
def IsX (K : PySem.W.Frag) (Z : Hp) (cls : Value) (d : Option Addr) (x : PyData) : Prop :=
  ∃ C fs, cls = .ref C ∧ x = excD C fs ∧ ((d = none ∧ fs = []) ∨ fs ≠ [] ∧ ∃ dx ws, d = some dx ∧ Z dx = some (.xd ((fs.map (·.1)).zip ws)) ∧ FrAll K Z ws (fs.map (·.2)))

section
variable {K : PySem.W.Frag} {T : List (Addr × Str)} {Z Z' R H H' : Hp} {S S' : SS} {σ σ' : L2.St} {v : V} {x : PyData} {o : OV}

theorem nodup_sub {L M : List Addr} (h : ∃ D, L.Perm (D ++ M)) (n : L.Nodup) : M.Nodup ∧ ∀ a ∈ M, a ∈ L := by
  obtain ⟨D, h⟩ := h
  have n2 := (h.nodup_iff).mp n
  exact ⟨(List.nodup_append.mp n2).2.1, fun a ha => h.mem_iff.mpr (List.mem_append_right _ ha)⟩

theorem Rel.length (r : Rel K T Z R S σ H) : σ.length = S.length := by obtain ⟨L, h, _⟩ := r.own; exact h.length
theorem Rel.get (r : Rel K T Z R S σ H) {i : Nat} (e : S[i]? = some (some (.d x))) : ∃ v, σ[i]? = some (some v) ∧ Fr K Z v x := by
  obtain ⟨L, h, _⟩ := r.own
  obtain ⟨v, Li, Lr, h1, h2, _⟩ := h.get e
  exact ⟨v, h1, h2.frz.2⟩
theorem Rel.push (r : Rel K T Z R S σ H) (f : Fr K Z v x) : Rel K T Z R (some (.d x) :: S) (some v :: σ) H := by
  obtain ⟨L, h, n, q⟩ := r.own
  exact ⟨⟨[] ++ L, .own (.d f) h, n, q⟩, r.z, r.r, r.zt, r.rt, r.zr, r.tab⟩
theorem Rel.pop {u : Option V} {o : Option OV} (r : Rel K T Z R (o :: S) (u :: σ) H) : Rel K T Z R S σ H := by
  obtain ⟨L, h, n, q⟩ := r.own
  cases h with
  | out h => exact ⟨⟨_, h, n, q⟩, r.z, r.r, r.zt, r.rt, r.zr, r.tab⟩
  | own h0 h => exact ⟨⟨_, h, (List.nodup_append.mp n).2.1, fun a ha => q a (List.mem_append_right _ ha)⟩, r.z, r.r, r.zt, r.rt, r.zr, r.tab⟩
theorem Rel.popd (r : Rel K T Z R (some (.d x) :: S) (some v :: σ) H) : Fr K Z v x ∧ Rel K T Z R S σ H := by
  refine ⟨?_, r.pop⟩
  obtain ⟨v', e, f⟩ := r.get (i := 0) (x := x) rfl
  cases e
  exact f
theorem Rel.set (r : Rel K T Z R (some o :: S) (some v :: σ) H) {i : Nat} (hi : i < S.length) : Rel K T Z R (S.set i (some o)) (σ.set i (some v)) H := by
  obtain ⟨L, h, n, q⟩ := r.own
  cases h with
  | own h0 h =>
    obtain ⟨M, h1, h2⟩ := h.put h0 hi
    obtain ⟨n1, n2⟩ := nodup_sub h2 n
    exact ⟨⟨M, h1, n1, fun a ha => q a (n2 a ha)⟩, r.z, r.r, r.zt, r.rt, r.zr, r.tab⟩
theorem Rel.clear (r : Rel K T Z R S σ H) (i : Nat) (u : Option V) : Rel K T Z R (S.set i none) (σ.set i u) H := by
  obtain ⟨L, h, n, q⟩ := r.own
  obtain ⟨M, h1, h2⟩ := h.clear i u
  obtain ⟨n1, n2⟩ := nodup_sub h2 n
  exact ⟨⟨M, h1, n1, fun a ha => q a (n2 a ha)⟩, r.z, r.r, r.zt, r.rt, r.zr, r.tab⟩
/-- slots forgotten on the side of V alone -/
theorem Rel.blank (r : Rel K T Z R S σ H) {i : Nat} {u : Option V} (e : S[i]? = some none) : Rel K T Z R S (σ.set i u) H := by
  have h := r.clear i u
  have e2 : S.set i none = S := by
    apply List.ext_getElem?
    intro j
    by_cases hj : i = j
    · subst hj
      rw [List.getElem?_set_self (List.getElem?_eq_some_iff.mp e).1, e]
    · rw [List.getElem?_set_ne hj]
  rwa [e2] at h

theorem sub_upd {p : Addr} (u : HO) (h : Z p = none) : Sub Z (upd Z p u) := fun a o e => by
  rw [upd_ne (ne_of_none e h)]; exact e
/-- a new frozen object -/
theorem Rel.frozen (r : Rel K T Z R S σ H) {p : Addr} (hp : H p = none) (u : HO) (hu : ∀ ps, u ≠ .tbl ps) : Rel K T (upd Z p u) R S σ (upd H p u) := by
  obtain ⟨L, h, n, q⟩ := r.own
  have zp : Z p = none := by
    cases e : Z p with
    | none => rfl
    | some w => rw [r.z _ _ e] at hp; cases hp
  have lp : ∀ a ∈ L, a ≠ p := fun a ha e => by
    obtain ⟨w, hw, _⟩ := h.at_ a ha
    rw [e, hp] at hw; cases hw
  refine ⟨⟨L, h.mono (sub_upd u zp) (fun a ha => upd_ne (lp a ha)), n, fun a ha => ⟨?_, (q a ha).2⟩⟩, fun a w e => ?_, fun a w e => ?_, fun a ps e => ?_, r.rt, fun a w e => ?_, r.tab.ext fun a w e => ?_⟩
  · rw [upd_ne (lp a ha)]; exact (q a ha).1
  · by_cases ha : a = p
    · subst ha; rw [upd_same] at e ⊢; exact e
    · rw [upd_ne ha] at e ⊢; exact r.z a w e
  · rw [upd_ne (ne_of_none (r.r a w e) hp)]; exact r.r a w e
  · by_cases ha : a = p
    · subst ha; rw [upd_same] at e; exact hu ps (Option.some.inj e)
    · rw [upd_ne ha] at e; exact r.zt a ps e
  · by_cases ha : a = p
    · subst ha
      cases q : R a with
      | none => rfl
      | some y => rw [r.r _ _ q] at hp; cases hp
    · rw [upd_ne ha] at e; exact r.zr a w e
  · rw [upd_ne (ne_of_none e hp)]; exact e
/-- a new owned object over items that stand already -/
theorem Rel.newOwn (r : Rel K T Z R S σ H) {p : Addr} (hp : H p = none) {u : HO} {o : OV} (hu : Own K Z (upd H p u) (.ref p) o [p]) : Rel K T Z R (some o :: S) (some (.ref p) :: σ) (upd H p u) := by
  obtain ⟨L, h, n, q⟩ := r.own
  have lp : ∀ a ∈ L, a ≠ p := fun a ha e => by
    obtain ⟨w, hw, _⟩ := h.at_ a ha
    rw [e, hp] at hw; cases hw
  have nn : ∀ {Y : Hp}, Sub Y H → Y p = none := fun {Y} s => by
    cases e : Y p with
    | none => rfl
    | some w => rw [s _ _ e] at hp; cases hp
  refine ⟨⟨[p] ++ L, .own hu (h.mono (Sub.refl Z) fun a ha => upd_ne (lp a ha)), ?_, fun a ha => ?_⟩, fun a w e => ?_, fun a w e => ?_, r.zt, r.rt, r.zr, r.tab.ext fun a w e => ?_⟩
  · exact List.nodup_cons.mpr ⟨fun hm => lp p hm rfl, n⟩
  · rcases List.mem_cons.mp ha with rfl | ha
    · exact ⟨nn r.z, nn r.r⟩
    · exact q a ha
  · rw [upd_ne (ne_of_none (r.z a w e) hp)]; exact r.z a w e
  · rw [upd_ne (ne_of_none (r.r a w e) hp)]; exact r.r a w e
  · rw [upd_ne (ne_of_none e hp)]; exact e
end

/-! ### arguments by view: frozen data, or what the slot i holds -/
inductive AV where
  | fr (x : PyData)
  | bw (i : Nat)
def AvOk (K : PySem.W.Frag) (Z : Hp) (σ : L2.St) (v : V) : AV → Prop
  | .fr x => Fr K Z v x
  | .bw i => σ[i]? = some (some v)
inductive AvAll (K : PySem.W.Frag) (Z : Hp) (σ : L2.St) : List V → List AV → Prop
  | nil : AvAll K Z σ [] []
  | cons {v : V} {vs : List V} {a : AV} {as : List AV} : AvOk K Z σ v a → AvAll K Z σ vs as → AvAll K Z σ (v :: vs) (a :: as)
/-- v is to be read as x now -/
def Vw (K : PySem.W.Frag) (Z H : Hp) (v : V) (x : PyData) : Prop := Fr K Z v x ∨ ∃ a vs ds, v = .ref a ∧ x = .list ds ∧ H a = some (.lst vs) ∧ FrAll K Z vs ds
inductive VwAll (K : PySem.W.Frag) (Z H : Hp) : List V → List PyData → Prop
  | nil : VwAll K Z H [] []
  | cons {v : V} {vs : List V} {x : PyData} {xs : List PyData} : Vw K Z H v x → VwAll K Z H vs xs → VwAll K Z H (v :: vs) (x :: xs)
/-- frozen items -/
def items : List OV → Option (List PyData)
  | [] => some []
  | .d x :: r => (items r).map (x :: ·)
  | _ :: _ => none
theorem items_map (ds : List PyData) : items (ds.map .d) = some ds := by
  induction ds with
  | nil => rfl
  | cons d ds ih => simp [items, ih]
theorem items_eq : ∀ {xs : List OV} {ds : List PyData}, items xs = some ds → xs = ds.map .d
  | [], ds, e => by cases e; rfl
  | .d x :: r, ds, e => by
    unfold items at e
    cases q : items r with
    | none => rw [q] at e; cases e
    | some es =>
      rw [q] at e
      cases e
      rw [List.map_cons, items_eq q]
def viewO : Option (Option OV) → Option PyData
  | some (some (.d x)) => some x
  | some (some (.lst xs)) => (items xs).map .list
  | _ => none
def view (S : SS) : AV → Option PyData
  | .fr x => some x
  | .bw i => viewO S[i]?
def views (S : SS) : List AV → Option (List PyData)
  | [] => some []
  | a :: as => match view S a, views S as with
    | some x, some xs => some (x :: xs)
    | _, _ => none
section
variable {K : PySem.W.Frag} {T : List (Addr × Str)} {Z Z' R H H' : Hp} {S S' : SS} {σ σ' : L2.St} {v : V} {x : PyData}
theorem AvOk.sub {a : AV} (h : AvOk K Z σ v a) (s : Sub Z Z') : AvOk K Z' σ v a := by
  cases a with
  | fr x => exact Fr.sub s h
  | bw i => exact h
theorem AvAll.sub {vs : List V} {as : List AV} (h : AvAll K Z σ vs as) (s : Sub Z Z') : AvAll K Z' σ vs as := by
  induction h with
  | nil => exact .nil
  | cons a _ ih => exact .cons (a.sub s) ih
theorem Rel.view (r : Rel K T Z R S σ H) {a : AV} (h : AvOk K Z σ v a) (e : view S a = some x) : Vw K Z H v x := by
  cases a with
  | fr y => cases e; exact .inl h
  | bw i =>
    have h : σ[i]? = some (some v) := h
    have e : viewO S[i]? = some x := e
    obtain ⟨L, ow, _⟩ := r.own
    cases q : S[i]? with
    | none => rw [q] at e; cases e
    | some o =>
      rw [q] at e
      cases o with
      | none => cases e
      | some o =>
        obtain ⟨v', Li, Lr, h1, h2, _⟩ := ow.get q
        rw [h] at h1
        cases h1
        cases o with
        | d y => cases e; exact .inl h2.frz.2
        | lst xs =>
          have e : (items xs).map PyData.list = some x := e
          cases qi : items xs with
          | none => rw [qi] at e; cases e
          | some ds =>
            rw [qi] at e
            cases e
            rw [items_eq qi] at h2
            cases h2 with
            | lst ha r2 => exact .inr ⟨_, _, ds, rfl, rfl, ha, (OwnL.toFr r2).2⟩
        | dct _ => cases e
        | ins _ _ => cases e
theorem Rel.views (r : Rel K T Z R S σ H) {vs : List V} {as : List AV} (h : AvAll K Z σ vs as) : ∀ {xs : List PyData}, views S as = some xs → VwAll K Z H vs xs := by
  induction h with
  | nil => intro xs e; cases e; exact .nil
  | cons a _ ih =>
    intro xs e
    unfold PL.views at e
    split at e
    · rename_i h1 h2
      cases e
      exact .cons (r.view a h1) (ih h2)
    · cases e
theorem Vw.list {ds : List PyData} (h : Vw K Z H v (.list ds)) (s : Sub Z H) : ∃ a vs, v = .ref a ∧ Rd H a (.lst vs) ∧ FrAll K Z vs ds := by
  rcases h with h | ⟨a, vs, ds', e1, e2, h, r⟩
  · cases h with
    | lst h a => exact ⟨_, _, rfl, Rd.sub h s, a⟩
  · cases e2
    exact ⟨a, vs, e1, .inl h, r⟩
theorem Vw.fr (h : Vw K Z H v x) (n : ∀ ds, x ≠ .list ds) : Fr K Z v x := by
  rcases h with h | ⟨a, vs, ds', e1, e2, h, r⟩
  · exact h
  · exact absurd e2 (n ds')
theorem Vw.dp (h : Vw K Z H v x) (s : Sub Z H) (f : flat x = true) : Dp K H v x := by
  rcases h with h | ⟨a, vs, ds', e1, e2, h, r⟩
  · exact Dp.sub s (h.dp f)
  · subst e1 e2
    exact .lst (SqL.of h) (DpAll.sub s (r.dp (by simpa only [flat] using f)))
end

/-! ### readings -/
def ExPost (K : PySem.W.Frag) (T : List (Addr × Str)) (σ : L2.St) (Z R : Hp) (W : WX) (x : PyData) (S : SS) : Prop :=
  ∀ cls d H' Z', Sub Z Z' → Rel K T Z' R S σ H' → IsX K Z' cls d x → W cls d σ H'
/-- what is wanted: of the frozen heap, the rest, the answer, the slots -/
abbrev Post (α : Type) := Hp → Hp → α → SS → Prop
def PMono {α : Type} (P : Post α) : Prop := ∀ Z Z' R a S, Sub Z Z' → P Z R a S → P Z' R a S
def rz (X : Cx) (T : List (Addr × Str)) {α : Type} (P : Post α) (Z : Hp) (f : M α) (σ : L2.St) (H : Hp) : Prop :=
  ∃ R S r S' W, Rel X.K T Z R S σ H ∧ f S = some (r, S') ∧ Takes X W ∧
  match r with
  | .ok o => P Z R o S'
  | .error x => ExPost X.K T σ Z R W x S'
/-- a value; a bool; arguments; a view -/
def POk (K : PySem.W.Frag) (T : List (Addr × Str)) (σ : L2.St) (Q : VK) : Post OV := fun Z R o S => ∀ v H' Z', Sub Z Z' → Rel K T Z' R (some o :: S) (some v :: σ) H' → Q v H'
def PBo (K : PySem.W.Frag) (T : List (Addr × Str)) (σ : L2.St) (Q : Bool → Hp → Prop) : Post Bool := fun Z R b S => ∀ H' Z', Sub Z Z' → Rel K T Z' R S σ H' → Q b H'
def PAr (K : PySem.W.Frag) (T : List (Addr × Str)) (σ : L2.St) (Q : List V → Hp → Prop) : Post (List AV) := fun Z R as S => ∀ vs H' Z', Sub Z Z' → Rel K T Z' R S σ H' → AvAll K Z' σ vs as → Q vs H'
def PVw (K : PySem.W.Frag) (T : List (Addr × Str)) (σ : L2.St) (Q : VK) : Post AV := fun Z R a S => ∀ v H' Z', Sub Z Z' → Rel K T Z' R S σ H' → AvOk K Z' σ v a → Q v H'
theorem POk.mono {K : PySem.W.Frag} {T : List (Addr × Str)} {σ : L2.St} {Q : VK} : PMono (POk K T σ Q) := fun Z Z' R o S s p v H' Z'' s' => p v H' Z'' (s.trans s')
theorem PBo.mono {K : PySem.W.Frag} {T : List (Addr × Str)} {σ : L2.St} {Q : Bool → Hp → Prop} : PMono (PBo K T σ Q) := fun Z Z' R o S s p H' Z'' s' => p H' Z'' (s.trans s')
theorem PAr.mono {K : PySem.W.Frag} {T : List (Addr × Str)} {σ : L2.St} {Q : List V → Hp → Prop} : PMono (PAr K T σ Q) := fun Z Z' R o S s p v H' Z'' s' => p v H' Z'' (s.trans s')
theorem PVw.mono {K : PySem.W.Frag} {T : List (Addr × Str)} {σ : L2.St} {Q : VK} : PMono (PVw K T σ Q) := fun Z Z' R o S s p v H' Z'' s' => p v H' Z'' (s.trans s')
theorem ExPost.mono {K : PySem.W.Frag} {T : List (Addr × Str)} {σ : L2.St} {Z Z' R : Hp} {W : WX} {x : PyData} {S : SS} (s : Sub Z Z') (h : ExPost K T σ Z R W x S) : ExPost K T σ Z' R W x S := fun c d H' Z'' s' => h c d H' Z'' (s.trans s')

def rdg (X : Cx) (T : List (Addr × Str)) (f : M OV) : TE := fun σ H Q => ∃ Z, rz X T (POk X.K T σ Q) Z f σ H
def rvg (X : Cx) (T : List (Addr × Str)) (f : M AV) : TE := fun σ H Q => ∃ Z, rz X T (PVw X.K T σ Q) Z f σ H
def rtg (X : Cx) (T : List (Addr × Str)) (f : M Bool) : TT := fun σ H Q => ∃ Z, rz X T (PBo X.K T σ Q) Z f σ H
def rag (X : Cx) (T : List (Addr × Str)) (f : M (List AV)) : TA := fun σ H Q => ∃ Z, rz X T (PAr X.K T σ Q) Z f σ H
abbrev EV (X : Cx) (T : List (Addr × Str)) (e : Expr) (f : M OV) : Prop := PE X e (rdg X T f)
abbrev EVV (X : Cx) (T : List (Addr × Str)) (e : Expr) (f : M AV) : Prop := PE X e (rvg X T f)
abbrev EVT (X : Cx) (T : List (Addr × Str)) (e : Expr) (f : M Bool) : Prop := PT X e (rtg X T f)
abbrev EVA (X : Cx) (T : List (Addr × Str)) (es : List Expr) (f : M (List AV)) : Prop := PA X es (rag X T f)
/-- the last step: an answer -/
def Fin (X : Cx) (T : List (Addr × Str)) (Z : Hp) (o : OV) : TE := fun σ H Q => ∃ R S, Rel X.K T Z R S σ H ∧ POk X.K T σ Q Z R o S

theorem pe_mono {X : Cx} {e : Expr} {t t' : TE} (h : PE X e t) (i : ∀ σ H Q, t' σ H Q → t σ H Q) : PE X e t' := ⟨fun pins s σ H Q I q => h.run pins s σ H Q I (i σ H Q q)⟩
theorem pt_mono {X : Cx} {e : Expr} {t t' : TT} (h : PT X e t) (i : ∀ σ H Q, t' σ H Q → t σ H Q) : PT X e t' := ⟨fun pins s σ H Q I q => h.run pins s σ H Q I (i σ H Q q)⟩
theorem pw_mono {X : Cx} {e : Expr} {t t' : TT} (h : PW X e t) (i : ∀ σ H Q, t' σ H Q → t σ H Q) : PW X e t' := ⟨fun wh pins s σ H Q I q => h.run wh pins s σ H Q I (i σ H Q q)⟩
theorem pa_mono {X : Cx} {e : List Expr} {t t' : TA} (h : PA X e t) (i : ∀ σ H Q, t' σ H Q → t σ H Q) : PA X e t' := ⟨fun pos pins s σ H Q I q => h.run pos pins s σ H Q I (i σ H Q q)⟩
theorem ps_mono {X : Cx} {e : Stmt} {t t' : TS} (h : PS X e t) (i : ∀ D σ H, t' D σ H → t D σ H) : PS X e t' := ⟨fun pins s σ H D I q => h.run pins s σ H D I (i D σ H q)⟩
theorem pss_mono {X : Cx} {e : List Stmt} {t t' : TS} (h : PSs X e t) (i : ∀ D σ H, t' D σ H → t D σ H) : PSs X e t' := ⟨fun pins s σ H D I q => h.run pins s σ H D I (i D σ H q)⟩

section
variable {X : Cx} {T : List (Addr × Str)} {Z Z' R : Hp} {S S' : SS} {σ : L2.St} {H : Hp} {Q : VK} {o : OV} {x : PyData} {W : WX} {α β : Type}
theorem Fin.val {v : V} (f : Fin X T Z (.d x) σ H Q) (h : Fr X.K Z v x) : Q v H := by
  obtain ⟨R, S, r, p⟩ := f
  exact p v H Z (Sub.refl Z) (r.push h)
theorem Fin.tup {vs : List V} {ds : List PyData} (f : Fin X T Z (.d (.tuple ds)) σ H Q) (h : FrAll X.K Z vs ds) : ∀ p, H p = none → Q (.ref p) (upd H p (.tup vs)) := fun p hp => by
  obtain ⟨R, S, r, q⟩ := f
  have r2 := r.frozen hp (.tup vs) (fun _ z => by cases z)
  have zp : Z p = none := by
    cases e : Z p with
    | none => rfl
    | some w => rw [r.z _ _ e] at hp; cases hp
  exact q _ _ (upd Z p (.tup vs)) (sub_upd _ zp) (r2.push (.tup (SqT.of upd_same) (h.sub (sub_upd _ zp))))
/-- a new list: of the slot's own, or frozen -/
def newL (own : Bool) (ds : List PyData) : OV := if own then .lst (ds.map .d) else .d (.list ds)
theorem Fin.lst {own : Bool} {vs : List V} {ds : List PyData} (f : Fin X T Z (newL own ds) σ H Q) (h : FrAll X.K Z vs ds) : ∀ p, H p = none → Q (.ref p) (upd H p (.lst vs)) := fun p hp => by
  obtain ⟨R, S, r, q⟩ := f
  have zp : Z p = none := by
    cases e : Z p with
    | none => rfl
    | some w => rw [r.z _ _ e] at hp; cases hp
  cases own with
  | false =>
    have r2 := r.frozen hp (.lst vs) (fun _ z => by cases z)
    exact q _ _ (upd Z p (.lst vs)) (sub_upd _ zp) (r2.push (.lst (Rd.of upd_same) (h.sub (sub_upd _ zp))))
  | true =>
    exact q _ _ Z (Sub.refl Z) (r.newOwn hp (.lst upd_same (OwnL.ofFr h)))

theorem rz_mono {P P' : Post α} {f : M α} (h : rz X T P Z f σ H) (i : ∀ Z R a S, P Z R a S → P' Z R a S) : rz X T P' Z f σ H := by
  obtain ⟨R, S, r, S', W, rel, e, tk, p⟩ := h
  refine ⟨R, S, r, S', W, rel, e, tk, ?_⟩
  cases r with
  | ok o => exact i _ _ _ _ p
  | error x => exact p
theorem bind_eq {f : M α} {g : α → M β} {S S' : SS} {r : Except PyData β} (e : (f >>= g) S = some (r, S')) : (∃ x, f S = some (.error x, S') ∧ r = .error x) ∨ ∃ a S1, f S = some (.ok a, S1) ∧ g a S1 = some (r, S') := by
  have e : M.bind f g S = some (r, S') := e
  unfold M.bind at e
  split at e
  · cases e
  · rename_i x S1 q
    cases e
    exact .inl ⟨_, q, rfl⟩
  · rename_i a S1 q
    exact .inr ⟨_, _, q, e⟩
/-- a view is taken, then the rest -/
theorem rv_bind {P : Post β} (hP : PMono P) {f : M AV} {g : AV → M β} (h : rz X T P Z (f >>= g) σ H) : rz X T (PVw X.K T σ fun v H1 => ∃ a Z1, Sub Z Z1 ∧ AvOk X.K Z1 σ v a ∧ rz X T P Z1 (g a) σ H1) Z f σ H := by
  obtain ⟨R, S, r, S', W, rel, e, tk, p⟩ := h
  rcases bind_eq e with ⟨x, ef, rfl⟩ | ⟨a, S1, ef, eg⟩
  · exact ⟨R, S, _, _, W, rel, ef, tk, p⟩
  · refine ⟨R, S, _, _, W, rel, ef, tk, fun v H1 Z1 s1 r1 a1 => ⟨a, Z1, s1, a1, R, S1, r, S', W, r1, eg, tk, ?_⟩⟩
    cases r with
    | ok o => exact hP _ _ _ _ _ s1 p
    | error z => exact ExPost.mono s1 p
/-- a value is made (any), then the rest over the value on top -/
theorem rd_bind {P : Post β} (hP : PMono P) {f : M OV} {g : OV → M β} (h : rz X T P Z (f >>= g) σ H) : rz X T (POk X.K T σ fun v H1 => ∃ o Z1 R S1 r S' W, Sub Z Z1 ∧ Rel X.K T Z1 R (some o :: S1) (some v :: σ) H1 ∧ g o S1 = some (r, S') ∧ Takes X W ∧
    match r with
    | .ok o => P Z1 R o S'
    | .error x => ExPost X.K T σ Z1 R W x S') Z f σ H := by
  obtain ⟨R, S, r, S', W, rel, e, tk, p⟩ := h
  rcases bind_eq e with ⟨x, ef, rfl⟩ | ⟨a, S1, ef, eg⟩
  · exact ⟨R, S, _, _, W, rel, ef, tk, p⟩
  · refine ⟨R, S, _, _, W, rel, ef, tk, fun v H1 Z1 s1 r1 => ⟨a, Z1, R, S1, r, S', W, s1, r1, eg, tk, ?_⟩⟩
    cases r with
    | ok o => exact hP _ _ _ _ _ s1 p
    | error z => exact ExPost.mono s1 p
theorem rt_bind {P : Post β} (hP : PMono P) {f : M Bool} {g : Bool → M β} (h : rz X T P Z (f >>= g) σ H) : rz X T (PBo X.K T σ fun b H1 => ∃ Z1, Sub Z Z1 ∧ rz X T P Z1 (g b) σ H1) Z f σ H := by
  obtain ⟨R, S, r, S', W, rel, e, tk, p⟩ := h
  rcases bind_eq e with ⟨x, ef, rfl⟩ | ⟨a, S1, ef, eg⟩
  · exact ⟨R, S, _, _, W, rel, ef, tk, p⟩
  · refine ⟨R, S, _, _, W, rel, ef, tk, fun H1 Z1 s1 r1 => ⟨Z1, s1, R, S1, r, S', W, r1, eg, tk, ?_⟩⟩
    cases r with
    | ok o => exact hP _ _ _ _ _ s1 p
    | error z => exact ExPost.mono s1 p
theorem ra_bind {P : Post β} (hP : PMono P) {f : M (List AV)} {g : List AV → M β} (h : rz X T P Z (f >>= g) σ H) : rz X T (PAr X.K T σ fun vs H1 => ∃ as Z1, Sub Z Z1 ∧ AvAll X.K Z1 σ vs as ∧ rz X T P Z1 (g as) σ H1) Z f σ H := by
  obtain ⟨R, S, r, S', W, rel, e, tk, p⟩ := h
  rcases bind_eq e with ⟨x, ef, rfl⟩ | ⟨a, S1, ef, eg⟩
  · exact ⟨R, S, _, _, W, rel, ef, tk, p⟩
  · refine ⟨R, S, _, _, W, rel, ef, tk, fun v H1 Z1 s1 r1 a1 => ⟨a, Z1, s1, a1, R, S1, r, S', W, r1, eg, tk, ?_⟩⟩
    cases r with
    | ok o => exact hP _ _ _ _ _ s1 p
    | error z => exact ExPost.mono s1 p
theorem rz_ret {P : Post α} {a : α} (h : rz X T P Z (M.ret a) σ H) : ∃ R S, Rel X.K T Z R S σ H ∧ P Z R a S := by
  obtain ⟨R, S, r, S', W, rel, e, tk, p⟩ := h
  cases e
  exact ⟨R, S, rel, p⟩
/-! frozen data of a value -/
def frD : OV → Option PyData
  | .d x => some x
  | _ => none
/-- an expression's frozen value as a view -/
def toV (f : M OV) : M AV := f >>= fun o => M.lift ((frD o).map .fr)
theorem evv_of {e : Expr} {f : M OV} (h : EV X T e f) : EVV X T e (toV f) := pe_mono h fun σ H Q ⟨Z, h⟩ => by
  refine ⟨Z, rz_mono (rd_bind PVw.mono h) fun Z R o S p v H1 Z1 s1 r1 => ?_⟩
  obtain ⟨o', Z2, R2, S2, r, S', W, s2, rel, e, tk, q⟩ := p v H1 Z1 s1 r1
  cases o' with
  | d x =>
    cases e
    obtain ⟨f1, r2⟩ := rel.popd
    exact q v H1 Z2 (Sub.refl _) r2 f1
  | _ => cases e

/-! ### operators by values -/
def op1 (op : PyData → Option OV) (a : AV) : M OV := fun S => match view S a with
  | some x => (op x).map fun o => (.ok o, S)
  | none => none
def op2 (op : PyData → PyData → Option OV) (a b : AV) : M OV := fun S => match view S a, view S b with
  | some x, some y => (op x y).map fun o => (.ok o, S)
  | _, _ => none
def opN (op : List PyData → Option OV) (as : List AV) : M OV := fun S => match views S as with
  | some xs => (op xs).map fun o => (.ok o, S)
  | none => none
/-- the operator's rule serves op -/
def OpG (X : Cx) (T : List (Addr × Str)) (r : R2) (op : PyData → PyData → Option OV) : Prop := ∀ (Z : Hp) (v w : V) (x y : PyData) (o : OV) (σ : L2.St) (H : Hp) (Q : VK), Sub Z H → Vw X.K Z H v x → Vw X.K Z H w y → op x y = some o → Fin X T Z o σ H Q → r v w H Q
def CallG (X : Cx) (T : List (Addr × Str)) (r : List V → Hp → VK → Prop) (op : List PyData → Option OV) : Prop := ∀ (Z : Hp) (vs : List V) (xs : List PyData) (o : OV) (σ : L2.St) (H : Hp) (Q : VK), Sub Z H → VwAll X.K Z H vs xs → op xs = some o → Fin X T Z o σ H Q → r vs H Q
def bin (fa fb : M AV) (op : PyData → PyData → Option OV) : M OV := fa >>= fun a => fb >>= fun b => op2 op a b
variable {a b c : Expr} {fa fb fc : M AV} {pos : Pos}
theorem rz_op2 {op : PyData → PyData → Option OV} {u w : AV} {v1 v2 : V} {P : Post OV} (h : rz X T P Z (op2 op u w) σ H) (h1 : AvOk X.K Z σ v1 u) (h2 : AvOk X.K Z σ v2 w) :
    ∃ x y o R S, Sub Z H ∧ Vw X.K Z H v1 x ∧ Vw X.K Z H v2 y ∧ op x y = some o ∧ Rel X.K T Z R S σ H ∧ P Z R o S := by
  obtain ⟨R, S, r, S', W, rel, e, tk, p⟩ := h
  unfold op2 at e
  split at e
  · rename_i x y e1 e2
    cases q : op x y with
    | none => rw [q] at e; cases e
    | some o =>
      rw [q] at e
      cases e
      exact ⟨x, y, o, R, S, rel.z, rel.view h1 e1, rel.view h2 e2, q, rel, p⟩
  · cases e
theorem rz_opN {op : List PyData → Option OV} {as : List AV} {vs : List V} {P : Post OV} (h : rz X T P Z (opN op as) σ H) (h1 : AvAll X.K Z σ vs as) :
    ∃ xs o R S, Sub Z H ∧ VwAll X.K Z H vs xs ∧ op xs = some o ∧ Rel X.K T Z R S σ H ∧ P Z R o S := by
  obtain ⟨R, S, r, S', W, rel, e, tk, p⟩ := h
  unfold opN at e
  split at e
  · rename_i xs e1
    cases q : op xs with
    | none => rw [q] at e; cases e
    | some o =>
      rw [q] at e
      cases e
      exact ⟨xs, o, R, S, rel.z, rel.views h1 e1, q, rel, p⟩
  · cases e
theorem tOp_of {r : R2} {op : PyData → PyData → Option OV} (hg : OpG X T r op) {σ : L2.St} {H : Hp} {Q : VK} (h : rdg X T (bin fa fb op) σ H Q) : tOp r (rvg X T fa) (rvg X T fb) σ H Q := by
  obtain ⟨Z, h⟩ := h
  refine ⟨Z, rz_mono (rv_bind POk.mono h) fun Z R a S p v H1 Z1 s1 r1 a1 => ?_⟩
  obtain ⟨u, Z2, s2, o2, h2⟩ := p v H1 Z1 s1 r1 a1
  refine ⟨Z2, rz_mono (rv_bind POk.mono h2) fun Z' R' b S' p' w H2 Z3 s3 r3 a3 => ?_⟩
  obtain ⟨u', Z4, s4, o4, h4⟩ := p' w H2 Z3 s3 r3 a3
  obtain ⟨x, y, o, R5, S5, sz, w1, w2, e, rel, pf⟩ := rz_op2 h4 (o2.sub s4) o4
  exact hg Z4 v w x y o σ H2 Q sz w1 w2 e ⟨R5, S5, rel, pf⟩
theorem ev_op {op : Operator} {r : R2} {g : PyData → PyData → Option OV} (ho : OpR X (binaryOp op) r) (hg : OpG X T r g) (ha : EVV X T a fa) (hb : EVV X T b fb) : EV X T (.BinOp a op b pos) (bin fa fb g) :=
  pe_mono (pe_op ho ha hb) fun _ _ _ h => tOp_of hg h
theorem ev_cmp {op : CmpOp} {r : R2} {g : PyData → PyData → Option OV} (ho : OpR X (compareOp op) r) (hg : OpG X T r g) (ha : EVV X T a fa) (hb : EVV X T b fb) (hm : behindInMarks op b = false := by first | exact nomark _ (by decide) (by decide) | rfl) : EV X T (.Compare a [op] [b] pos) (bin fa fb g) :=
  pe_mono (pe_cmpR ho ha hb hm) fun _ _ _ h => tOp_of hg h
/-- a value that is a bool, as a test -/
def isB : OV → Option Bool
  | .d (.bool b) => some b
  | _ => none
def asB (f : M OV) : M Bool := f >>= fun o => M.lift (isB o)
theorem asB_of {f : M OV} {Q : Bool → Hp → Prop} (h : rtg X T (asB f) σ H Q) : rdg X T f σ H fun v H1 => ∃ c, v = .bl c ∧ Q c H1 := by
  obtain ⟨Z, h⟩ := h
  refine ⟨Z, rz_mono (rd_bind PBo.mono h) fun Z R o S p v H1 Z1 s1 r1 => ?_⟩
  obtain ⟨o', Z2, R2, S2, r, S', W, s2, rel, e, tk, q⟩ := p v H1 Z1 s1 r1
  cases o' with
  | d x =>
    cases x with
    | bool b =>
      cases e
      obtain ⟨f1, r2⟩ := rel.popd
      cases f1
      exact ⟨b, rfl, q H1 Z2 (Sub.refl _) r2⟩
    | _ => cases e
  | _ => cases e
theorem evt_cmp {op : CmpOp} {r : R2} {g : PyData → PyData → Option OV} (ho : OpR X (compareOp op) r) (hg : OpG X T r g) (ha : EVV X T a fa) (hb : EVV X T b fb) (hm : behindInMarks op b = false := by first | exact nomark _ (by decide) (by decide) | rfl) : EVT X T (.Compare a [op] [b] pos) (asB (bin fa fb g)) :=
  pt_mono (pt_cmpR ho ha hb hm) fun σ H Q h => tOp_of hg (asB_of h)
end
end PL

/-! PL3: operators -/
namespace PL
open PySem PySem.Spec PyProof.Rows L2 LamX

theorem flat_of_canLay : ∀ d : PyData, d.canLay0 = true → flat d = true := by
  intro d
  refine PyData.rec (motive_1 := fun d => d.canLay0 = true → flat d = true) (motive_2 := fun ds => PyData.canLayAll0 ds = true → flatAll ds = true) (motive_3 := fun _ => True) (motive_4 := fun _ => True) ?_ ?_ ?_ ?_ ?_ ?_ ?_ ?_ ?_ ?_ ?_ ?_ d
  · intro _; rfl
  · intro _ _; rfl
  · intro _ _; rfl
  · intro _ _; rfl
  · intro xs ih h; simp only [PyData.canLay0] at h; simp only [flat]; exact ih h
  · intro xs ih h; simp only [PyData.canLay0] at h; simp only [flat]; exact ih h
  · intro _ _ h; simp [PyData.canLay0] at h
  · intro _; rfl
  · intro d ds h1 h2 h
    simp only [PyData.canLayAll0, Bool.and_eq_true] at h
    simp only [flatAll, Bool.and_eq_true]
    exact ⟨h1 h.1, h2 h.2⟩
  · exact trivial
  · intros; exact trivial
  · intros; exact trivial
theorem flat_of_shaped {d : PyData} (h : SeqAt.shaped d = true) : flat d = true := flat_of_canLay d (SeqAt.canLay_of_shaped h)

section
variable {X : Cx} {T : List (Addr × Str)} {Z H : Hp} {v w : V} {x y : PyData}
theorem Fr.sqT {v : V} {K : PySem.W.Frag} {ds : List PyData} (h : Fr K Z v (.tuple ds)) (s : Sub Z H) : ∃ a xs, v = .ref a ∧ SqT K H a xs ∧ FrAll K Z xs ds := by
  cases h with
  | tup h a => exact ⟨_, _, rfl, sqT_sub h s, a⟩
theorem Fr.rdL {v : V} {K : PySem.W.Frag} {ds : List PyData} (h : Fr K Z v (.list ds)) (s : Sub Z H) : ∃ a xs, v = .ref a ∧ Rd H a (.lst xs) ∧ FrAll K Z xs ds := by
  cases h with
  | lst h a => exact ⟨_, _, rfl, Rd.sub h s, a⟩
theorem Fr.intV {v : V} {K : PySem.W.Frag} {i : Int} (h : Fr K Z v (.int i)) : v = .int i := by cases h; rfl
theorem Fr.strV {v : V} {K : PySem.W.Frag} {i : Str} (h : Fr K Z v (.str i)) : v = .str i := by cases h; rfl
theorem Fr.blV {v : V} {K : PySem.W.Frag} {i : Bool} (h : Fr K Z v (.bool i)) : v = .bl i := by cases h; rfl
theorem Fr.nonV {v : V} {K : PySem.W.Frag} (h : Fr K Z v .none) : v = .non := by cases h; rfl

/-! ### ints -/
def oI (g : Int → Int → Option OV) : PyData → PyData → Option OV
  | .int i, .int j => g i j
  | _, _ => none
theorem oI_some {g : Int → Int → Option OV} {o : OV} (e : oI g x y = some o) : ∃ i j, x = .int i ∧ y = .int j ∧ g i j = some o := by
  unfold oI at e
  split at e
  · exact ⟨_, _, rfl, rfl, e⟩
  · cases e
theorem opg_int {r : R2} {g : Int → Int → Option OV} (h : ∀ (Z : Hp) i j o (σ : L2.St) (H : Hp) (Q : VK), g i j = some o → Fin X T Z o σ H Q → r (.int i) (.int j) H Q) : OpG X T r (oI g) := by
  intro Z v w x y o σ H Q sz fx fy e fin
  obtain ⟨i, j, rfl, rfl, e⟩ := oI_some e
  rw [(fx.fr (by intros; simp)).intV, (fy.fr (by intros; simp)).intV]
  exact h Z i j o σ H Q e fin
def okI (i : Int) : Option OV := some (.d (.int i))
def okB (b : Bool) : Option OV := some (.d (.bool b))
theorem opg_add : OpG X T (rI0 fun i j => .int (i + j)) (oI fun i j => okI (i + j)) := opg_int fun Z i j o σ H Q e f => by
  cases e
  exact ⟨i, j, rfl, rfl, f.val (.int _)⟩
def oSub := oI fun i j => okI (i - j)
theorem opg_sub : OpG X T (rI0 fun i j => .int (i - j)) oSub := opg_int fun Z i j o σ H Q e f => by
  cases e
  exact ⟨i, j, rfl, rfl, f.val (.int _)⟩
def cMul (i j : Int) : Bool := (decide (-(2 ^ 64) < i) && decide (i < 2 ^ 64)) || (decide (-(2 ^ 64) < j) && decide (j < 2 ^ 64))
def oMul := oI fun i j => if cMul i j then okI (i * j) else none
theorem opg_mul : OpG X T (rI CMul fun i j => .int (i * j)) oMul := opg_int fun Z i j o σ H Q e f => by
  split at e
  · rename_i h
    cases e
    refine ⟨i, j, rfl, rfl, ?_, f.val (.int _)⟩
    simp only [cMul, Bool.or_eq_true, Bool.and_eq_true, decide_eq_true_eq] at h
    exact h
  · cases e
def oFdiv := oI fun i j => if 0 < j ∧ j < 1073741824 then okI (i / j) else none
theorem opg_fdiv : OpG X T (rI CDiv fun i j => .int (i / j)) oFdiv := opg_int fun Z i j o σ H Q e f => by
  split at e
  · rename_i h
    cases e
    exact ⟨i, j, rfl, rfl, h, f.val (.int _)⟩
  · cases e
def oMod := oI fun i j => if 0 < j then okI (i % j) else none
theorem opg_mod : OpG X T (rI (fun _ j => 0 < j) fun i j => .int (i % j)) oMod := opg_int fun Z i j o σ H Q e f => by
  split at e
  · rename_i h
    cases e
    exact ⟨i, j, rfl, rfl, h, f.val (.int _)⟩
  · cases e
def oPow := oI fun i j => if 0 ≤ j ∧ j ≤ 1000000 ∧ i.natAbs < 2 ^ 64 then okI (i ^ j.toNat) else none
theorem opg_pow : OpG X T (rI CPow fun i j => .int (i ^ j.toNat)) oPow := opg_int fun Z i j o σ H Q e f => by
  split at e
  · rename_i h
    cases e
    exact ⟨i, j, rfl, rfl, h, f.val (.int _)⟩
  · cases e
def oLt := oI fun i j => okB (decide (i < j))
def oLe := oI fun i j => okB (decide (i ≤ j))
def oGt := oI fun i j => okB (decide (j < i))
def oGe := oI fun i j => okB (decide (j ≤ i))
theorem opg_lt : OpG X T (rI0 fun i j => .bl (decide (i < j))) oLt := opg_int fun Z i j o σ H Q e f => by
  cases e
  exact ⟨i, j, rfl, rfl, f.val (.bl _)⟩
theorem opg_le : OpG X T (rI0 fun i j => .bl (decide (i ≤ j))) oLe := opg_int fun Z i j o σ H Q e f => by
  cases e
  exact ⟨i, j, rfl, rfl, f.val (.bl _)⟩
theorem opg_gt : OpG X T (rI0 fun i j => .bl (decide (j < i))) oGt := opg_int fun Z i j o σ H Q e f => by
  cases e
  exact ⟨i, j, rfl, rfl, f.val (.bl _)⟩
theorem opg_ge : OpG X T (rI0 fun i j => .bl (decide (j ≤ i))) oGe := opg_int fun Z i j o σ H Q e f => by
  cases e
  exact ⟨i, j, rfl, rfl, f.val (.bl _)⟩

/-! ### + of everything -/
def rCatR : R2 := fun x y H Q => ∃ l b xs zs, x = .ref l ∧ y = .ref b ∧ Rd H l (.lst xs) ∧ Rd H b (.lst zs) ∧ xs.length + zs.length ≤ sizeLine ∧ ∀ p, H p = none → Q (.ref p) (upd H p (.lst (xs ++ zs)))
theorem Inv.lstR {pins : List (Addr × Obj)} {σ : L2.St} {s : Shared} {l : Addr} {xs : List V} (I : Inv X pins σ H s) (hH : Rd H l (.lst xs)) : xs.length ≤ sizeLine ∧ ∃ (its : List Value) (n : Nat), Vals xs its ∧ xs.length = its.length ∧ s.heap.get? l = some { cls := .type "list", data := .seq its.toArray n } := by
  obtain ⟨z, its, n, r, e⟩ := hH.ok I.hok
  exact ⟨z, its, n, r, r.length, e⟩
theorem op_catR : OpR X (binaryOp .Add) rCatR := by
  intro pins s σ H x y v u Q I rx ry h
  obtain ⟨l, b, xs, zs, rfl, rfl, hH, hB, hz, q⟩ := h
  cases rx
  cases ry
  obtain ⟨z, its, n, r, hl, e⟩ := Inv.lstR I hH
  obtain ⟨z2, its2, n2, r2, hl2, e2⟩ := Inv.lstR I hB
  refine PySem.P.add_list e e2 ?_ (by rw [List.size_toArray, List.size_toArray]; omega)
  have ea : its.toArray ++ its2.toArray = (its ++ its2).toArray := by simp
  rw [ea]
  exact ⟨.ref _, _, I.lnew (t' := s.toks) (r.append r2) (by rw [List.length_append]; omega), rfl, q _ I.fresh⟩
/-- x + y; own: a new list is the slot's own -/
def oAdd (own : Bool) : PyData → PyData → Option OV
  | .int i, .int j => okI (i + j)
  | .str x, .str y => if x.length + y.length ≤ sizeLine then some (.d (.str (x ++ y))) else none
  | .tuple xs, .tuple ys => if xs.length + ys.length ≤ sizeLine then some (.d (.tuple (xs ++ ys))) else none
  | .list xs, .list ys => if xs.length + ys.length ≤ sizeLine then some (newL own (xs ++ ys)) else none
  | _, _ => none
def rAddA (K : PySem.W.Frag) : R2 := fun x y H Q => ((rI0 fun i j => .int (i + j)) x y H Q ∨ (∃ i j, x = .str i ∧ y = .str j ∧ i.length + j.length ≤ sizeLine ∧ Q (.str (i ++ j)) H)) ∨ (rCatA K x y H Q ∨ rCatR x y H Q)
theorem op_addA : OpR X (binaryOp .Add) (rAddA X.K) := (op_add.or op_add_str).or (op_catA.or op_catR)
theorem opg_addA {own : Bool} : OpG X T (rAddA X.K) (oAdd own) := by
  intro Z v w x y o σ H Q sz fx fy e fin
  unfold oAdd at e
  split at e
  · cases e
    rw [(fx.fr (by intros; simp)).intV, (fy.fr (by intros; simp)).intV]
    exact .inl (.inl ⟨_, _, rfl, rfl, fin.val (.int _)⟩)
  · split at e
    · cases e
      rw [(fx.fr (by intros; simp)).strV, (fy.fr (by intros; simp)).strV]
      exact .inl (.inr ⟨_, _, rfl, rfl, by assumption, fin.val (.str _)⟩)
    · cases e
  · split at e
    · rename_i xs ys h
      cases e
      have fx := fx.fr (by intros; simp)
      have fy := fy.fr (by intros; simp)
      obtain ⟨a, vs, rfl, ha, ra⟩ := fx.sqT sz
      obtain ⟨b, ws, rfl, hb, rb⟩ := fy.sqT sz
      have l1 := ra.length
      have l2 := rb.length
      refine .inr (.inl ⟨a, b, vs, ws, rfl, rfl, ha, hb, by omega, fun z => ?_, fun _ z => ?_, fun _ _ => fin.tup (ra.append rb)⟩)
      · subst z
        cases ra
        exact fin.val fy
      · subst z
        cases rb
        rw [List.append_nil] at fin
        exact fin.val fx
    · cases e
  · split at e
    · rename_i xs ys h
      cases e
      obtain ⟨a, vs, rfl, ha, ra⟩ := fx.list sz
      obtain ⟨b, ws, rfl, hb, rb⟩ := fy.list sz
      have l1 := ra.length
      have l2 := rb.length
      exact .inr (.inr ⟨a, b, vs, ws, rfl, rfl, ha, hb, by omega, fin.lst (ra.append rb)⟩)
    · cases e
  · cases e

/-! ### == != is in -/
def oEq (x y : PyData) : Option OV := if SeqAt.shaped x && SeqAt.shaped y then okB (PyData.eqv x y) else none
def oNe (x y : PyData) : Option OV := if SeqAt.shaped x && SeqAt.shaped y then okB (!PyData.eqv x y) else none
theorem opg_eq : OpG X T (rEqD X.K) oEq := by
  intro Z v w x y o σ H Q sz fx fy e fin
  unfold oEq at e
  split at e
  · rename_i h
    rw [Bool.and_eq_true] at h
    cases e
    exact ⟨x, y, fx.dp sz (flat_of_shaped h.1), fy.dp sz (flat_of_shaped h.2), h.1, h.2, fin.val (.bl _)⟩
  · cases e
theorem opg_ne : OpG X T (rNeD X.K) oNe := by
  intro Z v w x y o σ H Q sz fx fy e fin
  unfold oNe at e
  split at e
  · rename_i h
    rw [Bool.and_eq_true] at h
    cases e
    exact ⟨x, y, fx.dp sz (flat_of_shaped h.1), fy.dp sz (flat_of_shaped h.2), h.1, h.2, fin.val (.bl _)⟩
  · cases e
def isNone : PyData → Bool
  | .none => true
  | _ => false
theorem Vw.isNone_eq (h : Vw X.K Z H v x) : decide (v = .non) = isNone x := by
  rcases h with h | ⟨a, vs, ds, rfl, rfl, _⟩
  · cases h <;> first | rfl | simp [isNone, excD]
  · rfl
def oIsN (x y : PyData) : Option OV := if isNone y then okB (isNone x) else none
def oNotN (x y : PyData) : Option OV := if isNone y then okB (!isNone x) else none
theorem isNone_eq : ∀ {y : PyData}, isNone y = true → y = .none
  | .none, _ => rfl
theorem opg_isN : OpG X T (fun x y H Q => y = .non ∧ Q (.bl (decide (x = .non))) H) oIsN := by
  intro Z v w x y o σ H Q sz fx fy e fin
  unfold oIsN at e
  split at e
  · rename_i h
    cases e
    rw [isNone_eq h] at fy
    refine ⟨(fy.fr (by intros; simp)).nonV, ?_⟩
    rw [fx.isNone_eq]
    exact fin.val (.bl _)
  · cases e
theorem opg_notN : OpG X T (fun x y H Q => y = .non ∧ Q (.bl (!decide (x = .non))) H) oNotN := by
  intro Z v w x y o σ H Q sz fx fy e fin
  unfold oNotN at e
  split at e
  · rename_i h
    cases e
    rw [isNone_eq h] at fy
    refine ⟨(fy.fr (by intros; simp)).nonV, ?_⟩
    rw [fx.isNone_eq]
    exact fin.val (.bl _)
  · cases e
end
end PL

/-! PL4: expressions -/
namespace PL
open PySem PySem.Spec PyProof.Rows L2 LamX
section
variable {X : Cx} {T : List (Addr × Str)} {a b c e : Expr} {es rest : List Expr} {fa fb fc : M AV} {f g : M OV} {ft fu : M Bool} {pos : Pos} {Z R : Hp} {S : SS} {σ : L2.St} {H : Hp}

/-! ### names, constants -/
/-- slot i as a view -/
def rdV (i : Nat) : M AV := fun S => match S[i]? with
  | some (some _) => some (.ok (.bw i), S)
  | _ => none
theorem evv_var {i : Nat} {x : Str} (hN : X.N[i]? = some x) (hv : Vis X.env.scope x) (hd : (x == ("__debug__" : Str)) = false := by decide) (hcd : (x == ("__classdict__" : Str)) = false := by decide) : EVV X T (.Name x pos) (rdV i) :=
  pe_mono (pe_var hN hv hd hcd) fun σ H Q ⟨Z, R, S, r, S', W, rel, e, tk, p⟩ => by
    unfold rdV at e
    split at e
    · rename_i o q
      cases e
      obtain ⟨L, ow, _⟩ := rel.own
      obtain ⟨v, _, _, h1, _⟩ := ow.get q
      exact ⟨v, h1, p v H Z (Sub.refl Z) rel h1⟩
    · cases e
/-- slot i, frozen from now on -/
def rdZ (i : Nat) : M OV := fun S => match S[i]? with
  | some (some (.d x)) => some (.ok (.d x), S)
  | some (some (.lst xs)) => (items xs).map fun ds => (.ok (.d (.list ds)), S.set i (some (.d (.list ds))))
  | _ => none
theorem Rel.freeze {K : PySem.W.Frag} (r : Rel K T Z R S σ H) {i : Nat} {xs : List OV} {ds : List PyData} (e : S[i]? = some (some (.lst xs))) (hi : items xs = some ds) :
    ∃ v Z', σ[i]? = some (some v) ∧ Sub Z Z' ∧ Fr K Z' v (.list ds) ∧ Rel K T Z' R (S.set i (some (.d (.list ds)))) σ H := by
  obtain ⟨L, ow, n, q⟩ := r.own
  obtain ⟨v, Li, Lr, h1, h2, h3, h4⟩ := ow.get e
  rw [items_eq hi] at h2
  have hlen := ow.length
  have hlt : i < S.length := (List.getElem?_eq_some_iff.mp e).1
  cases h2 with
  | @lst a vs _ L2 ha r2 =>
    obtain ⟨rfl, fr⟩ := OwnL.toFr r2
    have n2 := (h4.nodup_iff).mp n
    have n3 : a ∉ Lr ∧ Lr.Nodup := by simpa using n2
    have hZ : Z a = none := (q a (h4.mem_iff.mpr (List.mem_append_left _ List.mem_cons_self))).1
    have hR : R a = none := (q a (h4.mem_iff.mpr (List.mem_append_left _ List.mem_cons_self))).2
    have sb := sub_upd (Z := Z) (p := a) (.lst vs) hZ
    refine ⟨.ref a, upd Z a (.lst vs), h1, sb, .lst (Rd.of upd_same) (fr.sub sb), ?_⟩
    have h5 := (h3.mono (Z' := upd Z a (.lst vs)) (H' := H) sb fun _ _ => rfl)
    obtain ⟨M, h6, D, h7⟩ := h5.put (i := i) (v := .ref a) (x := .d (.list ds)) (Li := []) (.d (.lst (Rd.of upd_same) (fr.sub sb))) (by simpa using hlt)
    have es : (S.set i none).set i (some (.d (.list ds))) = S.set i (some (.d (.list ds))) := by rw [List.set_set]
    have eσ : σ.set i (some (.ref a)) = σ := by
      apply List.ext_getElem?
      intro j
      by_cases hj : i = j
      · subst hj
        rw [List.getElem?_set_self (List.getElem?_eq_some_iff.mp h1).1, h1]
      · rw [List.getElem?_set_ne hj]
    rw [es, eσ] at h6
    have h7' : Lr.Perm (D ++ M) := by simpa using h7
    obtain ⟨n4, n5⟩ := nodup_sub ⟨D, h7'⟩ n3.2
    refine ⟨⟨M, h6, n4, fun c hc => ?_⟩, fun c o ec => ?_, r.r, fun c ps ec => ?_, r.rt, fun c o ec => ?_, r.tab⟩
    · have hcL := n5 c hc
      have hca : c ≠ a := fun z => n3.1 (z ▸ hcL)
      have := q c (h4.mem_iff.mpr (List.mem_append_right _ hcL))
      exact ⟨by rw [upd_ne hca]; exact this.1, this.2⟩
    · by_cases hca : c = a
      · subst hca; rw [upd_same] at ec; rw [← ec]; exact ha
      · rw [upd_ne hca] at ec; exact r.z c o ec
    · by_cases hca : c = a
      · subst hca; rw [upd_same] at ec; cases ec
      · rw [upd_ne hca] at ec; exact r.zt c ps ec
    · by_cases hca : c = a
      · subst hca; exact hR
      · rw [upd_ne hca] at ec; exact r.zr c o ec
theorem ev_var {i : Nat} {x : Str} (hN : X.N[i]? = some x) (hv : Vis X.env.scope x) (hd : (x == ("__debug__" : Str)) = false := by decide) (hcd : (x == ("__classdict__" : Str)) = false := by decide) : EV X T (.Name x pos) (rdZ i) :=
  pe_mono (pe_var hN hv hd hcd) fun σ H Q ⟨Z, R, S, r, S', W, rel, e, tk, p⟩ => by
    unfold rdZ at e
    split at e
    · rename_i x q
      cases e
      obtain ⟨v, h1, f⟩ := rel.get q
      exact ⟨v, h1, p v H Z (Sub.refl Z) (rel.push f)⟩
    · rename_i xs q
      cases hi : items xs with
      | none => rw [hi] at e; cases e
      | some ds =>
        rw [hi] at e
        cases e
        obtain ⟨v, Z', h1, sb, f, rel'⟩ := rel.freeze q hi
        exact ⟨v, h1, p v H Z' sb (rel'.push f)⟩
    · cases e
/-- slot i given away -/
def mvS (i : Nat) : M OV := fun S => match S[i]? with
  | some (some o) => some (.ok o, S.set i none)
  | _ => none
theorem ev_move {i : Nat} {x : Str} (hN : X.N[i]? = some x) (hv : Vis X.env.scope x) (hd : (x == ("__debug__" : Str)) = false := by decide) (hcd : (x == ("__classdict__" : Str)) = false := by decide) : EV X T (.Name x pos) (mvS i) :=
  pe_mono (pe_var hN hv hd hcd) fun σ H Q ⟨Z, R, S, r, S', W, rel, e, tk, p⟩ => by
    unfold mvS at e
    split at e
    · rename_i o q
      cases e
      obtain ⟨L, ow, n, k⟩ := rel.own
      obtain ⟨v, Li, Lr, h1, h2, h3, h4⟩ := ow.get q
      exact ⟨v, h1, p v H Z (Sub.refl Z) ⟨⟨Li ++ Lr, .own h2 h3, (h4.nodup_iff).mp n, fun a ha => k a (h4.mem_iff.mpr ha)⟩, rel.z, rel.r, rel.zt, rel.rt, rel.zr, rel.tab⟩⟩
    · cases e
def cst (x : PyData) : M OV := M.ret (.d x)
theorem ev_cst {v : V} {x : PyData} (h : PE X e (tC v)) (f : ∀ Z, Fr X.K Z v x) : EV X T e (cst x) := pe_mono h fun σ H Q ⟨Z, h⟩ => by
  obtain ⟨R, S, rel, p⟩ := rz_ret h
  exact p v H Z (Sub.refl Z) (rel.push (f Z))
theorem ev_int {i : Int} {j : Nat} : EV X T (.Constant (.int i) j pos) (cst (.int i)) := ev_cst pe_int fun _ => .int i
theorem ev_bl {i : Bool} {j : Nat} : EV X T (.Constant (.bool i) j pos) (cst (.bool i)) := ev_cst pe_bl fun _ => .bl i
theorem ev_str {i : Str} {j : Nat} : EV X T (.Constant (.str i) j pos) (cst (.str i)) := ev_cst pe_str fun _ => .str i
theorem ev_non {j : Nat} : EV X T (.Constant .none j pos) (cst .none) := ev_cst pe_non fun _ => .non
/-- a constant of the module -/
theorem ev_glob {x : Str} {v : V} {u : Value} {d : PyData} (hg : Gl X x) (hm : X.mg x = some u) (r : RelV v u) (f : ∀ Z, Fr X.K Z v d) (hd : (x == ("__debug__" : Str)) = false := by decide) : EV X T (.Name x pos) (cst d) := ev_cst (pe_glob hg hm r hd) f

/-! ### arguments -/
def argsNil : M (List AV) := M.ret []
def argsCons (f : M AV) (g : M (List AV)) : M (List AV) := f >>= fun a => g >>= fun as => M.ret (a :: as)
theorem eva_nil : EVA X T [] argsNil := pa_mono pa_nil fun σ H Q ⟨Z, h⟩ => by
  obtain ⟨R, S, rel, p⟩ := rz_ret h
  exact p [] H Z (Sub.refl Z) rel .nil
theorem eva_cons {g : M (List AV)} (ha : EVV X T e fa) (hr : EVA X T es g) (hs : starEach (e :: es) X.env = (false, eval e X.env) :: starEach es X.env := by rfl) : EVA X T (e :: es) (argsCons fa g) :=
  pa_mono (pa_cons ha hr hs) fun σ H Q ⟨Z, h⟩ => by
    refine ⟨Z, rz_mono (rv_bind PAr.mono h) fun Z R a S p v H1 Z1 s1 r1 a1 => ?_⟩
    obtain ⟨u, Z2, s2, o2, h2⟩ := p v H1 Z1 s1 r1 a1
    refine ⟨Z2, rz_mono (ra_bind PAr.mono h2) fun Z' R' as S' p' vs H2 Z3 s3 r3 a3 => ?_⟩
    obtain ⟨us, Z4, s4, o4, h4⟩ := p' vs H2 Z3 s3 r3 a3
    obtain ⟨R5, S5, rel, pf⟩ := rz_ret h4
    exact pf _ H2 Z4 (Sub.refl _) rel (.cons (o2.sub s4) o4)
/-- f(..), f built in, by its answer op -/
def callN (g : M (List AV)) (op : List PyData → Option OV) : M OV := g >>= fun as => opN op as
theorem tCB_of {r : List V → Hp → VK → Prop} {op : List PyData → Option OV} {h : M (List AV)} (hg : CallG X T r op) {Q : VK} (q : rdg X T (callN h op) σ H Q) : tCB r (rag X T h) σ H Q := by
  obtain ⟨Z, q⟩ := q
  refine ⟨Z, rz_mono (ra_bind POk.mono q) fun Z R as S p vs H1 Z1 s1 r1 a1 => ?_⟩
  obtain ⟨us, Z2, s2, o2, h2⟩ := p vs H1 Z1 s1 r1 a1
  obtain ⟨xs, o, R5, S5, sz, w, e, rel, pf⟩ := rz_opN h2 o2
  exact hg Z2 vs xs o σ H1 Q sz w e ⟨R5, S5, rel, pf⟩
theorem ev_callB {x : Str} {p : Pos} {id : String} {r : List V → Hp → VK → Prop} {op : List PyData → Option OV} {g : M (List AV)} (hc : CallR X (.builtin id) r) (ho : CallG X T r op) (hg : Gl X x) (hm : X.mg x = none) (hv : bootBuiltins x = some (.builtin id)) (ha : EVA X T (e :: es) g)
    (hn : x ≠ "__name__" := by decide) (hdb : (x == ("__debug__" : Str)) = false := by decide) (he : starEach (e :: es) X.env = (false, eval e X.env) :: starEach es X.env := by rfl) (hpl : (backTo pos (starEach es X.env)).any (·.1) = false := by rfl) : EV X T (.Call (.Name x p) (e :: es) [] pos) (callN g op) :=
  pe_mono (pe_callB hc hg hm hv ha hn hdb he hpl) fun σ H Q h => tCB_of ho h
theorem ev_callTy {x : Str} {p : Pos} {id : String} {r : List V → Hp → VK → Prop} {op : List PyData → Option OV} {g : M (List AV)} (hc : CallR X (.type id) r) (ho : CallG X T r op) (hg : Gl X x) (hm : X.mg x = none) (hv : bootBuiltins x = some (.type id)) (ha : EVA X T (e :: es) g)
    (hn : x ≠ "__name__" := by decide) (hdb : (x == ("__debug__" : Str)) = false := by decide) (he : starEach (e :: es) X.env = (false, eval e X.env) :: starEach es X.env := by rfl) (hpl : (backTo pos (starEach es X.env)).any (·.1) = false := by rfl) : EV X T (.Call (.Name x p) (e :: es) [] pos) (callN g op) :=
  pe_mono (pe_callTy hc hg hm hv ha hn hdb he hpl) fun σ H Q h => tCB_of ho h

/-! ### displays -/
/-- frozen arguments alone -/
def frs : List AV → Option (List PyData)
  | [] => some []
  | .fr x :: r => (frs r).map (x :: ·)
  | _ :: _ => none
theorem AvAll.frs {K : PySem.W.Frag} {vs : List V} {as : List AV} (h : AvAll K Z σ vs as) : ∀ {xs : List PyData}, frs as = some xs → FrAll K Z vs xs := by
  induction h with
  | nil => intro xs e; cases e; exact .nil
  | @cons v vs a as h0 h1 ih =>
    intro xs e
    cases a with
    | bw i => cases e
    | fr x =>
      unfold PL.frs at e
      cases q : PL.frs as with
      | none => rw [q] at e; cases e
      | some ys =>
        rw [q] at e
        cases e
        exact .cons h0 (ih q)
def mkTup (g : M (List AV)) : M OV := g >>= fun as => M.lift ((frs as).bind fun xs => if xs.length ≤ sizeLine then some (.d (.tuple xs)) else none)
def mkLst (own : Bool) (g : M (List AV)) : M OV := g >>= fun as => M.lift ((frs as).bind fun xs => if xs.length ≤ sizeLine then some (newL own xs) else none)
theorem rz_lift {α : Type} {P : Post α} {o : Option α} (h : rz X T P Z (M.lift o) σ H) : ∃ u R S, o = some u ∧ Rel X.K T Z R S σ H ∧ P Z R u S := by
  obtain ⟨R, S, r, S', W, rel, e, tk, p⟩ := h
  cases o with
  | none => cases e
  | some u => cases e; exact ⟨u, R, S, rfl, rel, p⟩
theorem ev_tup {k : Nat} {g : M (List AV)} (ha : EVA X T es g) : EV X T (.Tuple es k pos) (mkTup g) := pe_mono (pe_tup ha) fun σ H Q ⟨Z, h⟩ => by
  refine ⟨Z, rz_mono (ra_bind POk.mono h) fun Z R as S p vs H1 Z1 s1 r1 a1 => ?_⟩
  obtain ⟨us, Z2, s2, o2, h2⟩ := p vs H1 Z1 s1 r1 a1
  obtain ⟨o, R3, S3, e, rel, pf⟩ := rz_lift h2
  cases q : frs us with
  | none => rw [q] at e; cases e
  | some xs =>
    rw [q] at e
    have e : (if xs.length ≤ sizeLine then some (OV.d (.tuple xs)) else none) = some o := e
    split at e
    · cases e
      have fr := o2.frs q
      have hl := fr.length
      have fin : Fin X T Z2 (.d (.tuple xs)) σ H1 Q := ⟨R3, S3, rel, pf⟩
      exact ⟨by omega, fin.tup fr⟩
    · cases e
theorem ev_lst {own : Bool} {g : M (List AV)} (ha : EVA X T es g) : EV X T (.List es pos) (mkLst own g) := pe_mono (pe_lst ha) fun σ H Q ⟨Z, h⟩ => by
  refine ⟨Z, rz_mono (ra_bind POk.mono h) fun Z R as S p vs H1 Z1 s1 r1 a1 => ?_⟩
  obtain ⟨us, Z2, s2, o2, h2⟩ := p vs H1 Z1 s1 r1 a1
  obtain ⟨o, R3, S3, e, rel, pf⟩ := rz_lift h2
  cases q : frs us with
  | none => rw [q] at e; cases e
  | some xs =>
    rw [q] at e
    have e : (if xs.length ≤ sizeLine then some (newL own xs) else none) = some o := e
    split at e
    · cases e
      have fr := o2.frs q
      have hl := fr.length
      have fin : Fin X T Z2 (newL own xs) σ H1 Q := ⟨R3, S3, rel, pf⟩
      exact ⟨by omega, fin.lst fr⟩
    · cases e

/-! ### truth, and, or, not, if -/
def tru : PyData → Option Bool
  | .none => some false
  | .bool b => some b
  | .int i => some (i != 0)
  | .str s => if s.length ≤ sizeLine then some ((s.length : Int) != 0) else none
  | .list xs => some (!xs.isEmpty)
  | .tuple xs => some (!xs.isEmpty)
  | .dict _ => none
theorem Vw.tru {K : PySem.W.Frag} {v : V} {x : PyData} (h : Vw K Z H v x) (s : Sub Z H) {k : Bool} (e : tru x = some k) : TruV K v H k := by
  have emp : ∀ {vs : List V} {ds : List PyData}, FrAll K Z vs ds → ds.isEmpty = vs.isEmpty := fun r => by cases r <;> rfl
  cases x with
  | none => cases e; rw [(h.fr (by intros; simp)).nonV]; rfl
  | bool b => cases e; rw [(h.fr (by intros; simp)).blV]; rfl
  | int i => cases e; rw [(h.fr (by intros; simp)).intV]; rfl
  | str i =>
    rw [(h.fr (by intros; simp)).strV]
    have e : (if i.length ≤ sizeLine then some ((i.length : Int) != 0) else none) = some k := e
    split at e
    · cases e; exact ⟨by assumption, rfl⟩
    · cases e
  | list xs =>
    cases e
    obtain ⟨a, vs, rfl, ha, ra⟩ := h.list s
    exact .inl ⟨vs, .inl ha, by rw [emp ra]⟩
  | tuple xs =>
    cases e
    obtain ⟨a, vs, rfl, ha, ra⟩ := (h.fr (by intros; simp)).sqT s
    exact .inr (.inl ⟨vs, ha, by rw [emp ra]⟩)
  | dict _ => cases e
def truA (a : AV) : M Bool := fun S => match view S a with
  | some x => (tru x).map fun b => (.ok b, S)
  | none => none
theorem rz_truA {P : Post Bool} {u : AV} {v : V} (h : rz X T P Z (truA u) σ H) (h1 : AvOk X.K Z σ v u) : ∃ k R S, TruV X.K v H k ∧ Rel X.K T Z R S σ H ∧ P Z R k S := by
  obtain ⟨R, S, r, S', W, rel, e, tk, p⟩ := h
  unfold truA at e
  split at e
  · rename_i x e1
    cases q : tru x with
    | none => rw [q] at e; cases e
    | some k =>
      rw [q] at e
      cases e
      exact ⟨k, R, S, (rel.view h1 e1).tru rel.z q, rel, p⟩
  · cases e
def tstV (f : M AV) : M Bool := f >>= truA
theorem evt_val (ha : EVV X T a fa) (he : ∀ whole, isTrue a X.env whole = (do let v ← whole; standAt a.pos; holding [v] (truthy v)) := by intro _; rfl) : EVT X T a (tstV fa) := pt_mono (pt_truth ha he) fun σ H Q ⟨Z, h⟩ => by
  refine ⟨Z, rz_mono (rv_bind PBo.mono h) fun Z R a S p v H1 Z1 s1 r1 a1 => ?_⟩
  obtain ⟨u, Z2, s2, o2, h2⟩ := p v H1 Z1 s1 r1 a1
  obtain ⟨k, R3, S3, t, rel, pf⟩ := rz_truA h2 o2
  exact ⟨k, t, pf H1 Z2 (Sub.refl _) rel⟩
abbrev EVW (X : Cx) (T : List (Addr × Str)) (e : Expr) (f : M Bool) : Prop := PW X e (rtg X T f)
def andT (f g : M Bool) : M Bool := f >>= fun b => if b then g else M.ret false
def orT (f g : M Bool) : M Bool := f >>= fun b => if b then M.ret true else g
def notT (f : M Bool) : M Bool := f >>= fun b => M.ret (!b)
theorem evw_and1 (ha : EVT X T a ft) : EVW X T (.BoolOp .And [a] pos) ft := pw_and1 ha
theorem evw_or1 (ha : EVT X T a ft) : EVW X T (.BoolOp .Or [a] pos) ft := pw_or1 ha
theorem evw_and (ha : EVT X T a ft) (hb : EVW X T (.BoolOp .And (b :: rest) pos) fu) : EVW X T (.BoolOp .And (a :: b :: rest) pos) (andT ft fu) := pw_mono (pw_and ha hb) fun σ H Q ⟨Z, h⟩ => by
  refine ⟨Z, rz_mono (rt_bind PBo.mono h) fun Z R b S p H1 Z1 s1 r1 => ?_⟩
  obtain ⟨Z2, s2, h2⟩ := p H1 Z1 s1 r1
  cases b with
  | true => exact ⟨Z2, h2⟩
  | false =>
    obtain ⟨R3, S3, rel, pf⟩ := rz_ret h2
    exact pf H1 Z2 (Sub.refl _) rel
theorem evw_or (ha : EVT X T a ft) (hb : EVW X T (.BoolOp .Or (b :: rest) pos) fu) : EVW X T (.BoolOp .Or (a :: b :: rest) pos) (orT ft fu) := pw_mono (pw_or ha hb) fun σ H Q ⟨Z, h⟩ => by
  refine ⟨Z, rz_mono (rt_bind PBo.mono h) fun Z R b S p H1 Z1 s1 r1 => ?_⟩
  obtain ⟨Z2, s2, h2⟩ := p H1 Z1 s1 r1
  cases b with
  | false => exact ⟨Z2, h2⟩
  | true =>
    obtain ⟨R3, S3, rel, pf⟩ := rz_ret h2
    exact pf H1 Z2 (Sub.refl _) rel
theorem evt_w (h : EVW X T a ft) : EVT X T a ft := h.pt
theorem evt_not (ha : EVT X T a ft) : EVT X T (.UnaryOp .Not a pos) (notT ft) := pt_mono (pt_not ha) fun σ H Q ⟨Z, h⟩ => by
  refine ⟨Z, rz_mono (rt_bind PBo.mono h) fun Z R b S p H1 Z1 s1 r1 => ?_⟩
  obtain ⟨Z2, s2, h2⟩ := p H1 Z1 s1 r1
  obtain ⟨R3, S3, rel, pf⟩ := rz_ret h2
  exact pf H1 Z2 (Sub.refl _) rel
/-! .. as values -/
def truD : OV → Option (PyData × Bool)
  | .d x => (tru x).map fun b => (x, b)
  | _ => none
def andV (f g : M OV) : M OV := f >>= fun o => match truD o with
  | some (x, b) => if b then g else M.ret (.d x)
  | none => stuck
def orV (f g : M OV) : M OV := f >>= fun o => match truD o with
  | some (x, b) => if b then M.ret (.d x) else g
  | none => stuck
theorem rz_stuck {α : Type} {P : Post α} {C : Prop} (h : rz X T P Z stuck σ H) : C := by
  obtain ⟨R, S, r, S', W, rel, e, tk, p⟩ := h
  cases e
theorem truD_eq {o : OV} {x : PyData} {b : Bool} (h : truD o = some (x, b)) : o = .d x ∧ tru x = some b := by
  cases o with
  | d y =>
    have h : (tru y).map (fun b => (y, b)) = some (x, b) := h
    cases q : tru y with
    | none => rw [q] at h; cases h
    | some k => rw [q] at h; cases h; exact ⟨rfl, q⟩
  | _ => cases h
theorem ev_one {op : PySem.BoolOp} (h : EV X T a f) : EV X T (.BoolOp op [a] pos) f := pe_one h
theorem ev_and (ha : EV X T a f) (hb : EV X T (.BoolOp .And (b :: rest) pos) g) : EV X T (.BoolOp .And (a :: b :: rest) pos) (andV f g) := pe_mono (pe_andT ha hb) fun σ H Q ⟨Z, h⟩ => by
  refine ⟨Z, rz_mono (rd_bind POk.mono h) fun Z R o S p v H1 Z1 s1 r1 => ?_⟩
  obtain ⟨o', Z2, R2, S2, r, S', W, s2, rel, e, tk, q⟩ := p v H1 Z1 s1 r1
  cases q0 : truD o' with
  | none => rw [q0] at e; cases e
  | some xb =>
    obtain ⟨x, k⟩ := xb
    obtain ⟨rfl, tx⟩ := truD_eq q0
    rw [q0] at e
    obtain ⟨f1, r2⟩ := rel.popd
    refine ⟨k, Vw.tru (.inl f1) r2.z tx, ?_⟩
    cases k with
    | true => exact ⟨Z2, R2, S2, r, S', W, r2, e, tk, q⟩
    | false =>
      cases e
      exact q v H1 Z2 (Sub.refl _) rel
theorem ev_or (ha : EV X T a f) (hb : EV X T (.BoolOp .Or (b :: rest) pos) g) : EV X T (.BoolOp .Or (a :: b :: rest) pos) (orV f g) := pe_mono (pe_orT ha hb) fun σ H Q ⟨Z, h⟩ => by
  refine ⟨Z, rz_mono (rd_bind POk.mono h) fun Z R o S p v H1 Z1 s1 r1 => ?_⟩
  obtain ⟨o', Z2, R2, S2, r, S', W, s2, rel, e, tk, q⟩ := p v H1 Z1 s1 r1
  cases q0 : truD o' with
  | none => rw [q0] at e; cases e
  | some xb =>
    obtain ⟨x, k⟩ := xb
    obtain ⟨rfl, tx⟩ := truD_eq q0
    rw [q0] at e
    obtain ⟨f1, r2⟩ := rel.popd
    refine ⟨k, Vw.tru (.inl f1) r2.z tx, ?_⟩
    cases k with
    | false => exact ⟨Z2, R2, S2, r, S', W, r2, e, tk, q⟩
    | true =>
      cases e
      exact q v H1 Z2 (Sub.refl _) rel
def notV (f : M AV) : M OV := f >>= fun a => truA a >>= fun b => M.ret (.d (.bool (!b)))
theorem ev_not (ha : EVV X T a fa) : EV X T (.UnaryOp .Not a pos) (notV fa) := pe_mono (pe_notT ha) fun σ H Q ⟨Z, h⟩ => by
  refine ⟨Z, rz_mono (rv_bind POk.mono h) fun Z R a S p v H1 Z1 s1 r1 a1 => ?_⟩
  obtain ⟨u, Z2, s2, o2, h2⟩ := p v H1 Z1 s1 r1 a1
  obtain ⟨k, R3, S3, t, rel, pf⟩ := rz_truA (rz_mono (rt_bind POk.mono h2) fun Z R a S h => h) o2
  obtain ⟨Z4, s4, h4⟩ := pf H1 Z2 (Sub.refl _) rel
  obtain ⟨R5, S5, rel5, p5⟩ := rz_ret h4
  exact ⟨k, t, p5 (.bl (!k)) H1 Z4 (Sub.refl _) (rel5.push (.bl _))⟩
def ifE {α : Type} (c : M Bool) (f g : M α) : M α := c >>= fun b => if b then f else g
theorem ev_if (hc : EVT X T c ft) (ha : EV X T a f) (hb : EV X T b g) : EV X T (.IfExp c a b pos) (ifE ft f g) := pe_mono (pe_ifExp hc ha hb) fun σ H Q ⟨Z, h⟩ => by
  refine ⟨Z, rz_mono (rt_bind POk.mono h) fun Z R b S p H1 Z1 s1 r1 => ?_⟩
  obtain ⟨Z2, s2, h2⟩ := p H1 Z1 s1 r1
  cases b with
  | true => exact ⟨Z2, h2⟩
  | false => exact ⟨Z2, h2⟩

/-! ### a op1 b op2 c -/
def chain (fa fb fc : M AV) (g g' : PyData → PyData → Option OV) : M OV := fa >>= fun a => fb >>= fun b => op2 g a b >>= fun o => match isB o with
  | some true => fc >>= fun c => op2 g' b c
  | some false => cst (.bool false)
  | none => stuck
theorem tChain_of {r r' : R2} {g g' : PyData → PyData → Option OV} (hg : OpG X T r g) (hg' : OpG X T r' g') {Q : VK} (h : rdg X T (chain fa fb fc g g') σ H Q) : tChain r r' (rvg X T fa) (rvg X T fb) (rvg X T fc) σ H Q := by
  obtain ⟨Z, h⟩ := h
  refine ⟨Z, rz_mono (rv_bind POk.mono h) fun Z R a S p v H1 Z1 s1 r1 a1 => ?_⟩
  obtain ⟨u, Z2, s2, o2, h2⟩ := p v H1 Z1 s1 r1 a1
  refine ⟨Z2, rz_mono (rv_bind POk.mono h2) fun Z' R' b S' p' w H2 Z3 s3 r3 a3 => ?_⟩
  obtain ⟨u', Z4, s4, o4, h4⟩ := p' w H2 Z3 s3 r3 a3
  have h5 := rd_bind POk.mono h4
  obtain ⟨x, y, o, R5, S5, sz, w1, w2, e, rel, pf⟩ := rz_op2 h5 (o2.sub s4) o4
  refine hg Z4 v w x y o σ H2 _ sz w1 w2 e ⟨R5, S5, rel, fun z H3 Z5 s5 rel5 => ?_⟩
  obtain ⟨o', Z6, R6, S6, r, S', W, s6, rel6, e6, tk, q⟩ := pf z H3 Z5 s5 rel5
  cases q0 : isB o' with
  | none => rw [q0] at e6; cases e6
  | some k =>
    rw [q0] at e6
    have hz : o' = .d (.bool k) := by
      cases o' with
      | d x => cases x with
        | bool b => cases q0; rfl
        | _ => cases q0
      | _ => cases q0
    subst hz
    obtain ⟨f1, r6⟩ := rel6.popd
    cases f1
    refine ⟨k, rfl, ?_⟩
    cases k with
    | false =>
      cases e6
      exact q (.bl false) H3 Z6 (Sub.refl _) rel6
    | true =>
      have h7 : rz X T (POk X.K T σ Q) Z6 (fc >>= fun c => op2 g' u' c) σ H3 := ⟨R6, S6, r, S', W, r6, e6, tk, q⟩
      refine ⟨Z6, rz_mono (rv_bind POk.mono h7) fun Z R a S p v3 H4 Z7 s7 r7 a7 => ?_⟩
      obtain ⟨u3, Z8, s8, o8, h8⟩ := p v3 H4 Z7 s7 r7 a7
      obtain ⟨x', y', o9, R9, S9, sz9, w19, w29, e9, rel9, pf9⟩ := rz_op2 h8 ((o4.sub s6).sub s8) o8
      exact hg' Z8 w v3 x' y' o9 σ H4 Q sz9 w19 w29 e9 ⟨R9, S9, rel9, pf9⟩
theorem ev_chain {op op' : CmpOp} {r r' : R2} {g g' : PyData → PyData → Option OV} (ho : OpR X (compareOp op) r) (hg : OpG X T r g) (ho' : OpR X (compareOp op') r') (hg' : OpG X T r' g') (ha : EVV X T a fa) (hb : EVV X T b fb) (hc : EVV X T c fc)
    (hm : lastMarks [op, op'] [b, c] = false := by with_unfolding_all rfl) : EV X T (.Compare a [op, op'] [b, c] pos) (chain fa fb fc g g') := pe_mono (pe_chain ho ho' ha hb hc hm) fun σ H Q h => tChain_of hg hg' h
theorem evt_chain {op op' : CmpOp} {r r' : R2} {g g' : PyData → PyData → Option OV} (ho : OpR X (compareOp op) r) (hg : OpG X T r g) (ho' : OpR X (compareOp op') r') (hg' : OpG X T r' g') (ha : EVV X T a fa) (hb : EVV X T b fb) (hc : EVV X T c fc)
    (hm : lastMarks [op, op'] [b, c] = false := by with_unfolding_all rfl) : EVT X T (.Compare a [op, op'] [b, c] pos) (asB (chain fa fb fc g g')) := pt_mono (pt_chain ho ho' ha hb hc hm) fun σ H Q h => tChain_of hg hg' (asB_of h)
end
end PL

/-! PL5: frames, calls of defs, statements -/
namespace PL
open PySem PySem.Spec PyProof.Rows L2 LamX

/-! ### frames -/
def fr (R H : Hp) (L : List Addr) : Hp := fun a => if a ∈ L then H a else R a
section
variable {K : PySem.W.Frag} {T : List (Addr × Str)} {Z Z' R H H' : Hp} {S S1 S2 S' : SS} {σ σ1 σ2 σ' : L2.St} {A B L : List Addr}
theorem fr_in {a : Addr} (h : a ∈ L) : fr R H L a = H a := if_pos h
theorem fr_out {a : Addr} (h : a ∉ L) : fr R H L a = R a := if_neg h
/-- part of the roots put into the frame -/
theorem Rel.frame (r : Rel K T Z R S σ H) (o1 : OwnS K Z H σ1 S1 A) (o2 : OwnS K Z H σ2 S2 B) (n : (A ++ B).Nodup) (q : ∀ a ∈ A ++ B, Z a = none ∧ R a = none) : Rel K T Z (fr R H B) S1 σ1 H := by
  obtain ⟨nA, nB, dj⟩ := List.nodup_append.mp n
  have dj : ∀ a ∈ A, a ∉ B := fun a ha hb => dj a ha a hb rfl
  refine ⟨⟨A, o1, nA, fun a ha => ⟨(q a (List.mem_append_left _ ha)).1, ?_⟩⟩, r.z, fun a o e => ?_, r.zt, fun a ps e => ?_, fun a o e => ?_, r.tab⟩
  · rw [fr_out (dj a ha)]; exact (q a (List.mem_append_left _ ha)).2
  · by_cases h : a ∈ B
    · rw [fr_in h] at e; exact e
    · rw [fr_out h] at e; exact r.r a o e
  · by_cases h : a ∈ B
    · rw [fr_in h] at e
      obtain ⟨o, ho, hn⟩ := o2.at_ a h
      rw [e] at ho
      exact hn ps (Option.some.inj ho).symm
    · rw [fr_out h] at e; exact r.rt a ps e
  · by_cases h : a ∈ B
    · have := (q a (List.mem_append_right _ h)).1
      rw [e] at this; cases this
    · rw [fr_out h]; exact r.zr a o e
/-- .. and back -/
theorem Rel.unframe (r : Rel K T Z' (fr R H B) S1 σ1 H') (s : Sub Z Z') (o2 : OwnS K Z H σ2 S2 B) (nB : B.Nodup) (rB : ∀ a ∈ B, R a = none) :
    ∃ A', OwnS K Z' H' σ1 S1 A' ∧ OwnS K Z' H' σ2 S2 B ∧ (A' ++ B).Nodup ∧ (∀ a ∈ A' ++ B, Z' a = none ∧ R a = none) ∧
      ∀ {S3 : SS} {σ3 : L2.St} {C : List Addr}, OwnS K Z' H' σ3 S3 C → C.Nodup → (∀ a ∈ C, a ∈ A' ++ B) → Rel K T Z' R S3 σ3 H' := by
  obtain ⟨A', o1, n1, q1⟩ := r.own
  have hB : ∀ a ∈ B, H' a = H a := fun a ha => by
    obtain ⟨o, ho, _⟩ := o2.at_ a ha
    rw [ho]
    exact r.r a o (by rw [fr_in ha, ho])
  have hZ : ∀ a ∈ B, Z' a = none := fun a ha => by
    cases e : Z' a with
    | none => rfl
    | some o =>
      have := r.zr a o e
      rw [fr_in ha] at this
      obtain ⟨o, ho, _⟩ := o2.at_ a ha
      rw [ho] at this; cases this
  have dj : ∀ a ∈ A', a ∉ B := fun a ha hb => by
    have := (q1 a ha).2
    rw [fr_in hb] at this
    obtain ⟨o, ho, _⟩ := o2.at_ a hb
    rw [ho] at this; cases this
  have qA : ∀ a ∈ A' ++ B, Z' a = none ∧ R a = none := fun a ha => by
    rcases List.mem_append.mp ha with ha | ha
    · refine ⟨(q1 a ha).1, ?_⟩
      have := (q1 a ha).2
      rwa [fr_out (dj a ha)] at this
    · exact ⟨hZ a ha, rB a ha⟩
  refine ⟨A', o1, o2.mono s hB, List.nodup_append.mpr ⟨n1, nB, fun a ha b hb e => dj a ha (e ▸ hb)⟩, qA, fun {S3 σ3 C} o3 n3 q3 => ⟨⟨C, o3, n3, fun a ha => qA a (q3 a ha)⟩, r.z, fun a o e => ?_, r.zt, fun a ps e => ?_, fun a o e => ?_, r.tab⟩⟩
  · have nb : a ∉ B := fun h => by rw [rB a h] at e; cases e
    exact r.r a o (by rw [fr_out nb]; exact e)
  · have nb : a ∉ B := fun h => by rw [rB a h] at e; cases e
    exact r.rt a ps (by rw [fr_out nb]; exact e)
  · have h := r.zr a o e
    by_cases nb : a ∈ B
    · exact rB a nb
    · rwa [fr_out nb] at h

/-! ### arguments handed over -/
def takes : List AV → SS → Option (List OV × SS)
  | [], S => some ([], S)
  | .fr x :: as, S => (takes as S).map fun p => (.d x :: p.1, p.2)
  | .bw i :: as, S => match S[i]? with
    | some (some (.d x)) => (takes as S).map fun p => (.d x :: p.1, p.2)
    | some (some o) => (takes as (S.set i none)).map fun p => (o :: p.1, p.2)
    | _ => none
/-- what was lent comes back -/
def gives : List AV → SS → List OV → SS → SS
  | .fr _ :: as, S, _ :: os, S1 => gives as S os S1
  | .bw i :: as, S, o :: os, S1 => match S[i]? with
    | some (some (.d _)) => gives as S os S1
    | _ => gives as (S.set i none) os (S1.set i (some o))
  | _, _, _, S1 => S1
theorem perm_swap (A B C : List Addr) : (A ++ (B ++ C)).Perm (B ++ (A ++ C)) := by
  rw [← List.append_assoc, ← List.append_assoc]
  exact List.Perm.append_right _ List.perm_append_comm
theorem takes_own {as : List AV} {vs : List V} (h : AvAll K Z σ vs as) : ∀ {S S1 : SS} {os : List OV} {L : List Addr}, OwnS K Z H σ S L → takes as S = some (os, S1) →
    ∃ A B, OwnS K Z H (vs.map some) (os.map some) A ∧ OwnS K Z H σ S1 B ∧ L.Perm (A ++ B) := by
  induction h with
  | nil => intro S S1 os L o e; cases e; exact ⟨[], L, .emp, o, List.Perm.refl _⟩
  | @cons v vs a as h0 h1 ih =>
    intro S S1 os L o e
    cases a with
    | fr x =>
      unfold takes at e
      cases q : takes as S with
      | none => rw [q] at e; cases e
      | some p =>
        rw [q] at e
        cases e
        obtain ⟨A, B, o1, o2, pm⟩ := ih o q
        exact ⟨[] ++ A, B, .own (.d h0) o1, o2, pm⟩
    | bw i =>
      have h0 : σ[i]? = some (some v) := h0
      have e : (match S[i]? with
        | some (some (.d x)) => (takes as S).map fun p => (OV.d x :: p.1, p.2)
        | some (some o) => (takes as (S.set i none)).map fun p => (o :: p.1, p.2)
        | _ => none) = some (os, S1) := e
      cases q0 : S[i]? with
      | none => rw [q0] at e; cases e
      | some oo =>
        cases oo with
        | none => rw [q0] at e; cases e
        | some ov =>
          obtain ⟨v', Li, Lr, g1, g2, g3, g4⟩ := o.get q0
          rw [h0] at g1
          cases g1
          rw [q0] at e
          have other : (takes as (S.set i none)).map (fun p => (ov :: p.1, p.2)) = some (os, S1) → ∃ A B, OwnS K Z H ((v :: vs).map some) (os.map some) A ∧ OwnS K Z H σ S1 B ∧ L.Perm (A ++ B) := fun e => by
            cases q : takes as (S.set i none) with
            | none => rw [q] at e; cases e
            | some p =>
              rw [q] at e
              cases e
              obtain ⟨A, B, o1, o2, pm⟩ := ih g3 q
              refine ⟨Li ++ A, B, .own g2 o1, o2, g4.trans ?_⟩
              rw [List.append_assoc]
              exact List.Perm.append_left Li pm
          cases ov with
          | d x =>
            have e : (takes as S).map (fun p => (OV.d x :: p.1, p.2)) = some (os, S1) := e
            cases q : takes as S with
            | none => rw [q] at e; cases e
            | some p =>
              rw [q] at e
              cases e
              obtain ⟨A, B, o1, o2, pm⟩ := ih o q
              exact ⟨[] ++ A, B, .own (.d g2.frz.2) o1, o2, pm⟩
          | lst xs => exact other e
          | dct xs => exact other e
          | ins C fs => exact other e
theorem set_same {i : Nat} {v : V} (e : σ[i]? = some (some v)) : σ.set i (some v) = σ := by
  apply List.ext_getElem?
  intro j
  by_cases hj : i = j
  · subst hj
    rw [List.getElem?_set_self (List.getElem?_eq_some_iff.mp e).1, e]
  · rw [List.getElem?_set_ne hj]
theorem gives_own {as : List AV} {vs : List V} (h : AvAll K Z σ vs as) : ∀ {S S1 : SS} {os : List OV} {A B : List Addr}, S.length = S1.length → OwnS K Z' H' (vs.map some) (os.map some) A → OwnS K Z' H' σ S1 B →
    ∃ C D, OwnS K Z' H' σ (gives as S os S1) C ∧ (A ++ B).Perm (D ++ C) := by
  induction h with
  | nil =>
    intro S S1 os A B hl o1 o2
    cases os with
    | nil => exact ⟨B, A, o2, List.Perm.refl _⟩
    | cons o os => cases o1
  | @cons v vs a as h0 h1 ih =>
    intro S S1 os A B hl o1 o2
    cases os with
    | nil => cases o1
    | cons o os =>
      have o1 : OwnS K Z' H' (some v :: vs.map some) (some o :: os.map some) A := o1
      cases o1 with
      | @own _ _ _ _ L1 M1 g1 g2 =>
        have keep : ∃ C D, OwnS K Z' H' σ (gives as S os S1) C ∧ (L1 ++ M1 ++ B).Perm (D ++ C) := by
          obtain ⟨C, D, o3, pm⟩ := ih hl g2 o2
          refine ⟨C, L1 ++ D, o3, ?_⟩
          rw [List.append_assoc, List.append_assoc]
          exact List.Perm.append_left L1 pm
        cases a with
        | fr x => exact keep
        | bw i =>
          have h0 : σ[i]? = some (some v) := h0
          have back : ∃ C D, OwnS K Z' H' σ (gives as (S.set i none) os (S1.set i (some o))) C ∧ (L1 ++ M1 ++ B).Perm (D ++ C) := by
            have hi : i < S1.length := by
              rw [← o2.length]
              exact (List.getElem?_eq_some_iff.mp h0).1
            obtain ⟨M, o3, D1, pm1⟩ := o2.put (i := i) g1 hi
            rw [set_same h0] at o3
            obtain ⟨C, D, o4, pm2⟩ := ih (S := S.set i none) (by simpa using hl) g2 o3
            refine ⟨C, D1 ++ D, o4, ?_⟩
            have p1 : (L1 ++ M1 ++ B).Perm (M1 ++ (L1 ++ B)) := by rw [List.append_assoc]; exact perm_swap _ _ _
            have p2 : (M1 ++ (L1 ++ B)).Perm (M1 ++ (D1 ++ M)) := List.Perm.append_left M1 pm1
            have p3 : (M1 ++ (D1 ++ M)).Perm (D1 ++ (M1 ++ M)) := perm_swap _ _ _
            rw [List.append_assoc D1]
            exact p1.trans (p2.trans (p3.trans (List.Perm.append_left D1 pm2)))
          show ∃ C D, OwnS K Z' H' σ (match S[i]? with
            | some (some (.d _)) => gives as S os S1
            | _ => gives as (S.set i none) os (S1.set i (some o))) C ∧ _
          split
          · exact keep
          · exact back
end

/-! ### defs -/
abbrev DF : Type := List OV → Option (Except PyData OV × List OV)
/-- the promise: g tells what comes of the arguments, and what they hold then -/
def spF (K : PySem.W.Frag) (T : List (Addr × Str)) (n : Nat) (g : DF) : Sp := fun vs H Q E => vs.length = n ∧ ∃ Z R os r os', Rel K T Z R (os.map some) (vs.map some) H ∧ g os = some (r, os') ∧
  match r with
  | .ok o => ∀ v H' Z', Sub Z Z' → Rel K T Z' R (some o :: os'.map some) (some v :: vs.map some) H' → Q v H'
  | .error x => ∀ cls d H' Z', Sub Z Z' → Rel K T Z' R (os'.map some) (vs.map some) H' → IsX K Z' cls d x → E cls d H'
abbrev DefOk (P : Program) (w : World) (K : PySem.W.Frag) (T : List (Addr × Str)) (mg : Str → Option Value) (base : Heap) (k : Nat) (f : Addr) (fd : FuncData) (ps : List Str) (g : DF) : Prop :=
  FnOk P w K mg base (L2.CX P w) k f fd ps (spF K T ps.length g)
theorem DefOk.imp {P : Program} {w : World} {K : PySem.W.Frag} {T : List (Addr × Str)} {mg : Str → Option Value} {base : Heap} {k : Nat} {f : Addr} {fd : FuncData} {ps : List Str} {g g' : DF} (F : DefOk P w K T mg base k f fd ps g)
    (h : ∀ os p, g' os = some p → g os = some p) : DefOk P w K T mg base k f fd ps g' := FnOk.imp F fun vs H Q E ⟨hl, Z, R, os, r, os', rel, e, q⟩ => ⟨hl, Z, R, os, r, os', rel, h _ _ e, q⟩
theorem AvAll.length {K : PySem.W.Frag} {Z : Hp} {σ : L2.St} {vs : List V} {as : List AV} (h : AvAll K Z σ vs as) : vs.length = as.length := by
  induction h with
  | nil => rfl
  | cons _ _ ih => rw [List.length_cons, List.length_cons, ih]
def handF (g : DF) (as : List AV) : M OV := fun S => match takes as S with
  | some (os, S1) => match g os with
    | some (r, os') => some (r, gives as S os' S1)
    | none => none
  | none => none
def callF (n : Nat) (g : DF) (fa : M (List AV)) : M OV := fa >>= fun as => if as.length = n then handF g as else stuck
theorem takes_len {as : List AV} : ∀ {S S1 : SS} {os : List OV}, takes as S = some (os, S1) → S.length = S1.length ∧ os.length = as.length := by
  induction as with
  | nil => intro S S1 os e; cases e; exact ⟨rfl, rfl⟩
  | cons a as ih =>
    intro S S1 os e
    have step : ∀ {S0 : SS} {o : OV}, (takes as S0).map (fun p => (o :: p.1, p.2)) = some (os, S1) → S0.length = S.length → S.length = S1.length ∧ os.length = (a :: as).length := fun {S0 o} e hl => by
      cases q : takes as S0 with
      | none => rw [q] at e; cases e
      | some p =>
        rw [q] at e
        cases e
        obtain ⟨h1, h2⟩ := ih q
        exact ⟨by omega, by simp [h2]⟩
    cases a with
    | fr x => exact step e rfl
    | bw i =>
      unfold takes at e
      split at e
      · exact step e rfl
      · exact step e (by simp)
      · cases e
section
variable {X : Cx} {T : List (Addr × Str)} {e : Expr} {es : List Expr} {pos p : Pos} {Z R : Hp} {S : SS} {σ : L2.St} {H : Hp}
theorem call_ok {k : Nat} {f : Addr} {fd : FuncData} {ps : List Str} {g : DF} {pins : List (Addr × Obj)} {s1 : Shared} {us : List Value} {vs : List V} {as : List AV} {S' : SS} {r : Except PyData OV} {W : WX} {Q : VK}
    (F : DefOk X.prog X.w X.K T X.mg X.base k f fd ps g) (hr : Room k X.A) (hb : Binds X.K fd ps []) (I : Inv X pins σ H s1) (rv : Vals vs us) (hn : as.length = ps.length) (rel : Rel X.K T Z R S σ H) (av : AvAll X.K Z σ vs as)
    (e : handF g as S = some (r, S')) (tk : Takes X W)
    (q : match r with
      | .ok o => POk X.K T σ Q Z R o S'
      | .error x => ExPost X.K T σ Z R W x S') : wpAny (model X.prog X.w) X.A (call (.ref f) us) (EP X pins σ Q) X.xe s1 := by
  unfold handF at e
  cases et : takes as S with
  | none => rw [et] at e; cases e
  | some t =>
    obtain ⟨os, S1⟩ := t
    rw [et] at e
    cases eg : g os with
    | none => simp only [eg] at e; cases e
    | some t2 =>
      obtain ⟨r2, os'⟩ := t2
      simp only [eg, Option.some.injEq, Prod.mk.injEq] at e
      obtain ⟨rfl, rfl⟩ := e
      obtain ⟨L, ow, n, qz⟩ := id rel.own
      obtain ⟨A, B, o1, o2, pm⟩ := takes_own av ow et
      obtain ⟨tl, tl2⟩ := takes_len et
      have n2 := (pm.nodup_iff).mp n
      have qAB : ∀ a ∈ A ++ B, Z a = none ∧ R a = none := fun a ha => qz a (pm.mem_iff.mpr ha)
      have rel1 : Rel X.K T Z (fr R H B) (os.map some) (vs.map some) H := rel.frame o1 o2 n2 qAB
      have nB : B.Nodup := (List.nodup_append.mp n2).2.1
      have rB : ∀ a ∈ B, R a = none := fun a ha => (qAB a (List.mem_append_right _ ha)).2
      have hvl : vs.length = as.length := av.length
      refine run_fnSD (E := fun _ cls d H' => W cls d σ H') F hr hb .nil (fun pins' H2 s2 e2 s' I2 c2 => tk _ _ (XE.of_call I2 (fun _ _ _ h => h) c2)) I rv ?_
      rw [List.append_nil]
      refine ⟨hvl.trans hn, Z, fr R H B, os, r2, os', rel1, eg, ?_⟩
      cases r2 with
      | ok o =>
        intro v H' Z' s' rel2
        obtain ⟨A', p1, p2, p3, p4, p5⟩ := rel2.unframe s' o2 nB rB
        cases p1 with
        | @own _ _ _ _ Lo Lp w1 w2 =>
          obtain ⟨C, D, g1, g2⟩ := gives_own (S := S) av tl w2 p2
          have pmC : (Lo ++ Lp ++ B).Perm (D ++ (Lo ++ C)) := by
            rw [List.append_assoc]
            exact (List.Perm.append_left Lo g2).trans (perm_swap _ _ _)
          obtain ⟨n3, n4⟩ := nodup_sub ⟨D, pmC⟩ p3
          exact q v H' Z' s' (p5 (.own w1 g1) n3 n4)
      | error x =>
        intro cls d H' Z' s' rel2 ix
        obtain ⟨A', p1, p2, p3, p4, p5⟩ := rel2.unframe s' o2 nB rB
        obtain ⟨C, D, g1, g2⟩ := gives_own (S := S) av tl p1 p2
        obtain ⟨n3, n4⟩ := nodup_sub ⟨D, g2⟩ p3
        exact q cls d H' Z' s' (p5 g1 n3 n4) ix
theorem ev_call {k : Nat} {f : Addr} {fd : FuncData} {ps : List Str} {g : DF} {x : Str} {fa : M (List AV)} (F : DefOk X.prog X.w X.K T X.mg X.base k f fd ps g) (hr : Room k X.A) (hg : Gl X x) (hm : X.mg x = some (.ref f)) (hk : PySem.W.keepIn X.K (.ref f) = true) (hb : Binds X.K fd ps [])
    (ha : EVA X T (e :: es) fa) (hdb : (x == ("__debug__" : Str)) = false := by decide) (he : starEach (e :: es) X.env = (false, eval e X.env) :: starEach es X.env := by rfl) (hpl : (backTo pos (starEach es X.env)).any (·.1) = false := by rfl) : EV X T (.Call (.Name x p) (e :: es) [] pos) (callF ps.length g fa) := by
  refine ⟨fun pins s σ H Q I ⟨Z, h⟩ => ?_⟩
  refine wpAny_Call_Name_kw (ld_glob I hg hm ?_ hdb)
  obtain ⟨R, S, r, S', W, rel, er, tk, pq⟩ := h
  rcases bind_eq er with ⟨y, ef, rfl⟩ | ⟨as, S1, ef, eg⟩
  · refine PySem.W.callWith_K (h₀ := X.base) I.ok.mod.kin hk (thn (ha.run pos pins s σ H (fun _ _ => False) I ⟨Z, R, S, _, _, W, rel, ef, tk, pq⟩) fun us s1 ⟨vs, H1, I1, r, q⟩ => q.elim) he hpl
  · refine PySem.W.callWith_K (h₀ := X.base) I.ok.mod.kin hk (thn (ha.run pos pins s σ H (fun vs H1 => ∃ Z1, Sub Z Z1 ∧ Rel X.K T Z1 R S1 σ H1 ∧ AvAll X.K Z1 σ vs as) I ⟨Z, R, S, _, _, W, rel, ef, tk, fun vs H1 Z1 s1 r1 a1 => ⟨Z1, s1, r1, a1⟩⟩) fun us s1 ⟨vs, H1, I1, rv, Z1, sb, rel1, av⟩ => ⟨I1.kIn, ?_⟩) he hpl
    have eg : (if as.length = ps.length then handF g as else stuck) S1 = some (r, S') := eg
    split at eg
    · rename_i hn
      refine call_ok F hr hb I1 rv hn rel1 av eg tk ?_
      cases r with
      | ok o => exact POk.mono _ _ _ _ _ sb pq
      | error x => exact ExPost.mono sb pq
    · cases eg
theorem ev_call0 {k : Nat} {f : Addr} {fd : FuncData} {g : DF} {x : Str} (F : DefOk X.prog X.w X.K T X.mg X.base k f fd [] g) (hr : Room k X.A) (hg : Gl X x) (hm : X.mg x = some (.ref f)) (hk : PySem.W.keepIn X.K (.ref f) = true) (hb : Binds X.K fd [] [])
    (hdb : (x == ("__debug__" : Str)) = false := by decide) : EV X T (.Call (.Name x p) [] [] pos) (callF 0 g argsNil) := by
  refine ⟨fun pins s σ H Q I ⟨Z, h⟩ => ?_⟩
  refine wpAny_Call_Name_kw (ld_glob I hg hm ?_ hdb)
  obtain ⟨R, S, r, S', W, rel, er, tk, pq⟩ := h
  refine PySem.W.callWith_K0 I.kIn hk (call_ok (us := []) (vs := []) (as := []) F hr hb I .nil rfl rel .nil er tk ?_)
  cases r with
  | ok o => exact pq
  | error x => exact pq
end
end PL

/-! PL6: statements -/
namespace PL
open PySem PySem.Spec PyProof.Rows L2 LamX

inductive Fl where
  | nx | bk | ct
  | ret (o : OV)
  | exc (x : PyData)
abbrev SM : Type := SS → Option (Fl × SS)
/-- the slots mp hold what they held -/
def Pin (mp : List Nat) (P : Nat → V) (σ : L2.St) : Prop := ∀ i ∈ mp, σ[i]? = some (some (P i))
def PFl (K : PySem.W.Frag) (T : List (Addr × Str)) (mp : List Nat) (P : Nat → V) (D : Ends) (W : WX) (Z R : Hp) (S : SS) : Fl → Prop
  | .nx => ∀ σ' H' Z', Sub Z Z' → Rel K T Z' R S σ' H' → Pin mp P σ' → D.nx σ' H'
  | .bk => ∀ σ' H' Z', Sub Z Z' → Rel K T Z' R S σ' H' → Pin mp P σ' → D.bk σ' H'
  | .ct => ∀ σ' H' Z', Sub Z Z' → Rel K T Z' R S σ' H' → Pin mp P σ' → D.ct σ' H'
  | .ret o => ∀ v σ' H' Z', Sub Z Z' → Rel K T Z' R (some o :: S) (some v :: σ') H' → Pin mp P σ' → D.rt v H'
  | .exc x => ∀ cls d σ' H' Z', Sub Z Z' → Rel K T Z' R S σ' H' → Pin mp P σ' → IsX K Z' cls d x → W cls d σ' H'
def rsz (X : Cx) (T : List (Addr × Str)) (mp : List Nat) (Z : Hp) (f : SM) : TS := fun D σ H => ∃ R S r S' W P, Rel X.K T Z R S σ H ∧ Pin mp P σ ∧ f S = some (r, S') ∧ Takes X W ∧ PFl X.K T mp P D W Z R S' r
def rsg (X : Cx) (T : List (Addr × Str)) (mp : List Nat) (f : SM) : TS := fun D σ H => ∃ Z, rsz X T mp Z f D σ H
abbrev SV (X : Cx) (T : List (Addr × Str)) (mp : List Nat) (st : Stmt) (f : SM) : Prop := PS X st (rsg X T mp f)
abbrev SVs (X : Cx) (T : List (Addr × Str)) (mp : List Nat) (st : List Stmt) (f : SM) : Prop := PSs X st (rsg X T mp f)
theorem PFl.sub {K : PySem.W.Frag} {T : List (Addr × Str)} {mp : List Nat} {P : Nat → V} {D : Ends} {W : WX} {Z Z' R : Hp} {S : SS} {r : Fl} (s : Sub Z Z') (h : PFl K T mp P D W Z R S r) : PFl K T mp P D W Z' R S r := by
  cases r with
  | nx => exact fun σ' H' Z'' s' => h σ' H' Z'' (s.trans s')
  | bk => exact fun σ' H' Z'' s' => h σ' H' Z'' (s.trans s')
  | ct => exact fun σ' H' Z'' s' => h σ' H' Z'' (s.trans s')
  | ret o => exact fun v σ' H' Z'' s' => h v σ' H' Z'' (s.trans s')
  | exc x => exact fun c d σ' H' Z'' s' => h c d σ' H' Z'' (s.trans s')

def seqS (f g : SM) : SM := fun S => match f S with
  | some (.nx, S1) => g S1
  | r => r
def skipS : SM := fun S => some (.nx, S)
/-- an expression, then what is done of its value -/
def doE {α : Type} (f : M α) (g : α → SM) : SM := fun S => match f S with
  | some (.ok o, S1) => g o S1
  | some (.error x, S1) => some (.exc x, S1)
  | none => none
section
variable {X : Cx} {T : List (Addr × Str)} {mp : List Nat} {st : Stmt} {sts rest a b : List Stmt} {e c : Expr} {f g h : SM} {fe : M OV} {ft : M Bool} {pos : Pos}
theorem rsz_mono {D D' : Ends} {Z : Hp} {σ : L2.St} {H : Hp} (h : rsz X T mp Z f D σ H) (h1 : ∀ σ H, D.nx σ H → D'.nx σ H) (h2 : ∀ σ H, D.bk σ H → D'.bk σ H) (h3 : ∀ σ H, D.ct σ H → D'.ct σ H) (h4 : ∀ v H, D.rt v H → D'.rt v H) : rsz X T mp Z f D' σ H := by
  obtain ⟨R, S, r, S', W, P, rel, pn, e, tk, q⟩ := h
  refine ⟨R, S, r, S', W, P, rel, pn, e, tk, ?_⟩
  cases r with
  | nx => exact fun σ' H' Z' s r p => h1 _ _ (q σ' H' Z' s r p)
  | bk => exact fun σ' H' Z' s r p => h2 _ _ (q σ' H' Z' s r p)
  | ct => exact fun σ' H' Z' s r p => h3 _ _ (q σ' H' Z' s r p)
  | ret o => exact fun v σ' H' Z' s r p => h4 _ _ (q v σ' H' Z' s r p)
  | exc x => exact q
theorem svs_nil : SVs X T mp [] skipS := pss_mono pss_nil fun D σ H ⟨Z, R, S, r, S', W, P, rel, pn, e, tk, q⟩ => by
  cases e
  exact q σ H Z (Sub.refl _) rel pn
theorem svs_one (h1 : SV X T mp st f) : SVs X T mp [st] f := pss_one h1
theorem svs_cons (h1 : SV X T mp st f) (h2 : SVs X T mp rest g) : SVs X T mp (st :: rest) (seqS f g) := pss_mono (pss_cons h1 h2) fun D σ H ⟨Z, R, S, r, S', W, P, rel, pn, e, tk, q⟩ => by
  unfold seqS at e
  split at e
  · rename_i S1 e1
    refine ⟨Z, R, S, _, _, W, P, rel, pn, e1, tk, fun σ' H' Z' s rel' pn' => ?_⟩
    exact ⟨Z', R, S1, r, S', W, P, rel', pn', e, tk, PFl.sub s q⟩
  · rename_i r' hr
    refine ⟨Z, R, S, _, _, W, P, rel, pn, e, tk, ?_⟩
    cases r with
    | nx => exact absurd e (hr S')
    | bk => exact q
    | ct => exact q
    | ret o => exact q
    | exc x => exact q
theorem sv_pass : SV X T mp (.Pass pos) skipS := ps_mono ps_pass fun D σ H ⟨Z, R, S, r, S', W, P, rel, pn, e, tk, q⟩ => by
  cases e
  exact q σ H Z (Sub.refl _) rel pn
def bkS : SM := fun S => some (.bk, S)
def ctS : SM := fun S => some (.ct, S)
theorem sv_break : SV X T mp (.Break pos) bkS := ps_mono ps_break fun D σ H ⟨Z, R, S, r, S', W, P, rel, pn, e, tk, q⟩ => by
  cases e
  exact q σ H Z (Sub.refl _) rel pn
theorem sv_continue : SV X T mp (.Continue pos) ctS := ps_mono ps_continue fun D σ H ⟨Z, R, S, r, S', W, P, rel, pn, e, tk, q⟩ => by
  cases e
  exact q σ H Z (Sub.refl _) rel pn
theorem sv_doc {x : Str} {j : Nat} {pos' : Pos} : SV X T mp (.Expr (.Constant (.str x) j pos) pos') skipS := ps_mono ps_doc fun D σ H ⟨Z, R, S, r, S', W, P, rel, pn, e, tk, q⟩ => by
  cases e
  exact q σ H Z (Sub.refl _) rel pn
/-- the expression's part of a statement -/
theorem doE_of {D : Ends} {σ : L2.St} {H : Hp} {g : OV → SM} (h : rsg X T mp (doE fe g) D σ H) :
    rdg X T fe σ H fun v H1 => ∃ o Z1 R S1 r S' W P, Rel X.K T Z1 R (some o :: S1) (some v :: σ) H1 ∧ Pin mp P σ ∧ g o S1 = some (r, S') ∧ Takes X W ∧ PFl X.K T mp P D W Z1 R S' r := by
  obtain ⟨Z, R, S, r, S', W, P, rel, pn, e, tk, q⟩ := h
  unfold doE at e
  split at e
  · rename_i o S1 e1
    exact ⟨Z, R, S, _, _, W, rel, e1, tk, fun v H' Z' s rel' => ⟨o, Z', R, S1, r, S', W, P, rel', pn, e, tk, PFl.sub s q⟩⟩
  · rename_i x S1 e1
    cases e
    exact ⟨Z, R, S, _, _, W, rel, e1, tk, fun cls d H' Z' s rel' ix => q cls d σ H' Z' s rel' pn ix⟩
  · cases e

theorem doT_of {D : Ends} {σ : L2.St} {H : Hp} {g : Bool → SM} (h : rsg X T mp (doE ft g) D σ H) :
    rtg X T ft σ H fun b H1 => rsg X T mp (g b) D σ H1 := by
  obtain ⟨Z, R, S, r, S', W, P, rel, pn, e, tk, q⟩ := h
  unfold doE at e
  split at e
  · rename_i o S1 e1
    exact ⟨Z, R, S, _, _, W, rel, e1, tk, fun H' Z' s rel' => ⟨Z', R, S1, r, S', W, P, rel', pn, e, tk, PFl.sub s q⟩⟩
  · rename_i x S1 e1
    cases e
    exact ⟨Z, R, S, _, _, W, rel, e1, tk, fun cls d H' Z' s rel' ix => q cls d σ H' Z' s rel' pn ix⟩
  · cases e
def exprS (fe : M OV) : SM := doE fe fun _ => skipS
theorem sv_expr (he : EV X T e fe) (hs : swapsWith e none pos.line X.env = pure false := by rfl) : SV X T mp (.Expr e pos) (exprS fe) := ps_mono (ps_expr he hs) fun D σ H h => by
  obtain ⟨Z, h⟩ := doE_of h
  refine ⟨Z, rz_mono h fun Z R o S p v H1 Z1 s1 r1 => ?_⟩
  obtain ⟨o, Z1, R, S1, r, S', W, P, rel, pn, e, tk, q⟩ := p v H1 Z1 s1 r1
  cases e
  exact q σ H1 Z1 (Sub.refl _) rel.pop pn
def retS (fe : M OV) : SM := doE fe fun o S => some (.ret o, S)
theorem sv_ret (he : EV X T e fe) : SV X T mp (.Return (some e) pos) (retS fe) := ps_mono (ps_ret he) fun D σ H h => by
  obtain ⟨Z, h⟩ := doE_of h
  refine ⟨Z, rz_mono h fun Z R o S p v H1 Z1 s1 r1 => ?_⟩
  obtain ⟨o, Z1, R, S1, r, S', W, P, rel, pn, e, tk, q⟩ := p v H1 Z1 s1 r1
  cases e
  exact q v σ H1 Z1 (Sub.refl _) rel pn
def retN : SM := fun S => some (.ret (.d .none), S)
theorem sv_retN : SV X T mp (.Return none pos) retN := ps_mono ps_retN fun D σ H ⟨Z, R, S, r, S', W, P, rel, pn, e, tk, q⟩ => by
  cases e
  exact q .non σ H Z (Sub.refl _) (rel.push .non) pn
def ifS (ft : M Bool) (f g : SM) : SM := doE ft fun b => if b then f else g
theorem sv_if (hc : EVT X T c ft) (ha : SVs X T mp a f) (hb : SVs X T mp b g) : SV X T mp (.If c a b pos) (ifS ft f g) := ps_mono (ps_if hc ha hb) fun D σ H h => by
  obtain ⟨Z, h⟩ := doT_of h
  refine ⟨Z, rz_mono h fun Z R b S p H1 Z1 s1 r1 => ?_⟩
  have q := p H1 Z1 s1 r1
  cases b with
  | true => exact q
  | false => exact q
/-! ### stores -/
theorem Pin.set {P : Nat → V} {σ : L2.St} (p : Pin mp P σ) {i : Nat} {u : Option V} (h : i ∉ mp) : Pin mp P (σ.set i u) := fun j hj => by
  rw [List.getElem?_set_ne (by intro z; subst z; exact h hj)]
  exact p j hj
def putS (i : Nat) (o : OV) : SM := fun S => if i < S.length then some (.nx, S.set i (some o)) else none
def setS (i : Nat) (fe : M OV) : SM := doE fe (putS i)
theorem putS_of {D : Ends} {v : V} {o : OV} {Z R : Hp} {S1 S' : SS} {r : Fl} {W : WX} {P : Nat → V} {σ : L2.St} {H1 : Hp} {i : Nat} (rel : Rel X.K T Z R (some o :: S1) (some v :: σ) H1) (pn : Pin mp P σ) (e : putS i o S1 = some (r, S')) (q : PFl X.K T mp P D W Z R S' r) (hm : i ∉ mp) : D.nx (σ.set i (some v)) H1 := by
  unfold putS at e
  split at e
  · cases e
    exact q _ H1 Z (Sub.refl _) (rel.set (by assumption)) (pn.set hm)
  · cases e
theorem sv_set {i : Nat} {x : Str} {pos' : Pos} (hN : X.N.Nodup) (hi : X.N[i]? = some x) (hx : Loc X.env.scope x) (he : EV X T e fe) (hm : i ∉ mp := by decide) (hs : swapsWith e (some (.Name x pos')) pos.line X.env = pure false := by rfl)
    (hf : X.fn x = true ∨ X.env.scope.names.lookup x = some .local := by first | exact .inl rfl | exact .inr rfl | assumption) : SV X T mp (.Assign [.Name x pos'] e pos) (setS i fe) := ps_mono (ps_set hN hi hx he hs hf) fun D σ H h => by
  obtain ⟨Z, h⟩ := doE_of h
  refine ⟨Z, rz_mono h fun Z R o S p v H1 Z1 s1 r1 => ?_⟩
  obtain ⟨o, Z1, R, S1, r, S', W, P, rel, pn, e, tk, q⟩ := p v H1 Z1 s1 r1
  exact putS_of rel pn e q hm
/-! targets -/
/-- the slots but ws are as they were -/
def Off (ws : List Nat) (σ σ' : L2.St) : Prop := σ'.length = σ.length ∧ ∀ j, j ∉ ws → σ'[j]? = σ[j]?
theorem Pin.off {P : Nat → V} {σ σ' : L2.St} {ws : List Nat} (p : Pin mp P σ) (o : Off ws σ σ') (h : ∀ i ∈ mp, i ∉ ws) : Pin mp P σ' := fun j hj => (o.2 j (h j hj)).trans (p j hj)
def rgd (X : Cx) (T : List (Addr × Str)) (ws : List Nat) (g : PyData → SS → Option SS) : TG := fun v σ H Q => ∃ x Z R S S', Fr X.K Z v x ∧ Rel X.K T Z R S σ H ∧ g x S = some S' ∧ ∀ σ', Rel X.K T Z R S' σ' H → Off ws σ σ' → Q σ' H
def rgs (X : Cx) (T : List (Addr × Str)) (ws : List Nat) (g : List PyData → SS → Option SS) : TGs := fun vs σ H Q => ∃ xs Z R S S', FrAll X.K Z vs xs ∧ Rel X.K T Z R S σ H ∧ g xs S = some S' ∧ ∀ σ', Rel X.K T Z R S' σ' H → Off ws σ σ' → Q σ' H
abbrev GV (X : Cx) (T : List (Addr × Str)) (ws : List Nat) (tg : Expr) (g : PyData → SS → Option SS) : Prop := PG X tg (rgd X T ws g)
abbrev GVs (X : Cx) (T : List (Addr × Str)) (ws : List Nat) (tg : List Expr) (g : List PyData → SS → Option SS) : Prop := PGs X tg (rgs X T ws g)
theorem pg_mono {tg : Expr} {t t' : TG} (h : PG X tg t) (i : ∀ v σ H Q, t' v σ H Q → t v σ H Q) : PG X tg t' := ⟨fun pins s σ H v u Q I r q => h.run pins s σ H v u Q I r (i _ _ _ _ q)⟩
theorem pgs_mono {tg : List Expr} {t t' : TGs} (h : PGs X tg t) (i : ∀ v σ H Q, t' v σ H Q → t v σ H Q) : PGs X tg t' := ⟨fun pins s σ H v u Q I r q => h.run pins s σ H v u Q I r (i _ _ _ _ q)⟩
def gN (i : Nat) (x : PyData) (S : SS) : Option SS := if i < S.length then some (S.set i (some (.d x))) else none
def gNilD (xs : List PyData) (S : SS) : Option SS := match xs with
  | [] => some S
  | _ => none
def gConsD (g : PyData → SS → Option SS) (gs : List PyData → SS → Option SS) (xs : List PyData) (S : SS) : Option SS := match xs with
  | x :: r => (g x S).bind (gs r)
  | _ => none
def gTupD (n : Nat) (gs : List PyData → SS → Option SS) (x : PyData) (S : SS) : Option SS := match x with
  | .tuple xs => if xs.length = n then gs xs S else none
  | _ => none
theorem gv_name {i : Nat} {x : Str} (hN : X.N.Nodup) (hi : X.N[i]? = some x) (hx : Loc X.env.scope x) (hf : X.fn x = true ∨ X.env.scope.names.lookup x = some .local := by first | exact .inl rfl | exact .inr rfl | assumption) : GV X T [i] (.Name x pos) (gN i) :=
  pg_mono (pg_name hN hi hx hf) fun v σ H Q ⟨x, Z, R, S, S', f, rel, e, q⟩ => by
    unfold gN at e
    split at e
    · cases e
      exact q _ ((rel.push f).set (by assumption)) ⟨List.length_set, fun j hj => List.getElem?_set_ne (fun z => hj (by simp [z]))⟩
    · cases e
theorem gvs_nil : GVs X T [] [] gNilD := pgs_mono pgs_nil fun vs σ H Q ⟨xs, Z, R, S, S', f, rel, e, q⟩ => by
  cases f with
  | nil => cases e; exact ⟨rfl, q σ rel ⟨rfl, fun _ _ => rfl⟩⟩
  | cons _ _ => cases e
theorem gvs_cons {es : List Expr} {ws us : List Nat} {g : PyData → SS → Option SS} {gs : List PyData → SS → Option SS} (h1 : GV X T ws e g) (h2 : GVs X T us es gs)
    (hs : (assignEach (e :: es) X.env).map (·.2) = assign e X.env :: (assignEach es X.env).map (·.2) := by rfl) : GVs X T (ws ++ us) (e :: es) (gConsD g gs) := pgs_mono (pgs_cons h1 h2 hs) fun vs σ H Q ⟨xs, Z, R, S, S', f, rel, e, q⟩ => by
  cases f with
  | nil => cases e
  | @cons v vs x xs f1 f2 =>
    have e : (g x S).bind (gs xs) = some S' := e
    cases e1 : g x S with
    | none => rw [e1] at e; cases e
    | some S1 =>
      rw [e1] at e
      refine ⟨v, vs, rfl, x, Z, R, S, S1, f1, rel, e1, fun σ1 rel1 o1 => ?_⟩
      exact ⟨xs, Z, R, S1, S', f2, rel1, e, fun σ2 rel2 o2 => q σ2 rel2 ⟨o2.1.trans o1.1, fun j hj => (o2.2 j fun z => hj (List.mem_append_right _ z)).trans (o1.2 j fun z => hj (List.mem_append_left _ z))⟩⟩
theorem gv_tup {es : List Expr} {k : Nat} {ws : List Nat} {gs : List PyData → SS → Option SS} {n : Nat} (hc : X.calm = true) (h : GVs X T ws es gs)
    (hn : (assignEach es X.env).length = n := by rfl) (hst : (assignEach es X.env).findIdx? (·.1) = none := by rfl) : GV X T ws (.Tuple es k pos) (gTupD n gs) := pg_mono (pg_tup hc h hn hst) fun v σ H Q ⟨x, Z, R, S, S', f, rel, e, q⟩ => by
  cases x with
  | tuple xs =>
    have e : (if xs.length = n then gs xs S else none) = some S' := e
    split at e
    · rename_i hl
      obtain ⟨a, vs, rfl, ha, ra⟩ := f.sqT rel.z
      exact ⟨a, vs, rfl, ha, ra.length.trans hl, xs, Z, R, S, S', ra, rel, e, q⟩
    · cases e
  | _ => cases e
def asgS (g : PyData → SS → Option SS) (fe : M OV) : SM := doE fe fun o S => match o with
  | .d x => (g x S).map fun S1 => (.nx, S1)
  | _ => none
theorem sv_asg {tg : Expr} {ws : List Nat} {g : PyData → SS → Option SS} (he : EV X T e fe) (hg : GV X T ws tg g) (hm : ∀ i ∈ mp, i ∉ ws := by decide) (hs : swapsWithSole [tg] e pos.line X.env = pure false := by rfl) (hw : swappedStores [tg] e X.env = pure none := by rfl)
    (h1 : (assignEach [tg] X.env).map (·.2) = [assign tg X.env] := by rfl) : SV X T mp (.Assign [tg] e pos) (asgS g fe) := ps_mono (ps_asg he hg hs hw h1) fun D σ H h => by
  obtain ⟨Z, h⟩ := doE_of h
  refine ⟨Z, rz_mono h fun Z R o S p v H1 Z1 s1 r1 => ?_⟩
  obtain ⟨o, Z1, R, S1, r, S', W, P, rel, pn, e, tk, q⟩ := p v H1 Z1 s1 r1
  cases o with
  | d x =>
    have e : (g x S1).map (fun S1 => (Fl.nx, S1)) = some (r, S') := e
    cases eg : g x S1 with
    | none => rw [eg] at e; cases e
    | some S2 =>
      rw [eg] at e
      cases e
      obtain ⟨f, rel1⟩ := rel.popd
      exact ⟨x, Z1, R, S1, S', f, rel1, eg, fun σ' rel' o' => q σ' H1 Z1 (Sub.refl _) rel' (pn.off o' hm)⟩
  | _ => cases e
end

/-! ### while -/
section
variable {X : Cx} {T : List (Addr × Str)} {mp : List Nat} {body : List Stmt} {c : Expr} {f : SM} {ft : M Bool} {pos : Pos}
/-- a turn of a loop, then the rest -/
def turnS (b k : SM) : SM := fun S => match b S with
  | some (.nx, S1) => k S1
  | some (.ct, S1) => k S1
  | some (.bk, S1) => some (.nx, S1)
  | r => r
def whileN (ft : M Bool) (b : SM) : Nat → SM
  | 0 => fun _ => none
  | n + 1 => doE ft fun c => if c then turnS b (whileN ft b n) else skipS
theorem turnS_mono {b k k' : SM} {S : SS} {p : Fl × SS} (h : ∀ S p, k S = some p → k' S = some p) (e : turnS b k S = some p) : turnS b k' S = some p := by
  unfold turnS at e ⊢
  split at e
  · exact h _ _ e
  · exact h _ _ e
  · exact e
  · exact e
theorem whileN_mono {b : SM} : ∀ {n : Nat} {S : SS} {p : Fl × SS}, whileN ft b n S = some p → whileN ft b (n + 1) S = some p
  | 0, S, p, e => by cases e
  | n + 1, S, p, e => by
    have e : doE ft (fun c => if c then turnS b (whileN ft b n) else skipS) S = some p := e
    show doE ft (fun c => if c then turnS b (whileN ft b (n + 1)) else skipS) S = some p
    unfold doE at e ⊢
    split at e
    · rename_i o S1 e1
      cases o with
      | true => exact turnS_mono (fun S p h => whileN_mono h) e
      | false => exact e
    · exact e
    · exact e
theorem whileN_le {b : SM} {n m : Nat} {S : SS} {p : Fl × SS} (h : n ≤ m) (e : whileN ft b n S = some p) : whileN ft b m S = some p := by
  induction h with
  | refl => exact e
  | step _ ih => exact whileN_mono ih
open Classical in
noncomputable def whileS (ft : M Bool) (b : SM) : SM := fun S => if h : ∃ p, ∃ n, whileN ft b n S = some p then some h.choose else none
theorem whileS_of {b : SM} {n : Nat} {S : SS} {p : Fl × SS} (e : whileN ft b n S = some p) : whileS ft b S = some p := by
  unfold whileS
  have h : ∃ p, ∃ n, whileN ft b n S = some p := ⟨p, n, e⟩
  rw [dif_pos h]
  obtain ⟨m, hm⟩ := h.choose_spec
  have a := whileN_le (Nat.le_max_left n m) e
  have b := whileN_le (Nat.le_max_right n m) hm
  rw [a] at b
  exact b.symm
theorem whileS_n {b : SM} {S : SS} {p : Fl × SS} (e : whileS ft b S = some p) : ∃ n, whileN ft b n S = some p := by
  unfold whileS at e
  split at e
  · rename_i h
    cases e
    exact h.choose_spec
  · cases e
theorem turnS_of {D : Ends} {b k : SM} {σ : L2.St} {H : Hp} {Z R : Hp} {S : SS} {r : Fl} {S' : SS} {W : WX} {P : Nat → V} (rel : Rel X.K T Z R S σ H) (pn : Pin mp P σ) (e : turnS b k S = some (r, S')) (tk : Takes X W) (q : PFl X.K T mp P D W Z R S' r) :
    rsg X T mp b { D with nx := fun σ' H' => ∃ Z' S1, Sub Z Z' ∧ Rel X.K T Z' R S1 σ' H' ∧ Pin mp P σ' ∧ k S1 = some (r, S'), ct := fun σ' H' => ∃ Z' S1, Sub Z Z' ∧ Rel X.K T Z' R S1 σ' H' ∧ Pin mp P σ' ∧ k S1 = some (r, S'), bk := D.nx } σ H := by
  unfold turnS at e
  split at e
  · rename_i S1 e1
    exact ⟨Z, R, S, _, _, W, P, rel, pn, e1, tk, fun σ' H' Z' s rel' pn' => ⟨Z', S1, s, rel', pn', e⟩⟩
  · rename_i S1 e1
    exact ⟨Z, R, S, _, _, W, P, rel, pn, e1, tk, fun σ' H' Z' s rel' pn' => ⟨Z', S1, s, rel', pn', e⟩⟩
  · rename_i S1 e1
    cases e
    exact ⟨Z, R, S, _, _, W, P, rel, pn, e1, tk, q⟩
  · rename_i r' h1 h2 h3
    refine ⟨Z, R, S, _, _, W, P, rel, pn, e, tk, ?_⟩
    cases r with
    | nx => exact absurd e (h1 _)
    | ct => exact absurd e (h2 _)
    | bk => exact absurd e (h3 _)
    | ret o => exact q
    | exc x => exact q
theorem sv_while (hp : PassesOwn (model X.prog X.w) X.A X.env X.xe) (hc : EVT X T c ft) (hb : SVs X T mp body f) : SV X T mp (.While c body [] pos) (whileS ft f) := ps_mono (ps_while hp hc hb) fun D σ H ⟨Z, R, S, r, S', W, P, rel, pn, e, tk, q⟩ => by
  obtain ⟨n, e⟩ := whileS_n e
  refine ⟨fun m σ H => ∃ Z' S1, Sub Z Z' ∧ Rel X.K T Z' R S1 σ H ∧ Pin mp P σ ∧ whileN ft f m S1 = some (r, S'), ⟨n, Z, S, Sub.refl _, rel, pn, e⟩, ?_⟩
  rintro m σ1 H1 ⟨Z1, S1, s1, rel1, pn1, e1⟩
  cases m with
  | zero => cases e1
  | succ m =>
    have h : rsg X T mp (doE ft fun c => if c then turnS f (whileN ft f m) else skipS) D σ1 H1 := ⟨Z1, R, S1, r, S', W, P, rel1, pn1, e1, tk, PFl.sub s1 q⟩
    have e1 : doE ft (fun c => if c then turnS f (whileN ft f m) else skipS) S1 = some (r, S') := e1
    unfold doE at e1
    split at e1
    · rename_i o S2 e2
      refine ⟨Z1, R, S1, _, _, W, rel1, e2, tk, fun H2 Z2 s2 rel2 => ?_⟩
      cases o with
      | true =>
        refine ⟨fun σ' H' => ∃ Z' S1, Sub Z2 Z' ∧ Rel X.K T Z' R S1 σ' H' ∧ Pin mp P σ' ∧ whileN ft f m S1 = some (r, S'), fun σ' H' ⟨Z', S1, s', r', p', e'⟩ => ⟨m, Nat.lt_succ_self _, Z', S1, (s1.trans s2).trans s', r', p', e'⟩, ?_⟩
        exact turnS_of rel2 pn1 e1 tk (PFl.sub (s1.trans s2) q)
      | false =>
        cases e1
        exact q σ1 H2 Z2 (s1.trans s2) rel2 pn1
    · rename_i x S2 e2
      cases e1
      exact ⟨Z1, R, S1, _, _, W, rel1, e2, tk, fun cls d H' Z' s rel' ix => q cls d σ1 H' Z' (s1.trans s) rel' pn1 ix⟩
    · cases e1
end

/-! ### for -/
section
variable {X : Cx} {T : List (Addr × Str)} {mp : List Nat} {body : List Stmt} {tg iter l : Expr} {f : SM} {pos : Pos}
/-- J walks the data ds, frozen at Z -/
def Goes (K : PySem.W.Frag) (T : List (Addr × Str)) (Z : Hp) (J : It) (ds : List PyData) : Prop :=
  ∀ (Z1 R : Hp) (S : SS) (σ : L2.St) (H : Hp), Sub Z Z1 → Rel K T Z1 R S σ H → ∀ i : Nat,
    (i = ds.length → J.stop i H) ∧ ∀ d, ds[i]? = some d → J.go i H ∧ ∀ x H', J.yld i H x H' → ∃ Z2, Sub Z1 Z2 ∧ Rel K T Z2 R S σ H' ∧ Fr K Z2 x d
def PIt (K : PySem.W.Frag) (T : List (Addr × Str)) (σ : L2.St) (R0 : It → Hp → Prop) : Post (List PyData) := fun Z R ds S => ∀ J H' Z', Sub Z Z' → Rel K T Z' R S σ H' → Goes K T Z' J ds → R0 J H'
theorem PIt.mono {K : PySem.W.Frag} {σ : L2.St} {Q : It → Hp → Prop} : PMono (PIt K T σ Q) := fun Z Z' R o S s p v H' Z'' s' => p v H' Z'' (s.trans s')
def rig (X : Cx) (T : List (Addr × Str)) (f : M (List PyData)) : TI := fun σ H Q => ∃ Z, rz X T (PIt X.K T σ Q) Z f σ H
abbrev EVI (X : Cx) (T : List (Addr × Str)) (tg iter : Expr) (f : M (List PyData)) : Prop := PI X tg iter (rig X T f)
theorem pi_mono {t t' : TI} (h : PI X tg iter t) (i : ∀ σ H Q, t' σ H Q → t σ H Q) : PI X tg iter t' := ⟨fun pins s σ H Q I q => h.run pins s σ H Q I (i σ H Q q)⟩
def forL (g : PyData → SS → Option SS) (b : SM) : List PyData → SM
  | [] => skipS
  | x :: xs => fun S => match g x S with
    | some S1 => turnS b (forL g b xs) S1
    | none => none
def forS (fi : M (List PyData)) (g : PyData → SS → Option SS) (b : SM) : SM := doE fi (forL g b)
theorem sv_for {fi : M (List PyData)} {ws : List Nat} {g : PyData → SS → Option SS} (hp : PassesOwn (model X.prog X.w) X.A X.env X.xe) (hc : X.calm = true) (hi : EVI X T tg iter fi) (hg : GV X T ws tg g) (hb : SVs X T mp body f) (hm : ∀ i ∈ mp, i ∉ ws := by decide)
    (hs : ∀ x, foldedSetIterable iter X.env x = pure x := by intro _; rfl) : SV X T mp (.For tg iter body [] pos) (forS fi g f) := ps_mono (ps_for hp hc hi hg hb hs) fun D σ H ⟨Z, R, S, r, S', W, P, rel, pn, e, tk, q⟩ => by
  unfold forS doE at e
  split at e
  · rename_i ds S1 e1
    refine ⟨Z, R, S, _, _, W, rel, e1, tk, fun J H1 Z1 s1 rel1 goes => ?_⟩
    refine ⟨fun i m σ H => m = ds.length - i ∧ i ≤ ds.length ∧ ∃ Z' S2, Sub Z1 Z' ∧ Rel X.K T Z' R S2 σ H ∧ Pin mp P σ ∧ forL g f (ds.drop i) S2 = some (r, S'), ⟨_, rfl, Nat.zero_le _, Z1, S1, Sub.refl _, rel1, pn, e⟩, ?_⟩
    rintro i m σ2 H2 ⟨rfl, hi, Z2, S2, s2, rel2, pn2, e2⟩
    obtain ⟨g1, g2⟩ := goes Z2 R S2 σ2 H2 s2 rel2 i
    by_cases hlt : i < ds.length
    · obtain ⟨g3, g4⟩ := g2 ds[i] (List.getElem?_eq_getElem hlt)
      rw [List.drop_eq_getElem_cons hlt] at e2
      refine .inr ⟨g3, fun σ' H' => ∃ Z' S2, Sub Z1 Z' ∧ Rel X.K T Z' R S2 σ' H' ∧ Pin mp P σ' ∧ forL g f (ds.drop (i + 1)) S2 = some (r, S'), fun σ' H' h => ⟨ds.length - (i + 1), by omega, rfl, hlt, h⟩, fun x H3 y => ?_⟩
      obtain ⟨Z3, s3, rel3, fx⟩ := g4 x H3 y
      have e2 : (match g ds[i] S2 with
        | some S1 => turnS f (forL g f (ds.drop (i + 1))) S1
        | none => none) = some (r, S') := e2
      cases eg : g ds[i] S2 with
      | none => rw [eg] at e2; cases e2
      | some S3 =>
        rw [eg] at e2
        refine ⟨ds[i], Z3, R, S2, S3, fx, rel3, eg, fun σ4 rel4 o4 => ?_⟩
        have pn4 := pn2.off o4 hm
        have h := turnS_of (D := D) rel4 pn4 e2 tk (PFl.sub ((s1.trans s2).trans s3) q)
        obtain ⟨Z5, h5⟩ := h
        exact ⟨Z5, rsz_mono h5 (fun σ H ⟨Z', S1, s', h⟩ => ⟨Z', S1, (s2.trans s3).trans s', h⟩) (fun _ _ h => h) (fun σ H ⟨Z', S1, s', h⟩ => ⟨Z', S1, (s2.trans s3).trans s', h⟩) fun _ _ h => h⟩
    · have he : i = ds.length := by omega
      subst he
      rw [List.drop_length] at e2
      cases e2
      exact .inl ⟨g1 rfl, q σ2 H2 Z2 (s1.trans s2) rel2 pn2⟩
  · rename_i x S1 e1
    cases e
    exact ⟨Z, R, S, _, _, W, rel, e1, tk, fun cls d H' Z' s rel' ix => q cls d σ H' Z' s rel' pn ix⟩
  · cases e
end

/-! ### a def's body -/
def outF (n : Nat) (S : SS) : Option (List OV) := (S.take n).mapM id
/-- the body f of a def of n parameters and m names; mp: the parameters that are lent -/
def runF (n m : Nat) (mp : List Nat) (f : SM) : DF := fun os => if os.length = n then match f (os.map some ++ List.replicate (m - n) none) with
  | some (r, S') => match r with
    | .nx => (lentF os mp S').map fun os' => (.ok (.d .none), os')
    | .ret o => (lentF os mp S').map fun os' => (.ok o, os')
    | .exc x => (lentF os mp S').map fun os' => (.error x, os')
    | _ => none
  | none => none
  else none
where
  /-- what the parameters hold at the end: the lent ones their slots' content, the others stay (frozen) -/
  lentF (os : List OV) (mp : List Nat) (S : SS) : Option (List OV) := lentL os mp S 0
  lentL (os : List OV) (mp : List Nat) (S : SS) (i : Nat) : Option (List OV) := match os with
    | [] => some []
    | o :: r => match (if i ∈ mp then (S[i]?).join else match o with
        | .d x => some (.d x)
        | _ => none), lentL r mp S (i + 1) with
      | some o', some r' => some (o' :: r')
      | _, _ => none
end PL

/-! PL7: a def keeps the promise that its body computes -/
namespace PL
open PySem PySem.Spec PyProof.Rows L2 LamX
section
variable {K : PySem.W.Frag} {T : List (Addr × Str)} {Z Z' R H H' : Hp} {S S' : SS} {σ σ' : L2.St} {mp : List Nat}
theorem lentL_set (i : Nat) (u : Option OV) : ∀ (os : List OV) (j : Nat), i < j → runF.lentL os mp (S.set i u) j = runF.lentL os mp S j
  | [], j, _ => rfl
  | o :: os, j, h => by
    unfold runF.lentL
    rw [lentL_set i u os (j + 1) (by omega), List.getElem?_set_ne (by omega)]
theorem lent_own : ∀ (os : List OV) (vs : List V) (i : Nat) {S' : SS} {L : List Addr} {os' : List OV} {A0 : List Addr}, OwnS K Z H (vs.map some) (os.map some) A0 → Sub Z Z' → OwnS K Z' H' σ' S' L → runF.lentL os mp S' i = some os' →
    (∀ j v, i + j ∈ mp → vs[j]? = some v → σ'[i + j]? = some (some v)) → ∃ A D, OwnS K Z' H' (vs.map some) (os'.map some) A ∧ L.Perm (D ++ A)
  | [], vs, i, S', L, os', A0, h0, sb, h, e, hp => by
    cases e
    cases vs with
    | nil => exact ⟨[], L, .emp, by simp⟩
    | cons v vs => cases h0
  | o :: os, vs, i, S', L, os', A0, h0, sb, h, e, hp => by
    cases vs with
    | nil => cases h0
    | cons v vs =>
      have h0 : OwnS K Z H (some v :: vs.map some) (some o :: os.map some) A0 := h0
      cases h0 with
      | @own _ _ _ _ L1 M1 g1 g2 =>
        unfold runF.lentL at e
        split at e
        · rename_i o' r' e1 e2
          cases e
          have hp' : ∀ j w, (i + 1) + j ∈ mp → vs[j]? = some w → σ'[(i + 1) + j]? = some (some w) := fun j w hm hw => by
            have := hp (j + 1) w (by rw [show i + (j + 1) = i + 1 + j by omega]; exact hm) (by simpa using hw)
            rwa [show i + (j + 1) = i + 1 + j by omega] at this
          by_cases hm : i ∈ mp
          · rw [if_pos hm] at e1
            have hS : S'[i]? = some (some o') := by
              cases q : S'[i]? with
              | none => rw [q] at e1; cases e1
              | some u => rw [q] at e1; rw [show u = some o' from e1]
            obtain ⟨w, Li, Lr, k1, k2, k3, k4⟩ := h.get hS
            have hw := hp 0 v (by simpa using hm) rfl
            rw [Nat.add_zero] at hw
            rw [k1] at hw
            cases hw
            rw [← lentL_set i none os (i + 1) (by omega)] at e2
            obtain ⟨A, D, a1, a2⟩ := lent_own os vs (i + 1) g2 sb k3 e2 hp'
            refine ⟨Li ++ A, D, .own k2 a1, k4.trans ?_⟩
            exact (List.Perm.append_left Li a2).trans (perm_swap _ _ _)
          · rw [if_neg hm] at e1
            cases o with
            | d x =>
              cases e1
              obtain ⟨A, D, a1, a2⟩ := lent_own os vs (i + 1) g2 sb h e2 hp'
              exact ⟨[] ++ A, D, .own (.d (g1.frz.2.sub sb)) a1, a2⟩
            | _ => cases e1
        · cases e
theorem own_pad (n : Nat) : ∀ {σ : L2.St} {S : SS} {L : List Addr}, OwnS K Z H σ S L → OwnS K Z H (σ ++ List.replicate n none) (S ++ List.replicate n none) L
  | _, _, _, .emp => by
    induction n with
    | zero => exact .emp
    | succ n ih => exact .out ih
  | _, _, _, .out r => .out (own_pad n r)
  | _, _, _, .own a r => .own a (own_pad n r)
end
section
variable {P : Program} {w : World} {K : PySem.W.Frag} {T : List (Addr × Str)} {mg : Str → Option Value} {base : Heap}
theorem body_of {X : Cx} {mp : List Nat} {fden : SM} {n m : Nat} {vs : List V} {Q : VK} {E : XK} {H : Hp} {N : List Str} (hN : N.length = m) (hmp : ∀ i ∈ mp, i < n) (tk : Takes X (fun cls d _ H => E cls d H)) (h : spF X.K T n (runF n m mp fden) vs H Q E) :
    rsg X T mp fden { nx := fun _ H' => Q .non H', rt := Q } (start N vs) H := by
  obtain ⟨hl, Z, R, os, r, os', rel, e, q⟩ := h
  have hol : os.length = n := by have := rel.length; simp at this; omega
  unfold runF at e
  rw [if_pos hol] at e
  have rel0 : Rel X.K T Z R (os.map some ++ List.replicate (m - n) none) (start N vs) H := by
    obtain ⟨L, o, nd, qz⟩ := rel.own
    have := own_pad (m - n) o
    have es : L2.start N vs = vs.map some ++ List.replicate (m - n) none := by unfold L2.start; rw [hN, hl]
    rw [← es] at this
    exact ⟨⟨L, this, nd, qz⟩, rel.z, rel.r, rel.zt, rel.rt, rel.zr, rel.tab⟩
  have pin0 : Pin mp (fun i => vs.getD i .non) (start N vs) := fun i hi => by
    have hlt : i < vs.length := by rw [hl]; exact hmp i hi
    unfold L2.start
    rw [List.getElem?_append_left (by simpa using hlt), List.getElem?_map, List.getElem?_eq_getElem hlt]
    simp [List.getD, List.getElem?_eq_getElem hlt]
  cases ef : fden (os.map some ++ List.replicate (m - n) none) with
  | none => rw [ef] at e; cases e
  | some p =>
    obtain ⟨fl, S'⟩ := p
    rw [ef] at e
    refine ⟨Z, R, _, fl, S', _, fun i => vs.getD i .non, rel0, pin0, ef, tk, ?_⟩
    obtain ⟨L0, ow0, _⟩ := rel.own
    have back : ∀ {σ' : L2.St} {H' Z' : Hp} {o : OV} {v : V} {os2 : List OV}, Sub Z Z' → Rel X.K T Z' R (some o :: S') (some v :: σ') H' → Pin mp (fun i => vs.getD i .non) σ' → runF.lentF os mp S' = some os2 → Rel X.K T Z' R (some o :: os2.map some) (some v :: vs.map some) H' := fun {σ' H' Z' o v os2} sb rel' pn' el => by
      obtain ⟨L, ow, nd, qz⟩ := rel'.own
      cases ow with
      | @own _ _ _ _ Lo Ls w1 w2 =>
        obtain ⟨A, D, a1, a2⟩ := lent_own os vs 0 ow0 sb w2 el (fun j v' hm hv => by
          have := pn' (0 + j) hm
          rw [Nat.zero_add] at this ⊢
          rw [this]
          simp [List.getD, hv])
        have pm : (Lo ++ Ls).Perm (D ++ (Lo ++ A)) := (List.Perm.append_left Lo a2).trans (perm_swap _ _ _)
        obtain ⟨n3, n4⟩ := nodup_sub ⟨D, pm⟩ nd
        exact ⟨⟨Lo ++ A, .own w1 a1, n3, fun a ha => qz a (n4 a ha)⟩, rel'.z, rel'.r, rel'.zt, rel'.rt, rel'.zr, rel'.tab⟩
    cases fl with
    | bk => cases e
    | ct => cases e
    | nx =>
      have e : (runF.lentF os mp S').map (fun os' => (Except.ok (OV.d .none), os')) = some (r, os') := e
      cases el : runF.lentF os mp S' with
      | none => rw [el] at e; cases e
      | some os2 =>
        rw [el] at e
        cases e
        intro σ' H' Z' sb rel' pn'
        exact q .non H' Z' sb (back sb (rel'.push .non) pn' el)
    | ret o =>
      have e : (runF.lentF os mp S').map (fun os' => (Except.ok o, os')) = some (r, os') := e
      cases el : runF.lentF os mp S' with
      | none => rw [el] at e; cases e
      | some os2 =>
        rw [el] at e
        cases e
        intro v σ' H' Z' sb rel' pn'
        exact q v H' Z' sb (back sb rel' pn' el)
    | exc x =>
      have e : (runF.lentF os mp S').map (fun os' => (Except.error x, os')) = some (r, os') := e
      cases el : runF.lentF os mp S' with
      | none => rw [el] at e; cases e
      | some os2 =>
        rw [el] at e
        cases e
        intro cls d σ' H' Z' sb rel' pn' ix
        exact q cls d H' Z' sb (back sb (rel'.push .non) pn' el).pop ix
/-- THE RULE of a def -/
theorem def_ok {x qual : Str} {st : Stmt} {f : Addr} {fd : FuncData} {N ps : List Str} {k : Nat} {mp : List Nat} {fden : SM} (F : Fun K x qual st f fd) (S : FnScope N ps (defScope st)) (hmp : mp.all (fun i => decide (i < ps.length)) = true)
    (hb : ∀ (cdv : Value) (A : Around) (outer : List Env) (s : Shared) (H : Hp) (E : XK), Room k (A.deeper (envOfC qual (defScope st) s.heap.objs.size f cdv)) →
      SVs (cxOf (L2.CX P w) P w K mg base N qual (defScope st) f cdv A outer s H E) T mp (defBody st) fden) : DefOk P w K T mg base (k + 1) f fd ps (runF ps.length N.length mp fden) := by
  refine F.okX S (fun vs H Q E h => h.1) fun cdv A outer s H vs Q E hr h => ⟨_, hb cdv A outer s H E hr, ?_⟩
  exact body_of (X := cxOf (L2.CX P w) P w K mg base N qual (defScope st) f cdv A outer s H E) rfl (fun i hi => of_decide_eq_true (List.all_eq_true.mp hmp i hi)) (takes_of rfl rfl rfl rfl) h
end
end PL

/-! PL8: built-in functions and methods, subscripts, slices, lists of a slot's own -/
namespace PL
open PySem PySem.Spec PyProof.Rows L2 LamX
section
variable {X : Cx} {T : List (Addr × Str)} {mp : List Nat} {a b c e o : Expr} {es : List Expr} {fa fb : M AV} {ga : M (List AV)} {pos apos : Pos} {Z R H : Hp} {S : SS} {σ : L2.St}

theorem VwAll.one {K : PySem.W.Frag} {vs : List V} {x : PyData} (h : VwAll K Z H vs [x]) : ∃ v, vs = [v] ∧ Vw K Z H v x := by
  cases h with
  | cons a b => cases b; exact ⟨_, rfl, a⟩
theorem VwAll.two {K : PySem.W.Frag} {vs : List V} {x y : PyData} (h : VwAll K Z H vs [x, y]) : ∃ v w, vs = [v, w] ∧ Vw K Z H v x ∧ Vw K Z H w y := by
  cases h with
  | cons a b => cases b with
    | cons b c => cases c; exact ⟨_, _, rfl, a, b⟩
theorem Vw.int {K : PySem.W.Frag} {v : V} {i : Int} (h : Vw K Z H v (.int i)) : v = .int i := (h.fr (by intros; simp)).intV
theorem Vw.str {K : PySem.W.Frag} {v : V} {i : Str} (h : Vw K Z H v (.str i)) : v = .str i := (h.fr (by intros; simp)).strV
theorem Vw.bl {K : PySem.W.Frag} {v : V} {i : Bool} (h : Vw K Z H v (.bool i)) : v = .bl i := (h.fr (by intros; simp)).blV
theorem Vw.tup {K : PySem.W.Frag} {v : V} {ds : List PyData} (h : Vw K Z H v (.tuple ds)) (s : Sub Z H) : ∃ a xs, v = .ref a ∧ SqT K H a xs ∧ FrAll K Z xs ds := (h.fr (by intros; simp)).sqT s

/-! ### len, list, tuple, abs, int, max, min, all, any, isinstance -/
def oLen : List PyData → Option OV
  | [.list xs] => okI xs.length
  | [.tuple xs] => okI xs.length
  | [.str s] => if s.length ≤ sizeLine then okI s.length else none
  | _ => none
def rLenA (K : PySem.W.Frag) : List V → Hp → VK → Prop := fun xs H Q => (∃ p ys, xs = [.ref p] ∧ (SqL K H p ys ∨ SqT K H p ys) ∧ Q (.int ys.length) H) ∨ ∃ z, xs = [.str z] ∧ z.length ≤ sizeLine ∧ Q (.int z.length) H
theorem call_lenA : CallR X (.builtin "len") (rLenA X.K) := call_len_seq.or call_len_str
theorem cg_len : CallG X T (rLenA X.K) oLen := fun Z vs xs o σ H Q sz h e fin => by
  unfold oLen at e
  split at e
  · cases e
    obtain ⟨v, rfl, w⟩ := h.one
    obtain ⟨a, ys, rfl, ha, ra⟩ := w.list sz
    exact .inl ⟨a, ys, rfl, .inl (.inl ha), by rw [ra.length]; exact fin.val (.int _)⟩
  · cases e
    obtain ⟨v, rfl, w⟩ := h.one
    obtain ⟨a, ys, rfl, ha, ra⟩ := w.tup sz
    exact .inl ⟨a, ys, rfl, .inr ha, by rw [ra.length]; exact fin.val (.int _)⟩
  · split at e
    · cases e
      obtain ⟨v, rfl, w⟩ := h.one
      rw [w.str]
      exact .inr ⟨_, rfl, by assumption, fin.val (.int _)⟩
    · cases e
  · cases e
def oList (own : Bool) : List PyData → Option OV
  | [.list xs] => some (newL own xs)
  | [.tuple xs] => some (newL own xs)
  | _ => none
def rListA (K : PySem.W.Frag) : List V → Hp → VK → Prop := fun xs H Q => ∃ p ys, xs = [.ref p] ∧ (SqL K H p ys ∨ SqT K H p ys) ∧ ∀ l, H l = none → Q (.ref l) (upd H l (.lst ys))
theorem call_listA : CallR X (.type "list") (rListA X.K) := call_list_of
theorem cg_list {own : Bool} : CallG X T (rListA X.K) (oList own) := fun Z vs xs o σ H Q sz h e fin => by
  unfold oList at e
  split at e
  · cases e
    obtain ⟨v, rfl, w⟩ := h.one
    obtain ⟨a, ys, rfl, ha, ra⟩ := w.list sz
    exact ⟨a, ys, rfl, .inl (.inl ha), fin.lst ra⟩
  · cases e
    obtain ⟨v, rfl, w⟩ := h.one
    obtain ⟨a, ys, rfl, ha, ra⟩ := w.tup sz
    exact ⟨a, ys, rfl, .inr ha, fin.lst ra⟩
  · cases e
def oTuple : List PyData → Option OV
  | [.list xs] => some (.d (.tuple xs))
  | [.tuple xs] => some (.d (.tuple xs))
  | _ => none
def rTupleA (K : PySem.W.Frag) : List V → Hp → VK → Prop := fun xs H Q => ∃ p ys, xs = [.ref p] ∧ ((SqL K H p ys ∧ ∀ l, H l = none → Q (.ref l) (upd H l (.tup ys))) ∨ (SqT K H p ys ∧ Q (.ref p) H))
theorem call_tupleA : CallR X (.type "tuple") (rTupleA X.K) := call_tuple_of
theorem cg_tuple : CallG X T (rTupleA X.K) oTuple := fun Z vs xs o σ H Q sz h e fin => by
  unfold oTuple at e
  split at e
  · cases e
    obtain ⟨v, rfl, w⟩ := h.one
    obtain ⟨a, ys, rfl, ha, ra⟩ := w.list sz
    exact ⟨a, ys, rfl, .inl ⟨.inl ha, fin.tup ra⟩⟩
  · cases e
    obtain ⟨v, rfl, w⟩ := h.one
    have w' := w.fr (by intros; simp)
    obtain ⟨a, ys, rfl, ha, ra⟩ := w.tup sz
    exact ⟨a, ys, rfl, .inr ⟨ha, fin.val w'⟩⟩
  · cases e
def oAbs : List PyData → Option OV
  | [.int i] => okI (if i < 0 then -i else i)
  | _ => none
def rAbsA : List V → Hp → VK → Prop := fun xs H Q => ∃ i, xs = [.int i] ∧ Q (.int (if i < 0 then -i else i)) H
theorem call_absA : CallR X (.builtin "abs") rAbsA := call_abs
theorem cg_abs : CallG X T rAbsA oAbs := fun Z vs xs o σ H Q sz h e fin => by
  unfold oAbs at e
  split at e
  · cases e
    obtain ⟨v, rfl, w⟩ := h.one
    rw [w.int]
    exact ⟨_, rfl, fin.val (.int _)⟩
  · cases e
def oMax2 : List PyData → Option OV
  | [.int i, .int j] => okI (if j > i then j else i)
  | _ => none
def oMin2 : List PyData → Option OV
  | [.int i, .int j] => okI (if j < i then j else i)
  | _ => none
def rMax2 : List V → Hp → VK → Prop := fun xs H Q => ∃ i j, xs = [.int i, .int j] ∧ Q (.int (if j > i then j else i)) H
def rMin2 : List V → Hp → VK → Prop := fun xs H Q => ∃ i j, xs = [.int i, .int j] ∧ Q (.int (if j < i then j else i)) H
theorem call_max2A (hc : X.calm = true) : CallR X (.builtin "max") rMax2 := call_max2 hc
theorem call_min2A (hc : X.calm = true) : CallR X (.builtin "min") rMin2 := call_min2 hc
theorem cg_max2 : CallG X T rMax2 oMax2 := fun Z vs xs o σ H Q sz h e fin => by
  unfold oMax2 at e
  split at e
  · cases e
    obtain ⟨v, w, rfl, h1, h2⟩ := h.two
    rw [h1.int, h2.int]
    exact ⟨_, _, rfl, fin.val (.int _)⟩
  · cases e
theorem cg_min2 : CallG X T rMin2 oMin2 := fun Z vs xs o σ H Q sz h e fin => by
  unfold oMin2 at e
  split at e
  · cases e
    obtain ⟨v, w, rfl, h1, h2⟩ := h.two
    rw [h1.int, h2.int]
    exact ⟨_, _, rfl, fin.val (.int _)⟩
  · cases e
def oInt1 : List PyData → Option OV
  | [.int i] => okI i
  | [.bool k] => okI (if k then 1 else 0)
  | _ => none
def rInt1 : List V → Hp → VK → Prop := fun xs H Q => (∃ i, xs = [.int i] ∧ Q (.int i) H) ∨ ∃ k, xs = [.bl k] ∧ Q (.int (if k then 1 else 0)) H
theorem call_int1A : CallR X (.type "int") rInt1 := call_int1
theorem cg_int1 : CallG X T rInt1 oInt1 := fun Z vs xs o σ H Q sz h e fin => by
  unfold oInt1 at e
  split at e
  · cases e
    obtain ⟨v, rfl, w⟩ := h.one
    rw [w.int]
    exact .inl ⟨_, rfl, fin.val (.int _)⟩
  · cases e
    obtain ⟨v, rfl, w⟩ := h.one
    rw [w.bl]
    exact .inr ⟨_, rfl, fin.val (.int _)⟩
  · cases e
def bools : List PyData → Option (List Bool)
  | [] => some []
  | .bool b :: r => (bools r).map (b :: ·)
  | _ => none
theorem FrAll.bools {K : PySem.W.Frag} : ∀ {ds : List PyData} {vs : List V} {bs : List Bool}, FrAll K Z vs ds → bools ds = some bs → vs = bs.map V.bl
  | [], _, _, .nil, e => by cases e; rfl
  | d :: ds, _, bs, .cons (v := v) (vs := vs) h1 h2, e => by
    cases d with
    | bool b =>
      have e : (PL.bools ds).map (b :: ·) = some bs := e
      cases q : PL.bools ds with
      | none => rw [q] at e; cases e
      | some cs =>
        rw [q] at e
        cases e
        rw [h1.blV, FrAll.bools h2 q]
        rfl
    | _ => cases e
def oAll : List PyData → Option OV
  | [.list xs] => (bools xs).bind fun bs => okB (bs.all id)
  | _ => none
def oAny : List PyData → Option OV
  | [.list xs] => (bools xs).bind fun bs => okB (bs.any id)
  | _ => none
theorem cg_all : CallG X T (L2.rAll X.K) oAll := fun Z vs xs o σ H Q sz h e fin => by
  unfold oAll at e
  split at e
  · rename_i xs
    obtain ⟨v, rfl, w⟩ := h.one
    obtain ⟨a, ys, rfl, ha, ra⟩ := w.list sz
    cases q : bools xs with
    | none => rw [q] at e; cases e
    | some bs =>
      rw [q] at e
      cases e
      have := ra.bools q
      subst this
      exact ⟨a, bs, rfl, .inl ha, fin.val (.bl _)⟩
  · cases e
theorem cg_any : CallG X T (L2.rAny X.K) oAny := fun Z vs xs o σ H Q sz h e fin => by
  unfold oAny at e
  split at e
  · rename_i xs
    obtain ⟨v, rfl, w⟩ := h.one
    obtain ⟨a, ys, rfl, ha, ra⟩ := w.list sz
    cases q : bools xs with
    | none => rw [q] at e; cases e
    | some bs =>
      rw [q] at e
      cases e
      have := ra.bools q
      subst this
      exact ⟨a, bs, rfl, .inl ha, fin.val (.bl _)⟩
  · cases e

/-! ### isinstance with built-in types -/
def tyName : PyData → Option String
  | .none => some "NoneType"
  | .bool _ => some "bool"
  | .int _ => some "int"
  | .str _ => some "str"
  | .list _ => some "list"
  | .tuple _ => some "tuple"
  | .dict _ => none
theorem Vw.tyX {K : PySem.W.Frag} {v : V} {x : PyData} {n : String} (h : Vw K Z H v x) (s : Sub Z H) (e : tyName x = some n) : TyX K H v (.type n) := by
  cases x with
  | none => cases e; rw [(h.fr (by intros; simp)).nonV]; exact .base .non
  | bool b => cases e; rw [h.bl]; exact .base (.bl b)
  | int b => cases e; rw [h.int]; exact .base (.int b)
  | str b => cases e; rw [h.str]; exact .base (.str b)
  | list ds =>
    cases e
    obtain ⟨a, vs, rfl, ha, _⟩ := h.list s
    rcases ha with ha | ⟨o, ha⟩
    · exact .base (.lst ha)
    · exact .base (.frz ha)
  | tuple ds =>
    cases e
    obtain ⟨a, vs, rfl, ha, _⟩ := h.tup s
    rcases ha with (ha | ⟨o, ha⟩) | ⟨o, its, n, hk, hc, _⟩
    · exact .base (.tup ha)
    · exact .fTuple ha
    · exact .kTuple hk hc
  | dict _ => cases e
/-- a class as an argument: a built-in type, by its value -/
def evtTy (X : Cx) (e : Expr) (n : String) : Prop := PE X e (tC (.ty n))
def oIsi (n : String) (x : PyData) : Option OV := (tyName x).bind fun m => (kitB m n).bind okB
def isiV (n : String) (fa : M AV) : M OV := fa >>= fun a => op1 (oIsi n) a
theorem rz_op1 {op : PyData → Option OV} {u : AV} {v1 : V} {P : Post OV} (h : rz X T P Z (op1 op u) σ H) (h1 : AvOk X.K Z σ v1 u) :
    ∃ x o R S, Sub Z H ∧ Vw X.K Z H v1 x ∧ op x = some o ∧ Rel X.K T Z R S σ H ∧ P Z R o S := by
  obtain ⟨R, S, r, S', W, rel, e, tk, p⟩ := h
  unfold op1 at e
  split at e
  · rename_i x e1
    cases q : op x with
    | none => rw [q] at e; cases e
    | some o =>
      rw [q] at e
      cases e
      exact ⟨x, o, R, S, rel.z, rel.view h1 e1, q, rel, p⟩
  · cases e
theorem ev_isi {n : String} {p : Pos} {k : Nat} (hg : Gl X "isinstance") (hm : X.mg "isinstance" = none) (ha : EVV X T a fa) (hb : PE X b (tC (.ty n)))
    (he : starEach [a, b] X.env = (false, eval a X.env) :: starEach [b] X.env := by rfl) (he2 : starEach [b] X.env = (false, eval b X.env) :: starEach [] X.env := by rfl) (hpl : (backTo pos (starEach [b] X.env)).any (·.1) = false := by rfl) : EV X T (.Call (.Name "isinstance" p) [a, b] [] pos) (isiV n fa) :=
  pe_mono (pe_callB call_isi hg hm (by decide +kernel) (pa_cons ha (pa_cons hb pa_nil he2) he) (by decide) (by decide) he hpl) fun σ H Q ⟨Z, h⟩ => by
    refine ⟨Z, rz_mono (rv_bind POk.mono h) fun Z R a S p v H1 Z1 s1 r1 a1 => ?_⟩
    obtain ⟨u, Z2, s2, o2, h2⟩ := p v H1 Z1 s1 r1 a1
    obtain ⟨x, o, R3, S3, sz, w, e, rel, pf⟩ := rz_op1 h2 o2
    show rIsi X.K [v, .ty n] H1 Q
    unfold oIsi at e
    cases q1 : tyName x with
    | none => rw [q1] at e; cases e
    | some m =>
      rw [q1] at e
      have e : (kitB m n).bind okB = some o := e
      cases q2 : kitB m n with
      | none => rw [q2] at e; cases e
      | some k =>
        rw [q2] at e
        cases e
        exact ⟨v, .ty n, .type m, .type n, k, rfl, .ty n, w.tyX sz q1, kit_ty q2, pf _ H1 Z2 (Sub.refl _) (rel.push (.bl k))⟩
/-- isinstance(x, (A, B)) -/
def kitA (m : String) : List String → Option Bool
  | [] => some false
  | n :: ns => match kitB m n with
    | some true => some true
    | some false => kitA m ns
    | none => none
theorem kitA_any {K : PySem.W.Frag} {m : String} : ∀ {ns : List String} {b : Bool}, kitA m ns = some b → PySem.W.kitAny K (.type m) (ns.map Value.type) = some b
  | [], b, e => by cases e; rfl
  | n :: ns, b, e => by
    unfold kitA at e
    split at e
    · rename_i q
      cases e
      exact kitAny_cons (kit_ty q) (fun z => nomatch z) fun _ => rfl
    · rename_i q
      exact kitAny_cons (kit_ty q) (fun _ => kitA_any e) fun z => nomatch z
    · cases e
def oIsiT (ns : List String) (x : PyData) : Option OV := (tyName x).bind fun m => (kitA m ns).bind okB
def isiT (ns : List String) (fa : M AV) : M OV := fa >>= fun a => op1 (oIsiT ns) a
theorem clsV_all : ∀ ns : List String, Paired ClsV (ns.map V.ty) (ns.map Value.type)
  | [] => .nil
  | n :: ns => .cons (.ty n) (clsV_all ns)
theorem ev_isiT {n1 n2 : String} {e1 e2 : Expr} {p p3 : Pos} {k : Nat} (hg : Gl X "isinstance") (hm : X.mg "isinstance" = none) (ha : EVV X T a fa) (hb : PE X e1 (tC (.ty n1))) (hc : PE X e2 (tC (.ty n2)))
    (he : starEach [a, .Tuple [e1, e2] k p3] X.env = (false, eval a X.env) :: starEach [.Tuple [e1, e2] k p3] X.env := by rfl) (he2 : starEach [.Tuple [e1, e2] k p3] X.env = (false, eval (.Tuple [e1, e2] k p3) X.env) :: starEach [] X.env := by rfl)
    (he3 : starEach [e1, e2] X.env = (false, eval e1 X.env) :: starEach [e2] X.env := by rfl) (he4 : starEach [e2] X.env = (false, eval e2 X.env) :: starEach [] X.env := by rfl) (hpl : (backTo pos (starEach [.Tuple [e1, e2] k p3] X.env)).any (·.1) = false := by rfl) : EV X T (.Call (.Name "isinstance" p) [a, .Tuple [e1, e2] k p3] [] pos) (isiT [n1, n2] fa) :=
  pe_mono (pe_callB call_isiT hg hm (by decide +kernel) (pa_cons ha (pa_cons (pe_tup (pa_cons hb (pa_cons hc pa_nil he4) he3)) pa_nil he2) he) (by decide) (by decide) he hpl) fun σ H Q ⟨Z, h⟩ => by
    refine ⟨Z, rz_mono (rv_bind POk.mono h) fun Z R a S p v H1 Z1 s1 r1 a1 => ?_⟩
    obtain ⟨u, Z2, s2, o2, h2⟩ := p v H1 Z1 s1 r1 a1
    obtain ⟨x, o, R3, S3, sz, w, e, rel, pf⟩ := rz_op1 h2 o2
    refine ⟨(by show 2 ≤ sizeLine; decide), fun tp hp => ?_⟩
    have rel' := rel.frozen hp (.tup [.ty n1, .ty n2]) (fun _ z => by cases z)
    have zp : Z2 tp = none := by
      cases q : Z2 tp with
      | none => rfl
      | some w => rw [rel.z _ _ q] at hp; cases hp
    unfold oIsiT at e
    cases q1 : tyName x with
    | none => rw [q1] at e; cases e
    | some m =>
      rw [q1] at e
      have e : (kitA m [n1, n2]).bind okB = some o := e
      cases q2 : kitA m [n1, n2] with
      | none => rw [q2] at e; cases e
      | some k =>
        rw [q2] at e
        cases e
        have w' : Vw X.K (upd Z2 tp (.tup [.ty n1, .ty n2])) (upd H1 tp (.tup [.ty n1, .ty n2])) v x := by
          rcases w with w | ⟨c, ws, es, e1, e2, hc, rc⟩
          · exact .inl (w.sub (sub_upd _ zp))
          · exact .inr ⟨c, ws, es, e1, e2, by rw [upd_ne (ne_of_none hc hp)]; exact hc, rc.sub (sub_upd _ zp)⟩
        refine ⟨v, tp, [.ty n1, .ty n2], .type m, [.type n1, .type n2], k, rfl, upd_same, clsV_all [n1, n2], w'.tyX rel'.z q1, kitA_any q2, ?_⟩
        exact pf _ _ _ (sub_upd _ zp) (rel'.push (.bl k))

/-! ### x[i] -/
def oIx : PyData → PyData → Option OV
  | .list xs, .int i => (atI xs i).map .d
  | .tuple xs, .int i => (atI xs i).map .d
  | .str z, .int i => if z.length ≤ sizeLine then (atI z.cps.toList i).map fun c => .d (.str ⟨#[c]⟩) else none
  | _, _ => none
def rIxA (K : PySem.W.Frag) : R2 := fun x y H Q => (rIxL K x y H Q ∨ rIxT K x y H Q) ∨ rIxS x y H Q
theorem ix_any : IxR X (rIxA X.K) := (ix_list.or ix_tup).or ix_str
theorem FrAll.atI {K : PySem.W.Frag} {vs : List V} {ds : List PyData} {i : Int} {d : PyData} (h : FrAll K Z vs ds) (e : atI ds i = some d) : ∃ v, atI vs i = some v ∧ Fr K Z v d := by
  unfold L2.atI at e ⊢
  rw [h.length]
  cases q : ixN ds.length i with
  | none => rw [q] at e; cases e
  | some j =>
    rw [q] at e
    exact h.get e
theorem opg_ix : OpG X T (rIxA X.K) oIx := by
  intro Z v w x y o σ H Q sz fx fy e fin
  unfold oIx at e
  split at e
  · rename_i xs i
    cases q : L2.atI xs i with
    | none => rw [q] at e; cases e
    | some d =>
      rw [q] at e
      cases e
      obtain ⟨a, vs, rfl, ha, ra⟩ := fx.list sz
      obtain ⟨u, hu, fu⟩ := ra.atI q
      rw [fy.int]
      exact .inl (.inl ⟨a, vs, i, u, rfl, rfl, .inl ha, hu, fin.val fu⟩)
  · rename_i xs i
    cases q : L2.atI xs i with
    | none => rw [q] at e; cases e
    | some d =>
      rw [q] at e
      cases e
      obtain ⟨a, vs, rfl, ha, ra⟩ := fx.tup sz
      obtain ⟨u, hu, fu⟩ := ra.atI q
      rw [fy.int]
      exact .inl (.inr ⟨a, vs, i, u, rfl, rfl, ha, hu, fin.val fu⟩)
  · rename_i z i
    split at e
    · cases q : L2.atI z.cps.toList i with
      | none => rw [q] at e; cases e
      | some d =>
        rw [q] at e
        cases e
        rw [fx.str, fy.int]
        exact .inr ⟨z, i, d, rfl, rfl, by assumption, q, fin.val (.str _)⟩
    · cases e
  · cases e
theorem ev_ix {r : R2} {g : PyData → PyData → Option OV} (hr : IxR X r) (hg : OpG X T r g) (ha : EVV X T a fa) (hb : EVV X T b fb) (hs : PlainIx b := by intro _ _; rfl) : EV X T (.Subscript a b pos) (bin fa fb g) := pe_mono (pe_ix hr ha hb hs) fun _ _ _ h => tOp_of hg h

/-! ### x[lo:hi] -/
def rog (X : Cx) (T : List (Addr × Str)) (f : M (Option Int)) : TO := fun σ H Q => ∃ Z, rz X T (fun Z R o S => ∀ H' Z', Sub Z Z' → Rel X.K T Z' R S σ H' → Q o H') Z f σ H
abbrev EVO (X : Cx) (T : List (Addr × Str)) (e : Option Expr) (f : M (Option Int)) : Prop := PO X e (rog X T f)
theorem po_mono {e : Option Expr} {t t' : TO} (h : PO X e t) (i : ∀ σ H Q, t' σ H Q → t σ H Q) : PO X e t' := ⟨fun pins s σ H Q I q => h.run pins s σ H Q I (i σ H Q q)⟩
def noPart : M (Option Int) := M.ret none
def part (f : M AV) : M (Option Int) := f >>= fun a => fun S => match view S a with
  | some (.int i) => some (.ok (some i), S)
  | _ => none
theorem evo_none : EVO X T none noPart := po_mono po_none fun σ H Q ⟨Z, h⟩ => by
  obtain ⟨R, S, rel, p⟩ := rz_ret h
  exact p H Z (Sub.refl _) rel
theorem evo_some (ha : EVV X T a fa) : EVO X T (some a) (part fa) := po_mono (po_some ha) fun σ H Q ⟨Z, h⟩ => by
  have hP : PMono (fun (Z R : Hp) (o : Option Int) (S : SS) => ∀ H' Z', Sub Z Z' → Rel X.K T Z' R S σ H' → Q o H') := fun Z Z' R a S s p H' Z'' s' => p H' Z'' (s.trans s')
  refine ⟨Z, rz_mono (rv_bind hP h) fun Z R a S p v H1 Z1 s1 r1 a1 => ?_⟩
  obtain ⟨u, Z2, s2, o2, R3, S3, r, S', W, rel, e, tk, pf⟩ := p v H1 Z1 s1 r1 a1
  have e : (match view S3 u with
    | some (.int i) => some (Except.ok (some i), S3)
    | _ => none) = some (r, S') := e
  split at e
  · rename_i i q
    cases e
    exact ⟨i, (rel.view o2 q).int, pf H1 Z2 (Sub.refl _) rel⟩
  · cases e
def oSl (own : Bool) (x : PyData) (lo hi : Option Int) : Option OV := match x with
  | .list xs => some (newL own ((xs.drop (HT.sIx xs.length 0 lo)).take (HT.sIx xs.length xs.length hi - HT.sIx xs.length 0 lo)))
  | .tuple xs => some (.d (.tuple ((xs.drop (HT.sIx xs.length 0 lo)).take (HT.sIx xs.length xs.length hi - HT.sIx xs.length 0 lo))))
  | .str z => if z.length ≤ sizeLine then some (.d (.str (cutS z lo hi))) else none
  | _ => none
def slA (own : Bool) (fa : M AV) (fl fh : M (Option Int)) : M OV := fa >>= fun a => fl >>= fun l => fh >>= fun h => op1 (fun x => oSl own x l h) a
def rSlAny (K : PySem.W.Frag) : V → Option Int → Option Int → Hp → VK → Prop := fun x lo hi H Q => (rSlL K x lo hi H Q ∨ rSlA K x lo hi H Q) ∨ rSlS x lo hi H Q
theorem sl_any : SlR X (rSlAny X.K) := (sl_list.or sl_tupA).or sl_str
theorem ro_bind {P : Post OV} (hP : PMono P) {f : M (Option Int)} {g : Option Int → M OV} (h : rz X T P Z (f >>= g) σ H) : rog X T f σ H fun o H' => ∃ Z', Sub Z Z' ∧ rz X T P Z' (g o) σ H' := by
  obtain ⟨R, S, r, S', W, rel, e, tk, pf⟩ := h
  rcases bind_eq e with ⟨x, ef, rfl⟩ | ⟨a, S1, ef, eg⟩
  · exact ⟨Z, R, S, _, _, W, rel, ef, tk, pf⟩
  · refine ⟨Z, R, S, _, _, W, rel, ef, tk, fun H' Z' s' r' => ⟨Z', s', R, S1, r, S', W, r', eg, tk, ?_⟩⟩
    cases r with
    | ok o => exact hP _ _ _ _ _ s' pf
    | error x => exact ExPost.mono s' pf
theorem ev_slice {own : Bool} {lo hi : Option Expr} {fl fh : M (Option Int)} {p2 : Pos} (ha : EVV X T a fa) (hl : EVO X T lo fl) (hh : EVO X T hi fh) : EV X T (.Subscript a (.Slice lo hi none p2) pos) (slA own fa fl fh) := pe_mono (pe_slice sl_any ha hl hh) fun σ H Q ⟨Z, h⟩ => by
  refine ⟨Z, rz_mono (rv_bind POk.mono h) fun Z R a S p v H1 Z1 s1 r1 a1 => ?_⟩
  obtain ⟨u, Z2, s2, o2, h2⟩ := p v H1 Z1 s1 r1 a1
  obtain ⟨Z4, h1⟩ := ro_bind POk.mono h2
  refine ⟨Z4, rz_mono h1 fun Z R o S p H' Z' s' r' => ?_⟩
  obtain ⟨Z5, s5, h5⟩ := p H' Z' s' r'
  obtain ⟨Z6, h6⟩ := ro_bind POk.mono h5
  refine ⟨Z6, rz_mono h6 fun Z R o S p H' Z' s' r' => ?_⟩
  obtain ⟨Z7, s7, h7⟩ := p H' Z' s' r'
  obtain ⟨x, o, R8, S8, sz, w, e8, rel8, pf8⟩ := rz_op1 h7 ((o2.sub s5).sub s7)
  have fin : Fin X T Z7 o σ H' Q := ⟨R8, S8, rel8, pf8⟩
  unfold oSl at e8
  cases x with
  | list xs =>
    cases e8
    obtain ⟨a, vs, rfl, ha, ra⟩ := w.list sz
    refine .inl (.inl ⟨a, vs, rfl, .inl ha, ?_⟩)
    have hl := ra.length
    unfold cutV
    rw [hl]
    exact fin.lst ((ra.drop _).take _)
  | tuple xs =>
    cases e8
    have w' := w.fr (by intros; simp)
    obtain ⟨a, vs, rfl, ha, ra⟩ := w.tup sz
    have hl := ra.length
    refine .inl (.inr ⟨a, vs, rfl, ha, fun z => ?_, fun _ => ?_⟩)
    · rw [hl] at z
      rw [z.1, z.2] at fin
      simp only [List.drop_zero, Nat.sub_zero, List.take_length] at fin
      exact fin.val w'
    · unfold cutV
      rw [hl]
      exact fin.tup ((ra.drop _).take _)
  | str z =>
    have e8 : (if z.length ≤ sizeLine then some (OV.d (.str (cutS z _ _))) else none) = some o := e8
    split at e8
    · cases e8
      rw [w.str]
      exact .inr ⟨z, rfl, by assumption, fin.val (.str _)⟩
    · cases e8
  | _ => cases e8

/-! ### o.m(..) of frozen things -/
def tyOk (T : String) : PyData → Bool
  | .str _ => T == "str"
  | .list _ => T == "list"
  | _ => false
def chkA (T : String) (a : AV) : M Unit := fun S => match view S a with
  | some x => if tyOk T x then some (.ok (), S) else none
  | none => none
def MethG (X : Cx) (T : List (Addr × Str)) (r : V → List V → Hp → VK → Prop) (op : PyData → List PyData → Option OV) : Prop := ∀ (Z : Hp) (v : V) (vs : List V) (x : PyData) (xs : List PyData) (o : OV) (σ : L2.St) (H : Hp) (Q : VK), Sub Z H → Vw X.K Z H v x → VwAll X.K Z H vs xs → op x xs = some o → Fin X T Z o σ H Q → r v vs H Q
def opC (op : PyData → List PyData → Option OV) : List PyData → Option OV
  | x :: xs => op x xs
  | [] => none
def methN (ty : String) (fa : M AV) (g : M (List AV)) (op : PyData → List PyData → Option OV) : M OV := fa >>= fun a => chkA ty a >>= fun _ => g >>= fun as => opN (opC op) (a :: as)
theorem Vw.tyV {K : PySem.W.Frag} {v : V} {x : PyData} {ty : String} (h : Vw K Z H v x) (s : Sub Z H) (e : tyOk ty x = true) : tyV K ty v H := by
  cases x with
  | str z => rw [h.str]; exact beq_iff_eq.mp e
  | list ds =>
    obtain ⟨a, vs, rfl, ha, _⟩ := h.list s
    exact .inl ⟨beq_iff_eq.mp e, vs, .inl ha⟩
  | _ => cases e
theorem ev_meth {ty id : String} {name : Str} {r : V → List V → Hp → VK → Prop} {op : PyData → List PyData → Option OV} (pa : PlainAttrs ty) (slot : Slot ty name id) (hty : typeOf (.builtin id) = pure (.type "method_descriptor")) (hm : MtR X id r) (hg : MethG X T r op) (ho : EVV X T o fa) (ha : EVA X T (e :: es) ga)
    (hbase : attributeBase o name X.env (eval o X.env) = eval o X.env := by rfl)
    (hfew : ((backTo pos (starEach (e :: es) X.env)).all (fun x => !x.1) && (backToKw pos (keywordEach [] X.env)).all (fun x => x.1.isSome)
      && decide ((e :: es).length + ([] : List Keyword).length + (if ([] : List Keyword).isEmpty then 0 else 1) < 30)) = true := by rfl)
    (hline : (apos.endLine == pos.line) = true := by rfl) (hs : starEach (e :: es) X.env = (false, eval e X.env) :: starEach es X.env := by rfl) (hplain : (backTo pos (starEach es X.env)).any (·.1) = false := by rfl) :
    EV X T (.Call (.Attribute o name apos) (e :: es) [] pos) (methN ty fa ga op) := pe_mono (pe_bm pa slot hty hm ho ha hbase hfew hline hs hplain) fun σ H Q ⟨Z, h⟩ => by
  refine ⟨Z, rz_mono (rv_bind POk.mono h) fun Z R a S p v H1 Z1 s1 r1 a1 => ?_⟩
  obtain ⟨u, Z2, s2, o2, R3, S3, r', S', W, rel, er, tk, pf⟩ := p v H1 Z1 s1 r1 a1
  rcases bind_eq er with ⟨y, ef, rfl⟩ | ⟨x, S1, ef, eg⟩
  · unfold chkA at ef
    split at ef
    · split at ef
      · cases ef
      · cases ef
    · cases ef
  · have hx : S1 = S3 ∧ ∃ x, view S3 u = some x ∧ tyOk ty x = true := by
      unfold chkA at ef
      split at ef
      · rename_i x q
        split at ef
        · cases ef; exact ⟨rfl, x, q, by assumption⟩
        · cases ef
      · cases ef
    obtain ⟨rfl, x, vx, tx⟩ := hx
    refine ⟨(rel.view o2 vx).tyV rel.z tx, ?_⟩
    have h3 : rz X T (POk X.K T σ Q) Z2 (ga >>= fun as => opN (opC op) (u :: as)) σ H1 := ⟨R3, S1, r', S', W, rel, eg, tk, pf⟩
    refine ⟨Z2, rz_mono (ra_bind POk.mono h3) fun Z R as S p vs H2 Z3 s3 r3 a3 => ?_⟩
    obtain ⟨us, Z4, s4, o4, h4⟩ := p vs H2 Z3 s3 r3 a3
    obtain ⟨xs, o', R5, S5, sz, w, e5, rel5, pf5⟩ := rz_opN h4 (.cons (o2.sub s4) o4)
    cases w with
    | cons w1 w2 => exact hg Z4 v vs _ _ o' σ H2 Q sz w1 w2 e5 ⟨R5, S5, rel5, pf5⟩
end
end PL

/-! PL9: lists of a slot's own, loops' items, comprehensions -/
namespace PL
open PySem PySem.Spec PyProof.Rows L2 LamX
section
variable {K : PySem.W.Frag} {T : List (Addr × Str)} {Z Z' R H H' : Hp} {S S' : SS} {σ σ' : L2.St} {v : V} {x : PyData} {o : OV}
/-- the tables stay where an object that is no table and no code object is rewritten -/
theorem tabs_upd {a : Addr} {o u : HO} (t : Tabs T H) (h : H a = some o) (n1 : ∀ ps, o ≠ .tbl ps) (n2 : ∀ φ, o ≠ .ext φ) : Tabs T (upd H a u) := fun p hp => by
  obtain ⟨ps, h1, h2, h3⟩ := t p hp
  have ne : ∀ {b : Addr} {w : HO}, H b = some w → w ≠ o → b ≠ a := fun hb hw e => by
    subst e
    rw [h] at hb
    exact hw (Option.some.inj hb).symm
  refine ⟨ps, by rw [upd_ne (ne h1 fun z => n1 ps z.symm)]; exact h1, h2, fun pos cv hc => ?_⟩
  obtain ⟨c, e1, e2⟩ := h3 pos cv hc
  exact ⟨c, e1, by rw [upd_ne (ne e2 fun z => by unfold CodeO at z; exact n2 _ z.symm)]; exact e2⟩
/-- slot i holds a list of its own: it may be rewritten -/
theorem Rel.lst (r : Rel K T Z R S σ H) {i : Nat} {xs : List OV} {ds : List PyData} (e : S[i]? = some (some (.lst xs))) (hi : items xs = some ds) :
    ∃ a vs, σ[i]? = some (some (.ref a)) ∧ H a = some (.lst vs) ∧ FrAll K Z vs ds ∧ ∀ vs' ds', FrAll K Z vs' ds' → Rel K T Z R (S.set i (some (.lst (ds'.map .d)))) σ (upd H a (.lst vs')) := by
  obtain ⟨L, ow, n, q⟩ := r.own
  obtain ⟨v, Li, Lr, h1, h2, h3, h4⟩ := ow.get e
  rw [items_eq hi] at h2
  have hlt : i < S.length := (List.getElem?_eq_some_iff.mp e).1
  cases h2 with
  | @lst a vs _ L2 ha r2 =>
    obtain ⟨rfl, fr⟩ := OwnL.toFr r2
    have n2 := (h4.nodup_iff).mp n
    have n3 : a ∉ Lr ∧ Lr.Nodup := by simpa using n2
    have hZ : Z a = none := (q a (h4.mem_iff.mpr (List.mem_append_left _ List.mem_cons_self))).1
    have hR : R a = none := (q a (h4.mem_iff.mpr (List.mem_append_left _ List.mem_cons_self))).2
    refine ⟨a, vs, h1, ha, fr, fun vs' ds' fr' => ?_⟩
    have h5 : OwnS K Z (upd H a (.lst vs')) σ (S.set i none) Lr := h3.mono (Sub.refl Z) fun c hc => upd_ne fun z => n3.1 (z ▸ hc)
    obtain ⟨M, h6, D, h7⟩ := h5.put (i := i) (v := .ref a) (x := .lst (ds'.map .d)) (Li := [a]) (.lst upd_same (OwnL.ofFr fr')) (by simpa using hlt)
    have eσ : σ.set i (some (.ref a)) = σ := set_same h1
    rw [List.set_set, eσ] at h6
    obtain ⟨n4, n5⟩ := nodup_sub ⟨D, h7⟩ (by simpa using n3)
    refine ⟨⟨M, h6, n4, fun c hc => ?_⟩, fun c o ec => ?_, fun c o ec => ?_, r.zt, r.rt, r.zr, tabs_upd r.tab ha (fun _ z => by cases z) fun _ z => by cases z⟩
    · have := n5 c hc
      exact q c (h4.mem_iff.mpr (by simpa using this))
    · rw [upd_ne (fun z => by rw [z, hZ] at ec; cases ec)]; exact r.z c o ec
    · rw [upd_ne (fun z => by rw [z, hR] at ec; cases ec)]; exact r.r c o ec
end
section
variable {X : Cx} {T : List (Addr × Str)} {mp : List Nat} {a b c e l tg iter : Expr} {es : List Expr} {fa fb : M AV} {ga : M (List AV)} {pos apos : Pos} {Z R H : Hp} {S : SS} {σ : L2.St}
/-! ### methods of a list of the slot's own -/
/-- the method's rule serves op: of what the list holds and the arguments, the answer and what it holds then -/
def MutG (X : Cx) (r : V → List V → Hp → VK → Prop) (op : List PyData → List PyData → Option (PyData × List PyData)) : Prop := ∀ (Z : Hp) (p : Addr) (vs ws : List V) (ds xs : List PyData) (y : PyData) (ds' : List PyData) (H : Hp) (Q : VK), Sub Z H → H p = some (.lst vs) → FrAll X.K Z vs ds → FrAll X.K Z ws xs → op ds xs = some (y, ds') →
  (∀ w vs', Fr X.K Z w y → FrAll X.K Z vs' ds' → Q w (upd H p (.lst vs'))) → r (.ref p) ws H Q
def isL : Option (Option OV) → Option (List PyData)
  | some (some (.lst xs)) => items xs
  | _ => none
theorem isL_eq {o : Option (Option OV)} {ds : List PyData} (h : isL o = some ds) : ∃ xs, o = some (some (.lst xs)) ∧ items xs = some ds := by
  unfold isL at h
  split at h
  · exact ⟨_, rfl, h⟩
  · cases h
def mutE (i : Nat) (op : List PyData → List PyData → Option (PyData × List PyData)) (as : List AV) : M OV := fun S => match isL S[i]?, frs as with
  | some ds, some xs => (op ds xs).map fun p => (.ok (.d p.1), S.set i (some (.lst (p.2.map .d))))
  | _, _ => none
def mutM (i : Nat) (ga : M (List AV)) (op : List PyData → List PyData → Option (PyData × List PyData)) : M OV := fun S => match isL S[i]? with
  | some _ => (ga >>= mutE i op) S
  | none => none
theorem mut_core {i : Nat} {r : V → List V → Hp → VK → Prop} {op : List PyData → List PyData → Option (PyData × List PyData)} (hg : MutG X r op) {as : List AV} {vs : List V} {Q : VK} {p : Addr} (h : rz X T (POk X.K T σ Q) Z (mutE i op as) σ H) (av : AvAll X.K Z σ vs as) (hp : σ[i]? = some (some (.ref p))) : r (.ref p) vs H Q := by
  obtain ⟨R, S, r', S', W, rel, e, tk, pf⟩ := h
  unfold mutE at e
  split at e
  · rename_i ds xs e1 e2
    obtain ⟨ls, eL, eI⟩ := isL_eq e1
    cases q : op ds xs with
    | none => rw [q] at e; cases e
    | some t =>
      obtain ⟨y, ds'⟩ := t
      rw [q] at e
      cases e
      obtain ⟨a, ws, h1, h2, h3, h4⟩ := rel.lst eL eI
      rw [hp] at h1
      cases h1
      exact hg Z p ws vs ds xs y ds' H Q rel.z h2 h3 (av.frs e2) q fun w vs' fw fr' => pf w _ Z (Sub.refl _) ((h4 vs' ds' fr').push fw)
  · cases e
theorem ev_mut {i : Nat} {x : Str} {px : Pos} {id : String} {name : Str} {r : V → List V → Hp → VK → Prop} {op : List PyData → List PyData → Option (PyData × List PyData)} (slot : Slot "list" name id) (hty : typeOf (.builtin id) = pure (.type "method_descriptor")) (hm : MtR X id r) (hg : MutG X r op)
    (hN : X.N[i]? = some x) (hv : Vis X.env.scope x) (ha : EVA X T (e :: es) ga) (hd : (x == ("__debug__" : Str)) = false := by decide) (hcd : (x == ("__classdict__" : Str)) = false := by decide)
    (hbase : attributeBase (.Name x px) name X.env (eval (.Name x px) X.env) = eval (.Name x px) X.env := by rfl)
    (hfew : ((backTo pos (starEach (e :: es) X.env)).all (fun x => !x.1) && (backToKw pos (keywordEach [] X.env)).all (fun x => x.1.isSome)
      && decide ((e :: es).length + ([] : List Keyword).length + (if ([] : List Keyword).isEmpty then 0 else 1) < 30)) = true := by rfl)
    (hline : (apos.endLine == pos.line) = true := by rfl) (hs : starEach (e :: es) X.env = (false, eval e X.env) :: starEach es X.env := by rfl) (hplain : (backTo pos (starEach es X.env)).any (·.1) = false := by rfl) :
    EV X T (.Call (.Attribute (.Name x px) name apos) (e :: es) [] pos) (mutM i ga op) := pe_mono (pe_bm PySem.F.plainAttrs_list slot hty hm (pe_var hN hv hd hcd) ha hbase hfew hline hs hplain) fun σ H Q ⟨Z, R, S, r', S', W, rel, er, tk, pf⟩ => by
  unfold mutM at er
  split at er
  · rename_i ds e0
    obtain ⟨ls, eL, eI⟩ := isL_eq e0
    obtain ⟨p, ws, h1, h2, h3, h4⟩ := rel.lst eL eI
    refine ⟨.ref p, h1, .inl ⟨rfl, ws, SqL.of h2⟩, ?_⟩
    have h5 : rz X T (POk X.K T σ Q) Z (ga >>= mutE i op) σ H := ⟨R, S, r', S', W, rel, er, tk, pf⟩
    refine ⟨Z, rz_mono (ra_bind POk.mono h5) fun Z R as S p2 vs H2 Z3 s3 r3 a3 => ?_⟩
    obtain ⟨us, Z4, s4, o4, h6⟩ := p2 vs H2 Z3 s3 r3 a3
    exact mut_core hg h6 o4 h1
  · cases er
theorem ev_mut0 {i : Nat} {x : Str} {px : Pos} {id : String} {name : Str} {r : V → List V → Hp → VK → Prop} {op : List PyData → List PyData → Option (PyData × List PyData)} (slot : Slot "list" name id) (hty : typeOf (.builtin id) = pure (.type "method_descriptor")) (hm : MtR X id r) (hg : MutG X r op)
    (hN : X.N[i]? = some x) (hv : Vis X.env.scope x) (hd : (x == ("__debug__" : Str)) = false := by decide) (hcd : (x == ("__classdict__" : Str)) = false := by decide)
    (hbase : attributeBase (.Name x px) name X.env (eval (.Name x px) X.env) = eval (.Name x px) X.env := by rfl) (hline : (apos.endLine == pos.line) = true := by rfl) :
    EV X T (.Call (.Attribute (.Name x px) name apos) [] [] pos) (mutM i argsNil op) := pe_mono (pe_bm0 PySem.F.plainAttrs_list slot hty hm (pe_var hN hv hd hcd) hbase hline) fun σ H Q ⟨Z, R, S, r', S', W, rel, er, tk, pf⟩ => by
  unfold mutM at er
  split at er
  · rename_i ds e0
    obtain ⟨ls, eL, eI⟩ := isL_eq e0
    obtain ⟨p, ws, h1, h2, h3, h4⟩ := rel.lst eL eI
    refine ⟨.ref p, h1, .inl ⟨rfl, ws, SqL.of h2⟩, ?_⟩
    have h5 : rz X T (POk X.K T σ Q) Z (mutE i op []) σ H := ⟨R, S, r', S', W, rel, er, tk, pf⟩
    exact mut_core hg h5 .nil h1
  · cases er
/-- append: a frozen thing behind -/
def oAppend : List PyData → List PyData → Option (PyData × List PyData)
  | ds, [x] => if ds.length < sizeLine then some (.none, ds ++ [x]) else none
  | _, _ => none
theorem FrAll.one {K : PySem.W.Frag} {vs : List V} {x : PyData} (h : FrAll K Z vs [x]) : ∃ v, vs = [v] ∧ Fr K Z v x := by
  cases h with
  | cons a b => cases b; exact ⟨_, rfl, a⟩
theorem mg_append : MutG X rAppend oAppend := fun Z p vs ws ds xs y ds' H Q sz hp fr hw e q => by
  unfold oAppend at e
  split at e
  · rename_i x
    split at e
    · rename_i hl
      cases e
      obtain ⟨w, rfl, f⟩ := hw.one
      have hlen := fr.length
      exact ⟨p, vs, w, rfl, rfl, hp, by omega, q .non _ .non (fr.append (.cons f .nil))⟩
    · cases e
  · cases e
/-- pop() -/
def oPop : List PyData → List PyData → Option (PyData × List PyData)
  | ds, [] => (ds[ds.length - 1]?).map fun y => (y, ds.dropLast)
  | _, _ => none
theorem FrAll.dropLast {K : PySem.W.Frag} : ∀ {vs : List V} {ds : List PyData}, FrAll K Z vs ds → FrAll K Z vs.dropLast ds.dropLast := fun {vs ds} h => by
  rw [List.dropLast_eq_take, List.dropLast_eq_take, h.length]
  exact h.take _
theorem mg_pop : MutG X rPop oPop := fun Z p vs ws ds xs y ds' H Q sz hp fr hw e q => by
  unfold oPop at e
  split at e
  · cases hw
    cases q1 : ds[ds.length - 1]? with
    | none => rw [q1] at e; cases e
    | some z =>
      rw [q1] at e
      cases e
      obtain ⟨v, hv, fv⟩ := fr.get q1
      rw [← fr.length] at hv
      exact ⟨p, vs, v, rfl, rfl, hp, hv, q v _ fv fr.dropLast⟩
  · cases e
/-- pop(i) -/
def oPopAt : List PyData → List PyData → Option (PyData × List PyData)
  | ds, [.int i] => if -(2 ^ 63) ≤ i ∧ i < 2 ^ 63 then (seqIndex? i ds.length).bind fun k => (ds[k]?).map fun y => (y, ds.eraseIdx k) else none
  | _, _ => none
theorem FrAll.eraseIdx {K : PySem.W.Frag} : ∀ {vs : List V} {ds : List PyData} (k : Nat), FrAll K Z vs ds → FrAll K Z (vs.eraseIdx k) (ds.eraseIdx k)
  | _, _, _, .nil => .nil
  | _, _, 0, .cons a b => b
  | _, _, k + 1, .cons a b => .cons a (FrAll.eraseIdx k b)
theorem mg_popAt : MutG X rPopAt oPopAt := fun Z p vs ws ds xs y ds' H Q sz hp fr hw e q => by
  unfold oPopAt at e
  split at e
  · rename_i i
    split at e
    · rename_i hi
      obtain ⟨w, rfl, f⟩ := hw.one
      cases q0 : seqIndex? i ds.length with
      | none => rw [q0] at e; cases e
      | some k =>
        rw [q0] at e
        have e : (ds[k]?).map (fun y => (y, ds.eraseIdx k)) = some (y, ds') := e
        cases q1 : ds[k]? with
        | none => rw [q1] at e; cases e
        | some z =>
          rw [q1] at e
          cases e
          obtain ⟨v, hv, fv⟩ := fr.get q1
          rw [f.intV]
          exact ⟨p, vs, i, k, v, rfl, rfl, hp, hi.1, hi.2, by rw [fr.length]; exact q0, hv, q v _ fv (fr.eraseIdx k)⟩
    · cases e
  · cases e
/-- extend by a frozen list -/
def rExtendR : V → List V → Hp → VK → Prop := fun x vs H Q => ∃ l b xs zs, x = .ref l ∧ vs = [.ref b] ∧ H l = some (.lst xs) ∧ Rd H b (.lst zs) ∧ xs.length + zs.length ≤ sizeLine ∧ Q .non (upd H l (.lst (xs ++ zs)))
theorem mt_extendR : MtR X "list.extend" rExtendR := by
  intro pins s σ H x vs v us Q I rx rv h
  obtain ⟨l, b, xs, zs, rfl, rfl, hH, hB, hz, q⟩ := h
  cases rx
  obtain ⟨u, rfl, ru⟩ := rv.one
  cases ru
  obtain ⟨z, its, n, r, hl, e⟩ := I.lstM hH
  obtain ⟨z2, its2, n2, r2, hl2, e2⟩ := Inv.lstR I hB
  have hsz : its.toArray.size + its2.toArray.size ≤ sizeLine := by rw [List.size_toArray, List.size_toArray]; omega
  have hlong : ¬ (!its.toArray.isEmpty && Builtin.List.listTooLong (its.toArray.size + its2.toArray.size)) = true := by
    rw [notLongL hsz, Bool.and_false]
    exact Bool.false_ne_true
  refine call_meets F.slot_list_extend ⟨_, e, rfl⟩ F.entry_list_extend (F.args_list_extend_2 _ _)
    (AutoSeq1.list_extend_list_list_0 l its.toArray n b its2.toArray n2 hlong (by rw [List.size_toArray]; omega) (by omega)) ⟨e, e2, ?_⟩
  refine ⟨.non, _, I.lset (its' := its ++ its2) hH e (by simp) (r.append r2) ?_, rfl, q⟩
  rw [List.length_append]
  omega
def oExtend : List PyData → List PyData → Option (PyData × List PyData)
  | ds, [.list es] => if ds.length + es.length ≤ sizeLine then some (.none, ds ++ es) else none
  | _, _ => none
theorem mg_extend : MutG X rExtendR oExtend := fun Z p vs ws ds xs y ds' H Q sz hp fr hw e q => by
  unfold oExtend at e
  split at e
  · rename_i es
    split at e
    · rename_i hl
      cases e
      obtain ⟨w, rfl, f⟩ := hw.one
      cases f with
      | @lst a us _ ha ra =>
        have h1 := fr.length
        have h2 := ra.length
        exact ⟨p, a, vs, us, rfl, rfl, hp, Rd.sub ha sz, by omega, q .non _ .non (fr.append ra)⟩
    · cases e
  · cases e
/-! x[k] = v, x a list of the slot's own -/
def storeL (i : Nat) (x : PyData) (a : AV) : SM := fun S => match isL S[i]?, view S a with
  | some ds, some (.int k) => (ixN ds.length k).map fun j => (.nx, S.set i (some (.lst ((ds.set j x).map .d))))
  | _, _ => none
def putL (i : Nat) (fk : M AV) (x : PyData) : SM := fun S => match isL S[i]? with
  | some _ => doE fk (storeL i x) S
  | none => none
def setL (i : Nat) (fe : M OV) (fk : M AV) : SM := doE fe fun o => match o with
  | .d x => putL i fk x
  | _ => fun _ => none
theorem doV_of {D : Ends} {g : AV → SM} {P : Nat → V} {W : WX} {r : Fl} {S' : SS} (rel : Rel X.K T Z R S σ H) (pn : Pin mp P σ) (e : doE fa g S = some (r, S')) (tk : Takes X W) (q : PFl X.K T mp P D W Z R S' r) :
    rvg X T fa σ H fun v H1 => ∃ a Z1 S1, Sub Z Z1 ∧ Rel X.K T Z1 R S1 σ H1 ∧ AvOk X.K Z1 σ v a ∧ g a S1 = some (r, S') := by
  unfold doE at e
  split at e
  · rename_i o S1 e1
    exact ⟨Z, R, S, _, _, W, rel, e1, tk, fun v H' Z' s rel' av => ⟨o, Z', S1, s, rel', av, e⟩⟩
  · rename_i x S1 e1
    cases e
    exact ⟨Z, R, S, _, _, W, rel, e1, tk, fun cls d H' Z' s rel' ix => q cls d σ H' Z' s rel' pn ix⟩
  · cases e
theorem sv_setL {i : Nat} {x : Str} {px tpos : Pos} {fe : M OV} {fk : M AV} {k : Expr} (hN : X.N[i]? = some x) (hv : Vis X.env.scope x) (he : EV X T e fe) (hk : EVV X T k fk) (hd : (x == ("__debug__" : Str)) = false := by decide) (hcd : (x == ("__classdict__" : Str)) = false := by decide)
    (hs : swapsWithSole [.Subscript (.Name x px) k tpos] e pos.line X.env = pure false := by rfl) (hw : swappedStores [.Subscript (.Name x px) k tpos] e X.env = pure none := by rfl)
    (h1 : (assignEach [.Subscript (.Name x px) k tpos] X.env).map (·.2) = [assign (.Subscript (.Name x px) k tpos) X.env] := by rfl)
    (ha : ∀ v, assign (.Subscript (.Name x px) k tpos) X.env v = (do
      let ov ← holding [v] (eval (.Name x px) X.env)
      let iv ← holding [v, ov] (eval k X.env)
      standAt tpos
      holding [v, ov, iv] (setItem ov iv v)
      release [v, ov, iv] []) := by intro _; rfl) : SV X T mp (.Assign [.Subscript (.Name x px) k tpos] e pos) (setL i fe fk) :=
  ps_mono (ps_asg he (pg_sub (pe_var hN hv hd hcd) hk set_list ha) hs hw h1) fun D σ H h => by
    obtain ⟨Z, h⟩ := doE_of h
    refine ⟨Z, rz_mono h fun Z R o S p v H1 Z1 s1 r1 => ?_⟩
    obtain ⟨o, Z1, R, S1, r, S', W, P, rel, pn, e, tk, q⟩ := p v H1 Z1 s1 r1
    cases o with
    | d y =>
      obtain ⟨fy, rel1⟩ := rel.popd
      have e : putL i fk y S1 = some (r, S') := e
      unfold putL at e
      split at e
      · rename_i ds e0
        obtain ⟨ls, eL, eI⟩ := isL_eq e0
        obtain ⟨p, ws, g1, g2, g3, g4⟩ := rel1.lst eL eI
        obtain ⟨Z2, h2⟩ := doV_of rel1 pn e tk q
        refine ⟨.ref p, g1, Z2, rz_mono h2 fun Z R a S p2 v2 H2 Z2 s2 r2 a2 => ?_⟩
        obtain ⟨a, Z3, S3, s3, rel3, av3, e3⟩ := p2 v2 H2 Z2 s2 r2 a2
        unfold storeL at e3
        split at e3
        · rename_i ds3 k3 i3 v3
          obtain ⟨ls3, eL3, eI3⟩ := isL_eq i3
          obtain ⟨p3, ws3, k1, k2, k3', k4⟩ := rel3.lst eL3 eI3
          rw [g1] at k1
          cases k1
          cases q3 : ixN ds3.length k3 with
          | none => rw [q3] at e3; cases e3
          | some j =>
            rw [q3] at e3
            cases e3
            rw [(rel3.view av3 v3).int]
            refine ⟨p, ws3, k3, j, rfl, rfl, k2, by rw [k3'.length]; exact q3, ?_⟩
            have rel4 := k4 _ _ (k3'.set j (fy.sub s3))
            exact q σ _ Z3 s3 rel4 pn
        · cases e3
      · cases e
    | _ => cases e

/-! ### what loops walk -/
theorem pi_seqA {l : Expr} {tl : TE} (hl : PE X l tl) : PI X tg l (fun σ H R => tl σ H fun x H1 => ∃ a, x = .ref a ∧ (((∃ xs, SqL X.K H1 a xs) ∧ R (Itl X.K a) H1) ∨ ((∃ xs, SqT X.K H1 a xs) ∧ R (Itt X.K a) H1))) := by
  refine ⟨fun pins s σ H R I h => ?_⟩
  refine thn (hl.run pins s σ H _ I h) fun v s1 ⟨x, H1, I1, r1, q1⟩ => ?_
  obtain ⟨a, e, ⟨⟨xs, hq⟩, q⟩ | ⟨⟨xs, hq⟩, q⟩⟩ := q1
  · subst e
    cases r1
    obtain ⟨its, rv, p, hz⟩ := I1.list hq
    refine wpAny_pyIter_list p.isList ?_
    refine ⟨s1.heap.objs.size, [s1.heap.objs.size], _, _, H1, rfl, I1.kept (t' := s1.toks) fun b o e => Heap.get?_push_of_some _ e, turn_list a _, ⟨_, Heap.get?_push_size _ rfl, rfl, rfl⟩, fun b hb => ?_, q⟩
    have e : b = s1.heap.objs.size := by simpa using hb
    subst e
    exact I1.fpOk (Nat.le_refl _) (I1.hok.fresh (Nat.le_refl _))
  · subst e
    cases r1
    obtain ⟨its, rv, p, hz⟩ := I1.tuple hq
    refine wpAny_pyIter_tuple (show s1.heap.IsTuple a its.toArray from p) ?_
    refine ⟨s1.heap.objs.size, [s1.heap.objs.size], _, _, H1, rfl, I1.kept (t' := s1.toks) fun b o e => Heap.get?_push_of_some _ e, turn_tuple a _, ⟨_, Heap.get?_push_size _ rfl, rfl, rfl⟩, fun b hb => ?_, q⟩
    have e : b = s1.heap.objs.size := by simpa using hb
    subst e
    exact I1.fpOk (Nat.le_refl _) (I1.hok.fresh (Nat.le_refl _))
def seqOf : OV → Option (List PyData)
  | .d (.list xs) => some xs
  | .d (.tuple xs) => some xs
  | _ => none
def itE (f : M OV) : M (List PyData) := f >>= fun o => M.lift (seqOf o)
theorem evi_seq {f : M OV} (h : EV X T iter f) : EVI X T tg iter (itE f) := pi_mono (pi_seqA h) fun σ H R0 ⟨Z, h⟩ => by
  refine ⟨Z, rz_mono (rd_bind PIt.mono h) fun Z R o S p v H1 Z1 s1 r1 => ?_⟩
  obtain ⟨o', Z2, R2, S2, r, S', W, s2, rel, e, tk, q⟩ := p v H1 Z1 s1 r1
  cases hq : seqOf o' with
  | none => rw [hq] at e; cases e
  | some ds =>
    rw [hq] at e
    cases e
    have goes : ∀ (J : It), (∀ (Z3 : Hp) (H3 : Hp), Sub Z2 Z3 → Sub Z3 H3 → ∀ i : Nat, (i = ds.length → J.stop i H3) ∧ ∀ d, ds[i]? = some d → J.go i H3 ∧ ∀ x H', J.yld i H3 x H' → H' = H3 ∧ Fr X.K Z3 x d) → Goes X.K T Z2 J ds := fun J hJ Z3 R3 S3 σ3 H3 s3 rel3 i => by
      obtain ⟨g1, g2⟩ := hJ Z3 H3 s3 rel3.z i
      refine ⟨g1, fun d hd => ?_⟩
      obtain ⟨g3, g4⟩ := g2 d hd
      refine ⟨g3, fun x H' y => ?_⟩
      obtain ⟨rfl, f⟩ := g4 x H' y
      exact ⟨Z3, Sub.refl _, rel3, f⟩
    cases o' with
    | d x =>
      obtain ⟨f1, r2⟩ := rel.popd
      cases x with
      | list xs =>
        cases hq
        cases f1 with
        | @lst a vs _ ha ra =>
          refine ⟨a, rfl, .inl ⟨⟨vs, .inl (Rd.sub ha r2.z)⟩, q _ H1 Z2 (Sub.refl _) r2 (goes _ fun Z3 H3 s3 sz i => ⟨fun hi => ⟨vs, .inl (Rd.sub (Rd.sub ha s3) sz), by rw [ra.length, hi]; exact Nat.le_refl _⟩, fun d hd => ?_⟩)⟩⟩
          obtain ⟨u, hu, fu⟩ := ra.get hd
          refine ⟨⟨vs, u, .inl (Rd.sub (Rd.sub ha s3) sz), hu⟩, fun x H' ⟨e1, e2⟩ => ⟨e1, ?_⟩⟩
          have := e2 vs (.inl (Rd.sub (Rd.sub ha s3) sz))
          rw [hu] at this
          cases this
          exact fu.sub s3
      | tuple xs =>
        cases hq
        cases f1 with
        | @tup a vs _ ha ra =>
          refine ⟨a, rfl, .inr ⟨⟨vs, sqT_sub ha r2.z⟩, q _ H1 Z2 (Sub.refl _) r2 (goes _ fun Z3 H3 s3 sz i => ⟨fun hi => ⟨vs, sqT_sub (sqT_sub ha s3) sz, by rw [ra.length, hi]; exact Nat.le_refl _⟩, fun d hd => ?_⟩)⟩⟩
          obtain ⟨u, hu, fu⟩ := ra.get hd
          refine ⟨⟨vs, u, sqT_sub (sqT_sub ha s3) sz, hu⟩, fun x H' ⟨e1, e2⟩ => ⟨e1, ?_⟩⟩
          have := e2 vs (sqT_sub (sqT_sub ha s3) sz)
          rw [hu] at this
          cases this
          exact fu.sub s3
      | _ => cases hq
    | _ => cases hq
/-- for c in s, s a text -/
def strOf : OV → Option (List PyData)
  | .d (.str z) => some (z.cps.toList.map fun c => .str ⟨#[c]⟩)
  | _ => none
def itS (f : M OV) : M (List PyData) := f >>= fun o => M.lift (strOf o)
theorem evi_str {f : M OV} (h : EV X T iter f) : EVI X T tg iter (itS f) := pi_mono (pi_str h) fun σ H R0 ⟨Z, h⟩ => by
  refine ⟨Z, rz_mono (rd_bind PIt.mono h) fun Z R o S p v H1 Z1 s1 r1 => ?_⟩
  obtain ⟨o', Z2, R2, S2, r, S', W, s2, rel, e, tk, q⟩ := p v H1 Z1 s1 r1
  cases o' with
  | d x =>
    cases x with
    | str z =>
      cases e
      obtain ⟨f1, r2⟩ := rel.popd
      refine ⟨z, f1.strV, q _ H1 Z2 (Sub.refl _) r2 fun Z3 R3 S3 σ3 H3 s3 rel3 i => ⟨fun hi => ?_, fun d hd => ?_⟩⟩
      · show z.cps.size ≤ i
        rw [hi, List.length_map, Array.length_toList]; exact Nat.le_refl _
      · rw [List.getElem?_map] at hd
        cases hc : z.cps.toList[i]? with
        | none => rw [hc] at hd; cases hd
        | some c =>
          rw [hc] at hd
          cases hd
          rw [Array.getElem?_toList] at hc
          refine ⟨(Array.getElem?_eq_some_iff.mp hc).1, fun x H' ⟨e1, c', e2, e3⟩ => ?_⟩
          subst e1 e3
          rw [hc] at e2
          cases e2
          exact ⟨Z3, Sub.refl _, rel3, .str _⟩
    | _ => cases e
  | _ => cases e
/-- range -/
def rngD (lo : Int) (n : Nat) : List PyData := (List.range n).map fun k => .int (lo + (k : Nat))
def rng1 (ga : M (List AV)) : M (List PyData) := ga >>= fun as => fun S => match views S as with
  | some [.int j] => if -(2 ^ 62) ≤ j ∧ j < 2 ^ 62 then some (.ok (rngD 0 j.toNat), S) else none
  | _ => none
def rng2 (ga : M (List AV)) : M (List PyData) := ga >>= fun as => fun S => match views S as with
  | some [.int i, .int j] => if (-(2 ^ 62) ≤ i ∧ i < 2 ^ 62) ∧ -(2 ^ 62) ≤ j ∧ j < 2 ^ 62 then some (.ok (rngD i (j - i).toNat), S) else none
  | _ => none
theorem goes_rng {K : PySem.W.Frag} (lo : Int) (n : Nat) : Goes K T Z (Itr lo n) (rngD lo n) := fun Z3 R3 S3 σ3 H3 s3 rel3 i => ⟨fun hi => by
    show n ≤ i
    rw [hi, rngD, List.length_map, List.length_range]; exact Nat.le_refl _, fun d hd => by
    unfold rngD at hd
    rw [List.getElem?_map] at hd
    cases hc : (List.range n)[i]? with
    | none => rw [hc] at hd; cases hd
    | some c =>
      rw [hc] at hd
      cases hd
      obtain ⟨h1, h2⟩ := List.getElem?_eq_some_iff.mp hc
      rw [List.getElem_range] at h2
      subst h2
      have h1' : i < n := by simpa using h1
      refine ⟨h1', fun x H' ⟨e1, e2⟩ => ?_⟩
      subst e1 e2
      exact ⟨Z3, Sub.refl _, rel3, .int _⟩⟩
theorem evi_rng1 {p : Pos} (hg : Gl X "range") (hm : X.mg "range" = none) (ha : EVA X T [a] ga) (hs : starEach [a] X.env = [(false, eval a X.env)] := by rfl) : EVI X T tg (.Call (.Name "range" p) [a] [] pos) (rng1 ga) := pi_mono (pi_range1 hg hm ha hs) fun σ H R0 ⟨Z, h⟩ => by
  refine ⟨Z, rz_mono (ra_bind PIt.mono h) fun Z R as S p vs H2 Z3 s3 r3 a3 => ?_⟩
  obtain ⟨us, Z4, s4, o4, R5, S5, r, S', W, rel, e, tk, q⟩ := p vs H2 Z3 s3 r3 a3
  have e : (match views S5 us with
    | some [.int j] => if -(2 ^ 62) ≤ j ∧ j < 2 ^ 62 then some (Except.ok (rngD 0 j.toNat), S5) else none
    | _ => none) = some (r, S') := e
  split at e
  · rename_i j hv
    split at e
    · rename_i hb
      cases e
      obtain ⟨v, rfl, w⟩ := (rel.views o4 hv).one
      rw [w.int]
      exact ⟨j, rfl, hb.1, hb.2, q _ H2 Z4 (Sub.refl _) rel (goes_rng 0 _)⟩
    · cases e
  · cases e
theorem evi_rng2 {p : Pos} (hg : Gl X "range") (hm : X.mg "range" = none) (ha : EVA X T [a, b] ga) (hs : starEach [a, b] X.env = [(false, eval a X.env), (false, eval b X.env)] := by rfl) (hs2 : starEach [b] X.env = [(false, eval b X.env)] := by rfl) : EVI X T tg (.Call (.Name "range" p) [a, b] [] pos) (rng2 ga) := pi_mono (pi_range2 hg hm ha hs hs2) fun σ H R0 ⟨Z, h⟩ => by
  refine ⟨Z, rz_mono (ra_bind PIt.mono h) fun Z R as S p vs H2 Z3 s3 r3 a3 => ?_⟩
  obtain ⟨us, Z4, s4, o4, R5, S5, r, S', W, rel, e, tk, q⟩ := p vs H2 Z3 s3 r3 a3
  have e : (match views S5 us with
    | some [.int i, .int j] => if (-(2 ^ 62) ≤ i ∧ i < 2 ^ 62) ∧ -(2 ^ 62) ≤ j ∧ j < 2 ^ 62 then some (Except.ok (rngD i (j - i).toNat), S5) else none
    | _ => none) = some (r, S') := e
  split at e
  · rename_i i j hv
    split at e
    · rename_i hb
      cases e
      obtain ⟨v, w, rfl, w1, w2⟩ := (rel.views o4 hv).two
      rw [w1.int, w2.int]
      exact ⟨i, j, rfl, ⟨hb.1.1, hb.1.2, hb.2.1, hb.2.2⟩, q _ H2 Z4 (Sub.refl _) rel (goes_rng i _)⟩
    · cases e
  · cases e
end

/-! ### comprehensions -/
def wipeS (S : SS) : List Nat → SS
  | [] => S
  | i :: is => (wipeS S is).set i none
/-- the items of [elt for target in .. if ..] -/
def compL (g : PyData → SS → Option SS) (ft : M Bool) (fe : M OV) (vs : List Nat) : List PyData → List PyData → SS → Option (List PyData × SS)
  | [], acc, S => some (acc, S)
  | d :: ds, acc, S => match g d S with
    | none => none
    | some S1 => match ft S1 with
      | some (.ok true, S2) => match fe S2 with
        | some (.ok (.d y), S3) => if acc.length < sizeLine then compL g ft fe vs ds (acc ++ [y]) (wipeS S3 vs) else none
        | _ => none
      | some (.ok false, S2) => compL g ft fe vs ds acc (wipeS S2 vs)
      | _ => none
def compE (own : Bool) (fi : M (List PyData)) (g : PyData → SS → Option SS) (ft : M Bool) (fe : M OV) (vs : List Nat) : M OV := fi >>= fun ds => fun S => if vs.all (fun i => decide (i < S.length)) then (compL g ft fe vs ds [] (wipeS S vs)).map fun p => (.ok (newL own p.1), p.2) else none
def tYesM : M Bool := M.ret true
section
variable {X : Cx} {T : List (Addr × Str)} {mp : List Nat} {a b c e l tg iter elt : Expr} {ifs : List Expr} {pos : Pos} {Z R H : Hp} {S : SS} {σ : L2.St}
theorem Rel.wipe {K : PySem.W.Frag} (r : Rel K T Z R S σ H) : ∀ vs : List Nat, Rel K T Z R (wipeS S vs) (L2.wipe σ vs) H
  | [] => r
  | i :: is => (Rel.wipe r is).clear i none
theorem wipeS_len : ∀ vs : List Nat, (wipeS S vs).length = S.length
  | [] => rfl
  | i :: is => by unfold wipeS; rw [List.length_set, wipeS_len is]
theorem wipeS_get : ∀ (vs : List Nat) (i : Nat), i ∈ vs → i < S.length → (wipeS S vs)[i]? = some none
  | j :: is, i, h, hl => by
    unfold wipeS
    by_cases e : j = i
    · subst e
      rw [List.getElem?_set_self (by rw [wipeS_len]; exact hl)]
    · rw [List.getElem?_set_ne e]
      exact wipeS_get is i (by simpa [Ne.symm e] using h) hl
/-- slots that hold nothing may be anything -/
theorem Rel.unwipe {K : PySem.W.Frag} {S1 : SS} : ∀ (ws : List Nat) {σ : L2.St}, Rel K T Z R S1 (L2.wipe σ ws) H → (∀ i ∈ ws, S1[i]? = some none) → Rel K T Z R S1 σ H := by
  intro ws
  induction ws with
  | nil => intro σ r _; exact r
  | cons i is ih =>
    intro σ r h
    have h1 := r.blank (i := i) (u := (L2.wipe σ is)[i]?.join) (h i List.mem_cons_self)
    have e : ((L2.wipe σ (i :: is)).set i ((L2.wipe σ is)[i]?.join)) = L2.wipe σ is := by
      show ((L2.wipe σ is).set i none).set i _ = _
      rw [List.set_set]
      apply List.ext_getElem?
      intro j
      by_cases hj : i = j
      · subst hj
        by_cases hl : i < (L2.wipe σ is).length
        · rw [List.getElem?_set_self hl, List.getElem?_eq_getElem hl]; rfl
        · rw [List.getElem?_eq_none (by simpa using hl), List.getElem?_eq_none (by simpa using hl)]
      · rw [List.getElem?_set_ne hj]
    rw [e] at h1
    exact ih h1 fun j hj => h j (List.mem_cons_of_mem _ hj)
abbrev EVTs (X : Cx) (T : List (Addr × Str)) (ifs : List Expr) (f : M Bool) : Prop := PTs X ifs (rtg X T f)
theorem evts_nil : EVTs X T [] tYesM := ⟨fun pins s σ H Q I ⟨Z, h⟩ => (pts_nil (X := X)).run pins s σ H Q I (by
  obtain ⟨R, S, rel, p⟩ := rz_ret h
  exact p H Z (Sub.refl _) rel)⟩
theorem evts_one {ft : M Bool} (h : EVT X T c ft) : EVTs X T [c] ft := pts_one h
/-- the list in the making is a part of the frame -/
theorem Rel.addR {K : PySem.W.Frag} (r : Rel K T Z R S σ H) {D : Addr} (hD : H D = none) (vs : List V) : Rel K T Z (upd R D (.lst vs)) S σ (upd H D (.lst vs)) := by
  obtain ⟨L, ow, n, q⟩ := r.own
  have lp : ∀ a ∈ L, a ≠ D := fun a ha e => by
    obtain ⟨w, hw, _⟩ := ow.at_ a ha
    rw [e, hD] at hw; cases hw
  refine ⟨⟨L, ow.mono (Sub.refl Z) (fun a ha => upd_ne (lp a ha)), n, fun a ha => ⟨(q a ha).1, by rw [upd_ne (lp a ha)]; exact (q a ha).2⟩⟩, fun a o e => ?_, fun a o e => ?_, r.zt, fun a ps e => ?_, fun a o e => ?_, r.tab.ext fun a o e => ?_⟩
  · rw [upd_ne (ne_of_none (r.z a o e) hD)]; exact r.z a o e
  · by_cases h : a = D
    · subst h; rw [upd_same] at e ⊢; exact e
    · rw [upd_ne h] at e ⊢; exact r.r a o e
  · by_cases h : a = D
    · subst h; rw [upd_same] at e; cases e
    · rw [upd_ne h] at e; exact r.rt a ps e
  · by_cases h : a = D
    · subst h
      have := r.z a o e
      rw [hD] at this; cases this
    · rw [upd_ne h]; exact r.zr a o e
  · rw [upd_ne (ne_of_none e hD)]; exact e
/-- .. it grows -/
theorem Rel.setR {K : PySem.W.Frag} {D : Addr} {vs vs' : List V} (r : Rel K T Z (upd R D (.lst vs)) S σ H) : Rel K T Z (upd R D (.lst vs')) S σ (upd H D (.lst vs')) := by
  obtain ⟨L, ow, n, q⟩ := r.own
  have hD : H D = some (.lst vs) := r.r D _ upd_same
  have lp : ∀ a ∈ L, a ≠ D := fun a ha e => by
    have := (q a ha).2
    rw [e, upd_same] at this; cases this
  have zD : Z D = none := by
    cases e : Z D with
    | none => rfl
    | some o => have := r.zr D o e; rw [upd_same] at this; cases this
  refine ⟨⟨L, ow.mono (Sub.refl Z) (fun a ha => upd_ne (lp a ha)), n, fun a ha => ⟨(q a ha).1, by have := (q a ha).2; rw [upd_ne (lp a ha)] at this ⊢; exact this⟩⟩, fun a o e => ?_, fun a o e => ?_, r.zt, fun a ps e => ?_, fun a o e => ?_, tabs_upd r.tab hD (fun _ z => by cases z) fun _ z => by cases z⟩
  · rw [upd_ne (fun z => by rw [z, zD] at e; cases e)]; exact r.z a o e
  · by_cases h : a = D
    · subst h; rw [upd_same] at e ⊢; exact e
    · rw [upd_ne h] at e ⊢
      exact r.r a o (by rw [upd_ne h]; exact e)
  · by_cases h : a = D
    · subst h; rw [upd_same] at e; cases e
    · rw [upd_ne h] at e
      exact r.rt a ps (by rw [upd_ne h]; exact e)
  · by_cases h : a = D
    · subst h; rw [zD] at e; cases e
    · have := r.zr a o e
      rw [upd_ne h] at this ⊢; exact this
/-- .. and is done -/
theorem Rel.doneR {K : PySem.W.Frag} {own : Bool} {D : Addr} {vs : List V} {ds : List PyData} (r : Rel K T Z (upd R D (.lst vs)) S σ H) (hR : R D = none) (f : FrAll K Z vs ds) : ∃ Z', Sub Z Z' ∧ Rel K T Z' R (some (newL own ds) :: S) (some (.ref D) :: σ) H := by
  obtain ⟨L, ow, n, q⟩ := r.own
  have hD : H D = some (.lst vs) := r.r D _ upd_same
  have lp : ∀ a ∈ L, a ≠ D := fun a ha e => by
    have := (q a ha).2
    rw [e, upd_same] at this; cases this
  have zD : Z D = none := by
    cases e : Z D with
    | none => rfl
    | some o => have := r.zr D o e; rw [upd_same] at this; cases this
  have qR : ∀ a ∈ L, R a = none := fun a ha => by have := (q a ha).2; rwa [upd_ne (lp a ha)] at this
  have rR : Sub R H := fun a o e => r.r a o (by rw [upd_ne (fun z => by rw [z, hR] at e; cases e)]; exact e)
  have rt : ∀ a ps, R a ≠ some (.tbl ps) := fun a ps e => r.rt a ps (by rw [upd_ne (fun z => by rw [z, hR] at e; cases e)]; exact e)
  cases own with
  | true =>
    refine ⟨Z, Sub.refl _, ⟨⟨[D] ++ L, .own (.lst hD (OwnL.ofFr f)) ow, List.nodup_cons.mpr ⟨fun z => lp D z rfl, n⟩, fun a ha => ?_⟩, r.z, rR, r.zt, rt, fun a o e => ?_, r.tab⟩⟩
    · rcases List.mem_cons.mp ha with rfl | ha
      · exact ⟨zD, hR⟩
      · exact ⟨(q a ha).1, qR a ha⟩
    · have := r.zr a o e
      rwa [upd_ne (fun z => by rw [z, zD] at e; cases e)] at this
  | false =>
    have sb := sub_upd (Z := Z) (p := D) (.lst vs) zD
    refine ⟨upd Z D (.lst vs), sb, ⟨⟨[] ++ L, .own (.d (.lst (Rd.of upd_same) (f.sub sb))) (ow.mono sb fun _ _ => rfl), n, fun a ha => ⟨by rw [upd_ne (lp a ha)]; exact (q a ha).1, qR a ha⟩⟩, fun a o e => ?_, rR, fun a ps e => ?_, rt, fun a o e => ?_, r.tab⟩⟩
    · by_cases h : a = D
      · subst h; rw [upd_same] at e; rw [← e]; exact hD
      · rw [upd_ne h] at e; exact r.z a o e
    · by_cases h : a = D
      · subst h; rw [upd_same] at e; cases e
      · rw [upd_ne h] at e; exact r.zt a ps e
    · by_cases h : a = D
      · subst h; exact hR
      · rw [upd_ne h] at e
        have := r.zr a o e
        rwa [upd_ne h] at this
/-- readings without exceptions: they lean on nothing but K -/
def rz0 (K : PySem.W.Frag) (T : List (Addr × Str)) {α : Type} (P : Post α) (Z : Hp) (f : M α) (σ : L2.St) (H : Hp) : Prop := ∃ R S a S', Rel K T Z R S σ H ∧ f S = some (.ok a, S') ∧ P Z R a S'
theorem rz0_rz {Y : Cx} {α : Type} {P : Post α} {f : M α} (h : rz0 Y.K T P Z f σ H) : rz Y T P Z f σ H := by
  obtain ⟨R, S, a, S', rel, e, p⟩ := h
  exact ⟨R, S, .ok a, S', fun _ _ _ _ => False, rel, e, L2.takes0, p⟩
theorem pts_mono {Y : Cx} {ifs : List Expr} {t t' : TT} (h : PTs Y ifs t) (i : ∀ σ H Q, t' σ H Q → t σ H Q) : PTs Y ifs t' := ⟨fun pins s σ H Q I q => h.run pins s σ H Q I (i σ H Q q)⟩
theorem wipe_in (ws : List Nat) (τ : L2.St) (j : Nat) (h : j ∈ ws) : (L2.wipe τ ws)[j]? = if j < τ.length then some none else none := by
  induction ws with
  | nil => cases h
  | cons i is ih =>
    show ((L2.wipe τ is).set i none)[j]? = _
    by_cases e : i = j
    · subst e
      by_cases hl : i < τ.length
      · rw [List.getElem?_set_self (by rw [L2.wipe_length]; exact hl), if_pos hl]
      · rw [List.getElem?_eq_none (by rw [List.length_set, L2.wipe_length]; omega), if_neg hl]
    · rw [List.getElem?_set_ne e]
      exact ih (by simpa [Ne.symm e] using h)
theorem wipe_off {σ σ' : L2.St} {vs ws : List Nat} (o : Off ws (L2.wipe σ vs) σ') (h : ∀ i ∈ ws, i ∈ vs) : L2.wipe σ' vs = L2.wipe σ vs := by
  have hl : σ'.length = σ.length := o.1.trans (L2.wipe_length σ vs)
  apply List.ext_getElem?
  intro j
  by_cases hj : j ∈ vs
  · rw [wipe_in vs σ' j hj, wipe_in vs σ j hj, hl]
  · rw [L2.wipe_out hj, o.2 j fun z => hj (h j z)]
theorem ri_bind {β : Type} {P : Post β} (hP : PMono P) {f : M (List PyData)} {g : List PyData → M β} (h : rz X T P Z (f >>= g) σ H) : rig X T f σ H fun J H1 => ∃ ds Z1, Sub Z Z1 ∧ Goes X.K T Z1 J ds ∧ rz X T P Z1 (g ds) σ H1 := by
  obtain ⟨R, S, r, S', W, rel, e, tk, p⟩ := h
  rcases bind_eq e with ⟨x, ef, rfl⟩ | ⟨a, S1, ef, eg⟩
  · exact ⟨Z, R, S, _, _, W, rel, ef, tk, p⟩
  · refine ⟨Z, R, S, _, _, W, rel, ef, tk, fun J H1 Z1 s1 r1 go => ⟨a, Z1, s1, go, R, S1, r, S', W, r1, eg, tk, ?_⟩⟩
    cases r with
    | ok o => exact hP _ _ _ _ _ s1 p
    | error z => exact ExPost.mono s1 p
theorem lc_of {own : Bool} {vs ws : List Nat} {fi : M (List PyData)} {g : PyData → SS → Option SS} {ft : M Bool} {fe : M OV} (hw : ∀ i ∈ ws, i ∈ vs) : ∀ (σ : L2.St) (H : Hp) (Q : VK), rdg X T (compE own fi g ft fe vs) σ H Q →
    tLc (rig X T fi) (rgd X T ws g) (fun σ H Q => ∃ Z, rz0 X.K T (PBo X.K T σ Q) Z ft σ H) (fun σ H Q => ∃ Z, rz0 X.K T (POk X.K T σ Q) Z fe σ H) vs σ H Q := fun σ H Q ⟨Z, h⟩ => by
  obtain ⟨Z0, h⟩ := ri_bind POk.mono h
  refine ⟨Z0, rz_mono h fun Z R o S p J H1 Z1 s1 r1 go1 D hD => ?_⟩
  obtain ⟨ds, Z2, s2, go, R, S, r, S', W, rel, e, tk, pf⟩ := p J H1 Z1 s1 r1 go1
  have e : (if vs.all (fun i => decide (i < S.length)) then (compL g ft fe vs ds [] (wipeS S vs)).map (fun p => (Except.ok (newL own p.1), p.2)) else none) = some (r, S') := e
  split at e
  · rename_i hall
    cases q0 : compL g ft fe vs ds [] (wipeS S vs) with
    | none => rw [q0] at e; cases e
    | some t =>
      obtain ⟨accF, S9⟩ := t
      rw [q0] at e
      cases e
      have hR : R D = none := by
        cases q : R D with
        | none => rfl
        | some w => rw [rel.r _ _ q] at hD; cases hD
      have hlt : ∀ i ∈ vs, i < S.length := fun i hi => of_decide_eq_true (List.all_eq_true.mp hall i hi)
      refine ⟨fun i m H => m = ds.length - i ∧ i ≤ ds.length ∧ ∃ Z' S2 accV acc, Sub Z2 Z' ∧ Rel X.K T Z' (upd R D (.lst accV)) S2 (L2.wipe σ vs) H ∧ FrAll X.K Z' accV acc ∧ S2.length = S.length ∧ (∀ i ∈ vs, S2[i]? = some none) ∧ compL g ft fe vs (ds.drop i) acc S2 = some (accF, S9),
        ⟨_, rfl, Nat.zero_le _, Z2, wipeS S _, [], [], Sub.refl _, (rel.wipe _).addR hD [], .nil, wipeS_len _, fun i hi => wipeS_get _ i hi (hlt i hi), q0⟩, ?_⟩
      rintro i m H3 ⟨rfl, hi, Z3, S3, accV, acc, s3, rel3, fa, hl3, hn3, e3⟩
      obtain ⟨g1, g2⟩ := go Z3 _ S3 _ H3 s3 rel3 i
      by_cases hlt2 : i < ds.length
      · obtain ⟨g3, g4⟩ := g2 ds[i] (List.getElem?_eq_getElem hlt2)
        rw [List.drop_eq_getElem_cons hlt2] at e3
        refine .inr ⟨g3, fun H' => ∃ Z' S2 accV acc, Sub Z2 Z' ∧ Rel X.K T Z' (upd R D (.lst accV)) S2 (L2.wipe σ vs) H' ∧ FrAll X.K Z' accV acc ∧ S2.length = S.length ∧ (∀ i ∈ vs, S2[i]? = some none) ∧ compL g ft fe vs (ds.drop (i + 1)) acc S2 = some (accF, S9),
          fun H' hh => ⟨ds.length - (i + 1), by omega, rfl, hlt2, hh⟩, fun x H4 y => ?_⟩
        obtain ⟨Z4, s4, rel4, fx⟩ := g4 x H4 y
        unfold compL at e3
        cases eg : g ds[i] S3 with
        | none => rw [eg] at e3; cases e3
        | some S5 =>
          rw [eg] at e3
          refine ⟨ds[i], Z4, _, S3, S5, fx, rel4, eg, fun σ5 rel5 off => ⟨wipe_off off hw, ?_⟩⟩
          have hσ : L2.wipe σ5 vs = L2.wipe σ vs := wipe_off off hw
          have hσl : σ5.length = S.length := by rw [off.1, rel4.length, hl3]
          simp only at e3
          cases et : ft S5 with
          | none => rw [et] at e3; cases e3
          | some tt =>
            obtain ⟨tr, S6⟩ := tt
            rw [et] at e3
            cases tr with
            | error _ => cases e3
            | ok b =>
              refine ⟨Z4, _, S5, b, S6, rel5, et, fun H6 Z6 s6 rel6 => ?_⟩
              cases b with
              | false =>
                rw [if_neg Bool.false_ne_true]
                have hl6 : S6.length = S.length := by rw [← rel6.length, hσl]
                have rel7 := rel6.wipe vs
                rw [hσ] at rel7
                exact ⟨Z6, wipeS S6 _, accV, acc, (s3.trans s4).trans s6, rel7, fa.sub (s4.trans s6), (wipeS_len _).trans hl6, fun i hi => wipeS_get _ i hi (by rw [hl6]; exact hlt i hi), e3⟩
              | true =>
                rw [if_pos rfl]
                simp only at e3
                cases ee : fe S6 with
                | none => rw [ee] at e3; cases e3
                | some ts =>
                  obtain ⟨tv, S7⟩ := ts
                  rw [ee] at e3
                  cases tv with
                  | error _ => cases e3
                  | ok ov =>
                    cases ov with
                    | d yD =>
                      simp only at e3
                      split at e3
                      · rename_i hsz
                        refine ⟨Z6, _, S6, _, S7, rel6, ee, fun y H7 Z7 s7 rel7 => ?_⟩
                        obtain ⟨fy, rel8⟩ := rel7.popd
                        refine ⟨accV, rel8.r D _ upd_same, by rw [fa.length]; exact hsz, ?_⟩
                        have hl7 : S7.length = S.length := by rw [← rel8.length, hσl]
                        have rel9 := (rel8.setR (vs' := accV ++ [y])).wipe vs
                        rw [hσ] at rel9
                        exact ⟨Z7, wipeS S7 _, accV ++ [y], acc ++ [yD], ((s3.trans s4).trans s6).trans s7, rel9, (fa.sub ((s4.trans s6).trans s7)).append (.cons fy .nil), (wipeS_len _).trans hl7, fun i hi => wipeS_get _ i hi (by rw [hl7]; exact hlt i hi), e3⟩
                      · cases e3
                    | lst _ => cases e3
                    | dct _ => cases e3
                    | ins _ _ => cases e3
      · have he : i = ds.length := by omega
        subst he
        rw [List.drop_length] at e3
        cases e3
        refine .inl ⟨g1 rfl, ?_⟩
        obtain ⟨Z5, s5, rel5⟩ := (rel3.unwipe _ hn3).doneR (own := own) hR fa
        exact pf _ H3 Z5 (s3.trans s5) rel5
  · cases e
theorem ev_comp {own : Bool} {scope : Scope} {ownN : List (Str × Nat)} {ws : List Nat} {fi : M (List PyData)} {g : PyData → SS → Option SS} {ft : M Bool} {fe : M OV} (hc : X.calm = true) (hN : X.N.Nodup) (hi : EVI X T tg iter fi) (ok : BlkOk X.N X.env.scope scope ownN)
    (hg : ∀ (s : Shared) (H : Hp) (C : Addr) (cl : List (Str × Addr)) (fp : List Addr), GV (X.blk s H scope (compEnvC scope cl C X.env) fp) T ws tg g) (ht : ∀ (s : Shared) (H : Hp) (C : Addr) (cl : List (Str × Addr)) (fp : List Addr), EVTs (X.blk s H scope (compEnvC scope cl C X.env) fp) T ifs ft)
    (he : ∀ (s : Shared) (H : Hp) (C : Addr) (cl : List (Str × Addr)) (fp : List Addr), EV (X.blk s H scope (compEnvC scope cl C X.env) fp) T elt fe) (hw : ∀ i ∈ ws, i ∈ ownN.map (·.2) := by decide) (hs : ∀ x, foldedSetIterable iter X.env x = pure x := by intro _; rfl) :
    EV X T (.ListComp elt [⟨tg, iter, ifs, 0⟩] scope pos) (compE own fi g ft fe (ownN.map (·.2))) :=
  pe_mono (pe_lc (g := rgd X T ws g) (tt := fun σ H Q => ∃ Z, rz0 X.K T (PBo X.K T σ Q) Z ft σ H) (te := fun σ H Q => ∃ Z, rz0 X.K T (POk X.K T σ Q) Z fe σ H) hc hN hi ok hg
    (fun s H C cl fp => pts_mono (ht s H C cl fp) fun σ H Q ⟨Z, h⟩ => ⟨Z, rz0_rz h⟩) (fun s H C cl fp => pe_mono (he s H C cl fp) fun σ H Q ⟨Z, h⟩ => ⟨Z, rz0_rz h⟩) hs) fun σ H Q h => lc_of hw σ H Q h
theorem sv_setC {i : Nat} {y : Str} {py spos : Pos} {mp : List Nat} {own : Bool} {scope : Scope} {ownN : List (Str × Nat)} {ws : List Nat} {fi : M (List PyData)} {g : PyData → SS → Option SS} {ft : M Bool} {fe : M OV} (hc : X.calm = true) (hN : X.N.Nodup) (hy : X.N[i]? = some y) (hyl : X.env.scope.names.lookup y = some .local)
    (hsw : swapsWith (.ListComp elt [⟨tg, iter, ifs, 0⟩] scope pos) (some (.Name y py)) spos.line X.env = pure true) (hi : EVI X T tg iter fi) (ok : BlkOk X.N X.env.scope scope ownN)
    (hg : ∀ (s : Shared) (H : Hp) (C : Addr) (cl : List (Str × Addr)) (fp : List Addr), GV (X.blk s H scope (compEnvC scope cl C X.env) fp) T ws tg g) (ht : ∀ (s : Shared) (H : Hp) (C : Addr) (cl : List (Str × Addr)) (fp : List Addr), EVTs (X.blk s H scope (compEnvC scope cl C X.env) fp) T ifs ft)
    (he : ∀ (s : Shared) (H : Hp) (C : Addr) (cl : List (Str × Addr)) (fp : List Addr), EV (X.blk s H scope (compEnvC scope cl C X.env) fp) T elt fe) (hw : ∀ i ∈ ws, i ∈ ownN.map (·.2) := by decide) (hm : i ∉ mp := by decide) (hs : ∀ x, foldedSetIterable iter X.env x = pure x := by intro _; rfl) :
    SV X T mp (.Assign [.Name y py] (.ListComp elt [⟨tg, iter, ifs, 0⟩] scope pos) spos) (setS i (compE own fi g ft fe (ownN.map (·.2)))) :=
  ps_mono (ps_setLc (g := rgd X T ws g) (tt := fun σ H Q => ∃ Z, rz0 X.K T (PBo X.K T σ Q) Z ft σ H) (te := fun σ H Q => ∃ Z, rz0 X.K T (POk X.K T σ Q) Z fe σ H) hc hN hy hyl hsw hi ok hg
    (fun s H C cl fp => pts_mono (ht s H C cl fp) fun σ H Q ⟨Z, h⟩ => ⟨Z, rz0_rz h⟩) (fun s H C cl fp => pe_mono (he s H C cl fp) fun σ H Q ⟨Z, h⟩ => ⟨Z, rz0_rz h⟩) hs) fun D σ H h => by
  obtain ⟨Z, h⟩ := doE_of h
  refine lc_of hw σ H _ ⟨Z, rz_mono h fun Z R o S p v H1 Z1 s1 r1 => ?_⟩
  obtain ⟨o, Z1, R, S1, r, S', W, P, rel, pn, e, tk, q⟩ := p v H1 Z1 s1 r1
  exact putS_of rel pn e q hm
end
end PL

/-! PL10: exceptions: raised, caught and kept, asked for their class; lambdas -/
namespace PL
open PySem PySem.Spec PyProof.Rows L2 LamX

/-! ### raise C('..') -/
def raiseS (C : Addr) : SM := fun S => some (.exc (excD C []), S)
section
variable {X : Cx} {T : List (Addr × Str)} {mp : List Nat} {e : Expr} {pos : Pos}
theorem sv_raise {C : Addr} (hc : X.calm = true) (he : PMk X e (fun _ H Q => Q (.ref C) none H)) : SV X T mp (.Raise (some e) none pos) (raiseS C) := ⟨fun pins s σ H D I ⟨Z, R, S, r, S', W, P, rel, pn, er, tk, q⟩ => by
  cases er
  exact (ps_raise hc tk he).run pins s σ H D I (q (.ref C) none σ H Z (Sub.refl _) rel pn ⟨C, [], rfl, rfl, .inl ⟨rfl, rfl⟩⟩)⟩
end

/-! ### an exception is tracked from now on -/
section
variable {X : Cx} {pins : List (Addr × Obj)} {σ : L2.St} {H : Hp} {s : Shared}
theorem exV_ok {P : Program} {w : World} {H : Hp} {h : Heap} {a : Addr} {cls : Value} {d : Option Addr} {oe : Obj} {vs : Array Value} (e : h.get? a = some oe) (z : Zc cls d oe) (hd : oe.data = .fields vs) : ObjOk P w H h a (ExV cls d a) :=
  ⟨⟨oe, vs, e, z, hd⟩, ⟨oe, e⟩, fun _ _ ⟨o, v, q, r⟩ k => ⟨o, v, k o q, r⟩⟩
theorem Inv.track {a : Addr} {cls : Value} {d : Option Addr} {oe : Obj} {vs : Array Value} (I : Inv X pins σ H s) (ha : s.heap.get? a = some oe) (hz : Zc cls d oe) (hd : oe.data = .fields vs) (hn : H a = none) (nL : a ≠ X.env.locals) (nF : a ∉ X.fs)
    (new : X.s_0.heap.get? a = none) (np : ∀ p ∈ X.pn ++ pins, p.1 ≠ a) : Inv X pins σ (upd H a (ExV cls d a)) s := by
  have nC : ∀ x c, X.env.cells.lookup x = some c → c ≠ a := fun x c hc z => by
    obtain ⟨v, o, ho, hcell⟩ := I.cell x c hc
    rw [z, ha] at ho
    cases ho
    rw [hd] at hcell
    cases hcell
  refine ⟨I.ok, I.os, I.bare, ⟨I.base.keep, I.base.slot, fun b o e n hx => ?_, I.base.there, fun b xs e => ?_, fun b o u e => ?_, fun b ps e => ?_⟩, I.loc, I.cell, ?_, fun x c e => ?_, fun p hp => ?_, ?_, I.len⟩
  · rw [upd_ne (fun z => by rw [z, new] at e; cases e)]
    exact I.base.free b o e n hx
  · have h := I.base.tups b xs e
    rw [upd_ne (ne_of_none h hn)]; exact h
  · have h := I.base.frzs b o u e
    rw [upd_ne (ne_of_none h hn)]; exact h
  · obtain ⟨more, h⟩ := I.base.tbls b ps e
    exact ⟨more, by rw [upd_ne (ne_of_none h hn)]; exact h⟩
  · rw [upd_ne (Ne.symm nL)]; exact I.free
  · rw [upd_ne (nC x c e)]; exact I.freeC x c e
  · obtain ⟨h1, h2, h3⟩ := I.pin p hp
    exact ⟨h1, by rw [upd_ne (np p hp)]; exact h2, h3⟩
  · exact I.hok.laidN (fun _ _ h => h) hn (exV_ok ha hz hd)
end

/-! ### try: .. except x as n: .. where the exception is kept -/
def wKeep (K : PySem.W.Frag) (c : Value) (i : Nat) (ts : Addr → Value → Option Addr → TS) (Wout : WX) (D : Ends) : WX := fun cls d σ H =>
  ∃ b, PySem.W.exmOne K cls c = some b ∧ (b = true → ∀ a, H a = none → ts a cls d { nx := fun σ' H' => D.nx (σ'.set i none) (upd H' a (ExV cls d a)), rt := fun _ _ => False } (σ.set i (some (.ref a))) H) ∧
    (b = false → Wout cls d σ H)
section
variable {X : Cx} {x n : Str} {c : Value} {i : Nat} {body suite : List Stmt} {b₀ : Stmt} {np pos pos' : Pos} {tb : WX → TS} {ts : Addr → Value → Option Addr → TS} {Wout : WX}
theorem ps_try_keep (hex : X.ex = []) (hs : X.stack = X.env :: X.outer) (hf : X.env.frame = some X.env.locals) (hN : X.N.Nodup) (hi : X.N[i]? = some n) (hln : X.env.kindOf n = some .local) (hc : L2.Names X x c) (tk : Takes X Wout)
    (hb : ∀ (W : WX) (pn : List (Addr × Obj)) (xe : Value → Shared → Prop), Takes (X.tr pn xe) W → PassesOwn (model X.prog X.w) X.A X.env xe → PSs (X.tr pn xe) body (tb W))
    (hsu : ∀ (a : Addr) (oe : Obj) (cls : Value) (d : Option Addr) (pn : List (Addr × Obj)), Zc cls d oe → (∃ vs, oe.data = .fields vs) → PSs (X.suite a ((a, oe) :: pn)) (b₀ :: suite) (ts a cls d)) :
    PS X (.Try body [.ExceptHandler (some (.Name x np)) (some n) (b₀ :: suite) pos'] [] [] pos) (fun D σ H => tb (wKeep X.K c i ts Wout D) D σ H) := by
  refine ⟨fun pins s σ H D I h => ?_⟩
  have ok := I.ok
  have hfr : X.A.frames = some (X.env :: X.outer) := by rw [ok.frames, hs]
  have hloc : Loc X.env.scope n := .inl hln
  refine wpAny_Try_except ?_
  refine wpAny_mono ((hb (wKeep X.K c i ts Wout D) (X.pn ++ pins) (fun e s₁ => wpAny (model X.prog X.w) X.A (noteFrame e X.env) (fun _ s₂ => wpAny (model X.prog X.w) X.A (setFlight e none) (fun _ s₃ =>
    wpAny (model X.prog X.w) X.A (handleBy e X.env [.ExceptHandler (some (.Name x np)) (some n) (b₀ :: suite) pos']) (SP X pins D) X.xe s₃) X.xe s₂) X.xe s₁) (fun u s' xx => ?_) PassesOwn.looking).run [] s σ H D (I.toTry _) h) (fun f s1 hsp => ?_) (fun e s1 he => he)
  · -- the catch
    obtain ⟨a, B, sI, pins', σ', H', cls, d, rfl, J', nb, up, sky, na, os, ag, b, hb1, hyes, hno⟩ := xx
    have J : Inv X pins σ' H' sI := J'.ofTry ok
    have sky' : Sky B (X.env :: X.outer) a (Zc cls d) X.env.locals s'.heap := by rw [← hs]; exact sky
    show wpAny (model X.prog X.w) X.A (noteFrame (.ref a) X.env) _ _ _
    refine Sky.land Zc.steady hfr hf sky' fun h3 fl3 up3 => ?_
    have J3 : Inv X pins σ' H' { s' with heap := h3 } := J.landed nb fl3.1 (up.trans up3) os ag
    obtain ⟨oe3, vs3, he3, hz3, hd3⟩ := fl3.there
    have notFr : ∀ {h : Heap} {o : Obj} {vs : Array Value}, h.FunFrames B (X.env :: X.outer) → h.get? a = some o → o.data = .fields vs → a ∉ L2.frs (X.env :: X.outer) := fun {h o vs} ff e dd hm => by
      obtain ⟨_, o', e', hnf⟩ := ff.mem hm
      rw [e] at e'; cases e'
      exact hnf _ dd
    have nfr := notFr fl3.2.2.1 he3 hd3
    have nL : a ≠ X.env.locals := fun z => nfr (List.mem_filterMap.mpr ⟨X.env, List.mem_cons_self, by rw [hf, z]⟩)
    have nF : a ∉ X.fs := fun hm => by
      obtain ⟨e, he, q⟩ := List.mem_filterMap.mp hm
      exact nfr (List.mem_filterMap.mpr ⟨e, List.mem_cons_of_mem _ he, q⟩)
    have Bn : B.get? a = none := fl3.2.1
    have In : sI.heap.get? a = none := by
      cases q : sI.heap.get? a with
      | none => rfl
      | some o =>
        have := nb a o q (by rw [hs]; exact nfr)
        rw [Bn] at this; cases this
    have new0 : X.s_0.heap.get? a = none := by
      cases q : X.s_0.heap.get? a with
      | none => rfl
      | some o =>
        obtain ⟨o', e'⟩ := J.base.there a o q (by rw [hex]; simp)
        rw [In] at e'; cases e'
    have np0 : ∀ p ∈ X.pn ++ pins, p.1 ≠ a := fun p hp z => by
      have := (J.pin p hp).1
      rw [z, In] at this; cases this
    have S3 := J3.suite he3 hd3 na nL nF
    refine wpAny_handleBy_cons (codeAny_handlers_test ?_) (by intro q; cases q)
    have LT : PySem.W.Looks (model X.prog X.w) h3 (typeOf (.ref a)) cls := fun A Q E s k q => wpAny_typeOf_ref (k _ _ he3) (by rw [hz3.1]; exact q)
    have LM := PySem.W.exm_one (M := model X.prog X.w) (J3.kIn) LT hb1
    have test : ∀ {Q : Value → Shared → Prop} {E : Value → Shared → Prop}, Q c { s' with heap := h3 } → wpAny (model X.prog X.w) (X.A.mark (some (.ref a))) (eval (.Name x np) X.env) Q E { s' with heap := h3 } := fun {Q E} q => by
      obtain ⟨hg, hdbg, hm | ⟨hm, hv, hnn⟩⟩ := hc
      · exact ld_glob (X := X.suite a ((a, oe3) :: (X.pn ++ pins))) S3 hg hm q hdbg
      · exact ld_blt (X := X.suite a ((a, oe3) :: (X.pn ++ pins))) S3 hg hm hv q hnn hdbg
    refine test (LM.here ?_)
    cases b with
    | true =>
      refine codeAny_handlers_suite_as ?_
      refine HandSPX.lands_againZ fl3 fun h4 fl4 up4 => ?_
      have J4 : Inv X pins σ' H' { s' with heap := h4 } := J.landed nb fl4.1 ((up.trans up3).trans up4) os ag
      obtain ⟨oe4, vs4, he4, hz4, hd4⟩ := fl4.there
      have S4 := J4.suite he4 hd4 na nL nF
      refine store_ok (X := X.suite a ((a, oe4) :: (X.pn ++ pins))) (v := .ref a) S4 hN hi hloc rfl (fun s5 S5 => ?_) (.inr hln)
      refine wpAny_mono ((hsu a oe4 cls d (X.pn ++ pins) hz4 ⟨_, hd4⟩).run [] s5 _ H' _ S5 (hyes rfl a na)) (fun f s6 hsp => ?_) (fun _ _ z => False.elim z)
      cases f with
      | next =>
        obtain ⟨σ6, H6, S6, q6⟩ := hsp
        obtain ⟨e6, n6, _⟩ := S6.pin (a, oe4) (List.mem_append_left _ List.mem_cons_self)
        have J6 : Inv X pins σ6 H6 s6 := S6.unsuite ok
        have J7 : Inv X pins σ6 (upd H6 a (ExV cls d a)) s6 := Inv.track J6 e6 hz4 hd4 n6 nL nF new0 np0
        exact gone_ok J7 hN hi hln fun s7 J8 => ⟨_, _, J8, q6⟩
      | brk => obtain ⟨_, _, _, q6⟩ := hsp; exact q6.elim
      | cont => obtain ⟨_, _, _, q6⟩ := hsp; exact q6.elim
      | ret u => obtain ⟨_, _, _, _, _, q6⟩ := hsp; exact q6.elim
    | false =>
      show wpAny _ X.A (handleBy (.ref a) X.env []) _ _ _
      refine wpAny_handleBy_nil ?_
      obtain ⟨k1, k2, k3, oe, vs, T, oT, ts', he, hz, hd, h1, hr⟩ := id fl3
      unfold PySem.passOn
      refine wpAny_bind (wpAny_field he hd h1 ?_)
      rw [if_neg (show ¬ ((Value.ref T == Value.none) = true) from by simp)]
      have fin : wpAny (model X.prog X.w) X.A (setFlight (.ref a) X.env.frame) (fun _ s4 => wpAny (model X.prog X.w) X.A (throw (.ref a) : Sem Flow) (SP X pins D) X.xe s4) X.xe { s' with heap := h3 } := by
        rw [hf]
        refine HandSPX.setFlight_upZ fl3 fun h4 hh4 up4 => wpAny_throw (tk _ _ ?_)
        exact ⟨a, B, sI, pins, σ', H', cls, d, rfl, J, nb, (up.trans up3).trans up4, .inr (.inr (by rw [hs]; exact hh4)), na, os, ag, hno rfl⟩
      first
        | exact wpAny_bind (wpAny_pure (wpAny_bind fin))
        | exact wpAny_bind fin
  · cases f with
    | next =>
      obtain ⟨σ', H', J', q⟩ := hsp
      exact wpAny_execs_nil ⟨σ', H', J'.ofTry ok, q⟩
    | brk =>
      obtain ⟨σ', H', J', q⟩ := hsp
      exact ⟨σ', H', J'.ofTry ok, q⟩
    | cont =>
      obtain ⟨σ', H', J', q⟩ := hsp
      exact ⟨σ', H', J'.ofTry ok, q⟩
    | ret u =>
      obtain ⟨v, σ', H', J', r, q⟩ := hsp
      exact ⟨v, σ', H', J'.ofTry ok, r, q⟩
end

theorem takesLen {Y : Cx} {W : WX} (tk : Takes Y W) : Takes Y (fun cls d σ H => σ.length = Y.N.length → W cls d σ H) := fun u s' ⟨a, B, sI, pins, σ, H, cls, d, e, I, nb, up, sky, na, os, ag, w⟩ =>
  tk u s' ⟨a, B, sI, pins, σ, H, cls, d, e, I, nb, up, sky, na, os, ag, w I.len⟩
/-! ### f(lambda: e), f: x = None; try: the lambda() except C as n: x = n; return x -/
/-- what f makes of the lambda's reading: CS the class; keep: the value is kept too (otherwise None stands for it) -/
def TKeep (K : PySem.W.Frag) (CS : Addr) (keep : Bool) : (XK → Hp → VK → Prop) → Hp → VK → Prop := fun tl H Q =>
  tl (fun cls d H' => ∃ b, PySem.W.exmOne K cls (.ref CS) = some b ∧ (b = true → ∀ a, H' a = none → Q (.ref a) (upd H' a (ExV cls d a))) ∧ (b = false → False)) H (fun v H' => Q (if keep then v else .non) H')
section
variable {X : Cx}
theorem set3 {σ : L2.St} {u v : Option V} (h : σ.length = 3) : ((σ.set 2 u).set 1 v).set 2 none = [σ[0], v, none] := by
  match σ, h with
  | [a, b, c], _ => rfl
/-- try: x() as a statement -/
theorem keep_gives {Ng : List Str} {x a e n r q : Str} {sg : Scope} {g CS : Addr} {cdg : Value} {j : Nat} {p1 p2 p3 p4 p5 p6 p7 p8 p9 p10 p11 p12 p13 p14 : Pos} (hNg : Ng = [a, r, n]) (nd : Ng.Nodup) (hge : sg.names.lookup e = some .globalImplicit) (hme : X.mg e = some (.ref CS)) (hde : (e == ("__debug__" : Str)) = false)
    (hla : sg.names.lookup a = some .local) (hlr : sg.names.lookup r = some .local) (hln : sg.names.lookup n = some .local) (hdr : (r == ("__debug__" : Str)) = false) (hdr2 : (r == ("__classdict__" : Str)) = false) (hdn : (n == ("__debug__" : Str)) = false) (hdn2 : (n == ("__classdict__" : Str)) = false)
    (hsw1 : ∀ Y : Cx, Y.env.scope = sg → swapsWith (.Constant .none j p1) (some (.Name r p2)) p3.line Y.env = pure false) (hsw2 : ∀ Y : Cx, Y.env.scope = sg → swapsWith (.Call (.Name a p4) [] [] p5) none p6.line Y.env = pure false) (hsw3 : ∀ Y : Cx, Y.env.scope = sg → swapsWith (.Name n p8) (some (.Name r p9)) p10.line Y.env = pure false) :
    GivesTo X Ng x sg g cdg [.Assign [.Name r p2] (.Constant .none j p1) p3, .Try [.Expr (.Call (.Name a p4) [] [] p5) p6] [.ExceptHandler (some (.Name e p7)) (some n) [.Assign [.Name r p9] (.Name n p8) p10] p11] [] [] p12, .Return (some (.Name r p13)) p14] a q (TKeep X.K CS false) := by
  subst hNg
  intro f c' s H Q tl act hc h
  have hgl : Gl (cxOf C8.CX0 X.prog X.w X.K X.mg X.base [a, r, n] x sg g cdg X.A X.stack s H C8.E0).nox e := hge
  refine ⟨_, pss_cons (ps_set (i := 1) nd rfl (.inl hlr) pe_non (hsw1 _ rfl) (.inl rfl)) (pss_cons (ps_try_keep (X := (cxOf C8.CX0 X.prog X.w X.K X.mg X.base [a, r, n] x sg g cdg X.A X.stack s H C8.E0).nox) (i := 2) (c := .ref CS)
      (ts := fun a cls d => tAsg (tVar 2) (gName 1))
      (tb := fun W D σ H => σ = [some (.ref f), some .non, none] ∧ ∃ Ech : XK, (∀ cls d σ' H', Ech cls d H' → σ'.length = 3 → W cls d σ' H') ∧ H c' = some (CodeO c' q) ∧ tl Ech H fun _ H1 => D.nx σ H1)
      rfl rfl rfl nd rfl hln ⟨hgl, hde, .inl hme⟩ L2.takes0 (fun W pn xe tk _ => ?_) (fun a oe cls d pn _ _ => pss_one (ps_set (i := 1) nd rfl (.inl hlr) (pe_var (i := 2) rfl (.inl hln) hdn hdn2) (hsw3 _ rfl) (.inl rfl))))
    (pss_one (ps_ret (pe_var (i := 1) rfl (.inl hlr) hdr hdr2)))), ?_⟩
  · refine ⟨fun pins s' σ H' D I h' => ?_⟩
    obtain ⟨hσ, Ech, hW, h2, h3⟩ := h'
    have hp := act _ pn xe Ech p4 p5 (takesLen tk) (fun cls d σ' H' h hl => hW cls d σ' H' h hl)
    have hq := pss_one (ps_expr (pos := p6) hp (hsw2 _ rfl))
    exact hq.run pins s' σ H' D I ⟨by rw [hσ]; rfl, h2, h3⟩
  · refine ⟨rfl, fun cls d H' => ∃ b, PySem.W.exmOne X.K cls (.ref CS) = some b ∧ (b = true → ∀ a, H' a = none → Q (.ref a) (upd H' a (ExV cls d a))) ∧ (b = false → False), fun cls d σ' H' ⟨b, e1, e2, e3⟩ hl => ⟨b, e1, fun hb a' ha' => ?_, fun hb => e3 hb⟩, hc, ?_⟩
    · match σ', hl with
      | [s0, s1, s2], _ => exact ⟨.ref a', rfl, .ref a', rfl, e2 hb a' ha'⟩
    · have ef : (fun (_ : V) (H' : Hp) => Q .non H') = fun (_ : V) (H1 : Hp) => ∃ v, [some (V.ref f), some V.non, none][1]? = some (some v) ∧ Q v H1 := by
        funext _ H1
        exact propext ⟨fun h => ⟨.non, rfl, h⟩, fun ⟨v, e, h⟩ => by cases e; exact h⟩
      have h' : tl (fun cls d H' => ∃ b, PySem.W.exmOne X.K cls (.ref CS) = some b ∧ (b = true → ∀ a, H' a = none → Q (.ref a) (upd H' a (ExV cls d a))) ∧ (b = false → False)) H (fun v H' => Q .non H') := h
      rw [ef] at h'
      exact h'
end
/-! .. as an expression -/
def excC : PyData → Option Addr
  | .dict ((.none, .int C) :: _) => some C.toNat
  | _ => none
theorem excC_excD (C : Addr) (fs : List (Str × PyData)) : excC (excD C fs) = some C := by
  show some ((C : Nat) : Int).toNat = some C
  rw [Int.toNat_natCast]
def exm (K : PySem.W.Frag) (CS : Addr) (x : PyData) : Option Bool := (excC x).bind fun C => PySem.W.exmOne K (.ref C) (.ref CS)
def caughtM (K : PySem.W.Frag) (CS : Addr) (keep : Bool) (fe : M OV) : M OV := fun S => match fe S with
  | some (.ok o, S') => some (.ok (if keep then o else .d .none), S')
  | some (.error x, S') => match exm K CS x with
    | some true => some (.ok (.d x), S')
    | _ => none
  | none => none
theorem Rel.extN {K : PySem.W.Frag} {T : List (Addr × Str)} {Z R H H1 : Hp} {S : SS} {σ : L2.St} (r : Rel K T Z R S σ H) (e : ExtN H H1) (t : Tabs T H1) : Rel K T Z R S σ H1 := by
  obtain ⟨L, ow, n, q⟩ := r.own
  refine ⟨⟨L, ow.mono (Sub.refl Z) (fun a ha => ?_), n, q⟩, fun a o h => e a o (r.z a o h) fun ps hp => r.zt a ps (hp ▸ h), fun a o h => e a o (r.r a o h) fun ps hp => r.rt a ps (hp ▸ h), r.zt, r.rt, r.zr, t⟩
  obtain ⟨o, ho, hn⟩ := ow.at_ a ha
  rw [ho]
  exact e a o ho hn
theorem Fr.ofIsX {K : PySem.W.Frag} {Z : Hp} {cls : Value} {d : Option Addr} {x : PyData} {a : Addr} (h : IsX K Z cls d x) (n : Z a = none) : Fr K (upd Z a (ExV cls d a)) (.ref a) x := by
  obtain ⟨C, fs, rfl, rfl, ⟨rfl, rfl⟩ | ⟨nf, dx, ws, rfl, hd, fr⟩⟩ := h
  · exact .exc0 upd_same
  · exact .exc (dx := dx) (ws := ws) nf upd_same (by rw [upd_ne (ne_of_none hd n)]; exact hd) (fr.sub (sub_upd _ n))
section
variable {X : Cx} {T : List (Addr × Str)}
theorem ev_lam {x a : Str} {g c P CS : Addr} {k : Nat} {keep : Bool} {pg : Arguments} {bg : List Stmt} {sg : Scope} {dV kV doc pm cdv ct oc : Value} {an od : Option Addr} {osl : Array (Option Value)} {Ng : List Str} {fe : M OV}
    {params : Arguments} {body : Expr} {scope : Scope} {p lpos pos : Pos} (hg : Gl X x) (hm : X.mg x = some (.ref g)) (hk : PySem.W.keepIn X.K (.ref g) = true)
    (lk : X.K.lookup g = some ⟨oc, od, .func (PySem.W.fnOf x x pg bg sg dV kV doc pm an cdv ct), osl⟩) (hcg : PySem.W.codeIn X.K cdv x = true) (hb : L2.Binds X.K (PySem.W.fnOf x x pg bg sg dV kV doc pm an cdv ct) [a] []) (Sg : FnScope Ng [a] sg) (hNg : Ng[0]? = some a) (hva : Vis sg a)
    (hG : GivesTo X Ng x sg g cdv bg a (X.env.qual ++ "<lambda>") (TKeep X.K CS keep))
    (TB : TabB X.base X.mg c P) (hcode : X.env.code = .ref c) (hmT : (P, X.env.qual ++ "<lambda>") ∈ T) (hu : ∀ p ∈ T, p.1 = P → p.2 = X.env.qual ++ "<lambda>") (hr : Room (k + 2) X.A) (L : LamS X.env.scope scope) (hdef : defaultsOf params X.env = ([], []))
    (hbind : ∀ (q : Str) (cl : List (Str × Addr)) (pm cv ctv : Value), bindArgs (PySem.W.kla_fn "<lambda>" q params body scope cl pm cv ctv) ⟨[], []⟩ = pure [])
    (hbody : ∀ (A : Around) (outer : List Env) (s : Shared) (H : Hp) (E : XK) (f c' : Addr), Room k (A.deeper (lamEnv X scope s.heap.objs.size f c')) → EV (lamCx X A outer s H E scope f c') T body fe)
    (hdb : (x == ("__debug__" : Str)) = false := by decide) (hd : (a == ("__debug__" : Str)) = false := by decide) (hcd : (a == ("__classdict__" : Str)) = false := by decide) :
    EV X T (.Call (.Name x p) [.Lambda params body scope lpos] [] pos) (caughtM X.K CS keep fe) :=
  pe_mono (pe_lamcall (t := fun E σ H Q => ∃ Z R S r S', Rel X.K T Z R S σ H ∧ fe S = some (r, S') ∧
      match r with
      | .ok o => POk X.K T σ Q Z R o S'
      | .error x => ∀ cls d H' Z', Sub Z Z' → Rel X.K T Z' R S' σ H' → IsX X.K Z' cls d x → E cls d H') hg hm hk lk hcg hb Sg hNg hva hG TB hcode hmT hu hr L hdef hbind
    (fun A outer s H E f c' hr' => pe_mono (hbody A outer s H E f c' hr') fun σ H Q ⟨Z, R, S, r, S', rel, e, q⟩ => ⟨Z, R, S, r, S', fun cls d _ H => E cls d H, rel, e, takes_of rfl rfl rfl rfl, by
      cases r with
      | ok o => exact q
      | error x => exact q⟩) hdb hd hcd) fun σ H Q ⟨Z, R, S, r, S', W, rel, e, tk, pf⟩ => by
  refine ⟨rel.tab, fun H1 ext tabs1 => ?_⟩
  have rel1 := rel.extN ext tabs1
  unfold caughtM at e
  cases ef : fe S with
  | none => rw [ef] at e; cases e
  | some t =>
    obtain ⟨r0, S0⟩ := t
    rw [ef] at e
    refine ⟨Z, R, S, r0, S0, rel1, ef, ?_⟩
    cases r0 with
    | ok o =>
      cases e
      intro v H' Z' sb rel'
      cases keep with
      | true => exact pf v H' Z' sb rel'
      | false => exact pf .non H' Z' sb (rel'.pop.push .non)
    | error y =>
      have e : (match exm X.K CS y with
        | some true => some (Except.ok (OV.d y), S0)
        | _ => none) = some (r, S') := e
      split at e
      · rename_i hx
        cases e
        intro cls d H' Z' sb rel' ix
        obtain ⟨C, fs, hc, hy, _⟩ := id ix
        refine ⟨true, ?_, fun _ a ha => ?_, fun z => nomatch z⟩
        · subst hc hy
          unfold exm at hx
          rw [excC_excD] at hx
          exact hx
        · have zn : Z' a = none := by
            cases q : Z' a with
            | none => rfl
            | some w => rw [rel'.z _ _ q] at ha; cases ha
          have rel2 := rel'.frozen ha (ExV cls d a) (fun ps z => by unfold ExV at z; cases z)
          exact pf (.ref a) _ _ (sb.trans (sub_upd _ zn)) (rel2.push (Fr.ofIsX ix zn))
      · cases e

/-! ### isinstance(e, C), C a class of one's own -/
def kq (K : PySem.W.Frag) (c : Value) (x : PyData) : Option Bool := match tyName x with
  | some m => PySem.W.kitOne K (.type m) c
  | none => (excC x).bind fun C => PySem.W.kitOne K (.ref C) c
def rIsiE (K : PySem.W.Frag) (D : Addr) : List V → Hp → VK → Prop := fun xs H Q => ∃ (a : Addr) (c : V) (u : Value) (b : Bool), xs = [.ref a, c] ∧ ClsV c u ∧ H a = some (ExV (.ref D) none a) ∧ PySem.W.kitOne K (.ref D) u = some b ∧ Q (.bl b) H
theorem call_isiE {D : Addr} (C : ExcC X.K D) : CallR X (.builtin "isinstance") (rIsiE X.K D) := by
  intro pins s σ H xs us Q I r h
  obtain ⟨a, c, cv, b, rfl, hcv, hH, e, q⟩ := h
  cases r with
  | cons rx rr =>
    cases rr with
    | cons rt rr =>
      cases rr
      cases rx
      have ec := hcv.eq rt
      subst ec
      obtain ⟨⟨oe, vs, hget, hz, hv⟩, _⟩ := I.hok a _ hH
      have J : PySem.W.InstAt s.heap a oe D none := by
        obtain ⟨oc, od, oda, osl⟩ := oe
        obtain ⟨h1, h2⟩ := hz
        dsimp only at h1 h2 hv
        subst h1 h2 hv
        exact ⟨hget, rfl, rfl, trivial⟩
      exact PySem.W.kia_one (PySem.W.handS_kitx_exc C.hg C.hk C.hs C.hd C.ha C.hn C.ht C.hm) I.kIn J e (fun z => nomatch z) fun tk => ⟨.bl b, H, I.kept (t' := tk) fun _ _ z => z, rfl, q⟩
/-- isinstance(x, c) of data, exceptions of the classes Ds among them -/
def rIsiX (K : PySem.W.Frag) (Ds : List Addr) : List V → Hp → VK → Prop := fun xs H Q => rIsi K xs H Q ∨ ∃ D ∈ Ds, rIsiE K D xs H Q
theorem call_isiX {Ds : List Addr} (C : ∀ D ∈ Ds, ExcC X.K D) : CallR X (.builtin "isinstance") (rIsiX X.K Ds) := by
  intro pins s σ H xs us Q I r h
  rcases h with h | ⟨D, hD, h⟩
  · exact call_isi pins s σ H xs us Q I r h
  · exact call_isiE (C D hD) pins s σ H xs us Q I r h
/-- an exception without attributes -/
def isX0 : PyData → Option Addr
  | .dict [(.none, .int C)] => some C.toNat
  | _ => none
def oIsiX (K : PySem.W.Frag) (Ds : List Addr) (c : Value) (x : PyData) : Option OV := match tyName x with
  | some m => (PySem.W.kitOne K (.type m) c).bind okB
  | none => match isX0 x with
    | some D => if D ∈ Ds then (PySem.W.kitOne K (.ref D) c).bind okB else none
    | none => none
def isiX (K : PySem.W.Frag) (Ds : List Addr) (c : Value) (fa : M AV) : M OV := fa >>= fun a => op1 (oIsiX K Ds c) a
theorem Fr.getExc0 {K : PySem.W.Frag} {Z : Hp} {v : V} {x : PyData} {D : Addr} (f : Fr K Z v x) (e : isX0 x = some D) : ∃ a, v = .ref a ∧ Z a = some (ExV (.ref D) none a) := by
  cases f with
  | @exc0 a C h =>
    have e : some ((C : Nat) : Int).toNat = some D := e
    rw [Int.toNat_natCast] at e
    cases e
    exact ⟨a, rfl, h⟩
  | @exc a C dx ws fs n h h2 fr =>
    exfalso
    cases fs with
    | nil => exact n rfl
    | cons p ps => cases e
  | _ => cases e
theorem ev_isiX {Ds : List Addr} {a b : Expr} {fa : M AV} {cv : V} {c : Value} {p pos : Pos} (C : ∀ D ∈ Ds, ExcC X.K D) (hg : Gl X "isinstance") (hm : X.mg "isinstance" = none) (ha : EVV X T a fa) (hb : PE X b (tC cv)) (hcl : ClsV cv c)
    (he : starEach [a, b] X.env = (false, eval a X.env) :: starEach [b] X.env := by rfl) (he2 : starEach [b] X.env = (false, eval b X.env) :: starEach [] X.env := by rfl) (hpl : (backTo pos (starEach [b] X.env)).any (·.1) = false := by rfl) : EV X T (.Call (.Name "isinstance" p) [a, b] [] pos) (isiX X.K Ds c fa) :=
  pe_mono (pe_callB (call_isiX C) hg hm (by decide +kernel) (pa_cons ha (pa_cons hb pa_nil he2) he) (by decide) (by decide) he hpl) fun σ H Q ⟨Z, h⟩ => by
    refine ⟨Z, rz_mono (rv_bind POk.mono h) fun Z R a S p v H1 Z1 s1 r1 a1 => ?_⟩
    obtain ⟨u, Z2, s2, o2, h2⟩ := p v H1 Z1 s1 r1 a1
    obtain ⟨x, o, R3, S3, sz, w, e, rel, pf⟩ := rz_op1 h2 o2
    have fin : ∀ k, o = .d (.bool k) → Q (.bl k) H1 := fun k ek => by subst ek; exact pf _ H1 Z2 (Sub.refl _) (rel.push (.bl k))
    unfold oIsiX at e
    split at e
    · rename_i m q1
      cases q2 : PySem.W.kitOne X.K (.type m) c with
      | none => rw [q2] at e; cases e
      | some k =>
        rw [q2] at e
        cases e
        exact .inl ⟨v, cv, .type m, c, k, rfl, hcl, w.tyX sz q1, q2, fin k rfl⟩
    · split at e
      · rename_i q0 D q1
        split at e
        · rename_i hD
          cases q2 : PySem.W.kitOne X.K (.ref D) c with
          | none => rw [q2] at e; cases e
          | some k =>
            rw [q2] at e
            cases e
            have f := w.fr (fun ds z => by subst z; cases q1)
            obtain ⟨a, rfl, hZ⟩ := f.getExc0 q1
            exact .inr ⟨D, hD, a, cv, c, k, rfl, hcl, sz _ _ hZ, q2, fin k rfl⟩
        · cases e
      · cases e
end
end PL

/-! PL11: dicts of a slot's own -/
namespace PL
open PySem PySem.Spec PyProof.Rows L2 LamX

def getO (xs : List (Key × OV)) (k : Key) : Option OV := (xs.find? fun kv => decide (kv.1 = k)).map (·.2)
def putO (xs : List (Key × OV)) (k : Key) (o : OV) : List (Key × OV) :=
  if (xs.any fun kv => decide (kv.1 = k)) = true then xs.map (fun kv => if kv.1 = k then (kv.1, o) else kv) else xs ++ [(k, o)]
section
variable {K : PySem.W.Frag} {T : List (Addr × Str)} {Z Z' R H H' : Hp} {S S' : SS} {σ σ' : L2.St} {v : V} {x : PyData} {o : OV}
theorem ownD_get {k : Key} : ∀ {xs : List (Key × OV)} {ws : List V} {L : List Addr}, OwnL K Z H ws (xs.map (·.2)) L → getO xs k = some o → ∃ v Lv, valV ((xs.map (·.1)).zip ws) k = some v ∧ Own K Z H v o Lv ∧ (∀ a ∈ Lv, a ∈ L)
  | [], ws, L, h, e => by cases e
  | (k0, o0) :: xs, ws, L, h, e => by
    cases ws with
    | nil => cases h
    | cons w ws =>
      have h : OwnL K Z H (w :: ws) (o0 :: xs.map (·.2)) L := h
      cases h with
      | @cons _ _ _ _ L1 M1 h1 h2 =>
        by_cases hk : k0 = k
        · refine ⟨w, L1, valV_pos hk, ?_, fun a ha => List.mem_append_left _ ha⟩
          have : getO ((k0, o0) :: xs) k = some o0 := by simp [getO, List.find?_cons, hk]
          rw [this] at e; cases e; exact h1
        · have : getO ((k0, o0) :: xs) k = getO xs k := by simp [getO, List.find?_cons, hk]
          rw [this] at e
          obtain ⟨v, Lv, g1, g2, g3⟩ := ownD_get h2 e
          refine ⟨v, Lv, ?_, g2, fun a ha => List.mem_append_right _ (g3 a ha)⟩
          rw [← g1]
          exact valV_neg hk
theorem ownD_map {k : Key} {y : PyData} (f : Fr K Z v y) : ∀ {xs : List (Key × OV)} {ws : List V} {L : List Addr}, OwnL K Z H ws (xs.map (·.2)) L →
    ∃ ws' L', ((xs.map (·.1)).zip ws).map (fun kv => if kv.1 = k then (kv.1, v) else kv) = ((xs.map fun kv => if kv.1 = k then (kv.1, OV.d y) else kv).map (·.1)).zip ws' ∧ OwnL K Z H ws' ((xs.map fun kv => if kv.1 = k then (kv.1, OV.d y) else kv).map (·.2)) L' ∧ (∃ D, L.Perm (D ++ L'))
  | [], ws, L, h => by cases h; exact ⟨[], [], rfl, .nil, [], List.Perm.refl _⟩
  | (k0, o0) :: xs, ws, L, h => by
    cases ws with
    | nil => cases h
    | cons w ws =>
      have h : OwnL K Z H (w :: ws) (o0 :: xs.map (·.2)) L := h
      cases h with
      | @cons _ _ _ _ L1 M1 h1 h2 =>
        obtain ⟨ws', L', g1, g2, D, g3⟩ := ownD_map f h2
        by_cases hk : k0 = k
        · refine ⟨v :: ws', [] ++ L', ?_, ?_, L1 ++ D, ?_⟩
          · simp only [List.map_cons, List.zip_cons_cons, hk, if_true]
            rw [g1]
          · simp only [List.map_cons, hk, if_true]
            exact OwnL.cons (.d f) g2
          · rw [List.append_assoc, List.nil_append]
            exact List.Perm.append_left L1 g3
        · refine ⟨w :: ws', L1 ++ L', ?_, ?_, D, ?_⟩
          · simp only [List.map_cons, List.zip_cons_cons, hk, if_false]
            rw [g1]
          · simp only [List.map_cons, hk, if_false]
            exact OwnL.cons h1 g2
          · exact (List.Perm.append_left L1 g3).trans (perm_swap _ _ _)
theorem any_zip {k : Key} : ∀ {xs : List (Key × OV)} {ws : List V}, ws.length = xs.length → (((xs.map (·.1)).zip ws).any fun kv => decide (kv.1 = k)) = xs.any fun kv => decide (kv.1 = k)
  | [], ws, h => by cases ws <;> rfl
  | x :: xs, [], h => by cases h
  | x :: xs, w :: ws, h => by
    simp only [List.map_cons, List.zip_cons_cons, List.any_cons]
    rw [any_zip (by simpa using h)]
theorem OwnL.snoc {f : Fr K Z v x} : ∀ {ws : List V} {xs : List OV} {L : List Addr}, OwnL K Z H ws xs L → OwnL K Z H (ws ++ [v]) (xs ++ [.d x]) L
  | _, _, _, .nil => OwnL.cons (L := []) (M := []) (.d f) .nil
  | _, _, _, .cons a b => .cons a (OwnL.snoc (f := f) b)
theorem ownD_put {k : Key} {y : PyData} (f : Fr K Z v y) {xs : List (Key × OV)} {ws : List V} {L : List Addr} (h : OwnL K Z H ws (xs.map (·.2)) L) :
    ∃ ws' L', putK ((xs.map (·.1)).zip ws) k v = ((putO xs k (.d y)).map (·.1)).zip ws' ∧ OwnL K Z H ws' ((putO xs k (.d y)).map (·.2)) L' ∧ (∃ D, L.Perm (D ++ L')) := by
  have hl : ws.length = xs.length := by rw [h.length, List.length_map]
  unfold putK putO
  rw [any_zip hl]
  by_cases e : (xs.any fun kv => decide (kv.1 = k)) = true
  · rw [if_pos e, if_pos e]
    exact ownD_map f h
  · rw [if_neg e, if_neg e]
    refine ⟨ws ++ [v], L, ?_, ?_, [], List.Perm.refl _⟩
    · rw [List.map_append, List.zip_append (by rw [List.length_map, hl])]
      rfl
    · rw [List.map_append]
      exact OwnL.snoc (f := f) h
/-- the slot i holds a dict of its own -/
theorem Rel.dct (r : Rel K T Z R S σ H) {i : Nat} {xs : List (Key × OV)} (e : S[i]? = some (some (.dct xs))) :
    ∃ a ws L, σ[i]? = some (some (.ref a)) ∧ H a = some (.dK ((xs.map (·.1)).zip ws)) ∧ OwnL K Z H ws (xs.map (·.2)) L ∧
      ∀ {kvs : List (Key × V)} {ws' : List V} {xs' : List (Key × OV)} {L' : List Addr}, kvs = (xs'.map (·.1)).zip ws' → OwnL K Z H ws' (xs'.map (·.2)) L' → (∃ D, L.Perm (D ++ L')) → Rel K T Z R (S.set i (some (.dct xs'))) σ (upd H a (.dK kvs)) := by
  obtain ⟨L, ow, n, q⟩ := r.own
  obtain ⟨v, Li, Lr, h1, h2, h3, h4⟩ := ow.get e
  have hlt : i < S.length := (List.getElem?_eq_some_iff.mp e).1
  cases h2 with
  | @dct a ws _ L2 ha r2 =>
    have n2 := (h4.nodup_iff).mp n
    have n3 : a ∉ L2 ++ Lr ∧ (L2 ++ Lr).Nodup := by simpa using n2
    have hq := q a (h4.mem_iff.mpr (List.mem_append_left _ List.mem_cons_self))
    refine ⟨a, ws, L2, h1, ha, r2, fun {kvs ws' xs' L'} ek o' pm => ?_⟩
    have upd_eq : ∀ c ∈ L2 ++ Lr, upd H a (.dK kvs) c = H c := fun c hc => upd_ne fun z => n3.1 (z ▸ hc)
    obtain ⟨D, pm⟩ := pm
    have subL : ∀ c ∈ L', c ∈ L2 := fun c hc => pm.mem_iff.mpr (List.mem_append_right _ hc)
    have o2 : Own K Z (upd H a (.dK kvs)) (.ref a) (.dct xs') (a :: L') := .dct (by rw [upd_same, ek]) (o'.mono (Sub.refl Z) fun c hc => upd_eq c (List.mem_append_left _ (subL c hc)))
    have h5 : OwnS K Z (upd H a (.dK kvs)) σ (S.set i none) Lr := h3.mono (Sub.refl Z) fun c hc => upd_eq c (List.mem_append_right _ hc)
    obtain ⟨M, h6, D2, h7⟩ := h5.put (i := i) o2 (by simpa using hlt)
    rw [List.set_set, set_same h1] at h6
    have nL' : ((a :: L') ++ Lr).Nodup := by
      have pm2 : (a :: L2 ++ Lr).Perm (D ++ (a :: L' ++ Lr)) := by
        have p1 : (a :: L2).Perm (D ++ (a :: L')) := (List.Perm.cons a pm).trans (List.perm_middle.symm)
        have p2 := List.Perm.append_right Lr p1
        rwa [List.append_assoc] at p2
      exact (nodup_sub ⟨D, pm2⟩ n2).1
    obtain ⟨n4, n5⟩ := nodup_sub ⟨D2, h7⟩ nL'
    refine ⟨⟨M, h6, n4, fun c hc => ?_⟩, fun c o ec => ?_, fun c o ec => ?_, r.zt, r.rt, r.zr, tabs_upd r.tab ha (fun _ z => by cases z) fun _ z => by cases z⟩
    · have := n5 c hc
      refine q c (h4.mem_iff.mpr ?_)
      rcases List.mem_append.mp this with hc | hc
      · rcases List.mem_cons.mp hc with rfl | hc
        · exact List.mem_append_left _ List.mem_cons_self
        · exact List.mem_append_left _ (List.mem_cons_of_mem _ (subL c hc))
      · exact List.mem_append_right _ hc
    · rw [upd_ne (fun z => by rw [z, hq.1] at ec; cases ec)]; exact r.z c o ec
    · rw [upd_ne (fun z => by rw [z, hq.2] at ec; cases ec)]; exact r.r c o ec
end
section
variable {X : Cx} {T : List (Addr × Str)} {mp : List Nat} {e : Expr} {fe : M OV} {pos : Pos} {Z R H : Hp} {S : SS} {σ : L2.St}
def asDct : Option (Option OV) → Option (List (Key × OV))
  | some (some (.dct xs)) => some xs
  | _ => none
theorem asDct_eq {o : Option (Option OV)} {xs : List (Key × OV)} (h : asDct o = some xs) : o = some (some (.dct xs)) := by
  unfold asDct at h
  split at h
  · cases h; rfl
  · cases h
/-- d['k'], d a dict of the slot's own, a frozen thing there -/
def dgetS (i : Nat) (k : Str) : M OV := fun S => match (asDct S[i]?).bind fun xs => getO xs (.inr k) with
  | some (.d y) => some (.ok (.d y), S)
  | _ => none
theorem ev_dget {i j : Nat} {x k : Str} {px p2 : Pos} (hu : X.A.units + 1 < cLine) (hN : X.N[i]? = some x) (hv : Vis X.env.scope x) (hd : (x == ("__debug__" : Str)) = false := by decide) (hcd : (x == ("__classdict__" : Str)) = false := by decide) (hs : NoSl (.Constant (.str k) j p2) := by intro _ _; rfl) :
    EV X T (.Subscript (.Name x px) (.Constant (.str k) j p2) pos) (dgetS i k) := pe_mono (pe_dget hu (pe_var hN hv hd hcd) pe_str hs) fun σ H Q ⟨Z, R, S, r, S', W, rel, er, tk, pf⟩ => by
  unfold dgetS at er
  split at er
  · rename_i y q
    cases er
    cases q1 : asDct S[i]? with
    | none => rw [q1] at q; cases q
    | some xs =>
      rw [q1] at q
      obtain ⟨a, ws, L, h1, h2, h3, _⟩ := rel.dct (asDct_eq q1)
      obtain ⟨v, Lv, g1, g2, _⟩ := ownD_get h3 q
      obtain ⟨_, f⟩ := g2.frz
      refine ⟨.ref a, h1, a, v, rfl, ?_, pf v H Z (Sub.refl _) (rel.push f)⟩
      rw [← g1]
      exact DGet.k (k := .inr k) h2
  · cases er
/-- d['k'] = e, a frozen thing -/
def dputS (i : Nat) (k : Str) (fe : M OV) : SM := doE fe fun o S => match o, asDct S[i]? with
  | .d y, some xs => if xs.length < sizeLine then some (.nx, S.set i (some (.dct (putO xs (.inr k) (.d y))))) else none
  | _, _ => none
theorem sv_dput {i j : Nat} {x k : Str} {px p2 p3 : Pos} (hu : X.A.units + 1 < cLine) (hN : X.N[i]? = some x) (hv : Vis X.env.scope x) (he : EV X T e fe) (hs : swapsWith e (some (.Subscript (.Name x px) (.Constant (.str k) j p2) p3)) pos.line X.env = pure false := by rfl) (hd : (x == ("__debug__" : Str)) = false := by decide) (hcd : (x == ("__classdict__" : Str)) = false := by decide) :
    SV X T mp (.Assign [.Subscript (.Name x px) (.Constant (.str k) j p2) p3] e pos) (dputS i k fe) := ps_mono (ps_dput hu (pe_var hN hv hd hcd) pe_str he hs) fun D σ H h => by
  obtain ⟨Z, h⟩ := doE_of h
  refine ⟨Z, rz_mono h fun Z R o S p v H1 Z1 s1 r1 => ?_⟩
  obtain ⟨o, Z1, R, S1, r, S', W, P, rel, pn, e, tk, q⟩ := p v H1 Z1 s1 r1
  cases o with
  | d y =>
    obtain ⟨f, rel1⟩ := rel.popd
    cases q1 : asDct S1[i]? with
    | none => rw [q1] at e; cases e
    | some xs =>
      rw [q1] at e
      have e : (if xs.length < sizeLine then some (Fl.nx, S1.set i (some (.dct (putO xs (.inr k) (.d y))))) else none) = some (r, S') := e
      split at e
      · rename_i hl
        cases e
        obtain ⟨a, ws, L, h1, h2, h3, h4⟩ := rel1.dct (asDct_eq q1)
        obtain ⟨ws', L', g1, g2, g3⟩ := ownD_put (k := .inr k) f h3
        have hlw : ws.length = xs.length := by rw [h3.length, List.length_map]
        refine ⟨.ref a, h1, a, _, rfl, DPut.k (k := .inr k) h2 ?_, q σ _ Z1 (Sub.refl _) (h4 g1 g2 g3) pn⟩
        rw [List.length_zip, List.length_map, hlw, Nat.min_self]
        exact hl
      · cases e
  | lst _ => cases e
  | dct _ => cases e
  | ins _ _ => cases e

/-! ### a list of its own within the dict -/
theorem ownL_set {K : PySem.W.Frag} : ∀ {ws : List V} {xs : List OV} {L : List Addr} {j : Nat} {ds : List PyData}, OwnL K Z H ws xs L → L.Nodup → xs[j]? = some (.lst (ds.map .d)) →
    ∃ b vs, ws[j]? = some (.ref b) ∧ H b = some (.lst vs) ∧ FrAll K Z vs ds ∧ b ∈ L ∧ ∀ vs' ds', FrAll K Z vs' ds' → OwnL K Z (upd H b (.lst vs')) ws (xs.set j (.lst (ds'.map .d))) L
  | _, _, _, j, _, .nil, _, e => by simp at e
  | _, _, _, 0, ds, .cons (L := L1) (M := M1) h1 h2, n, e => by
    simp at e
    subst e
    cases h1 with
    | @lst b vs _ L2 hb r2 =>
      obtain ⟨rfl, fr⟩ := OwnL.toFr r2
      have nb : b ∉ M1 := by
        intro hm
        exact (List.nodup_append.mp n).2.2 b (by simp) b hm rfl
      refine ⟨b, vs, rfl, hb, fr, by simp, fun vs' ds' fr' => ?_⟩
      exact OwnL.cons (.lst upd_same (OwnL.ofFr fr')) (h2.mono (Sub.refl Z) fun c hc => upd_ne fun z => nb (z ▸ hc))
  | _, _, _, j + 1, ds, .cons (L := L1) (M := M1) h1 h2, n, e => by
    obtain ⟨b, vs, g1, g2, g3, g4, g5⟩ := ownL_set (j := j) h2 (List.nodup_append.mp n).2.1 (by simpa using e)
    have nb : b ∉ L1 := fun hm => (List.nodup_append.mp n).2.2 b hm b g4 rfl
    refine ⟨b, vs, by simpa using g1, g2, g3, List.mem_append_right _ g4, fun vs' ds' fr' => ?_⟩
    exact OwnL.cons (h1.mono (Sub.refl Z) fun c hc => upd_ne fun z => nb (z ▸ hc)) (g5 vs' ds' fr')
/-- where the key stands -/
def ixO (xs : List (Key × OV)) (k : Key) : Option Nat := xs.findIdx? fun kv => decide (kv.1 = k)
theorem ixO_val {k : Key} : ∀ {xs : List (Key × OV)} {ws : List V} {j : Nat} {v : V}, ixO xs k = some j → ws[j]? = some v → ws.length = xs.length → valV ((xs.map (·.1)).zip ws) k = some v
  | [], ws, j, v, e, _, _ => by simp [ixO] at e
  | x :: xs, [], j, v, e, h, _ => by simp at h
  | x :: xs, w :: ws, j, v, e, h, hl => by
    unfold ixO at e
    rw [List.findIdx?_cons] at e
    by_cases hk : x.1 = k
    · rw [if_pos (by simpa using hk)] at e
      cases e
      simp at h
      subst h
      exact valV_pos hk
    · rw [if_neg (by simpa using hk)] at e
      cases q : xs.findIdx? (fun kv => decide (kv.1 = k)) with
      | none => rw [q] at e; cases e
      | some j' =>
        rw [q] at e
        simp only [Option.map_some, Option.some.injEq] at e
        subst e
        have := ixO_val (xs := xs) (ws := ws) (j := j') (v := v) q (by simpa using h) (by simpa using hl)
        rw [← this]
        exact valV_neg hk
/-- the dict's own list at k: its place, its items -/
def lstAt (S : SS) (i : Nat) (k : Key) : Option (List (Key × OV) × Nat × List PyData) := (asDct S[i]?).bind fun xs => (ixO xs k).bind fun j => match xs[j]? with
  | some (_, .lst os) => (items os).map fun ds => (xs, j, ds)
  | _ => none
theorem lstAt_eq {i : Nat} {k : Key} {xs : List (Key × OV)} {j : Nat} {ds : List PyData} (h : lstAt S i k = some (xs, j, ds)) : S[i]? = some (some (.dct xs)) ∧ ixO xs k = some j ∧ (xs.map (·.2))[j]? = some (.lst (ds.map .d)) := by
  unfold lstAt at h
  cases q1 : asDct S[i]? with
  | none => rw [q1] at h; cases h
  | some ys =>
    rw [q1] at h
    simp only [Option.bind_some] at h
    cases q2 : ixO ys k with
    | none => rw [q2] at h; cases h
    | some j' =>
      rw [q2] at h
      simp only [Option.bind_some] at h
      split at h
      · rename_i kk os q3
        cases q4 : items os with
        | none => rw [q4] at h; cases h
        | some es =>
          rw [q4] at h
          cases h
          exact ⟨asDct_eq q1, q2, by rw [List.getElem?_map, q3]; simp [items_eq q4]⟩
      · cases h
theorem Rel.lstAt {K : PySem.W.Frag} (r : Rel K T Z R S σ H) {i : Nat} {k : Key} {xs : List (Key × OV)} {j : Nat} {ds : List PyData} (h : lstAt S i k = some (xs, j, ds)) :
    ∃ a b ws vs, σ[i]? = some (some (.ref a)) ∧ H a = some (.dK ((xs.map (·.1)).zip ws)) ∧ valV ((xs.map (·.1)).zip ws) k = some (.ref b) ∧ H b = some (.lst vs) ∧ FrAll K Z vs ds ∧
      ∀ vs' ds', FrAll K Z vs' ds' → Rel K T Z R (S.set i (some (.dct ((xs.map (·.1)).zip ((xs.map (·.2)).set j (.lst (ds'.map .d))))))) σ (upd H b (.lst vs')) := by
  obtain ⟨e1, e2, e3⟩ := lstAt_eq h
  obtain ⟨L, ow, n, q⟩ := r.own
  obtain ⟨v, Li, Lr, h1, h2, h3, h4⟩ := ow.get e1
  have hlt : i < S.length := (List.getElem?_eq_some_iff.mp e1).1
  have n2 := (h4.nodup_iff).mp n
  cases h2 with
  | @dct a ws _ L2 ha r2 =>
    have n3 : a ∉ L2 ++ Lr ∧ (L2 ++ Lr).Nodup := by simpa using n2
    obtain ⟨b, vs, g1, g2, g3, g4, g5⟩ := ownL_set r2 (List.nodup_append.mp n3.2).1 e3
    have hlw : ws.length = xs.length := by rw [r2.length, List.length_map]
    refine ⟨a, b, ws, vs, h1, ha, ixO_val e2 g1 hlw, g2, g3, fun vs' ds' fr' => ?_⟩
    have hab : a ≠ b := fun z => n3.1 (List.mem_append_left _ (z ▸ g4))
    have hbr : b ∉ Lr := fun z => (List.nodup_append.mp n3.2).2.2 b g4 b z rfl
    have hqb := q b (h4.mem_iff.mpr (List.mem_append_left _ (List.mem_cons_of_mem _ g4)))
    have lk : ((xs.map (·.1)).zip ((xs.map (·.2)).set j (.lst (ds'.map .d)))).map (·.1) = xs.map (·.1) := List.map_fst_zip (by simp)
    have lv : ((xs.map (·.1)).zip ((xs.map (·.2)).set j (.lst (ds'.map .d)))).map (·.2) = (xs.map (·.2)).set j (.lst (ds'.map .d)) := List.map_snd_zip (by simp)
    have o2 : Own K Z (upd H b (.lst vs')) (.ref a) (.dct ((xs.map (·.1)).zip ((xs.map (·.2)).set j (.lst (ds'.map .d))))) (a :: L2) := .dct (by rw [upd_ne hab, lk]; exact ha) (by rw [lv]; exact g5 vs' ds' fr')
    have h5 : OwnS K Z (upd H b (.lst vs')) σ (S.set i none) Lr := h3.mono (Sub.refl Z) fun c hc => upd_ne fun z => hbr (z ▸ hc)
    obtain ⟨M, h6, D2, h7⟩ := h5.put (i := i) o2 (by simpa using hlt)
    rw [List.set_set, set_same h1] at h6
    obtain ⟨n4, n5⟩ := nodup_sub ⟨D2, h7⟩ n2
    exact ⟨⟨M, h6, n4, fun c hc => q c (h4.mem_iff.mpr (n5 c hc))⟩, fun c o ec => by rw [upd_ne (fun z => by rw [z, hqb.1] at ec; cases ec)]; exact r.z c o ec, fun c o ec => by rw [upd_ne (fun z => by rw [z, hqb.2] at ec; cases ec)]; exact r.r c o ec, r.zt, r.rt, r.zr, tabs_upd r.tab g2 (fun _ z => by cases z) fun _ z => by cases z⟩
/-- d['k'].pop(0) -/
def dpop0 (i : Nat) (k : Str) : M OV := fun S => match lstAt S i (.inr k) with
  | some (xs, j, y :: ds) => some (.ok (.d y), S.set i (some (.dct ((xs.map (·.1)).zip ((xs.map (·.2)).set j (.lst (ds.map .d)))))))
  | _ => none
theorem ev_dpop0 {i j j2 : Nat} {x k : Str} {px p2 p3 p4 apos : Pos} (hu : X.A.units + 1 < cLine) (hN : X.N[i]? = some x) (hv : Vis X.env.scope x) (hd : (x == ("__debug__" : Str)) = false := by decide) (hcd : (x == ("__classdict__" : Str)) = false := by decide) (hs : NoSl (.Constant (.str k) j p2) := by intro _ _; rfl)
    (hbase : attributeBase (.Subscript (.Name x px) (.Constant (.str k) j p2) p3) "pop" X.env (eval (.Subscript (.Name x px) (.Constant (.str k) j p2) p3) X.env) = eval (.Subscript (.Name x px) (.Constant (.str k) j p2) p3) X.env := by rfl)
    (hfew : ((backTo pos (starEach [.Constant (.int 0) j2 p4] X.env)).all (fun x => !x.1) && (backToKw pos (keywordEach [] X.env)).all (fun x => x.1.isSome)
      && decide (([.Constant (.int 0) j2 p4] : List Expr).length + ([] : List Keyword).length + (if ([] : List Keyword).isEmpty then 0 else 1) < 30)) = true := by rfl)
    (hline : (apos.endLine == pos.line) = true := by rfl) (hst : starEach [.Constant (.int 0) j2 p4] X.env = (false, eval (.Constant (.int 0) j2 p4) X.env) :: starEach [] X.env := by rfl) (hplain : (backTo pos (starEach [] X.env)).any (·.1) = false := by rfl) :
    EV X T (.Call (.Attribute (.Subscript (.Name x px) (.Constant (.str k) j p2) p3) "pop" apos) [.Constant (.int 0) j2 p4] [] pos) (dpop0 i k) :=
  pe_mono (pe_bm PySem.F.plainAttrs_list PySem.F.slot_list_pop PySem.F.type_list_pop mt_popAt (pe_dget hu (pe_var hN hv hd hcd) pe_str hs) (pa_cons pe_int pa_nil hst) hbase hfew hline hst hplain) fun σ H Q ⟨Z, R, S, r, S', W, rel, er, tk, pf⟩ => by
  unfold dpop0 at er
  split at er
  · rename_i xs jj y ds q
    cases er
    obtain ⟨a, b, ws, vs, h1, h2, h3, h4, h5, h6⟩ := rel.lstAt q
    cases h5 with
    | @cons v vs _ _ fv fr =>
      refine ⟨.ref a, h1, a, .ref b, rfl, by rw [← h3]; exact DGet.k (k := .inr k) h2, .inl ⟨rfl, _, SqL.of h4⟩, ?_⟩
      refine ⟨b, v :: vs, 0, 0, v, rfl, rfl, h4, by decide, by decide, ?_, rfl, pf v _ Z (Sub.refl _) ((h6 vs ds fr).push fv)⟩
      simp [seqIndex?]
  · cases er
/-- d['k'] != [] -/
def dfull (i : Nat) (k : Str) : M Bool := fun S => match lstAt S i (.inr k) with
  | some (_, _, ds) => if SeqAt.shaped (.list ds) then some (.ok (!ds.isEmpty), S) else none
  | _ => none
theorem evt_dfull {i j : Nat} {x k : Str} {px p2 p3 p4 : Pos} (hu : X.A.units + 64 < cLine) (hN : X.N[i]? = some x) (hv : Vis X.env.scope x) (hd : (x == ("__debug__" : Str)) = false := by decide) (hcd : (x == ("__classdict__" : Str)) = false := by decide) (hs : NoSl (.Constant (.str k) j p2) := by intro _ _; rfl) :
    EVT X T (.Compare (.Subscript (.Name x px) (.Constant (.str k) j p2) p3) [.NotEq] [.List [] p4] pos) (dfull i k) :=
  pt_mono (pt_cmpR (op_neD hu) (pe_dget (by omega) (pe_var hN hv hd hcd) pe_str hs) (pe_lst pa_nil) (nomark _)) fun σ H Q ⟨Z, R, S, r, S', W, rel, er, tk, pf⟩ => by
  unfold dfull at er
  split at er
  · rename_i xs jj ds q
    split at er
    · rename_i hsh
      cases er
      obtain ⟨a, b, ws, vs, h1, h2, h3, h4, h5, h6⟩ := rel.lstAt q
      refine ⟨.ref a, h1, a, .ref b, rfl, by rw [← h3]; exact DGet.k (k := .inr k) h2, by decide, fun p hp => ?_⟩
      have rel2 := rel.frozen hp (.lst []) (fun _ z => by cases z)
      have zp : Z p = none := by
        cases q : Z p with
        | none => rfl
        | some w => rw [rel.z _ _ q] at hp; cases hp
      have sb := sub_upd (Z := Z) (p := p) (.lst []) zp
      refine ⟨.list ds, .list [], .lst (SqL.of (by rw [upd_ne (ne_of_none h4 hp)]; exact h4)) (DpAll.sub rel2.z ((h5.sub sb).dp (by have := flat_of_shaped hsh; simpa only [flat] using this))), .lst (SqL.of upd_same) .nil, hsh, rfl, _, rfl, ?_⟩
      have e : (!PyData.eqv (.list ds) (.list [])) = !ds.isEmpty := by cases ds <;> rfl
      rw [e]
      exact pf _ _ sb rel2
    · cases er
  · cases er
end
end PL

/-! PL12: rows of owned values: dict displays, parallel assignments -/
namespace PL
open PySem PySem.Spec PyProof.Rows L2 LamX

def PLs (K : PySem.W.Frag) (T : List (Addr × Str)) (σ : L2.St) (Q : List V → Hp → Prop) : Post (List OV) := fun Z R os S => ∀ vs H' Z', Sub Z Z' → vs.length = os.length → Rel K T Z' R (os.map some ++ S) (vs.map some ++ σ) H' → Q vs H'
theorem PLs.mono {K : PySem.W.Frag} {T : List (Addr × Str)} {σ : L2.St} {Q : List V → Hp → Prop} : PMono (PLs K T σ Q) := fun Z Z' R o S s p v H' Z'' s' => p v H' Z'' (s.trans s')
def rlg (X : Cx) (T : List (Addr × Str)) (f : M (List OV)) : TA := fun σ H Q => ∃ Z, rz X T (PLs X.K T σ Q) Z f σ H
abbrev EVL (X : Cx) (T : List (Addr × Str)) (es : List Expr) (f : M (List OV)) : Prop := PA X es (rlg X T f)
def osNil : M (List OV) := M.ret []
def osCons (f : M OV) (g : M (List OV)) : M (List OV) := f >>= fun o => g >>= fun os => M.ret (o :: os)
section
variable {X : Cx} {T : List (Addr × Str)} {e : Expr} {es : List Expr} {f : M OV} {g : M (List OV)} {Z R H : Hp} {S : SS} {σ : L2.St} {pos : Pos}
/-- the value on top is held, then the rest of the row -/
theorem hold_rest {o : OV} {v : V} {S1 : SS} {r : Except PyData (List OV)} {S' : SS} {W : WX} {Q : List V → Hp → Prop} (rel : Rel X.K T Z R (some o :: S1) (some v :: σ) H)
    (q1 : ∀ os, r = .ok os → PLs X.K T σ Q Z R os S') (q2 : ∀ x, r = .error x → ExPost X.K T σ Z R W x S') (eg : (g >>= fun os => M.ret (o :: os)) S1 = some (r, S')) (tk : Takes X W) : rz X T (PLs X.K T σ fun vs H' => Q (v :: vs) H') Z g σ H := by
  obtain ⟨L, ow, n, qz⟩ := id rel.own
  cases ow with
  | @own _ _ _ _ B A w1 w2 =>
    have oB : OwnS X.K Z H [some v] [some o] B := by
      have := OwnS.own w1 (OwnS.emp (K := X.K) (Z := Z) (H := H))
      rwa [List.append_nil] at this
    have n2 : (A ++ B).Nodup := (List.perm_append_comm.nodup_iff).mp n
    have qq : ∀ a ∈ A ++ B, Z a = none ∧ R a = none := fun a ha => qz a (List.perm_append_comm.mem_iff.mpr ha)
    have rel1 := rel.frame w2 oB n2 qq
    have nB : B.Nodup := (List.nodup_append.mp n2).2.1
    have rB : ∀ a ∈ B, R a = none := fun a ha => (qq a (List.mem_append_right _ ha)).2
    rcases bind_eq eg with ⟨x, ef, rfl⟩ | ⟨os, S2, ef, eg⟩
    · refine ⟨fr R H B, S1, _, _, W, rel1, ef, tk, fun cls d H' Z' s' r' ix => ?_⟩
      obtain ⟨A', p1, p2, p3, p4, p5⟩ := r'.unframe s' oB nB rB
      exact q2 _ rfl cls d H' Z' s' (p5 p1 (List.nodup_append.mp p3).1 fun a ha => List.mem_append_left _ ha) ix
    · cases eg
      refine ⟨fr R H B, S1, _, _, W, rel1, ef, tk, fun vs H' Z' s' hl r' => ?_⟩
      obtain ⟨A', p1, p2, p3, p4, p5⟩ := r'.unframe s' oB nB rB
      refine q1 _ rfl (v :: vs) H' Z' s' (by simp [hl]) ?_
      cases p2 with
      | @own _ _ _ _ B1 B2 w3 w4 =>
        cases w4
        rw [List.append_nil] at p5 p3
        have pm := List.perm_append_comm (l₁ := A') (l₂ := B1)
        exact p5 (OwnS.own w3 p1) ((pm.nodup_iff).mp p3) fun a ha => pm.mem_iff.mpr ha
theorem evl_nil : EVL X T [] osNil := pa_mono pa_nil fun σ H Q ⟨Z, h⟩ => by
  obtain ⟨R, S, rel, p⟩ := rz_ret h
  exact p [] H Z (Sub.refl Z) rfl rel
theorem evl_cons (ha : EV X T e f) (hr : EVL X T es g) (hs : starEach (e :: es) X.env = (false, eval e X.env) :: starEach es X.env := by rfl) : EVL X T (e :: es) (osCons f g) :=
  pa_mono (pa_cons ha hr hs) fun σ H Q ⟨Z, h⟩ => by
    refine ⟨Z, rz_mono (rd_bind PLs.mono h) fun Z R o S p v H1 Z1 s1 r1 => ?_⟩
    obtain ⟨o', Z2, R2, S2, r, S', W, s2, rel, e, tk, q⟩ := p v H1 Z1 s1 r1
    exact ⟨Z2, hold_rest rel (fun os z => by subst z; exact q) (fun x z => by subst z; exact q) e tk⟩

/-! ### parallel assignment -/
def putLs : List Nat → List OV → SS → SS
  | i :: is, o :: os, S => putLs is os (S.set i (some o))
  | _, _, S => S
def putV : List Nat → List V → L2.St → L2.St
  | i :: is, v :: vs, σ => putV is vs (σ.set i (some v))
  | _, _, σ => σ
theorem Rel.puts : ∀ {is : List Nat} {os : List OV} {vs : List V} {S : SS} {σ : L2.St}, Rel X.K T Z R (os.map some ++ S) (vs.map some ++ σ) H → vs.length = os.length → is.length = os.length → (∀ i ∈ is, i < S.length) → Rel X.K T Z R (putLs is os S) (putV is vs σ) H
  | [], [], [], S, σ, r, _, _, _ => r
  | i :: is, o :: os, v :: vs, S, σ, r, h1, h2, h3 => by
    have hl : os.length = vs.length := by simpa using h1.symm
    have r1 := Rel.set (i := os.length + i) r (by
      have := h3 i List.mem_cons_self
      show _ < (os.map some ++ S).length
      rw [List.length_append, List.length_map]; omega)
    have e1 : (os.map some ++ S).set (os.length + i) (some o) = os.map some ++ S.set i (some o) := by
      rw [List.set_append_right _ _ (by simp)]
      simp
    have e2 : (vs.map some ++ σ).set (os.length + i) (some v) = vs.map some ++ σ.set i (some v) := by
      rw [hl, List.set_append_right _ _ (by simp)]
      simp
    have r2 : Rel X.K T Z R (os.map some ++ S.set i (some o)) (vs.map some ++ σ.set i (some v)) H := by
      rw [← e1, ← e2]
      exact r1
    have := Rel.puts (is := is) r2 hl.symm (by simpa using h2) fun j hj => by rw [List.length_set]; exact h3 j (List.mem_cons_of_mem _ hj)
    exact this
  | [], [], _ :: _, _, _, _, h, _, _ => by cases h
  | [], _ :: _, _, _, _, _, _, h, _ => by cases h
  | _ :: _, [], _, _, _, _, _, h, _ => by cases h
  | _ :: _, _ :: _, [], _, _, _, h, _, _ => by cases h
inductive Tgs (X : Cx) : List Expr → List Nat → List Str → Prop
  | nil : Tgs X [] [] []
  | cons {i : Nat} {x : Str} {p : Pos} {es : List Expr} {is : List Nat} {xs : List Str} : X.N[i]? = some x → Loc X.env.scope x → (X.fn x = true ∨ X.env.scope.names.lookup x = some .local) → Tgs X es is xs → Tgs X (.Name x p :: es) (i :: is) (x :: xs)
theorem putV_set {i : Nat} {u : Option V} : ∀ {is : List Nat} {vs : List V} {σ : L2.St}, i ∉ is → putV is vs (σ.set i u) = (putV is vs σ).set i u
  | [], _, _, _ => rfl
  | j :: is, [], _, _ => rfl
  | j :: is, v :: vs, σ, h => by
    show putV is vs ((σ.set i u).set j (some v)) = _
    rw [List.set_comm _ _ (by intro z; exact h (z ▸ List.mem_cons_self)), putV_set (fun z => h (List.mem_cons_of_mem _ z))]
    rfl
theorem aio_left {M : Model} {A : Around} {E : Value → Shared → Prop} {pins : List (Addr × Obj)} {H : Hp} {Q : Unit → Shared → Prop} (hN : X.N.Nodup) : ∀ {es : List Expr} {is : List Nat} {xs : List Str} {vs : List V} {us : List Value} {σ : L2.St} {s : Shared}, Tgs X es is xs → vs.length = is.length → Vals vs us → Inv X pins σ H s →
    (∀ s', Inv X pins (putV is vs σ) H s' → Q () s') → wpAny M A (assignInOrder ((assignEach es X.env).map (·.2)) us) Q E s := by
  intro es is xs vs us σ s h
  induction h generalizing vs us σ s with
  | nil =>
    intro hl r I q
    cases vs with
    | nil => cases r; exact assignInOrder_nil (q s I)
    | cons v vs => cases hl
  | cons h1 h2 h3 h4 ih =>
    intro hl r I q
    cases r with
    | nil => cases hl
    | cons r rr => exact assignInOrder_cons (wpAny_assign_Name (store_ok I hN h1 h2 r (fun s' I' => ih (by simpa using hl) rr I' q) h3))
theorem aio_right {M : Model} {A : Around} {E : Value → Shared → Prop} {pins : List (Addr × Obj)} {H : Hp} {Q : Unit → Shared → Prop} (hN : X.N.Nodup) : ∀ {es : List Expr} {is : List Nat} {xs : List Str} {vs : List V} {us : List Value} {σ : L2.St} {s : Shared} {B : List (Value → Sem Unit)} {bs : List Value}, Tgs X es is xs → is.Nodup → vs.length = is.length → Vals vs us → Inv X pins σ H s →
    (∀ s', Inv X pins (putV is vs σ) H s' → wpAny M A (assignInOrder B bs) Q E s') → wpAny M A (assignInOrder ((xs.reverse.map fun n => bindName X.env n) ++ B) (us.reverse ++ bs)) Q E s := by
  intro es is xs vs us σ s B bs h
  induction h generalizing vs us σ s B bs with
  | nil =>
    intro nd hl r I q
    cases vs with
    | nil => cases r; exact q s I
    | cons v vs => cases hl
  | @cons i x p es is xs h1 h2 h3 h4 ih =>
    intro nd hl r I q
    cases r with
    | nil => cases hl
    | @cons v u vs us r rr =>
      have e1 : (((x :: xs).reverse.map fun n => bindName X.env n) ++ B) = (xs.reverse.map fun n => bindName X.env n) ++ ((fun w => bindName X.env x w) :: B) := by simp
      have e2 : (u :: us).reverse ++ bs = us.reverse ++ (u :: bs) := by simp
      rw [e1, e2]
      obtain ⟨n1, n2⟩ := List.nodup_cons.mp nd
      refine ih n2 (by simpa using hl) rr I fun s' I' => ?_
      refine assignInOrder_cons (wpAny_bindName (store_ok I' hN h1 h2 r (fun s2 I2 => q s2 ?_) h3))
      rw [← putV_set n1] at I2
      exact I2
theorem Tgs.len {es : List Expr} {is : List Nat} {xs : List Str} (h : Tgs X es is xs) : es.length = is.length ∧ xs.length = is.length ∧ (assignEach es X.env).length = is.length ∧ (assignEach es X.env).findIdx? (·.1) = none := by
  induction h with
  | nil => exact ⟨rfl, rfl, rfl, rfl⟩
  | @cons i x p es is xs h1 h2 h3 h4 ih =>
    obtain ⟨i1, i2, i3, i4⟩ := ih
    refine ⟨by simp [i1], by simp [i2], ?_, ?_⟩
    · show ((false, assign (.Name x p) X.env) :: assignEach es X.env).length = _
      simp [i3]
    · show ((false, assign (.Name x p) X.env) :: assignEach es X.env).findIdx? (·.1) = none
      rw [List.findIdx?_cons]
      simp [i4]
def parS (is : List Nat) (fo : M (List OV)) : SM := doE fo fun os S => if os.length = is.length ∧ is.length ≤ 16 ∧ ∀ i ∈ is, i < S.length then some (.nx, putLs is os S) else none
theorem doL_of {mp : List Nat} {D : Ends} {g : List OV → SM} {fo : M (List OV)} (h : rsg X T mp (doE fo g) D σ H) :
    rlg X T fo σ H fun vs H1 => ∃ os Z1 R S1 r S' W P, vs.length = os.length ∧ Rel X.K T Z1 R (os.map some ++ S1) (vs.map some ++ σ) H1 ∧ Pin mp P σ ∧ g os S1 = some (r, S') ∧ Takes X W ∧ PFl X.K T mp P D W Z1 R S' r := by
  obtain ⟨Z, R, S, r, S', W, P, rel, pn, e, tk, q⟩ := h
  unfold doE at e
  split at e
  · rename_i o S1 e1
    exact ⟨Z, R, S, _, _, W, rel, e1, tk, fun v H' Z' s hl rel' => ⟨o, Z', R, S1, r, S', W, P, hl, rel', pn, e, tk, PFl.sub s q⟩⟩
  · rename_i x S1 e1
    cases e
    exact ⟨Z, R, S, _, _, W, rel, e1, tk, fun cls d H' Z' s rel' ix => q cls d σ H' Z' s rel' pn ix⟩
  · cases e
theorem Pin.puts {mp : List Nat} {P : Nat → V} : ∀ {is : List Nat} {vs : List V} {σ : L2.St}, Pin mp P σ → (∀ i ∈ is, i ∉ mp) → Pin mp P (putV is vs σ)
  | [], _, _, p, _ => p
  | i :: is, [], _, p, _ => p
  | i :: is, v :: vs, σ, p, h => by
    have := Pin.puts (is := is) (vs := vs) (p.set (u := some v) (h i List.mem_cons_self)) fun j hj => h j (List.mem_cons_of_mem _ hj)
    exact this
theorem sv_par {mp : List Nat} {tgs es : List Expr} {is : List Nat} {xs : List Str} {fo : M (List OV)} {k k2 : Nat} {pt pt2 : Pos} (hc : X.calm = true) (hN : X.N.Nodup) (ht : Tgs X tgs is xs) (he : EVL X T es fo) (hd : is.Nodup := by decide) (hm : ∀ i ∈ is, i ∉ mp := by decide)
    (hw : swappedStores [.Tuple tgs k pt] (.Tuple es k2 pt2) X.env = pure none ∨ swappedStores [.Tuple tgs k pt] (.Tuple es k2 pt2) X.env = pure (some xs) := by first | exact .inl rfl | exact .inr rfl)
    (hs : swapsWithSole [.Tuple tgs k pt] (.Tuple es k2 pt2) pos.line X.env = pure false := by rfl) : SV X T mp (.Assign [.Tuple tgs k pt] (.Tuple es k2 pt2) pos) (parS is fo) := ⟨fun pins s σ H D I h => by
  have h := doL_of h
  rw [exec_Assign_arm]
  refine wpAny_bind (wpAny_standAt ?_)
  rw [hs]
  refine wpAny_bind (wpAny_pure ?_)
  rw [if_neg (by decide)]
  refine wpAny_bind (Tuple_ (thn (he.run _ pins s σ H _ I h) fun us s1 ⟨vs, H1, I1, r1, os, Z1, R, S1, r, S', W, P, hl, rel, pn, e, tk, q⟩ => ?_))
  split at e
  · rename_i hcnd
    obtain ⟨c1, c2, c3⟩ := hcnd
    cases e
    have hvl : vs.length = is.length := hl.trans c1
    have hul : us.length = is.length := r1.length ▸ hvl
    refine wpAny_newObj_type ?_ (by show us.toArray.size ≤ sizeLine; rw [List.size_toArray, hul]; exact Nat.le_trans c2 (by rw [sizeLine_eq]; decide))
    have I2 : Inv X pins σ H1 { s1 with heap := s1.heap.push { cls := .type "tuple", data := .seq us.toArray } } := I1.kept (t' := s1.toks) fun b o e => Heap.get?_push_of_some _ e
    have fin := q (putV is vs σ) H1 Z1 (Sub.refl _) (rel.puts hl c1.symm c3) (pn.puts hm)
    obtain ⟨t1, t2, t3, t4⟩ := ht.len
    rcases hw with hw | hw
    · rw [hw]
      refine wpAny_bind (wpAny_pure ?_)
      show wpAny (model X.prog X.w) X.A (do assign (.Tuple tgs k pt) X.env (.ref s1.heap.objs.size); pure Flow.next) _ _ _
      refine wpAny_bind (assign_Tuple_tuple (items := us.toArray) (I.ok.hd hc) (IsTup.new s1.heap _) (by rw [t3, List.size_toArray, hul]) t4 fun h' hx => ?_)
      have I3 := I2.kept (h' := h') (t' := s1.toks) fun b o e => hx b o (Nat.ne_of_lt (Heap.lt_size e)) e
      exact aio_left (M := model X.prog X.w) hN ht hvl (by simpa using r1) I3 fun s' I' => wpAny_pure ⟨_, H1, I', fin⟩
    · rw [hw]
      refine wpAny_bind (wpAny_pure ?_)
      show wpAny (model X.prog X.w) X.A (do rule "assign.swapped-stores"; let items ← unpackItems (.ref s1.heap.objs.size) xs.length none; assignInOrder (xs.reverse.map fun n => bindName X.env n) items.reverse; pure Flow.next) _ _ _
      have hxl : xs.length = us.toArray.size := by rw [t2, List.size_toArray, hul]
      rw [hxl]
      refine wpAny_bind (wpAny_rule (wpAny_bind (unpackItems_tuple (items := us.toArray) (I.ok.hd hc) (IsTup.new s1.heap _) fun h' hx' => ?_)))
      have I3 := I2.kept (h' := h') (t' := s1.toks) fun b o e => hx' b o (Nat.ne_of_lt (Heap.lt_size e)) e
      have := aio_right (M := model X.prog X.w) (A := X.A) (E := X.xe) (B := []) (bs := []) (Q := fun _ s' => SP X pins D Flow.next s') hN ht hd hvl r1 I3 fun s' I' => assignInOrder_nil ⟨_, H1, I', fin⟩
      rw [List.append_nil, List.append_nil] at this
      exact wpAny_bind (thn this fun _ s' q => wpAny_pure q)
  · cases e⟩

/-! ### dict displays -/
structure EVD (X : Cx) (T : List (Addr × Str)) (pos : Pos) (keys : List (Option Expr)) (values : List Expr) (ks : List Str) (f : M (List OV)) : Prop where
  ex : ∃ trs, PPs X pos keys values trs ∧ ∀ σ H Q, (∃ Z, rz X T (PLs X.K T σ fun vs H' => Q ((ks.map V.str).zip vs) H') Z f σ H) → tPairs trs σ H Q
theorem evd_nil : EVD X T pos [] [] [] osNil := ⟨[], pps_nil, fun σ H Q ⟨Z, h⟩ => by
  obtain ⟨R, S, rel, p⟩ := rz_ret h
  exact p [] H Z (Sub.refl Z) rfl rel⟩
theorem evd_cons {k : Str} {j : Nat} {p : Pos} {keys : List (Option Expr)} {values : List Expr} {ks : List Str} (ha : EV X T e f) (hr : EVD X T pos keys values ks g) : EVD X T pos (some (.Constant (.str k) j p) :: keys) (e :: values) (k :: ks) (osCons f g) := by
  obtain ⟨trs, hp, hd⟩ := hr.ex
  refine ⟨(tC (.str k), rdg X T f) :: trs, pps_cons pe_str ha hp, fun σ H Q ⟨Z, h⟩ => ?_⟩
  refine ⟨Z, rz_mono (rd_bind PLs.mono h) fun Z R o S p v H1 Z1 s1 r1 => ?_⟩
  obtain ⟨o', Z2, R2, S2, r, S', W, s2, rel, e, tk, q⟩ := p v H1 Z1 s1 r1
  exact hd σ H1 _ ⟨Z2, hold_rest (Q := fun vs H' => Q (((k :: ks).map V.str).zip vs) H') rel (fun os z => by subst z; exact q) (fun x z => by subst z; exact q) e tk⟩
theorem Rel.addX (r : Rel X.K T Z R S σ H) {D : Addr} (hD : H D = none) (u : HO) (hu : ∀ ps, u ≠ .tbl ps) : Rel X.K T Z (upd R D u) S σ (upd H D u) := by
  obtain ⟨L, ow, n, q⟩ := r.own
  have lp : ∀ a ∈ L, a ≠ D := fun a ha e => by
    obtain ⟨w, hw, _⟩ := ow.at_ a ha
    rw [e, hD] at hw; cases hw
  refine ⟨⟨L, ow.mono (Sub.refl Z) (fun a ha => upd_ne (lp a ha)), n, fun a ha => ⟨(q a ha).1, by rw [upd_ne (lp a ha)]; exact (q a ha).2⟩⟩, fun a o e => ?_, fun a o e => ?_, r.zt, fun a ps e => ?_, fun a o e => ?_, r.tab.ext fun a o e => ?_⟩
  · rw [upd_ne (ne_of_none (r.z a o e) hD)]; exact r.z a o e
  · by_cases h : a = D
    · subst h; rw [upd_same] at e ⊢; exact e
    · rw [upd_ne h] at e ⊢; exact r.r a o e
  · by_cases h : a = D
    · subst h; rw [upd_same] at e; exact hu ps (Option.some.inj e)
    · rw [upd_ne h] at e; exact r.rt a ps e
  · by_cases h : a = D
    · subst h
      have := r.z a o e
      rw [hD] at this; cases this
    · rw [upd_ne h]; exact r.zr a o e
  · rw [upd_ne (ne_of_none e hD)]; exact e
theorem own_split : ∀ {vs : List V} {os : List OV} {σ : L2.St} {S : SS} {L : List Addr}, vs.length = os.length → OwnS X.K Z H (vs.map some ++ σ) (os.map some ++ S) L → ∃ L1 L2, OwnL X.K Z H vs os L1 ∧ OwnS X.K Z H σ S L2 ∧ L = L1 ++ L2
  | [], [], _, _, L, _, h => ⟨[], L, .nil, h, rfl⟩
  | v :: vs, o :: os, _, _, _, hl, h => by
    cases h with
    | own a b =>
      obtain ⟨L1, L2, h1, h2, rfl⟩ := own_split (by simpa using hl) b
      exact ⟨_, L2, .cons a h1, h2, by rw [List.append_assoc]⟩
  | [], _ :: _, _, _, _, hl, _ => by cases hl
  | _ :: _, [], _, _, _, hl, _ => by cases hl
theorem keys_zip : ∀ (ks : List Str) (os : List OV), ks.length = os.length → ((ks.map (Sum.inr : Str → Key)).zip os).map (·.1) = ks.map Sum.inr ∧ ((ks.map (Sum.inr : Str → Key)).zip os).map (·.2) = os
  | [], [], _ => ⟨rfl, rfl⟩
  | k :: ks, o :: os, h => by
    obtain ⟨h1, h2⟩ := keys_zip ks os (by simpa using h)
    exact ⟨by simp [h1], by simp [h2]⟩
  | [], _ :: _, h => by cases h
  | _ :: _, [], h => by cases h
theorem Rel.dctR {D : Addr} {ks : List Str} {vs : List V} {os : List OV} (r : Rel X.K T Z (upd R D (.dK [])) (os.map some ++ S) (vs.map some ++ σ) H) (hR : R D = none) (h1 : vs.length = os.length) (h2 : ks.length = os.length) :
    Rel X.K T Z R (some (.dct ((ks.map Sum.inr).zip os)) :: S) (some (.ref D) :: σ) (upd H D (.dK ((ks.map Sum.inr).zip vs))) := by
  obtain ⟨L, ow, n, q⟩ := r.own
  have hD : H D = some (.dK []) := r.r D _ upd_same
  have lp : ∀ a ∈ L, a ≠ D := fun a ha e => by
    have := (q a ha).2
    rw [e, upd_same] at this; cases this
  have zD : Z D = none := by
    cases e : Z D with
    | none => rfl
    | some o => have := r.zr D o e; rw [upd_same] at this; cases this
  have qR : ∀ a ∈ L, R a = none := fun a ha => by have := (q a ha).2; rwa [upd_ne (lp a ha)] at this
  obtain ⟨L1, L2, o1, o2, rfl⟩ := own_split h1 ow
  have o1' := o1.mono (H' := upd H D (.dK ((ks.map Sum.inr).zip vs))) (Sub.refl Z) fun a ha => upd_ne (lp a (List.mem_append_left _ ha))
  have o2' := o2.mono (H' := upd H D (.dK ((ks.map Sum.inr).zip vs))) (Sub.refl Z) fun a ha => upd_ne (lp a (List.mem_append_right _ ha))
  obtain ⟨e1, e2⟩ := keys_zip ks os h2
  refine ⟨⟨D :: L1 ++ L2, .own (.dct (ws := vs) (by rw [upd_same, e1]) (by rw [e2]; exact o1')) o2', List.nodup_cons.mpr ⟨fun z => lp D z rfl, n⟩, fun a ha => ?_⟩, fun a o e => ?_, fun a o e => ?_, r.zt, fun a ps e => ?_, fun a o e => ?_, tabs_upd r.tab hD (fun _ z => by cases z) fun _ z => by cases z⟩
  · rcases List.mem_cons.mp ha with rfl | ha
    · exact ⟨zD, hR⟩
    · exact ⟨(q a ha).1, qR a ha⟩
  · rw [upd_ne (fun z => by rw [z, zD] at e; cases e)]; exact r.z a o e
  · have ne : a ≠ D := fun z => by rw [z, hR] at e; cases e
    rw [upd_ne ne]
    exact r.r a o (by rw [upd_ne ne]; exact e)
  · have ne : a ≠ D := fun z => by rw [z, hR] at e; cases e
    exact r.rt a ps (by rw [upd_ne ne]; exact e)
  · have := r.zr a o e
    rwa [upd_ne (fun z => by rw [z, zD] at e; cases e)] at this
theorem merge_zip : ∀ (kvs acc : List (Key × V)), ((acc ++ kvs).map (·.1)).Nodup → mergeK acc kvs = acc ++ kvs
  | [], acc, _ => by rw [List.append_nil]; rfl
  | p :: kvs, acc, h => by
    have e : putK acc p.1 p.2 = acc ++ [p] := by
      unfold putK
      rw [if_neg]
      intro z
      obtain ⟨q, h1, h2⟩ := List.any_eq_true.mp z
      have h2 := of_decide_eq_true h2
      rw [List.map_append, List.map_cons] at h
      have := (List.nodup_append.mp h).2.2 q.1 (List.mem_map_of_mem h1) p.1 List.mem_cons_self
      exact this h2
    show mergeK (putK acc p.1 p.2) kvs = _
    rw [e, merge_zip kvs (acc ++ [p]) (by rw [List.append_assoc]; exact h), List.append_assoc]
    rfl
def dispM (ks : List Str) (f : M (List OV)) : M OV := f >>= fun os => M.lift (if os.length = ks.length then some (.dct ((ks.map Sum.inr).zip os)) else none)
theorem map_zip_kV : ∀ (ks : List Str) (vs : List V), (((ks.map (Sum.inr : Str → Key)).zip vs).map fun kv => (kV kv.1, kv.2)) = (ks.map V.str).zip vs
  | [], _ => rfl
  | k :: ks, [] => rfl
  | k :: ks, v :: vs => by
    have := map_zip_kV ks vs
    simp only [List.map_cons, List.zip_cons_cons]
    rw [this]
    rfl
theorem ev_disp {keys : List (Option Expr)} {values : List Expr} {ks : List Str} (h : EVD X T pos keys values ks g) (hk : ks.Nodup := by decide) (hall : keys.all (·.isSome) = true := by rfl) (hl : keys.length = values.length := by rfl) (h0 : keys ≠ [] := by simp)
    (h15 : keys.length ≤ 15 := by decide) (hl2 : ks.length = keys.length := by rfl) : EV X T (.Dict keys values pos) (dispM ks g) := by
  obtain ⟨trs, hp, hd⟩ := h.ex
  refine pe_mono (pe_disp hp hall hl h0 h15) fun σ H Q ⟨Z, R, S, r, S', W, rel, e, tk, q⟩ => ?_
  intro p hpn
  have hR : R p = none := by
    cases e : R p with
    | none => rfl
    | some o => rw [rel.r p o e] at hpn; cases hpn
  have rel1 := rel.addX hpn (.dK []) (fun _ z => by cases z)
  refine hd σ _ _ ⟨Z, upd R p (.dK []), S, ?_⟩
  have back : ∀ {S0 : SS} {Z' H' : Hp}, Rel X.K T Z' (upd R p (.dK [])) S0 σ H' → Rel X.K T Z' R S0 σ H' := fun {S0 Z' H'} r => by
    obtain ⟨L, ow, n, q⟩ := r.own
    have lp : ∀ a ∈ L, a ≠ p := fun a ha e => by
      have := (q a ha).2
      rw [e, upd_same] at this; cases this
    have zD : Z' p = none := by
      cases e : Z' p with
      | none => rfl
      | some o => have := r.zr p o e; rw [upd_same] at this; cases this
    refine ⟨⟨L, ow, n, fun a ha => ⟨(q a ha).1, by have := (q a ha).2; rwa [upd_ne (lp a ha)] at this⟩⟩, r.z, fun a o e => ?_, r.zt, fun a ps e => ?_, fun a o e => ?_, r.tab⟩
    · have ne : a ≠ p := fun z => by rw [z, hR] at e; cases e
      exact r.r a o (by rw [upd_ne ne]; exact e)
    · have ne : a ≠ p := fun z => by rw [z, hR] at e; cases e
      exact r.rt a ps (by rw [upd_ne ne]; exact e)
    · have := r.zr a o e
      rwa [upd_ne (fun z => by rw [z, zD] at e; cases e)] at this
  rcases bind_eq e with ⟨x, ef, rfl⟩ | ⟨os, S1, ef, eg⟩
  · exact ⟨_, _, W, rel1, ef, tk, fun cls d H' Z' s r' ix => q cls d H' Z' s (back r') ix⟩
  · have eg : (if os.length = ks.length then some (OV.dct ((ks.map Sum.inr).zip os)) else none).map (fun a => (Except.ok a, S1)) = some (r, S') := eg
    split at eg
    · rename_i hn
      cases eg
      refine ⟨_, _, W, rel1, ef, tk, fun vs H' Z' s hl' r' => ?_⟩
      refine ⟨r'.r p _ upd_same, (ks.map Sum.inr).zip vs, (map_zip_kV ks vs).symm, ?_, ?_⟩
      · rw [List.length_zip, List.length_map]
        omega
      · rw [merge_zip _ [] ?_, List.nil_append]
        · exact q _ _ Z' s (r'.dctR hR hl' hn.symm)
        · rw [List.nil_append]
          have e1 : ((ks.map (Sum.inr : Str → Key)).zip vs).map (·.1) = ks.map Sum.inr := by
            rw [List.map_fst_zip]
            rw [List.length_map]; omega
          rw [e1]
          exact List.Pairwise.map _ (fun a b h z => h (Sum.inr.inj z)) hk
    · cases eg
end
end PL

/-! PL13: texts, in, list * int, chains of three, keywords, repr -/
namespace PL
open PySem PySem.Spec PyProof.Rows L2 LamX

section
variable {X : Cx} {T : List (Addr × Str)} {Z R H : Hp} {S : SS} {σ : L2.St} {pos : Pos}
/-! ### texts -/
def strsD : List PyData → Option (List Str)
  | [] => some []
  | .str x :: r => (strsD r).map (x :: ·)
  | _ => none
theorem FrAll.strsD {K : PySem.W.Frag} : ∀ {ds : List PyData} {vs : List V} {ys : List Str}, FrAll K Z vs ds → strsD ds = some ys → vs = ys.map V.str
  | [], _, _, h, e => by cases h; cases e; rfl
  | d :: ds, _, _, h, e => by
    cases h with
    | cons a b =>
      cases d with
      | str x =>
        cases a
        have e : (PL.strsD ds).map (x :: ·) = some _ := e
        cases q : PL.strsD ds with
        | none => rw [q] at e; cases e
        | some zs =>
          rw [q] at e; cases e
          rw [FrAll.strsD b q]; rfl
      | _ => cases e
def joinO (a : Str) (ds : List PyData) : Option OV := (strsD ds).bind fun ys => if (ys.map (·.length)).sum + ys.length * a.length ≤ 16777216 then some (.d (.str (Txt.join a ys))) else none
def oJoin : PyData → List PyData → Option OV
  | .str a, [.list ds] => joinO a ds
  | .str a, [.tuple ds] => joinO a ds
  | _, _ => none
def rJoinA (K : PySem.W.Frag) : V → List V → Hp → VK → Prop := fun x xs H Q => ∃ a p, ∃ ys : List Str, x = .str a ∧ xs = [.ref p] ∧ (SqL K H p (ys.map V.str) ∨ SqT K H p (ys.map V.str)) ∧
    (ys.map (·.length)).sum + ys.length * a.length ≤ 16777216 ∧ Q (.str (Txt.join a ys)) H
theorem mt_joinA : MtR X "str.join" (rJoinA X.K) := mt_join
theorem joinO_some {a : Str} {ds : List PyData} {o : OV} (e : joinO a ds = some o) : ∃ ys, strsD ds = some ys ∧ (ys.map (·.length)).sum + ys.length * a.length ≤ 16777216 ∧ o = .d (.str (Txt.join a ys)) := by
  unfold joinO at e
  cases q : strsD ds with
  | none => rw [q] at e; cases e
  | some ys =>
    rw [q] at e
    have e : (if _ then _ else _) = some o := e
    split at e
    · cases e; exact ⟨ys, rfl, by assumption, rfl⟩
    · cases e
theorem mg_join : MethG X T (rJoinA X.K) oJoin := by
  intro Z v vs x xs o σ H Q sz hv hvs e fin
  unfold oJoin at e
  split at e
  · obtain ⟨ys, h1, h2, rfl⟩ := joinO_some e
    obtain ⟨w, rfl, hw⟩ := hvs.one
    obtain ⟨a, us, rfl, ha, fr⟩ := hw.list sz
    have := fr.strsD h1
    subst this
    exact ⟨_, a, ys, hv.str, rfl, .inl (.inl ha), h2, fin.val (.str _)⟩
  · obtain ⟨ys, h1, h2, rfl⟩ := joinO_some e
    obtain ⟨w, rfl, hw⟩ := hvs.one
    obtain ⟨a, us, rfl, ha, fr⟩ := hw.tup sz
    have := fr.strsD h1
    subst this
    exact ⟨_, a, ys, hv.str, rfl, .inr ha, h2, fin.val (.str _)⟩
  · cases e
def oFind : PyData → List PyData → Option OV
  | .str a, [.str b] => okI (Txt.find a b)
  | _, _ => none
def rFindA : V → List V → Hp → VK → Prop := fun x xs H Q => ∃ a b, x = .str a ∧ xs = [.str b] ∧ Q (.int (Txt.find a b)) H
theorem mt_findA : MtR X "str.find" rFindA := mt_find
theorem mg_find : MethG X T rFindA oFind := by
  intro Z v vs x xs o σ H Q sz hv hvs e fin
  unfold oFind at e
  split at e
  · cases e
    obtain ⟨w, rfl, hw⟩ := hvs.one
    exact ⟨_, _, hv.str, by rw [hw.str], fin.val (.int _)⟩
  · cases e

/-! ### in -/
def oIn (x y : PyData) : Option OV := match y with
  | .list ds => if SeqAt.shaped x && SeqAt.shaped (.list ds) then okB (ds.any fun z => PyData.eqv z x) else none
  | _ => none
def oNotIn (x y : PyData) : Option OV := match y with
  | .list ds => if SeqAt.shaped x && SeqAt.shaped (.list ds) then okB (!ds.any fun z => PyData.eqv z x) else none
  | _ => none
theorem opg_in : OpG X T (rInD X.K) oIn := by
  intro Z v w x y o σ H Q sz fx fy e fin
  unfold oIn at e
  split at e
  · split at e
    · rename_i h
      rw [Bool.and_eq_true] at h
      cases e
      exact ⟨x, _, fx.dp sz (flat_of_shaped h.1), fy.dp sz (flat_of_shaped h.2), h.1, h.2, fin.val (.bl _)⟩
    · cases e
  · cases e
theorem opg_notIn : OpG X T (rNotInD X.K) oNotIn := by
  intro Z v w x y o σ H Q sz fx fy e fin
  unfold oNotIn at e
  split at e
  · split at e
    · rename_i h
      rw [Bool.and_eq_true] at h
      cases e
      exact ⟨x, _, fx.dp sz (flat_of_shaped h.1), fy.dp sz (flat_of_shaped h.2), h.1, h.2, fin.val (.bl _)⟩
    · cases e
  · cases e

/-! ### list * int -/
def rRepR : R2 := fun x y H Q => ∃ l k xs, x = .ref l ∧ y = .int k ∧ Rd H l (.lst xs) ∧ -(2 ^ 63) ≤ k ∧ k < 2 ^ 63 ∧ xs.length * k.toNat ≤ sizeLine ∧
  ∀ p, H p = none → Q (.ref p) (upd H p (.lst (List.replicate k.toNat xs).flatten))
theorem op_repR : OpR X (binaryOp .Mult) rRepR := by
  intro pins s σ H x y v u Q I rx ry h
  obtain ⟨l, k, xs, rfl, rfl, hH, h1, h2, hz, q⟩ := h
  cases rx
  obtain ⟨t, rfl⟩ := ry
  obtain ⟨z, its, n, r, hl, e⟩ := Inv.lstR I hH
  have hlen : its.toArray.size * k.toNat ≤ sizeLine := by rw [List.size_toArray, ← hl]; exact hz
  have hcap : ¬ its.toArray.size * k.toNat > (2 ^ 63 - 1) / 8 := by
    have : (sizeLine : Nat) ≤ (2 ^ 63 - 1) / 8 := by decide
    omega
  have hfit : ¬ (!Builtin.List.listFitsIndex k) = true := by
    rw [fitsIndex_both h1 h2]
    exact Bool.false_ne_true
  have hlong : ¬ Builtin.List.listTooLong (its.toArray.size * k.toNat) = true := by
    rw [notLongL hlen]
    exact Bool.false_ne_true
  have hnew : List.foldl (fun x1 x2 => x1 ++ x2) #[] (List.replicate (if its.toArray.isEmpty = true then 0 else k.toNat) its.toArray) = (List.replicate k.toNat its).flatten.toArray := by
    have f0 : ∀ m : Nat, List.foldl (fun x1 x2 => x1 ++ x2) #[] (List.replicate m its.toArray) = (List.replicate m its).flatten.toArray := fun m => by
      have := foldl_rep its m []
      rw [List.nil_append] at this
      exact this
    rw [f0]
    cases its with
    | nil => simp
    | cons a r' => rw [if_neg (by simp)]
  refine wpAny_binaryOp_repeat_ref (T := "list") (U := "int") (by decide) ⟨_, e, rfl⟩ (fun s' => typeIs_int s' k t) noFill_list_mul F.fills_int_mul F.slot_int_rmul repeat_list F.slot_int_index.lookup
    (call_meets F.slot_int_rmul (typeIs_int s k t) F.entry_int_rmul (F.args_int_rmul_2 _ _) (int___rmul___int_list k t l its.toArray n)
      ⟨e, rfl, ⟨_, e, rfl⟩, call_meets F.slot_list_mul ⟨_, e, rfl⟩ F.entry_list_mul (F.args_list_mul_2 _ _) (AutoListH.list___mul___list_int_3 l its.toArray n k t hfit hcap hlong) ⟨e, ?_⟩⟩)
  rw [hnew]
  exact ⟨.ref _, _, I.lnew (t' := s.toks) (r.rep k.toNat) (by rw [PyProof.Rows.lm_len_rep_flat, Nat.mul_comm]; exact hz), rfl, q _ I.fresh⟩
def rMulA : R2 := fun x y H Q => rI CMul (fun i j => .int (i * j)) x y H Q ∨ rRepR x y H Q
theorem op_mulA : OpR X (binaryOp .Mult) rMulA := op_mul.or op_repR
def oMulA (own : Bool) : PyData → PyData → Option OV
  | .int i, .int j => if cMul i j then okI (i * j) else none
  | .list ds, .int k => if -(2 ^ 63) ≤ k ∧ k < 2 ^ 63 ∧ ds.length * k.toNat ≤ sizeLine then some (newL own (List.replicate k.toNat ds).flatten) else none
  | _, _ => none
theorem FrAll.rep {K : PySem.W.Frag} {vs : List V} {ds : List PyData} (h : FrAll K Z vs ds) : ∀ n : Nat, FrAll K Z (List.replicate n vs).flatten (List.replicate n ds).flatten
  | 0 => .nil
  | n + 1 => by
    rw [List.replicate_succ, List.replicate_succ, List.flatten_cons, List.flatten_cons]
    exact h.append (FrAll.rep h n)
theorem opg_mulA {own : Bool} : OpG X T rMulA (oMulA own) := by
  intro Z v w x y o σ H Q sz fx fy e fin
  unfold oMulA at e
  split at e
  · rename_i i j
    exact .inl (opg_mul Z v w (.int i) (.int j) o σ H Q sz fx fy e fin)
  · rename_i ds k
    split at e
    · rename_i hc
      cases e
      obtain ⟨a, vs, rfl, ha, fr⟩ := fx.list sz
      rw [fy.int]
      exact .inr ⟨a, k, vs, rfl, rfl, ha, hc.1, hc.2.1, by rw [fr.length]; exact hc.2.2, fin.lst (fr.rep _)⟩
    · cases e
  · cases e

/-! ### a < b < c < d as a test -/
def tCh3 (r r' r'' : R2) (ta tb tc td : TE) : TT := fun σ H Q => ta σ H fun x H1 => tb σ H1 fun y H2 => r x y H2 fun z H3 => ∃ k, z = .bl k ∧
  (if k = true then tc σ H3 fun w H4 => r' y w H4 fun z H5 => ∃ k, z = .bl k ∧ (if k = true then td σ H5 fun u H6 => r'' w u H6 fun z H7 => ∃ k, z = .bl k ∧ Q k H7 else Q false H5) else Q false H3)
theorem pt_ch3 {a b c d : Expr} {ta tb tc td : TE} {op op' op'' : CmpOp} {r r' r'' : R2} (ho : OpR X (compareOp op) r) (ho' : OpR X (compareOp op') r') (ho'' : OpR X (compareOp op'') r'') (ha : PE X a ta) (hb : PE X b tb) (hc : PE X c tc) (hd : PE X d td)
    (hm : lastMarks [op, op', op''] [b, c, d] = false := by with_unfolding_all rfl) : PT X (.Compare a [op, op', op''] [b, c, d] pos) (tCh3 r r' r'' ta tb tc td) := by
  refine ⟨fun pins s σ H Q I h => ?_⟩
  refine isTrue_chain (thn (ha.run pins s σ H _ I h) fun v s1 ⟨x, H1, I1, r1, q1⟩ => test_link (thn (hb.run pins s1 σ H1 _ I1 q1) fun u s2 ⟨y, H2, I2, r2, q2⟩ =>
    thn (ho pins s2 σ H2 x y v u _ I2 r1 r2 q2) fun d s3 ⟨z, H3, I3, r3, k, e, q3⟩ => ?_)) hm
  subst e
  cases r3
  refine wpAny_truthy_bool ?_
  cases k with
  | false => exact ite_ff ⟨H3, I3, q3⟩
  | true =>
    refine ite_tt (test_link (thn (hc.run pins s3 σ H3 _ I3 q3) fun w' s4 ⟨z', H4, I4, r4, q4⟩ => thn (ho' pins s4 σ H4 y z' u w' _ I4 r2 r4 q4) fun d' s5 ⟨z2, H5, I5, r5, k2, e2, q5⟩ => ?_))
    subst e2
    cases r5
    refine wpAny_truthy_bool ?_
    cases k2 with
    | false => exact ite_ff ⟨H5, I5, q5⟩
    | true =>
      refine ite_tt (test_last (thn (hd.run pins s5 σ H5 _ I5 q5) fun w'' s6 ⟨z6, H6, I6, r6, q6⟩ => thn (ho'' pins s6 σ H6 z' z6 w' w'' _ I6 r4 r6 q6) fun d' s7 ⟨z7, H7, I7, r7, k7, e7, q7⟩ => ?_))
      subst e7
      cases r7
      exact wpAny_truthy_bool ⟨H7, I7, q7⟩
theorem opB_of {β : Type} {r : R2} {g : PyData → PyData → Option OV} {P : Post β} {u w : AV} {v1 v2 : V} {cont : Bool → M β} {Q' : VK} (hg : OpG X T r g) (hP : PMono P) (h : rz X T P Z (asB (op2 g u w) >>= cont) σ H) (o1 : AvOk X.K Z σ v1 u) (o2 : AvOk X.K Z σ v2 w)
    (hq : ∀ k H' Z', Sub Z Z' → rz X T P Z' (cont k) σ H' → Q' (.bl k) H') : r v1 v2 H Q' := by
  have h1 := rt_bind hP h
  have h2 := rd_bind PBo.mono h1
  obtain ⟨x, y, o, R, S, sz, w1, w2, e, rel, pf⟩ := rz_op2 h2 o1 o2
  refine hg Z v1 v2 x y o σ H _ sz w1 w2 e ⟨R, S, rel, fun z H3 Z5 s5 rel5 => ?_⟩
  obtain ⟨o', Z6, R6, S6, r', S', W, s6, rel6, e6, tk, q⟩ := pf z H3 Z5 s5 rel5
  cases o' with
  | d x =>
    cases x with
    | bool b =>
      cases e6
      obtain ⟨f1, r2⟩ := rel6.popd
      cases f1
      obtain ⟨Z7, s7, q7⟩ := q H3 Z6 (Sub.refl _) r2
      exact hq b H3 Z7 s7 q7
    | _ => cases e6
  | _ => cases e6
def ch3 (fa fb fc fd : M AV) (g g' g'' : PyData → PyData → Option OV) : M Bool := fa >>= fun a => fb >>= fun b => asB (op2 g a b) >>= fun k => match k with
  | true => fc >>= fun c => asB (op2 g' b c) >>= fun k => match k with
    | true => fd >>= fun d => asB (op2 g'' c d) >>= fun k => M.ret k
    | false => M.ret false
  | false => M.ret false
theorem evt_ch3 {a b c d : Expr} {fa fb fc fd : M AV} {op op' op'' : CmpOp} {r r' r'' : R2} {g g' g'' : PyData → PyData → Option OV} (ho : OpR X (compareOp op) r) (hg : OpG X T r g) (ho' : OpR X (compareOp op') r') (hg' : OpG X T r' g') (ho'' : OpR X (compareOp op'') r'') (hg'' : OpG X T r'' g'') (ha : EVV X T a fa) (hb : EVV X T b fb) (hc : EVV X T c fc) (hd : EVV X T d fd)
    (hm : lastMarks [op, op', op''] [b, c, d] = false := by with_unfolding_all rfl) : EVT X T (.Compare a [op, op', op''] [b, c, d] pos) (ch3 fa fb fc fd g g' g'') := pt_mono (pt_ch3 ho ho' ho'' ha hb hc hd hm) fun σ H Q ⟨Z, h⟩ => by
  refine ⟨Z, rz_mono (rv_bind PBo.mono h) fun Z R a S p v H1 Z1 s1 r1 a1 => ?_⟩
  obtain ⟨u1, Z2, s2, o2, h2⟩ := p v H1 Z1 s1 r1 a1
  refine ⟨Z2, rz_mono (rv_bind PBo.mono h2) fun Z' R' b S' p' w H2 Z3 s3 r3 a3 => ?_⟩
  obtain ⟨u2, Z4, s4, o4, h4⟩ := p' w H2 Z3 s3 r3 a3
  refine opB_of hg PBo.mono h4 (AvOk.sub o2 s4) o4 fun k H3 Z5 s5 h5 => ⟨k, rfl, ?_⟩
  cases k with
  | false =>
    obtain ⟨R6, S6, rel6, p6⟩ := rz_ret h5
    exact p6 H3 Z5 (Sub.refl _) rel6
  | true =>
    refine ⟨Z5, rz_mono (rv_bind PBo.mono h5) fun Z' R' b S' p' w' H4 Z6 s6 r6 a6 => ?_⟩
    obtain ⟨u3, Z7, s7, o7, h7⟩ := p' w' H4 Z6 s6 r6 a6
    refine opB_of hg' PBo.mono h7 (AvOk.sub (AvOk.sub o4 s5) s7) o7 fun k H5 Z8 s8 h8 => ⟨k, rfl, ?_⟩
    cases k with
    | false =>
      obtain ⟨R6, S6, rel6, p6⟩ := rz_ret h8
      exact p6 H5 Z8 (Sub.refl _) rel6
    | true =>
      refine ⟨Z8, rz_mono (rv_bind PBo.mono h8) fun Z' R' b S' p' w'' H6 Z9 s9 r9 a9 => ?_⟩
      obtain ⟨u4, Z10, s10, o10, h10⟩ := p' w'' H6 Z9 s9 r9 a9
      refine opB_of hg'' PBo.mono h10 (AvOk.sub (AvOk.sub o7 s8) s10) o10 fun k H7 Z11 s11 h11 => ⟨k, rfl, ?_⟩
      obtain ⟨R6, S6, rel6, p6⟩ := rz_ret h11
      exact p6 H7 Z11 (Sub.refl _) rel6
end
end PL

/-! PL14: keywords, repr -/
namespace PL
open PySem PySem.Spec PyProof.Rows L2 LamX

section
variable {X : Cx} {T : List (Addr × Str)} {Z R H : Hp} {S : SS} {σ : L2.St} {pos : Pos}
/-! ### repr, where nothing is being shown already -/
def rReprD (K : PySem.W.Frag) : List V → Hp → VK → Prop := fun xs H Q => ∃ v d, xs = [v] ∧ Dp K H v d ∧ d.showable = true ∧ d.hasDict = false ∧ d.shown.length ≤ sizeLine ∧ d.depth ≤ 60 ∧ Q (.str d.shown) H
theorem call_reprD (hg : X.A.guards = some []) (hu : X.A.units + 64 < cLine) : CallR X (.builtin "repr") (rReprD X.K) := by
  intro pins s σ H xs us Q I r h
  obtain ⟨v, d, rfl, hd, h1, h2, h3, h4, q⟩ := h
  cases r with
  | cons r1 rs =>
    cases rs
    have ref : ∀ {a : Addr} {u : Value}, v = .ref a → RelV v u → wpAny (model X.prog X.w) X.A (call (.builtin "repr") [u]) (EP X pins σ Q) X.xe s := fun {a u} ev ru => by
      subst ev
      cases ru
      obtain ⟨as, rd⟩ := Dp.reads I d _ _ hd rfl
      refine repr_of_reads' rd h1 (PyData.noDict_hsm h2) hg (by omega) (fun b o e => e) (fun h' u tk hk => ?_) h3
      exact ⟨.str d.shown, H, I.kept hk, ⟨u, rfl⟩, q⟩
    cases hd with
    | non =>
      cases r1
      exact P.repr_of_none ⟨.str _, H, I.tok _, ⟨_, rfl⟩, q⟩
    | bl b =>
      cases r1
      exact P.repr_of_bool ⟨.str _, H, I.tok _, ⟨_, rfl⟩, q⟩
    | int i =>
      obtain ⟨t, rfl⟩ := r1
      exact P.repr_of_int (of_decide_eq_true h1) ⟨.str _, H, I.tok _, ⟨_, rfl⟩, q⟩
    | str x =>
      obtain ⟨t, rfl⟩ := r1
      exact P.repr_of_str ⟨.str _, H, I.tok _, ⟨_, rfl⟩, q⟩ h3
    | lst hs ha => exact ref rfl r1
    | tup hs ha => exact ref rfl r1
def oRepr : List PyData → Option OV
  | [d] => if flat d && d.showable && !d.hasDict && decide (d.shown.length ≤ sizeLine) && decide (d.depth ≤ 60) then some (.d (.str d.shown)) else none
  | _ => none
theorem cg_repr : CallG X T (rReprD X.K) oRepr := fun Z vs xs o σ H Q sz h e fin => by
  unfold oRepr at e
  split at e
  · split at e
    · rename_i d hc
      cases e
      simp only [Bool.and_eq_true, decide_eq_true_eq, Bool.not_eq_true'] at hc
      obtain ⟨⟨⟨⟨c1, c2⟩, c3⟩, c4⟩, c5⟩ := hc
      obtain ⟨v, rfl, hv⟩ := h.one
      exact ⟨v, d, rfl, hv.dp sz c1, c2, c3, c4, c5, fin.val (.str _)⟩
    · cases e
  · cases e

/-! ### f(k = e, j = e'), the parameters being [j, k] -/
theorem run_fnKD {CX : CXT} {k : Nat} {f : Addr} {fd : FuncData} {ps ks : List Str} {sp : Sp} {pins : List (Addr × Obj)} {s : Shared} {Q : VK} {us ws : List Value} {vs zs : List V} {g : List Value → List Value → List Value} {gV : List V → List V → List V} {E : L2.St → XK} (F : FnOk X.prog X.w X.K X.mg X.base CX k f fd ps sp) (hr : Room k X.A) (hb : KBinds X.K fd ps ks g gV) (hx : PassesAt CX X σ (E σ))
    (I : Inv X pins σ H s) (r : Vals vs us) (rz : Vals zs ws) (h : sp (gV vs zs) H Q (E σ)) : wpAny (model X.prog X.w) X.A (call (.ref f) us (ks.zip ws)) (EP X pins σ Q) X.xe s := by
  have r2 := hb.rel r rz
  have hl : (g us ws).length = ps.length := by rw [← r2.length]; exact F.len _ _ _ _ h
  refine wpAny_call (codeAny_mono (F.run X.A X.stack s H ⟨us, ks.zip ws⟩ (g us ws) (gV vs zs) Q (E σ) hr I.env0 (hb.to s us ws I.kIn hl) r2 h) fun r s' hq => ?_)
  cases r with
  | error e => exact hx pins H s e s' I hq
  | ok fl =>
    cases fl with
    | ret u => exact I.after hq
    | next => exact False.elim hq
    | brk => exact False.elim hq
    | cont => exact False.elim hq
abbrev EVK (X : Cx) (T : List (Addr × Str)) (kws : List Keyword) (f : M (List AV)) : Prop := PK X kws (rag X T f)
theorem pk_mono {kws : List Keyword} {t t' : TA} (h : PK X kws t) (i : ∀ σ H Q, t' σ H Q → t σ H Q) : PK X kws t' := ⟨fun pos pins s σ H Q I q => h.run pos pins s σ H Q I (i σ H Q q)⟩
theorem evk_nil : EVK X T [] argsNil := pk_mono pk_nil fun σ H Q ⟨Z, h⟩ => by
  obtain ⟨R, S, rel, p⟩ := rz_ret h
  exact p [] H Z (Sub.refl Z) rel .nil
theorem evk_cons {nm : Option Str} {e : Expr} {kp : Pos} {kws : List Keyword} {fa : M AV} {g : M (List AV)} (ha : EVV X T e fa) (hr : EVK X T kws g) : EVK X T (⟨nm, e, kp⟩ :: kws) (argsCons fa g) :=
  pk_mono (pk_cons ha hr) fun σ H Q ⟨Z, h⟩ => by
    refine ⟨Z, rz_mono (rv_bind PAr.mono h) fun Z R a S p v H1 Z1 s1 r1 a1 => ?_⟩
    obtain ⟨u, Z2, s2, o2, h2⟩ := p v H1 Z1 s1 r1 a1
    refine ⟨Z2, rz_mono (ra_bind PAr.mono h2) fun Z' R' as S' p' vs H2 Z3 s3 r3 a3 => ?_⟩
    obtain ⟨us, Z4, s4, o4, h4⟩ := p' vs H2 Z3 s3 r3 a3
    obtain ⟨R5, S5, rel, pf⟩ := rz_ret h4
    exact pf _ H2 Z4 (Sub.refl _) rel (.cons (o2.sub s4) o4)
def sw2 {α : Type} : List α → List α
  | [a, b] => [b, a]
  | l => l
def callK2 (g : DF) (fa : M (List AV)) : M OV := fa >>= fun as => if as.length = 2 then handF g (sw2 as) else stuck
theorem call_okK {k : Nat} {f : Addr} {fd : FuncData} {ps ks : List Str} {g : DF} {pins : List (Addr × Obj)} {s1 : Shared} {us : List Value} {vs : List V} {as : List AV} {S' : SS} {r : Except PyData OV} {W : WX} {Q : VK} {gv : List Value → List Value → List Value} {gV : List V → List V → List V}
    (F : DefOk X.prog X.w X.K T X.mg X.base k f fd ps g) (hr : Room k X.A) (hb : KBinds X.K fd ps ks gv gV) (I : Inv X pins σ H s1) (rv : Vals vs us) (hn : as.length = ps.length) (rel : Rel X.K T Z R S σ H) (av : AvAll X.K Z σ (gV [] vs) as)
    (q1 : ∀ o, r = .ok o → POk X.K T σ Q Z R o S') (q2 : ∀ x, r = .error x → ExPost X.K T σ Z R W x S') (e : handF g as S = some (r, S')) (tk : Takes X W) : wpAny (model X.prog X.w) X.A (call (.ref f) [] (ks.zip us)) (EP X pins σ Q) X.xe s1 := by
  unfold handF at e
  cases et : takes as S with
  | none => rw [et] at e; cases e
  | some t =>
    obtain ⟨os, S1⟩ := t
    rw [et] at e
    cases eg : g os with
    | none => simp only [eg] at e; cases e
    | some t2 =>
      obtain ⟨r2, os'⟩ := t2
      simp only [eg, Option.some.injEq, Prod.mk.injEq] at e
      obtain ⟨rfl, rfl⟩ := e
      obtain ⟨L, ow, n, qz⟩ := id rel.own
      obtain ⟨A, B, o1, o2, pm⟩ := takes_own av ow et
      obtain ⟨tl, tl2⟩ := takes_len et
      have n2 := (pm.nodup_iff).mp n
      have qAB : ∀ a ∈ A ++ B, Z a = none ∧ R a = none := fun a ha => qz a (pm.mem_iff.mpr ha)
      have rel1 : Rel X.K T Z (fr R H B) (os.map some) ((gV [] vs).map some) H := rel.frame o1 o2 n2 qAB
      have nB : B.Nodup := (List.nodup_append.mp n2).2.1
      have rB : ∀ a ∈ B, R a = none := fun a ha => (qAB a (List.mem_append_right _ ha)).2
      have hvl : (gV [] vs).length = as.length := av.length
      refine run_fnKD (E := fun _ cls d H' => W cls d σ H') F hr hb (fun pins' H2 s2 e2 s' I2 c2 => tk _ _ (XE.of_call I2 (fun _ _ _ h => h) c2)) I .nil rv ?_
      refine ⟨hvl.trans hn, Z, fr R H B, os, r2, os', rel1, eg, ?_⟩
      cases r2 with
      | ok o =>
        intro v H' Z' s' rel2
        obtain ⟨A', p1, p2, p3, p4, p5⟩ := rel2.unframe s' o2 nB rB
        cases p1 with
        | @own _ _ _ _ Lo Lp w1 w2 =>
          obtain ⟨C, D, g1, g2⟩ := gives_own (S := S) av tl w2 p2
          have pmC : (Lo ++ Lp ++ B).Perm (D ++ (Lo ++ C)) := by
            rw [List.append_assoc]
            exact (List.Perm.append_left Lo g2).trans (perm_swap _ _ _)
          obtain ⟨n3, n4⟩ := nodup_sub ⟨D, pmC⟩ p3
          exact q1 _ rfl v H' Z' s' (p5 (.own w1 g1) n3 n4)
      | error x =>
        intro cls d H' Z' s' rel2 ix
        obtain ⟨A', p1, p2, p3, p4, p5⟩ := rel2.unframe s' o2 nB rB
        obtain ⟨C, D, g1, g2⟩ := gives_own (S := S) av tl p1 p2
        obtain ⟨n3, n4⟩ := nodup_sub ⟨D, g2⟩ p3
        exact q2 _ rfl cls d H' Z' s' (p5 g1 n3 n4) ix
def sw0 {α : Type} : List α → List α → List α
  | [], ws => sw2 ws
  | _ :: _, _ => []
theorem kb_swap {K : PySem.W.Frag} {fd : FuncData} {j k : Str} (h : ∀ (s : Shared) (a b : Value), K.In s.heap → BindsTo s fd ⟨[], [(k, b), (j, a)]⟩ [(j, a), (k, b)]) : KBinds K fd [j, k] [k, j] sw0 sw0 := by
  refine ⟨fun s us ws hK hl => ?_, fun ru rz => ?_⟩
  · cases us with
    | cons u us => cases hl
    | nil =>
      match ws, hl with
      | [b, a], _ => exact h s a b hK
  · cases ru with
    | cons _ _ => exact .nil
    | nil =>
      cases rz with
      | nil => exact .nil
      | cons a b =>
        cases b with
        | nil => exact .cons a .nil
        | cons b c =>
          cases c with
          | nil => exact .cons b (.cons a .nil)
          | cons c d => exact .cons a (.cons b (.cons c d))
theorem AvAll.sw {K : PySem.W.Frag} {vs : List V} {as : List AV} (h : AvAll K Z σ vs as) : AvAll K Z σ (sw2 vs) (sw2 as) := by
  cases h with
  | nil => exact .nil
  | cons a b =>
    cases b with
    | nil => exact .cons a .nil
    | cons b c =>
      cases c with
      | nil => exact .cons b (.cons a .nil)
      | cons c d => exact .cons a (.cons b (.cons c d))
theorem ev_callK2 {k : Nat} {f : Addr} {fd : FuncData} {a b : Str} {g : DF} {x : Str} {p : Pos} {fa : M (List AV)} {kws : List Keyword} (F : DefOk X.prog X.w X.K T X.mg X.base k f fd [a, b] g) (hr : Room k X.A) (hg : Gl X x) (hm : X.mg x = some (.ref f)) (hk : PySem.W.keepIn X.K (.ref f) = true) (hb : KBinds X.K fd [a, b] [b, a] sw0 sw0)
    (hkw : EVK X T kws fa) (hall : (backToKw pos (keywordEach kws X.env)).all (·.1.isSome) = true := by rfl) (hks : (backToKw pos (keywordEach kws X.env)).filterMap (·.1) = [b, a] := by rfl)
    (hdb : (x == ("__debug__" : Str)) = false := by decide)
    (hpl : ((backTo pos (starEach [] X.env)).any (·.1) || (backToKw pos (keywordEach kws X.env)).any (·.1.isNone)) = false := by rfl) : EV X T (.Call (.Name x p) [] kws pos) (callK2 g fa) := by
  refine ⟨fun pins s σ H Q I ⟨Z, h⟩ => ?_⟩
  refine wpAny_Call_Name_kw (ld_glob I hg hm ?_ hdb)
  obtain ⟨R, S, r, S', W, rel, er, tk, pq⟩ := h
  rcases bind_eq er with ⟨y, ef, rfl⟩ | ⟨as, S1, ef, eg⟩
  · refine PySem.W.callWith_KW0 (h₀ := X.base) I.ok.mod.kin hk hall (thn (hkw.run pos pins s σ H (fun _ _ => False) I ⟨Z, R, S, _, _, W, rel, ef, tk, pq⟩) fun us s1 ⟨vs, H1, I1, r, q⟩ => q.elim) hpl
  · refine PySem.W.callWith_KW0 (h₀ := X.base) I.ok.mod.kin hk hall (thn (hkw.run pos pins s σ H (fun vs H1 => ∃ Z1, Sub Z Z1 ∧ Rel X.K T Z1 R S1 σ H1 ∧ AvAll X.K Z1 σ vs as) I ⟨Z, R, S, _, _, W, rel, ef, tk, fun vs H1 Z1 s1 r1 a1 => ⟨Z1, s1, r1, a1⟩⟩) fun us s1 ⟨vs, H1, I1, rv, Z1, sb, rel1, av⟩ => ⟨I1.kIn, ?_⟩) hpl
    have eg : (if as.length = 2 then handF g (sw2 as) else stuck) S1 = some (r, S') := eg
    rw [hks]
    split at eg
    · rename_i hn
      refine call_okK (as := sw2 as) F hr hb I1 rv ?_ rel1 av.sw ?_ ?_ eg tk
      · match as, hn with
        | [_, _], _ => rfl
      · intro o e
        subst e
        exact POk.mono _ _ _ _ _ sb pq
      · intro x e
        subst e
        exact ExPost.mono sb pq
    · cases eg
end
end PL

/-! PL15: what the printed derivations name -/
namespace PL
open PySem PySem.Spec PyProof.Rows L2 LamX

section
variable {X : Cx} {T : List (Addr × Str)} {Z R H : Hp} {S : SS} {σ : L2.St} {pos : Pos} {a : Expr} {fa : M AV}
def oNeg : PyData → Option OV
  | .int i => okI (-i)
  | _ => none
def negV (fa : M AV) : M OV := fa >>= fun a => op1 oNeg a
theorem ev_neg (ha : EVV X T a fa) : EV X T (.UnaryOp .USub a pos) (negV fa) := pe_mono (pe_un un_neg ha) fun σ H Q ⟨Z, h⟩ => by
  refine ⟨Z, rz_mono (rv_bind POk.mono h) fun Z R a S p v H1 Z1 s1 r1 a1 => ?_⟩
  obtain ⟨u, Z2, s2, o2, h2⟩ := p v H1 Z1 s1 r1 a1
  obtain ⟨x, o, R3, S3, sz, w, e, rel, pf⟩ := rz_op1 h2 o2
  cases x with
  | int i =>
    cases e
    exact ⟨i, w.int, pf _ H1 Z2 (Sub.refl _) (rel.push (.int _))⟩
  | _ => cases e
def oIsNotB : PyData → PyData → Option OV
  | .bool a, .bool b => okB (!decide (a = b))
  | _, _ => none
theorem opg_isNotB : OpG X T rNotB oIsNotB := by
  intro Z v w x y o σ H Q sz fx fy e fin
  unfold oIsNotB at e
  split at e
  · cases e
    exact ⟨_, _, fx.bl, fy.bl, fin.val (.bl _)⟩
  · cases e
theorem u64 {k : Nat} (hr : Room k X.A) : X.A.units + 64 < cLine := by have := hr.un; omega
theorem u65 {k : Nat} (hr : Room k X.A) : X.A.units + 65 < cLine := by have := hr.un; omega
theorem u1 {k : Nat} (hr : Room k X.A) : X.A.units + 1 < cLine := by have := hr.un; omega
end
end PL

/-! PL16: the script; a law's body where nothing is being shown -/
namespace PL
open PySem PySem.Spec PyProof.Rows L2 LamX

section
variable {X : Cx} {T : List (Addr × Str)} {Z R H : Hp} {S : SS} {σ : L2.St} {pos : Pos} {a iter tg : Expr} {fa : M AV}
def scrOf : PyData → Option (List PyData)
  | .dict [(.bool true, .list ds)] => some ds
  | _ => none
theorem scrOf_eq {x : PyData} {ds : List PyData} (e : scrOf x = some ds) : x = .dict [(.bool true, .list ds)] := by
  unfold scrOf at e
  split at e
  · cases e; rfl
  · cases e
theorem Fr.ofScr {K : PySem.W.Frag} {v : V} {x : PyData} {ds : List PyData} (h : Fr K Z v x) (e : scrOf x = some ds) : ∃ (a : Addr) (ns : List Int), v = .ref a ∧ ds = ns.map PyData.int ∧ SqL K Z a (ns.map V.int) := by
  have e := scrOf_eq e
  cases h with
  | @scr a ns h =>
    refine ⟨a, ns, rfl, ?_, h⟩
    unfold scrD at e
    injection e with e
    injection e with e _
    injection e with _ e
    injection e with e
    exact e.symm
  | exc0 h => simp [excD] at e
  | exc n h h2 r => simp [excD] at e
  | _ => cases e
def oLenS : List PyData → Option OV
  | [x] => (scrOf x).bind fun ds => okI ds.length
  | _ => none
theorem cg_lenS : CallG X T (rLenA X.K) oLenS := fun Z vs xs o σ H Q sz h e fin => by
  unfold oLenS at e
  split at e
  · rename_i x
    cases q : scrOf x with
    | none => rw [q] at e; cases e
    | some ds =>
      rw [q] at e
      cases e
      obtain ⟨v, rfl, w⟩ := h.one
      have f := w.fr (fun ds' z => by subst z; cases q)
      obtain ⟨a, ns, rfl, rfl, hs⟩ := f.ofScr q
      refine .inl ⟨a, ns.map V.int, rfl, .inl (sqL_sub hs sz), ?_⟩
      have := fin.val (.int _)
      rw [List.length_map] at this ⊢
      exact this
  · cases e
def scrO : OV → Option (List PyData)
  | .d x => scrOf x
  | _ => none
def itScr (f : M OV) : M (List PyData) := f >>= fun o => M.lift (scrO o)
theorem evi_scr {f : M OV} (h : EV X T iter f) : EVI X T tg iter (itScr f) := pi_mono (pi_seqA h) fun σ H R0 ⟨Z, h⟩ => by
  refine ⟨Z, rz_mono (rd_bind PIt.mono h) fun Z R o S p v H1 Z1 s1 r1 => ?_⟩
  obtain ⟨o', Z2, R2, S2, r, S', W, s2, rel, e, tk, q⟩ := p v H1 Z1 s1 r1
  cases hq : scrO o' with
  | none => rw [hq] at e; cases e
  | some ds =>
    rw [hq] at e
    cases e
    cases o' with
    | d x =>
      obtain ⟨f1, r2⟩ := rel.popd
      have hq : scrOf x = some ds := hq
      obtain ⟨a, ns, rfl, rfl, hs⟩ := f1.ofScr hq
      refine ⟨a, rfl, .inl ⟨⟨_, sqL_sub hs r2.z⟩, q _ H1 Z2 (Sub.refl _) r2 fun Z3 R3 S3 σ3 H3 s3 rel3 i => ?_⟩⟩
      have hs3 := sqL_sub (sqL_sub hs s3) rel3.z
      refine ⟨fun hi => ⟨_, hs3, by rw [List.length_map, hi, List.length_map]; exact Nat.le_refl _⟩, fun d hd => ?_⟩
      obtain ⟨n, hn, rfl⟩ : ∃ n, ns[i]? = some n ∧ d = .int n := by
        rw [List.getElem?_map] at hd
        cases e : ns[i]? with
        | none => rw [e] at hd; cases hd
        | some n => rw [e] at hd; cases hd; exact ⟨n, rfl, rfl⟩
      have hu : (ns.map V.int)[i]? = some (V.int n) := by rw [List.getElem?_map, hn]; rfl
      refine ⟨⟨_, _, hs3, hu⟩, fun x H' ⟨e1, e2⟩ => ?_⟩
      subst e1
      have := e2 _ hs3
      rw [hu] at this
      cases this
      exact ⟨Z3, Sub.refl _, rel3, .int n⟩
    | _ => cases hq
end

/-! ### a body run at a known place -/
theorem run_at {CX : CXT} {P : Program} {w : World} {K : PySem.W.Frag} {mg : Str → Option Value} {base : Heap} {f : Addr} {name qual : Str} {params : Arguments} {body : List Stmt} {scope : Scope} {dV kV doc pm cdv ct oc : Value} {an od : Option Addr}
    {osl : Array (Option Value)} {N ps : List Str} {A : Around} {outer : List Env} {s : Shared} {H : Hp} {args : Args} {us : List Value} {vs : List V} {Q : VK} {E : XK} {t : TS}
    (lk : K.lookup f = some ⟨oc, od, .func (PySem.W.fnOf name qual params body scope dV kV doc pm an cdv ct), osl⟩) (hcd : PySem.W.codeIn K cdv qual = true) (S : FnScope N ps scope) (hl : vs.length = ps.length)
    (hdep : A.depth < recursionLimit) (hhd : A.handled = none) (e0 : Env0 P w K mg base A outer s H) (hb : BindsTo s (PySem.W.fnOf name qual params body scope dV kV doc pm an cdv ct) args (ps.zip us)) (r : Vals vs us)
    (ht : PSs (cxOf CX P w K mg base N qual scope f cdv A outer s H E) body t) (hq : t { nx := fun _ H' => Q .non H', rt := Q } (L2.start N vs) H) :
    codeAny (model P w) A (.call (.ref f) args) (CR CX outer P w H s Q E) s := by
  have stay : ∀ b o, base.get? b = some o → s.heap.get? b = some o := fun b o e => (e0.bs b o e).1
  have KX : K.In s.heap := e0.mod.kin.keeps stay
  refine codeAny_call_function hdep (KX _ _ lk) rfl S.co S.gen rfl (PySem.W.codeRec_of KX hcd) (hb _ _ _ _ ?_)
  refine wpAny_newFunctionEnv_cells S.kind (fun ⟨n, v⟩ hy => (S.par n (List.of_mem_zip hy).1).imp id fun q => ⟨q, PySem.W.cellsFrom_some _ _ _ (.inl q)⟩) fun env he s1 x => ?_
  subst he
  refine ⟨(e0.mod.nolimit.keeps stay).keeps x.toInCall.keep, codeAny_func ?_⟩
  refine wpAny_mono (ht.run [] s1 _ H _ (inv_start S hhd e0 hl r x) hq) (fun fl s' hs => ?_) fun e s' hs => hs
  match fl, hs with
  | .ret u, ⟨v, _, H', J, rv, q⟩ => exact ⟨v, H', J.os, J.bare, J.base, J.hok, rv, q⟩
  | .next, ⟨_, H', J, q⟩ => exact ⟨V.non, H', J.os, J.bare, J.base, J.hok, rfl, q⟩
  | .brk, ⟨_, _, _, q⟩ => exact False.elim q
  | .cont, ⟨_, _, _, q⟩ => exact False.elim q

/-! ### the law's call: what is tracked are the tables and the script -/
/-- the tables, and the script where the written part does not hold it -/
def lawH (K : PySem.W.Frag) (ts : List Addr) (a : Addr) (vs : List Value) (ns : List Int) : Hp := fun b =>
  if b ∈ ts then some (.tbl #[]) else if b = a ∧ K.lookup a = none then some (.frz { cls := .type "list", data := .seq vs.toArray } (.lst (ns.map V.int))) else none
theorem lawH_cases {K : PySem.W.Frag} {ts : List Addr} {a b : Addr} {vs : List Value} {ns : List Int} {u : HO} (e : lawH K ts a vs ns b = some u) :
    (b ∈ ts ∧ u = .tbl #[]) ∨ (b ∉ ts ∧ b = a ∧ K.lookup a = none ∧ u = .frz { cls := .type "list", data := .seq vs.toArray } (.lst (ns.map V.int))) := by
  unfold lawH at e
  by_cases h1 : b ∈ ts
  · rw [if_pos h1] at e; cases e; exact .inl ⟨h1, rfl⟩
  · rw [if_neg h1] at e
    by_cases h2 : b = a ∧ K.lookup a = none
    · rw [if_pos h2] at e; cases e; exact .inr ⟨h1, h2.1, h2.2, rfl⟩
    · rw [if_neg h2] at e; cases e
theorem law_callG {P : Program} {w : World} {K : PySem.W.Frag} {mg mb : Str → Option Value} {CX : CXT} {fa a : Addr} {cs : List (Addr × Addr)} {s₁ : Shared} {vs : List Value} {ns : List Int}
    (KX : K.In s₁.heap) (hns : s₁.heap.Ns mainGlobals mg) (hb : s₁.heap.Ns builtinsNs mb) (hbb : ∀ x : Str, x ≠ "__name__" → mb x = bootBuiltins x) (hlim : s₁.heap.NoLimit) (hg : s₁.gens = #[])
    (hT : ∀ p ∈ cs, s₁.heap.get? p.2 = some { cls := .none, data := .fields #[] }) (nT : ∀ p ∈ cs, K.lookup p.2 = none) (C : ∀ p ∈ cs, PySem.W.CodeHd s₁.heap p.1 p.2)
    (hbm : ∃ (bm : Addr) (ob : Obj), mg "__builtins__" = some (.ref bm) ∧ bm ≠ builtinsNs ∧ s₁.heap.get? bm = some ob ∧ ob.cls = .type "module" ∧ ob.dict = some builtinsNs ∧ ob.data = .plain)
    (ha : s₁.heap.get? a = some { cls := .type "list", data := .seq vs.toArray }) (hi : IntsAre vs ns) (hl : ns.length ≤ sizeLine)
    (F : ∀ (base : Heap) (H : Hp), (∀ p ∈ cs, TabB base mg p.1 p.2) → Env0 P w K mg base callerA [] s₁ H → (∀ p ∈ cs, H p.2 = some (.tbl #[])) → SqL K H a (ns.map V.int) →
      codeAny (model P w) callerA (.call (.ref fa) ⟨[.ref a], []⟩) (CR CX [] P w H s₁ (fun v _ => v = .bl true) fun _ _ _ => False) s₁)
    (hCX : ∀ H e s', CX [] H s₁ (fun _ _ _ => False) e s' → False) :
    codeAny (model P w) callerA (.call (.ref fa) ⟨[.ref a], []⟩) (fun r s' => r = .ok (.ret (.bool true)) ∧ OldK s₁.heap s'.heap ∧ s'.os = s₁.os ∧ AllBare s'.gens) s₁ := by
  have rv := vals_ints hi
  have lenV := hi.length
  have tab : ∀ b ∈ cs.map (·.2), s₁.heap.get? b = some { cls := .none, data := .fields #[] } ∧ K.lookup b = none := fun b hb => by
    obtain ⟨p, hp, rfl⟩ := List.mem_map.mp hb
    exact ⟨hT p hp, nT p hp⟩
  have nat : a ∉ cs.map (·.2) := fun z => by
    have q := (tab a z).1
    rw [ha] at q
    injection q with q
    injection q with _ _ q
    cases q
  generalize eH : lawH K (cs.map (·.2)) a vs ns = H
  have hH : ∀ p ∈ cs, H p.2 = some (.tbl #[]) := fun p hp => by
    rw [← eH]
    exact if_pos (List.mem_map_of_mem hp)
  -- an object of another kind is not tracked
  have free : ∀ {b : Addr} {o : Obj}, s₁.heap.get? b = some o → (∀ us n, o.data ≠ .seq us n) → o.data ≠ .fields #[] → H b = none := fun {b o} e h1 h2 => by
    cases q : H b with
    | none => rfl
    | some u =>
      rw [← eH] at q
      rcases lawH_cases q with ⟨hb, _⟩ | ⟨_, rfl, _, _⟩
      · rw [(tab b hb).1] at e; cases e; exact (h2 rfl).elim
      · rw [ha] at e; cases e; exact (h1 _ _ rfl).elim
  have inB : ∀ {b : Addr} {o : Obj}, s₁.heap.get? b = some o → H b = none → (hidT s₁.heap H).get? b = some o := fun e n => hidT_get e n
  have dictB : ∀ {b : Addr} {m : Str → Option Value}, s₁.heap.Ns b m → (hidT s₁.heap H).Ns b m := fun {b m} ⟨o, es, ep, e, d, r⟩ =>
    ⟨o, es, ep, inB e (free e (fun us n z => by rw [d] at z; cases z) fun z => by rw [d] at z; cases z), d, r⟩
  have kB : K.In (hidT s₁.heap H) := fun b o e => inB (KX b o e) (by
    cases q : H b with
    | none => rfl
    | some u =>
      rw [← eH] at q
      rcases lawH_cases q with ⟨hb, _⟩ | ⟨_, rfl, hk, _⟩
      · rw [(tab b hb).2] at e; cases e
      · rw [hk] at e; cases e)
  have md : L2.Mod K mg (hidT s₁.heap H) := ⟨kB, dictB hns, ⟨mb, dictB hb, hbb⟩, let ⟨mc, h1, h2⟩ := hlim; ⟨mc, dictB h1, h2⟩⟩
  have ok : HOk P w H s₁.heap := fun b u e => by
    rw [← eH] at e
    rcases lawH_cases e with ⟨hb, rfl⟩ | ⟨_, rfl, _, rfl⟩
    · exact (tab b hb).1
    · exact ⟨ha, by rw [List.length_map]; exact hl, vs, _, rv, ha⟩
  have e0 : Env0 P w K mg (hidT s₁.heap H) callerA [] s₁ H := ⟨rfl, md, fun b o e => of_hidT e, Nat.le_of_eq (hidT_size _ _), trivial, fun b hb => absurd (show b ∈ ([] : List Addr) from hb) (by simp), ok, .of_eq hg⟩
  have sq : SqL K H a (ns.map V.int) := by
    cases hk : K.lookup a with
    | some o =>
      have e := KX a o hk
      rw [ha] at e
      cases e
      exact .inr ⟨_, vs.toArray, _, hk, rfl, rfl, rfl, by rw [List.size_toArray, lenV]; exact hl, by simpa using rv⟩
    | none =>
      refine .inl (.inr ⟨{ cls := .type "list", data := .seq vs.toArray }, ?_⟩)
      rw [← eH]
      exact (if_neg nat).trans (if_pos ⟨rfl, hk⟩)
  have tb : ∀ p ∈ cs, TabB (hidT s₁.heap H) mg p.1 p.2 := fun p hp => by
    have hTp := hT p hp
    refine ⟨?_, ?_, fun z => ?_⟩
    · obtain ⟨o, us, file, tf, flags, tg, inF, text, tt, e1, r1, r2, r3, r4, r5, r6, r7, r8, hne⟩ := C p hp
      refine ⟨o, us, file, tf, flags, tg, inF, text, tt, inB e1 (free e1 (fun us n z => by rw [r2] at z; cases z) fun z => ?_), r1, r2, r3, r4, r5, r6, r7, r8, hne⟩
      rw [r2] at z
      cases z
      simp at r3
    · obtain ⟨bm, ob, b1, b2, b3, b4, b5, b6⟩ := hbm
      refine ⟨bm, ob, b1, b2, fun q => ?_, fun q => ?_, inB b3 (free b3 (fun us n z => by rw [b6] at z; cases z) fun z => by rw [b6] at z; cases z), b4, b5, b6⟩
      · obtain ⟨o, es, ep, e, hd, _⟩ := hns
        rw [q, e] at b3
        cases b3
        rw [hd] at b6
        cases b6
      · rw [q, hTp] at b3
        cases b3
        cases b6
    · obtain ⟨o, es, ep, e, hd, _⟩ := hns
      rw [z, hTp] at e
      cases e
      cases hd
  refine codeAny_mono (F _ H tb e0 hH sq) fun r s' h => ?_
  match r, h with
  | .error e, h => exact (hCX H e s' h).elim
  | .ok .next, h => exact False.elim h
  | .ok .brk, h => exact False.elim h
  | .ok .cont, h => exact False.elim h
  | .ok (.ret u), ⟨v, H', os, bare, un, ok', r', q⟩ =>
    have q : v = .bl true := q
    subst q
    obtain rfl : u = Value.bool true := r'
    have old : ∀ b o, b ∉ cs.map (·.2) → s₁.heap.get? b = some o → s'.heap.get? b = some o := fun b o nb e => by
      cases q : H b with
      | none => exact un.keep b o e q (fun z => absurd (show b ∈ ([] : List Addr) from z) (by simp)) (by simp)
      | some u =>
        have q0 := q
        rw [← eH] at q
        rcases lawH_cases q with ⟨hb, _⟩ | ⟨_, rfl, _, rfl⟩
        · exact absurd hb nb
        · have := (ok' b _ (un.frzs b _ _ q0)).1
          rw [ha] at e; cases e
          exact this
    have grown : ∀ b ∈ cs.map (·.2), ∃ more : Array Value, s'.heap.get? b = some { cls := .none, data := .fields more } := fun b hb => by
      obtain ⟨p, hp, rfl⟩ := List.mem_map.mp hb
      obtain ⟨more, z⟩ := un.tbls p.2 #[] (hH p hp)
      exact ⟨_, ok' p.2 _ z⟩
    refine ⟨rfl, ⟨fun b o e => ?_, fun b o e => ?_⟩, os, bare⟩
    · by_cases hb : b ∈ cs.map (·.2)
      · obtain ⟨more, hm⟩ := grown b hb
        obtain ⟨p, hp, rfl⟩ := List.mem_map.mp hb
        rw [hT p hp] at e
        cases e
        exact .inr (.inl ⟨((C p hp).tab (hT p hp)).isCodeTable, rfl, #[], more, rfl, by rw [Array.empty_append]; exact hm⟩)
      · exact .inl (old b o hb e)
    · by_cases hb : b ∈ cs.map (·.2)
      · obtain ⟨more, hm⟩ := grown b hb
        exact ⟨_, hm⟩
      · exact ⟨o, old b o hb e⟩
end PL

/-! PL17: the law's start and end -/
namespace PL
open PySem PySem.Spec PyProof.Rows L2 LamX

theorem rsg_start {X : Cx} {T : List (Addr × Str)} {H : Hp} {a : Addr} {ns : List Int} {N : List Str} {f : SM} {S' : SS} {m : Nat} (hT : ∀ p ∈ T, H p.1 = some (.tbl #[])) (hs : SqL X.K H a (ns.map V.int)) (hm : N.length = m + 1)
    (e : f (some (.d (scrD ns)) :: List.replicate m none) = some (.ret (.d (.bool true)), S')) :
    rsg X T [0] f { nx := fun _ _ => V.non = V.bl true, rt := fun v _ => v = .bl true } (L2.start N [.ref a]) H := by
  let Z : Hp := fun b => match H b with
    | some (.tbl _) => none
    | o => o
  have zH : ∀ {b : Addr} {o : HO}, H b = some o → (∀ ps, o ≠ .tbl ps) → Z b = some o := fun {b o} e n => by
    show (match H b with | some (.tbl _) => none | o => o) = _
    rw [e]
    cases o with
    | tbl ps => exact absurd rfl (n ps)
    | _ => rfl
  have zs : ∀ b o, Z b = some o → H b = some o ∧ ∀ ps, o ≠ .tbl ps := fun b o e => by
    have e : (match H b with | some (.tbl _) => none | o => o) = some o := e
    split at e
    · cases e
    · rename_i h
      exact ⟨e, fun ps z => by subst z; exact h ps e⟩
  have hsz : SqL X.K Z a (ns.map V.int) := by
    rcases hs with (h | ⟨o, h⟩) | h
    · exact .inl (.inl (zH h fun _ z => by cases z))
    · exact .inl (.inr ⟨o, zH h fun _ z => by cases z⟩)
    · exact .inr h
  have own : ∀ n : Nat, OwnS X.K Z H (List.replicate n none) (List.replicate n none) [] := fun n => by
    induction n with
    | zero => exact .emp
    | succ n ih => exact .out ih
  have est : L2.start N [.ref a] = some (.ref a) :: List.replicate m none := by
    unfold L2.start
    rw [hm]
    rfl
  rw [est]
  have o1 : OwnS X.K Z H (some (.ref a) :: List.replicate m none) (some (.d (scrD ns)) :: List.replicate m none) ([] ++ []) := .own (.d (.scr hsz)) (own m)
  refine ⟨Z, fun _ => none, _, _, S', fun _ _ _ _ => False, fun _ => .ref a, ⟨⟨_, o1, List.nodup_nil, fun b hb => (by cases hb)⟩, fun b o e => (zs b o e).1, fun b o e => (by cases e), fun b ps e => (zs b _ e).2 ps rfl, fun b ps e => (by cases e), fun b o e => rfl, fun p hp => ?_⟩, fun i hi => ?_, e, L2.takes0, ?_⟩
  · exact ⟨#[], hT p hp, trivial, fun pos cv hc => by cases hc⟩
  · rw [List.mem_singleton.mp hi]; rfl
  · intro v σ' H' Z' s' rel' pn'
    exact (rel'.popd.1).blV

def LawG (l : PySem.W.OpenLaw) (w : World) (K : PySem.W.Frag) (n : Nat) (mg : Str → Option Value) (fa : Addr) (h : Heap) : Prop :=
  ∃ cs : List (Addr × Addr), (∀ p ∈ cs, h.get? p.2 = some { cls := .none, data := .fields #[] }) ∧ (∀ p ∈ cs, K.lookup p.2 = none) ∧ (∀ p ∈ cs, PySem.W.CodeHd h p.1 p.2) ∧
    ∀ (base : Heap) (H : Hp) (s : Shared) (a : Addr) (ns : List Int), ns.length ≤ n → (∀ z ∈ ns, Builtin.Int.intBits z ≤ 1048576) → (∀ p ∈ cs, TabB base mg p.1 p.2) → Env0 l.prog w K mg base callerA [] s H → (∀ p ∈ cs, H p.2 = some (.tbl #[])) → SqL K H a (ns.map V.int) →
      codeAny (model l.prog w) callerA (.call (.ref fa) ⟨[.ref a], []⟩) (CR (L2.CX l.prog w) [] l.prog w H s (fun v _ => v = .bl true) fun _ _ _ => False) s
theorem walkG {l : PySem.W.OpenLaw} {n : Nat} {q : Program} {loose : List Str} {XP : (Str → Option Value) → Heap → Prop} {YP : World → Heap → Prop} {d dL : DefRec} {K : Params → PySem.W.Frag} {x : Str}
    (hn : l.most = some n) (hn2 : n ≤ sizeLine) (hdf : d.params.defaults = []) (hr : (recsOf q).find? (fun e => e.name == x) = some dL) (hY : ∀ (w : World) (h : Heap), YP w h → (K w.params).In h)
    (F : ∀ (w : World) (mg : Str → Option Value) (fa : Addr) (h : Heap), YP w h → (K w.params).In h → h.Ns mainGlobals mg → mg d.name = some (.ref fa) → (∀ c P, PySem.W.tabIn (K w.params) x = some (c, P) → PySem.W.CodeHd h c P ∧ h.get? P = some (PySem.W.tabObj #[])) → LawG l w (K w.params) n mg fa h) :
    PySem.W.WalkO q loose XP YP l.row.toRowW d [] (fun f vs => PySem.call f vs) := by
  refine Att.attach_callB hn hdf fun w s₀ s₁ mg mb fa o pm cd doc a vs ns G Y ho hd hcd hmg hobj hints hlen hbits hg => ?_
  obtain ⟨cs, hT, nT, C, hF⟩ := F w mg fa _ Y (hY w _ Y) G.T.g hmg fun c P e => PySem.W.tab_of G.T (hY w _ Y) hr e
  exact law_callG (hY w _ Y) G.T.g G.T.b G.T.builtins G.T.nolimit hg hT nT C G.T.bmain hobj hints (Nat.le_trans hlen hn2) (fun base H tb e0 hH sq => hF base H _ a ns hlen hbits tb e0 hH sq) fun H e s' ⟨_, _, _, _, _, _, _, _, _, _, _, _, z⟩ => z

theorem kitCls_of {K : PySem.W.Frag} {C S : Addr} {b : Bool} (h2 : PySem.W.isClsIn K S = true) (h3 : PySem.W.typeIn K (.ref S) = some (.type "type")) (h4 : PySem.W.subIn K (.ref C) (.ref S) = some b) : PySem.W.kitCls K (.ref C) (.ref S) = some b := by
  have e2 : ((PySem.W.clsIn K S).isSome && PySem.W.typeIn K (.ref S) == some (.type "type")) = true := by
    have h2' : (PySem.W.clsIn K S).isSome = true := h2
    rw [h2', h3] <;> rfl
  exact (if_pos e2).trans h4
theorem exm_of {K : PySem.W.Frag} {C S : Addr} {b : Bool} (h1 : PySem.W.subIn K (.ref S) (.type "BaseException") = some true) (h2 : PySem.W.isClsIn K S = true) (h3 : PySem.W.typeIn K (.ref S) = some (.type "type")) (h4 : PySem.W.subIn K (.ref C) (.ref S) = some b) : PySem.W.exmOne K (.ref C) (.ref S) = some b := by
  have e1 : (PySem.W.subIn K (.ref S) (.type "BaseException") == some true) = true := by rw [h1] <;> rfl
  exact (if_pos e1).trans (kitCls_of h2 h3 h4)
theorem kit_self {K : PySem.W.Frag} {C : Addr} : PySem.W.kitOne K (.ref C) (.ref C) = some true := if_pos (by simp)
theorem kit_of {K : PySem.W.Frag} {C S : Addr} {b : Bool} (h0 : (C == S) = false) (h2 : PySem.W.isClsIn K S = true) (h3 : PySem.W.typeIn K (.ref S) = some (.type "type")) (h4 : PySem.W.subIn K (.ref C) (.ref S) = some b) : PySem.W.kitOne K (.ref C) (.ref S) = some b := by
  have ne : ¬ (Value.ref C == Value.ref S) = true := fun z => by
    have := beq_iff_eq.mp z
    injection this with this
    rw [this] at h0
    simp at h0
  exact (if_neg ne).trans (kitCls_of h2 h3 h4)
theorem tab_is {K : PySem.W.Frag} {x : Str} {f cl Pt : Addr} {oc : Value} {od : Option Addr} {fd : FuncData} {sl : Array (Option Value)} {oc2 : Value} {od2 : Option Addr} {vs : Array Value} {sl2 : Array (Option Value)} (a : PySem.W.nsIn K mainGlobals x = some (some (.ref f))) (l : K.lookup f = some ⟨oc, od, .func fd, sl⟩) (hc : fd.code = .ref cl)
    (l2 : K.lookup cl = some ⟨oc2, od2, .fields vs, sl2⟩) (h : vs[11]? = some (.ref Pt)) : PySem.W.tabIn K x = some (cl, Pt) := by
  unfold PySem.W.tabIn
  rw [a]
  simp only
  rw [l]
  simp only
  rw [hc]
  simp only
  rw [l2]
  simp only
  rw [h]
end PL

/-! PL18: reckoning with the pure functions: each combinator's unfolding as a rule of simp -/
namespace PL
open PySem PySem.Spec PyProof.Rows L2 LamX

section
variable {α β : Type} {S : SS}
@[simp] theorem bind_S (f : M α) (g : α → M β) (S : SS) : (f >>= g) S = match f S with
  | none => none
  | some (.error e, S') => some (.error e, S')
  | some (.ok a, S') => g a S' := rfl
@[simp] theorem ret_S (a : α) (S : SS) : M.ret a S = some (.ok a, S) := rfl
@[simp] theorem lift_S (o : Option α) (S : SS) : M.lift o S = o.map fun a => (.ok a, S) := rfl
@[simp] theorem stuck_S (S : SS) : (stuck : M α) S = none := rfl
@[simp] theorem cst_S (x : PyData) (S : SS) : cst x S = some (.ok (.d x), S) := rfl
@[simp] theorem rdV_S (i : Nat) (S : SS) : rdV i S = match S[i]? with
  | some (some _) => some (.ok (.bw i), S)
  | _ => none := rfl
@[simp] theorem rdZ_S (i : Nat) (S : SS) : rdZ i S = match S[i]? with
  | some (some (.d x)) => some (.ok (.d x), S)
  | some (some (.lst xs)) => (items xs).map fun ds => (.ok (.d (.list ds)), S.set i (some (.d (.list ds))))
  | _ => none := rfl
@[simp] theorem mvS_S (i : Nat) (S : SS) : mvS i S = match S[i]? with
  | some (some o) => some (.ok o, S.set i none)
  | _ => none := rfl
@[simp] theorem seqS_S (f g : SM) (S : SS) : seqS f g S = match f S with
  | some (.nx, S1) => g S1
  | r => r := rfl
@[simp] theorem skipS_S (S : SS) : skipS S = some (.nx, S) := rfl
@[simp] theorem doE_S (f : M α) (g : α → SM) (S : SS) : doE f g S = match f S with
  | some (.ok o, S1) => g o S1
  | some (.error x, S1) => some (.exc x, S1)
  | none => none := rfl
@[simp] theorem raiseS_S (C : Addr) (S : SS) : raiseS C S = some (.exc (excD C []), S) := rfl
@[simp] theorem putS_S (i : Nat) (o : OV) (S : SS) : putS i o S = if i < S.length then some (.nx, S.set i (some o)) else none := rfl
@[simp] theorem setS_S (i : Nat) (f : M OV) (S : SS) : setS i f S = doE f (putS i) S := rfl
@[simp] theorem retS_S (f : M OV) (S : SS) : retS f S = doE f (fun o S => some (.ret o, S)) S := rfl
@[simp] theorem retN_S (S : SS) : retN S = some (.ret (.d .none), S) := rfl
@[simp] theorem exprS_S (f : M OV) (S : SS) : exprS f S = doE f (fun _ => skipS) S := rfl
@[simp] theorem ifS_S (c : M Bool) (f g : SM) (S : SS) : ifS c f g S = doE c (fun b => if b then f else g) S := rfl
@[simp] theorem asB_S (f : M OV) (S : SS) : asB f S = (f >>= fun o => M.lift (isB o)) S := rfl
@[simp] theorem toV_S (f : M OV) (S : SS) : toV f S = (f >>= fun o => M.lift ((frD o).map .fr)) S := rfl
@[simp] theorem op1_S (op : PyData → Option OV) (a : AV) (S : SS) : op1 op a S = match view S a with
  | some x => (op x).map fun o => (.ok o, S)
  | none => none := rfl
@[simp] theorem op2_S (op : PyData → PyData → Option OV) (a b : AV) (S : SS) : op2 op a b S = match view S a, view S b with
  | some x, some y => (op x y).map fun o => (.ok o, S)
  | _, _ => none := rfl
@[simp] theorem opN_S (op : List PyData → Option OV) (as : List AV) (S : SS) : opN op as S = match views S as with
  | some xs => (op xs).map fun o => (.ok o, S)
  | none => none := rfl
@[simp] theorem bin_S (fa fb : M AV) (op : PyData → PyData → Option OV) (S : SS) : bin fa fb op S = (fa >>= fun a => fb >>= fun b => op2 op a b) S := rfl
@[simp] theorem truA_S (a : AV) (S : SS) : truA a S = match view S a with
  | some x => (tru x).map fun b => (.ok b, S)
  | none => none := rfl
@[simp] theorem tstV_S (f : M AV) (S : SS) : tstV f S = (f >>= truA) S := rfl
@[simp] theorem andT_S (f g : M Bool) (S : SS) : andT f g S = (f >>= fun b => if b then g else M.ret false) S := rfl
@[simp] theorem orT_S (f g : M Bool) (S : SS) : orT f g S = (f >>= fun b => if b then M.ret true else g) S := rfl
@[simp] theorem notT_S (f : M Bool) (S : SS) : notT f S = (f >>= fun b => M.ret (!b)) S := rfl
@[simp] theorem notV_S (f : M AV) (S : SS) : notV f S = (f >>= fun a => truA a >>= fun b => M.ret (OV.d (.bool (!b)))) S := rfl
@[simp] theorem andV_S (f g : M OV) (S : SS) : andV f g S = (f >>= fun o => match truD o with
  | some (x, b) => if b then g else M.ret (.d x)
  | none => stuck) S := rfl
@[simp] theorem orV_S (f g : M OV) (S : SS) : orV f g S = (f >>= fun o => match truD o with
  | some (x, b) => if b then M.ret (.d x) else g
  | none => stuck) S := rfl
@[simp] theorem ifE_S (c : M Bool) (f g : M α) (S : SS) : ifE c f g S = (c >>= fun b => if b then f else g) S := rfl
@[simp] theorem chain_S (fa fb fc : M AV) (g g' : PyData → PyData → Option OV) (S : SS) : chain fa fb fc g g' S = (fa >>= fun a => fb >>= fun b => op2 g a b >>= fun o => match isB o with
  | some true => fc >>= fun c => op2 g' b c
  | some false => cst (.bool false)
  | none => stuck) S := rfl
@[simp] theorem ch3_S (fa fb fc fd : M AV) (g g' g'' : PyData → PyData → Option OV) (S : SS) : ch3 fa fb fc fd g g' g'' S = (fa >>= fun a => fb >>= fun b => asB (op2 g a b) >>= fun k => match k with
  | true => fc >>= fun c => asB (op2 g' b c) >>= fun k => match k with
    | true => fd >>= fun d => asB (op2 g'' c d) >>= fun k => M.ret k
    | false => M.ret false
  | false => M.ret false) S := rfl
@[simp] theorem argsNil_S (S : SS) : argsNil S = some (.ok [], S) := rfl
@[simp] theorem argsCons_S (f : M AV) (g : M (List AV)) (S : SS) : argsCons f g S = (f >>= fun a => g >>= fun as => M.ret (a :: as)) S := rfl
@[simp] theorem osNil_S (S : SS) : osNil S = some (.ok [], S) := rfl
@[simp] theorem osCons_S (f : M OV) (g : M (List OV)) (S : SS) : osCons f g S = (f >>= fun a => g >>= fun as => M.ret (a :: as)) S := rfl
@[simp] theorem callN_S (g : M (List AV)) (op : List PyData → Option OV) (S : SS) : callN g op S = (g >>= fun as => opN op as) S := rfl
@[simp] theorem mkTup_S (g : M (List AV)) (S : SS) : mkTup g S = (g >>= fun as => M.lift ((frs as).bind fun xs => if xs.length ≤ sizeLine then some (OV.d (.tuple xs)) else none)) S := rfl
@[simp] theorem mkLst_S (own : Bool) (g : M (List AV)) (S : SS) : mkLst own g S = (g >>= fun as => M.lift ((frs as).bind fun xs => if xs.length ≤ sizeLine then some (newL own xs) else none)) S := rfl
@[simp] theorem slA_S (own : Bool) (fa : M AV) (fl fh : M (Option Int)) (S : SS) : slA own fa fl fh S = (fa >>= fun a => fl >>= fun l => fh >>= fun h => op1 (fun x => oSl own x l h) a) S := rfl
@[simp] theorem noPart_S (S : SS) : noPart S = some (.ok none, S) := rfl
@[simp] theorem part_S (f : M AV) (S : SS) : part f S = match f S with
  | none => none
  | some (.error e, S') => some (.error e, S')
  | some (.ok a, S') => match view S' a with
    | some (.int i) => some (.ok (some i), S')
    | _ => none := by
  show M.bind f _ S = _
  unfold M.bind
  cases f S with
  | none => rfl
  | some t =>
    obtain ⟨r, S'⟩ := t
    cases r <;> rfl
@[simp] theorem isiV_S (n : String) (f : M AV) (S : SS) : isiV n f S = (f >>= fun a => op1 (oIsi n) a) S := rfl
@[simp] theorem isiT_S (ns : List String) (f : M AV) (S : SS) : isiT ns f S = (f >>= fun a => op1 (oIsiT ns) a) S := rfl
@[simp] theorem isiX_S (K : PySem.W.Frag) (Ds : List Addr) (c : Value) (f : M AV) (S : SS) : isiX K Ds c f S = (f >>= fun a => op1 (oIsiX K Ds c) a) S := rfl
@[simp] theorem chkA_S (T : String) (a : AV) (S : SS) : chkA T a S = match view S a with
  | some x => if tyOk T x then some (.ok (), S) else none
  | none => none := rfl
@[simp] theorem methN_S (ty : String) (fa : M AV) (g : M (List AV)) (op : PyData → List PyData → Option OV) (S : SS) : methN ty fa g op S = (fa >>= fun a => chkA ty a >>= fun _ => g >>= fun as => opN (opC op) (a :: as)) S := rfl
@[simp] theorem mutM_S (i : Nat) (ga : M (List AV)) (op : List PyData → List PyData → Option (PyData × List PyData)) (S : SS) : mutM i ga op S = match isL S[i]? with
  | some _ => (ga >>= mutE i op) S
  | none => none := rfl
@[simp] theorem mutE_S (i : Nat) (op : List PyData → List PyData → Option (PyData × List PyData)) (as : List AV) (S : SS) : mutE i op as S = match isL S[i]?, frs as with
  | some ds, some xs => (op ds xs).map fun p => (.ok (.d p.1), S.set i (some (.lst (p.2.map .d))))
  | _, _ => none := rfl
@[simp] theorem itE_S (f : M OV) (S : SS) : itE f S = (f >>= fun o => M.lift (seqOf o)) S := rfl
@[simp] theorem itScr_S (f : M OV) (S : SS) : itScr f S = (f >>= fun o => M.lift (scrO o)) S := rfl
@[simp] theorem rng1_S (ga : M (List AV)) (S : SS) : rng1 ga S = match ga S with
  | none => none
  | some (.error e, S') => some (.error e, S')
  | some (.ok as, S') => match views S' as with
    | some [.int j] => if -(2 ^ 62) ≤ j ∧ j < 2 ^ 62 then some (.ok (rngD 0 j.toNat), S') else none
    | _ => none := by
  show M.bind ga _ S = _
  unfold M.bind
  cases ga S with
  | none => rfl
  | some t =>
    obtain ⟨r, S'⟩ := t
    cases r <;> rfl
@[simp] theorem compE_S (own : Bool) (fi : M (List PyData)) (g : PyData → SS → Option SS) (ft : M Bool) (fe : M OV) (vs : List Nat) (S : SS) : compE own fi g ft fe vs S = match fi S with
  | none => none
  | some (.error e, S') => some (.error e, S')
  | some (.ok ds, S') => if vs.all (fun i => decide (i < S'.length)) then (compL g ft fe vs ds [] (wipeS S' vs)).map fun p => (.ok (newL own p.1), p.2) else none := by
  show M.bind fi _ S = _
  unfold M.bind
  cases fi S with
  | none => rfl
  | some t =>
    obtain ⟨r, S'⟩ := t
    cases r <;> rfl
@[simp] theorem callF_S (n : Nat) (g : DF) (fa : M (List AV)) (S : SS) : callF n g fa S = (fa >>= fun as => if as.length = n then handF g as else stuck) S := rfl
@[simp] theorem callK2_S (g : DF) (fa : M (List AV)) (S : SS) : callK2 g fa S = (fa >>= fun as => if as.length = 2 then handF g (sw2 as) else stuck) S := rfl
@[simp] theorem handF_S (g : DF) (as : List AV) (S : SS) : handF g as S = match takes as S with
  | some (os, S1) => match g os with
    | some (r, os') => some (r, gives as S os' S1)
    | none => none
  | none => none := rfl
@[simp] theorem caughtM_S (K : PySem.W.Frag) (CS : Addr) (keep : Bool) (fe : M OV) (S : SS) : caughtM K CS keep fe S = match fe S with
  | some (.ok o, S') => some (.ok (if keep then o else .d .none), S')
  | some (.error x, S') => match exm K CS x with
    | some true => some (.ok (.d x), S')
    | _ => none
  | none => none := rfl
@[simp] theorem dgetS_S (i : Nat) (k : Str) (S : SS) : dgetS i k S = match (asDct S[i]?).bind fun xs => getO xs (.inr k) with
  | some (.d y) => some (.ok (.d y), S)
  | _ => none := rfl
@[simp] theorem dputS_S (i : Nat) (k : Str) (fe : M OV) (S : SS) : dputS i k fe S = doE fe (fun o S => match o, asDct S[i]? with
  | .d y, some xs => if xs.length < sizeLine then some (.nx, S.set i (some (.dct (putO xs (.inr k) (.d y))))) else none
  | _, _ => none) S := rfl
@[simp] theorem dpop0_S (i : Nat) (k : Str) (S : SS) : dpop0 i k S = match lstAt S i (.inr k) with
  | some (xs, j, y :: ds) => some (.ok (.d y), S.set i (some (.dct ((xs.map (·.1)).zip ((xs.map (·.2)).set j (.lst (ds.map .d)))))))
  | _ => none := rfl
@[simp] theorem dfull_S (i : Nat) (k : Str) (S : SS) : dfull i k S = match lstAt S i (.inr k) with
  | some (_, _, ds) => if SeqAt.shaped (.list ds) then some (.ok (!ds.isEmpty), S) else none
  | _ => none := rfl
@[simp] theorem parS_S (is : List Nat) (fo : M (List OV)) (S : SS) : parS is fo S = doE fo (fun os S => if os.length = is.length ∧ is.length ≤ 16 ∧ ∀ i ∈ is, i < S.length then some (.nx, putLs is os S) else none) S := rfl
@[simp] theorem negV_S (f : M AV) (S : SS) : negV f S = (f >>= fun a => op1 oNeg a) S := rfl
@[simp] theorem dispM_S (ks : List Str) (f : M (List OV)) (S : SS) : dispM ks f S = (f >>= fun os => M.lift (if os.length = ks.length then some (OV.dct ((ks.map Sum.inr).zip os)) else none)) S := rfl
@[simp] theorem forS_S (fi : M (List PyData)) (g : PyData → SS → Option SS) (b : SM) (S : SS) : forS fi g b S = doE fi (forL g b) S := rfl
@[simp] theorem tYesM_S (S : SS) : tYesM S = some (.ok true, S) := rfl
@[simp] theorem gN_S (i : Nat) (x : PyData) (S : SS) : gN i x S = if i < S.length then some (S.set i (some (.d x))) else none := rfl
@[simp] theorem gTupD_t (n : Nat) (gs : List PyData → SS → Option SS) (xs : List PyData) (S : SS) : gTupD n gs (.tuple xs) S = if xs.length = n then gs xs S else none := rfl
@[simp] theorem gConsD_c (g : PyData → SS → Option SS) (gs : List PyData → SS → Option SS) (x : PyData) (r : List PyData) (S : SS) : gConsD g gs (x :: r) S = (g x S).bind (gs r) := rfl
@[simp] theorem gNilD_n (S : SS) : gNilD [] S = some S := rfl
@[simp] theorem newL_f (ds : List PyData) : newL false ds = .d (.list ds) := rfl
@[simp] theorem newL_t (ds : List PyData) : newL true ds = .lst (ds.map .d) := rfl
@[simp] theorem items_d (ds : List PyData) : items (ds.map .d) = some ds := items_map ds
@[simp] theorem items_n : items [] = some [] := rfl
@[simp] theorem view_fr (S : SS) (x : PyData) : view S (.fr x) = some x := rfl
@[simp] theorem view_bw (S : SS) (i : Nat) : view S (.bw i) = viewO S[i]? := rfl
@[simp] theorem viewO_d (x : PyData) : viewO (some (some (.d x))) = some x := rfl
@[simp] theorem viewO_l (xs : List OV) : viewO (some (some (.lst xs))) = (items xs).map .list := rfl
@[simp] theorem views_n (S : SS) : views S [] = some [] := rfl
@[simp] theorem views_c (S : SS) (a : AV) (as : List AV) : views S (a :: as) = match view S a, views S as with
    | some x, some xs => some (x :: xs)
    | _, _ => none := rfl
@[simp] theorem frs_n : frs [] = some [] := rfl
@[simp] theorem frs_c (x : PyData) (r : List AV) : frs (.fr x :: r) = (frs r).map (x :: ·) := rfl
@[simp] theorem takes_n (S : SS) : takes [] S = some ([], S) := rfl
@[simp] theorem takes_f (x : PyData) (as : List AV) (S : SS) : takes (.fr x :: as) S = (takes as S).map fun p => (.d x :: p.1, p.2) := rfl
@[simp] theorem takes_b (i : Nat) (as : List AV) (S : SS) : takes (.bw i :: as) S = match S[i]? with
    | some (some (.d x)) => (takes as S).map fun p => (.d x :: p.1, p.2)
    | some (some o) => (takes as (S.set i none)).map fun p => (o :: p.1, p.2)
    | _ => none := rfl
@[simp] theorem gives_n (S : SS) (os : List OV) (S1 : SS) : gives [] S os S1 = S1 := rfl
@[simp] theorem gives_f (x : PyData) (as : List AV) (S S1 : SS) (o : OV) (os : List OV) : gives (.fr x :: as) S (o :: os) S1 = gives as S os S1 := rfl
@[simp] theorem gives_b (i : Nat) (as : List AV) (S S1 : SS) (o : OV) (os : List OV) : gives (.bw i :: as) S (o :: os) S1 = match S[i]? with
    | some (some (.d _)) => gives as S os S1
    | _ => gives as (S.set i none) os (S1.set i (some o)) := rfl
@[simp] theorem frD_d (x : PyData) : frD (.d x) = some x := rfl
@[simp] theorem isB_d (b : Bool) : isB (.d (.bool b)) = some b := rfl
@[simp] theorem truD_d (x : PyData) : truD (.d x) = (tru x).map fun b => (x, b) := rfl
@[simp] theorem tru_b (b : Bool) : tru (.bool b) = some b := rfl
@[simp] theorem isL_l (xs : List OV) : isL (some (some (.lst xs))) = items xs := rfl
@[simp] theorem seqOf_l (xs : List PyData) : seqOf (.d (.list xs)) = some xs := rfl
@[simp] theorem seqOf_t (xs : List PyData) : seqOf (.d (.tuple xs)) = some xs := rfl
@[simp] theorem scrO_s (ns : List Int) : scrO (.d (scrD ns)) = some (ns.map .int) := rfl
@[simp] theorem scrOf_s (ns : List Int) : scrOf (scrD ns) = some (ns.map .int) := rfl
@[simp] theorem asDct_d (xs : List (Key × OV)) : asDct (some (some (.dct xs))) = some xs := rfl
@[simp] theorem opC_c (op : PyData → List PyData → Option OV) (x : PyData) (xs : List PyData) : opC op (x :: xs) = op x xs := rfl
@[simp] theorem tyOk_str (z : Str) : tyOk "str" (.str z) = true := rfl
@[simp] theorem okI_e (i : Int) : okI i = some (.d (.int i)) := rfl
@[simp] theorem okB_e (b : Bool) : okB b = some (.d (.bool b)) := rfl
@[simp] theorem oAdd_i (own : Bool) (i j : Int) : oAdd own (.int i) (.int j) = some (.d (.int (i + j))) := rfl
@[simp] theorem oAdd_l (own : Bool) (xs ys : List PyData) : oAdd own (.list xs) (.list ys) = if xs.length + ys.length ≤ sizeLine then some (newL own (xs ++ ys)) else none := rfl
@[simp] theorem oSub_i (i j : Int) : oSub (.int i) (.int j) = some (.d (.int (i - j))) := rfl
@[simp] theorem oMulA_i (own : Bool) (i j : Int) : oMulA own (.int i) (.int j) = if cMul i j then some (.d (.int (i * j))) else none := rfl
@[simp] theorem oMulA_l (own : Bool) (xs : List PyData) (k : Int) : oMulA own (.list xs) (.int k) = if -(2 ^ 63) ≤ k ∧ k < 2 ^ 63 ∧ xs.length * k.toNat ≤ sizeLine then some (newL own (List.replicate k.toNat xs).flatten) else none := rfl
@[simp] theorem oFdiv_i (i j : Int) : oFdiv (.int i) (.int j) = if 0 < j ∧ j < 1073741824 then some (.d (.int (i / j))) else none := rfl
@[simp] theorem oMod_i (i j : Int) : oMod (.int i) (.int j) = if 0 < j then some (.d (.int (i % j))) else none := rfl
@[simp] theorem oPow_i (i j : Int) : oPow (.int i) (.int j) = if 0 ≤ j ∧ j ≤ 1000000 ∧ i.natAbs < 2 ^ 64 then some (.d (.int (i ^ j.toNat))) else none := rfl
@[simp] theorem oLt_i (i j : Int) : oLt (.int i) (.int j) = some (.d (.bool (decide (i < j)))) := rfl
@[simp] theorem oLe_i (i j : Int) : oLe (.int i) (.int j) = some (.d (.bool (decide (i ≤ j)))) := rfl
@[simp] theorem oGt_i (i j : Int) : oGt (.int i) (.int j) = some (.d (.bool (decide (j < i)))) := rfl
@[simp] theorem oGe_i (i j : Int) : oGe (.int i) (.int j) = some (.d (.bool (decide (j ≤ i)))) := rfl
@[simp] theorem oNeg_i (i : Int) : oNeg (.int i) = some (.d (.int (-i))) := rfl
@[simp] theorem oLen_l (xs : List PyData) : oLen [.list xs] = some (.d (.int xs.length)) := rfl
@[simp] theorem oLen_t (xs : List PyData) : oLen [.tuple xs] = some (.d (.int xs.length)) := rfl
@[simp] theorem oLenS_s (ns : List Int) : oLenS [scrD ns] = some (.d (.int ns.length)) := by simp [oLenS]
@[simp] theorem oList_l (own : Bool) (xs : List PyData) : oList own [.list xs] = some (newL own xs) := rfl
@[simp] theorem oList_t (own : Bool) (xs : List PyData) : oList own [.tuple xs] = some (newL own xs) := rfl
@[simp] theorem oTuple_l (xs : List PyData) : oTuple [.list xs] = some (.d (.tuple xs)) := rfl
@[simp] theorem oTuple_t (xs : List PyData) : oTuple [.tuple xs] = some (.d (.tuple xs)) := rfl
@[simp] theorem oAbs_i (i : Int) : oAbs [.int i] = okI (if i < 0 then -i else i) := rfl
@[simp] theorem oInt1_i (i : Int) : oInt1 [.int i] = okI i := rfl
@[simp] theorem oMax2_i (i j : Int) : oMax2 [.int i, .int j] = okI (if j > i then j else i) := rfl
@[simp] theorem oMin2_i (i j : Int) : oMin2 [.int i, .int j] = okI (if j < i then j else i) := rfl
@[simp] theorem oAll_l (xs : List PyData) : oAll [.list xs] = (bools xs).bind fun bs => okB (bs.all id) := rfl
@[simp] theorem oIx_l (xs : List PyData) (i : Int) : oIx (.list xs) (.int i) = (atI xs i).map .d := rfl
@[simp] theorem oIx_t (xs : List PyData) (i : Int) : oIx (.tuple xs) (.int i) = (atI xs i).map .d := rfl
@[simp] theorem oSl_l (own : Bool) (xs : List PyData) (lo hi : Option Int) : oSl own (.list xs) lo hi = some (newL own ((xs.drop (HT.sIx xs.length 0 lo)).take (HT.sIx xs.length xs.length hi - HT.sIx xs.length 0 lo))) := rfl
@[simp] theorem oSl_t (own : Bool) (xs : List PyData) (lo hi : Option Int) : oSl own (.tuple xs) lo hi = some (.d (.tuple ((xs.drop (HT.sIx xs.length 0 lo)).take (HT.sIx xs.length xs.length hi - HT.sIx xs.length 0 lo)))) := rfl
@[simp] theorem oAppend_e (ds : List PyData) (x : PyData) : oAppend ds [x] = if ds.length < sizeLine then some (.none, ds ++ [x]) else none := rfl
theorem shp_i (i : Int) : SeqAt.shaped (.int i) = true := by simp [SeqAt.shaped, PyData.canLay0, PyData.depth]
theorem shp_s {i : Str} (h : PyData.strOk i = true) : SeqAt.shaped (.str i) = true := by simp [SeqAt.shaped, PyData.canLay0, PyData.depth, h]
theorem shp_b (i : Bool) : SeqAt.shaped (.bool i) = true := by simp [SeqAt.shaped, PyData.canLay0, PyData.depth]
theorem shp_n : SeqAt.shaped .none = true := by simp [SeqAt.shaped, PyData.canLay0, PyData.depth]
theorem beqI (i j : Int) : (i == j) = decide (i = j) := by rw [Bool.eq_iff_iff]; simp
theorem beqS (i j : Str) : (i == j) = decide (i = j) := by rw [Bool.eq_iff_iff]; simp
@[simp] theorem oEq_i (i j : Int) : oEq (.int i) (.int j) = some (.d (.bool (decide (i = j)))) := by
  simp [oEq, shp_i, PyData.eqv, beqI]
@[simp] theorem oNe_i (i j : Int) : oNe (.int i) (.int j) = some (.d (.bool (!decide (i = j)))) := by
  simp [oNe, shp_i, PyData.eqv, beqI]
@[simp] theorem oEq_s {i j : Str} (h1 : PyData.strOk i = true) (h2 : PyData.strOk j = true) : oEq (.str i) (.str j) = some (.d (.bool (decide (i = j)))) := by
  simp [oEq, shp_s h1, shp_s h2, PyData.eqv, beqS]
@[simp] theorem oNe_s {i j : Str} (h1 : PyData.strOk i = true) (h2 : PyData.strOk j = true) : oNe (.str i) (.str j) = some (.d (.bool (!decide (i = j)))) := by
  simp [oNe, shp_s h1, shp_s h2, PyData.eqv, beqS]
end
end PL

/-! PL19: loops and comprehensions by plain laws -/
namespace PL
open PySem PySem.Spec PyProof.Rows L2 LamX

theorem compL_fil {g : PyData → SS → Option SS} {ft : M Bool} {fe : M OV} {vs : List Nat} {S : SS} {p : PyData → Bool} {h : PyData → PyData} : ∀ {ds acc : List PyData}, acc.length + ds.length ≤ sizeLine →
    (∀ d ∈ ds, ∃ S1 S2, g d S = some S1 ∧ ft S1 = some (.ok (p d), S2) ∧ (p d = true → ∃ S3, fe S2 = some (.ok (.d (h d)), S3) ∧ wipeS S3 vs = S) ∧ (p d = false → wipeS S2 vs = S)) →
    compL g ft fe vs ds acc S = some (acc ++ (ds.filter p).map h, S)
  | [], acc, _, _ => by simp [compL]
  | d :: ds, acc, hl, H => by
    obtain ⟨S1, S2, e1, e2, e3, e4⟩ := H d List.mem_cons_self
    rw [List.length_cons] at hl
    unfold compL
    rw [e1]
    simp only
    rw [e2]
    cases hp : p d with
    | true =>
      obtain ⟨S3, e5, e6⟩ := e3 hp
      simp only
      rw [e5]
      simp only
      rw [if_pos (by omega), e6, compL_fil (by rw [List.length_append, List.length_singleton]; omega) fun d' hd => H d' (List.mem_cons_of_mem _ hd)]
      rw [List.filter_cons_of_pos hp]
      simp
    | false =>
      simp only
      rw [e4 hp, compL_fil (by omega) fun d' hd => H d' (List.mem_cons_of_mem _ hd)]
      rw [List.filter_cons_of_neg (by simp [hp])]
theorem compL_map {g : PyData → SS → Option SS} {fe : M OV} {vs : List Nat} {S : SS} {h : PyData → PyData} {ds acc : List PyData} (hl : acc.length + ds.length ≤ sizeLine)
    (H : ∀ d ∈ ds, ∃ S1 S3, g d S = some S1 ∧ fe S1 = some (.ok (.d (h d)), S3) ∧ wipeS S3 vs = S) : compL g tYesM fe vs ds acc S = some (acc ++ ds.map h, S) := by
  have := compL_fil (g := g) (ft := tYesM) (fe := fe) (vs := vs) (S := S) (p := fun _ => true) (h := h) (ds := ds) (acc := acc) hl fun d hd => by
    obtain ⟨S1, S3, e1, e2, e3⟩ := H d hd
    exact ⟨S1, S1, e1, rfl, fun _ => ⟨S3, e2, e3⟩, fun z => by cases z⟩
  rw [this, List.filter_eq_self.mpr (fun _ _ => rfl)]
/-- a comprehension whose items change the state: by an invariant -/
theorem compL_inv {g : PyData → SS → Option SS} {fe : M OV} {vs : List Nat} (I : Nat → List PyData → SS → Prop) : ∀ {ds acc : List PyData} {S : SS} {n : Nat}, acc.length + ds.length ≤ sizeLine → I n acc S →
    (∀ k d acc S, ds[k]? = some d → I (n + k) acc S → ∃ S1 y S3, g d S = some S1 ∧ fe S1 = some (.ok (.d y), S3) ∧ I (n + k + 1) (acc ++ [y]) (wipeS S3 vs)) →
    ∃ acc' S', compL g tYesM fe vs ds acc S = some (acc', S') ∧ I (n + ds.length) acc' S' ∧ acc'.length = acc.length + ds.length
  | [], acc, S, n, _, hi, _ => ⟨acc, S, rfl, hi, rfl⟩
  | d :: ds, acc, S, n, hl, hi, H => by
    obtain ⟨S1, y, S3, e1, e2, h2⟩ := H 0 d acc S rfl hi
    rw [List.length_cons] at hl
    obtain ⟨acc', S', h3, h4, h5⟩ := compL_inv I (ds := ds) (acc := acc ++ [y]) (S := wipeS S3 vs) (n := n + 1) (by rw [List.length_append, List.length_singleton]; omega) h2 fun k d' acc S hd hI => by
      have := H (k + 1) d' acc S (by simpa using hd) (by rw [show n + (k + 1) = n + 1 + k by omega]; exact hI)
      rw [show n + (k + 1) + 1 = n + 1 + k + 1 by omega] at this
      exact this
    refine ⟨acc', S', ?_, by rw [List.length_cons, show n + (ds.length + 1) = n + 1 + ds.length by omega]; exact h4, by rw [h5, List.length_append, List.length_singleton, List.length_cons]; omega⟩
    unfold compL
    rw [e1]
    simp only [tYesM_S]
    rw [e2]
    simp only
    rw [if_pos (by omega), h3]
theorem forL_inv {g : PyData → SS → Option SS} {b : SM} (I : Nat → SS → Prop) : ∀ {ds : List PyData} {S : SS} {n : Nat}, I n S →
    (∀ k d S, ds[k]? = some d → I (n + k) S → ∃ S1 S2, g d S = some S1 ∧ b S1 = some (.nx, S2) ∧ I (n + k + 1) S2) →
    ∃ S', forL g b ds S = some (.nx, S') ∧ I (n + ds.length) S'
  | [], S, n, hi, _ => ⟨S, rfl, hi⟩
  | d :: ds, S, n, hi, H => by
    obtain ⟨S1, S2, e1, e2, h2⟩ := H 0 d S rfl hi
    obtain ⟨S', h3, h4⟩ := forL_inv I (ds := ds) (S := S2) (n := n + 1) h2 fun k d' S hd hI => by
      have := H (k + 1) d' S (by simpa using hd) (by rw [show n + (k + 1) = n + 1 + k by omega]; exact hI)
      rw [show n + (k + 1) + 1 = n + 1 + k + 1 by omega] at this
      exact this
    refine ⟨S', ?_, by rw [List.length_cons, show n + (ds.length + 1) = n + 1 + ds.length by omega]; exact h4⟩
    unfold forL
    rw [e1]
    simp only
    unfold turnS
    rw [e2]
    exact h3
/-- a while loop by an invariant and a measure -/
theorem whileN_inv {ft : M Bool} {b : SM} (I : Nat → SS → Prop) (J : SS → Prop) : ∀ {m : Nat} {S : SS}, I m S →
    (∀ m S, I m S → (∃ S1, ft S = some (.ok false, S1) ∧ J S1) ∨ ∃ S1 S2 m', ft S = some (.ok true, S1) ∧ b S1 = some (.nx, S2) ∧ m' < m ∧ I m' S2) →
    ∃ S', whileN ft b (m + 1) S = some (.nx, S') ∧ J S' := by
  intro m
  induction m using Nat.strongRecOn with
  | ind m ih =>
    intro S hi H
    rcases H m S hi with ⟨S1, e, hj⟩ | ⟨S1, S2, m', e1, e2, hm, hi2⟩
    · refine ⟨S1, ?_, hj⟩
      unfold whileN
      simp [e]
    · obtain ⟨S', h1, h2⟩ := ih m' hm hi2 H
      refine ⟨S', ?_, h2⟩
      unfold whileN
      simp only [doE_S, e1]
      rw [if_pos (by trivial)]
      unfold turnS
      rw [e2]
      exact whileN_le (by omega) h1
theorem whileS_inv {ft : M Bool} {b : SM} (I : Nat → SS → Prop) (J : SS → Prop) {m : Nat} {S : SS} (hi : I m S)
    (H : ∀ m S, I m S → (∃ S1, ft S = some (.ok false, S1) ∧ J S1) ∨ ∃ S1 S2 m', ft S = some (.ok true, S1) ∧ b S1 = some (.nx, S2) ∧ m' < m ∧ I m' S2) :
    ∃ S', whileS ft b S = some (.nx, S') ∧ J S' := by
  obtain ⟨S', h1, h2⟩ := whileN_inv I J hi H
  exact ⟨S', whileS_of h1, h2⟩
end PL

/-! PL20: constant dicts of the program with int keys -/
namespace PL
open PySem PySem.Spec PyProof.Rows L2 LamX

inductive CEnt (K : PySem.W.Frag) : List DictEntry → List (Int × PyData) → Prop
  | nil : CEnt K [] []
  | cons {e : DictEntry} {i : Int} {t : Tok} {v : V} {x : PyData} {es : List DictEntry} {tab : List (Int × PyData)} : e.key = .int i t → e.hash = hashInt i → RelV v e.val → (∀ Z, Fr K Z v x) → CEnt K es tab → CEnt K (e :: es) ((i, x) :: tab)
structure CInt (K : PySem.W.Frag) (d : Addr) (tab : List (Int × PyData)) : Prop where
  ex : ∃ es n, K.lookup d = some ⟨.type "dict", none, .dict es n, #[]⟩ ∧ CEnt K es.toList tab
  low : (d == sysModules) = false
def lookI (tab : List (Int × PyData)) (k : Int) : Option PyData := (tab.find? fun p => decide (p.1 = k)).map (·.2)
section
variable {X : Cx} {T : List (Addr × Str)} {d : Addr} {tab : List (Int × PyData)} {K : PySem.W.Frag}
theorem CEnt.keys {es : List DictEntry} (h : CEnt K es tab) : ∀ e ∈ es, ∃ i t, e.key = .int i t ∧ e.hash = hashInt i := by
  induction h with
  | nil => intro e he; cases he
  | cons h1 h2 h3 h4 _ ih =>
    intro e he
    rcases List.mem_cons.mp he with rfl | he
    · exact ⟨_, _, h1, h2⟩
    · exact ih e he
theorem CEnt.find {es : List DictEntry} (h : CEnt K es tab) (k : Int) : (∀ x, lookI tab k = some x → ∃ u v, (es.find? fun e => Value.isInt k e.key).map (·.val) = some u ∧ RelV v u ∧ ∀ Z, Fr K Z v x) ∧ (lookI tab k = none → (es.find? fun e => Value.isInt k e.key).map (·.val) = none) := by
  induction h with
  | nil => exact ⟨fun x e => (by cases e), fun _ => rfl⟩
  | @cons e i t v x es tab h1 h2 h3 h4 _ ih =>
    have hk : Value.isInt k e.key = decide (i = k) := by
      rw [h1]
      by_cases z : i = k
      · subst z; simp [Value.isInt]
      · simp [Value.isInt, z]
    by_cases z : i = k
    · subst z
      have a : lookI ((i, x) :: tab) i = some x := by simp [lookI]
      rw [a]
      refine ⟨fun y e' => ?_, fun e' => by cases e'⟩
      cases e'
      refine ⟨e.val, v, ?_, h3, h4⟩
      rw [List.find?_cons, hk]; simp
    · have a : lookI ((i, x) :: tab) k = lookI tab k := by simp [lookI, List.find?_cons, z]
      rw [a]
      have b : (e :: es).find? (fun e => Value.isInt k e.key) = es.find? (fun e => Value.isInt k e.key) := by
        rw [List.find?_cons, hk, decide_eq_false z]
      rw [b]
      exact ih
theorem CInt.map {P : Program} {w : World} {h : Heap} (D : CInt K d tab) (X : K.In h) : ∃ f : Int → Option Value, h.MapOf (intKind P w) d f ∧ (∀ k x, lookI tab k = some x → ∃ u v, f k = some u ∧ RelV v u ∧ ∀ Z, Fr K Z v x) ∧ ∀ k, lookI tab k = none → f k = none := by
  obtain ⟨es, n, hl, ce⟩ := D.ex
  have fb : ∀ k : Int, findBy Value.isInt es k = (es.toList.find? fun e => Value.isInt k e.key).map (·.val) := fun k => by
    obtain ⟨l⟩ := es
    unfold findBy
    rw [List.find?_toArray]
  refine ⟨fun k => findBy Value.isInt es k, ⟨_, es, n, X _ _ hl, ⟨rfl, rfl, rfl⟩, rfl, fun e he => ?_, fun _ => rfl⟩, fun k x e => ?_, fun k e => ?_⟩
  · obtain ⟨i, t, e1, e2⟩ := ce.keys e (Array.mem_toList_iff.mpr he)
    exact ⟨i, by rw [e1]; exact intKind_is P w i t, e2⟩
  · obtain ⟨u, v, h1, h2, h3⟩ := (ce.find k).1 x e
    exact ⟨u, v, (fb k).trans h1, h2, h3⟩
  · show findBy Value.isInt es k = none
    rw [fb]
    exact (ce.find k).2 e
def rCin (d : Addr) (tab : List (Int × PyData)) (neg : Bool) : R2 := fun x y H Q => ∃ k, x = .int k ∧ y = .ref d ∧ Q (.bl (if neg then !(lookI tab k).isSome else (lookI tab k).isSome)) H
theorem some_of {D : CInt K d tab} {f : Int → Option Value} (h1 : ∀ k x, lookI tab k = some x → ∃ u v, f k = some u ∧ RelV v u ∧ ∀ Z, Fr K Z v x) (h2 : ∀ k, lookI tab k = none → f k = none) (k : Int) : (f k).isSome = (lookI tab k).isSome := by
  cases e : lookI tab k with
  | none => rw [h2 k e]; rfl
  | some x => obtain ⟨u, v, g, _⟩ := h1 k x e; rw [g]; rfl
theorem op_cin (D : CInt X.K d tab) : OpR X (compareOp .In) (rCin d tab false) := by
  intro pins s σ H x y v u Q I rx ry h
  obtain ⟨k, rfl, rfl, q⟩ := h
  obtain ⟨t, rfl⟩ := rx
  cases ry
  obtain ⟨f, m, h1, h2⟩ := D.map (P := X.prog) (w := X.w) I.kIn
  refine wpAny_in_of (intKind_is X.prog X.w k t) D.low m ?_
  rw [some_of (D := D) h1 h2]
  exact ⟨.bl _, H, I.tok _, rfl, q⟩
theorem op_cnotIn (D : CInt X.K d tab) : OpR X (compareOp .NotIn) (rCin d tab true) := by
  intro pins s σ H x y v u Q I rx ry h
  obtain ⟨k, rfl, rfl, q⟩ := h
  obtain ⟨t, rfl⟩ := rx
  cases ry
  obtain ⟨f, m, h1, h2⟩ := D.map (P := X.prog) (w := X.w) I.kIn
  refine wpAny_notIn_of (intKind_is X.prog X.w k t) D.low m ?_
  rw [some_of (D := D) h1 h2]
  exact ⟨.bl _, H, I.tok _, rfl, q⟩
def rCix (K : PySem.W.Frag) (d : Addr) (tab : List (Int × PyData)) : R2 := fun x y H Q => ∃ k z, x = .ref d ∧ y = .int k ∧ lookI tab k = some z ∧ ∀ v, (∀ Z, Fr K Z v z) → Q v H
theorem ix_cint (D : CInt X.K d tab) : IxR X (rCix X.K d tab) := by
  intro value slice pins s σ H x y v u Q I rx ry h hs
  obtain ⟨k, z, rfl, rfl, e, q⟩ := h
  obtain rfl : v = Value.ref d := rx
  obtain ⟨t, rfl⟩ := ry
  obtain ⟨f, m, h1, h2⟩ := D.map (P := X.prog) (w := X.w) I.kIn
  obtain ⟨u, r, g1, g2, g3⟩ := h1 k z e
  exact tail_any m.typeIs slot_dict_getitem.lookup (wpAny_getItem_of (intKind_is X.prog X.w k t) m g1 ⟨r, H, I.tok _, g2, q r g3⟩) hs
/-! as readings -/
variable {a : Expr} {fa : M AV} {pos p : Pos} {x : Str}
def oCin (tab : List (Int × PyData)) (neg : Bool) : PyData → Option OV
  | .int k => okB (if neg then !(lookI tab k).isSome else (lookI tab k).isSome)
  | _ => none
def cinM (tab : List (Int × PyData)) (neg : Bool) (fa : M AV) : M OV := fa >>= fun a => op1 (oCin tab neg) a
theorem cin_of {neg : Bool} {σ : L2.St} {H : Hp} {Q : VK} (h : rdg X T (cinM tab neg fa) σ H Q) : tOp (rCin d tab neg) (rvg X T fa) (tC (.ref d)) σ H Q := by
  obtain ⟨Z, h⟩ := h
  refine ⟨Z, rz_mono (rv_bind POk.mono h) fun Z R a S p v H1 Z1 s1 r1 a1 => ?_⟩
  obtain ⟨u, Z2, s2, o2, h2⟩ := p v H1 Z1 s1 r1 a1
  obtain ⟨x, o, R3, S3, sz, w, e, rel, pf⟩ := rz_op1 h2 o2
  cases x with
  | int k =>
    cases e
    exact ⟨k, w.int, rfl, pf _ H1 Z2 (Sub.refl _) (rel.push (.bl _))⟩
  | _ => cases e
theorem evt_cnotIn (D : CInt X.K d tab) (hg : Gl X x) (hm : X.mg x = some (.ref d)) (ha : EVV X T a fa) (hd : (x == ("__debug__" : Str)) = false := by decide) (hmk : behindInMarks .NotIn (.Name x p) = false := by with_unfolding_all rfl) : EVT X T (.Compare a [.NotIn] [.Name x p] pos) (asB (cinM tab true fa)) :=
  pt_mono (pt_cmpR (op_cnotIn D) ha (pe_glob (v := .ref d) hg hm rfl hd) hmk) fun σ H Q h => cin_of (asB_of h)
theorem evt_cin (D : CInt X.K d tab) (hg : Gl X x) (hm : X.mg x = some (.ref d)) (ha : EVV X T a fa) (hd : (x == ("__debug__" : Str)) = false := by decide) (hmk : behindInMarks .In (.Name x p) = false := by with_unfolding_all rfl) : EVT X T (.Compare a [.In] [.Name x p] pos) (asB (cinM tab false fa)) :=
  pt_mono (pt_cmpR (op_cin D) ha (pe_glob (v := .ref d) hg hm rfl hd) hmk) fun σ H Q h => cin_of (asB_of h)
def oCix (tab : List (Int × PyData)) : PyData → Option OV
  | .int k => (lookI tab k).map .d
  | _ => none
def cixM (tab : List (Int × PyData)) (fa : M AV) : M OV := fa >>= fun a => op1 (oCix tab) a
theorem ev_cix (D : CInt X.K d tab) (hg : Gl X x) (hm : X.mg x = some (.ref d)) (ha : EVV X T a fa) (hd : (x == ("__debug__" : Str)) = false := by decide) (hs : PlainIx a := by intro _ _; rfl) : EV X T (.Subscript (.Name x p) a pos) (cixM tab fa) :=
  pe_mono (pe_ix (ix_cint D) (pe_glob (v := .ref d) hg hm rfl hd) ha hs) fun σ H Q ⟨Z, h⟩ => by
  refine ⟨Z, rz_mono (rv_bind POk.mono h) fun Z R a S p v H1 Z1 s1 r1 a1 => ?_⟩
  obtain ⟨u, Z2, s2, o2, h2⟩ := p v H1 Z1 s1 r1 a1
  obtain ⟨x, o, R3, S3, sz, w, e, rel, pf⟩ := rz_op1 h2 o2
  cases x with
  | int k =>
    have e : (lookI tab k).map OV.d = some o := e
    cases q : lookI tab k with
    | none => rw [q] at e; cases e
    | some z =>
      rw [q] at e
      cases e
      exact ⟨k, z, rfl, w.int, q, fun r hr => pf r H1 Z2 (Sub.refl _) (rel.push (hr Z2))⟩
  | _ => cases e
/-! text keys -/
def lookS (tab : List (Str × PyData)) (k : Str) : Option PyData := (tab.find? fun p => decide (p.1 = k)).map (·.2)
def CStr (K : PySem.W.Frag) (w : World) (d : Addr) (tab : List (Str × PyData)) : Prop := ∀ z x, lookS tab z = some x → ∃ v, KDct K w d z v ∧ ∀ Z, Fr K Z v x
def oCixS (tab : List (Str × PyData)) : PyData → Option OV
  | .str k => (lookS tab k).map .d
  | _ => none
def cixMS (tab : List (Str × PyData)) (fa : M AV) : M OV := fa >>= fun a => op1 (oCixS tab) a
theorem ev_cixS {tabS : List (Str × PyData)} (D : CStr X.K X.w d tabS) (hg : Gl X x) (hm : X.mg x = some (.ref d)) (ha : EVV X T a fa) (hd : (x == ("__debug__" : Str)) = false := by decide) (hs : PlainIx a := by intro _ _; rfl) : EV X T (.Subscript (.Name x p) a pos) (cixMS tabS fa) :=
  pe_mono (pe_ix ix_kdict (pe_glob (v := .ref d) hg hm rfl hd) ha hs) fun σ H Q ⟨Z, h⟩ => by
  refine ⟨Z, rz_mono (rv_bind POk.mono h) fun Z R a S p v H1 Z1 s1 r1 a1 => ?_⟩
  obtain ⟨u, Z2, s2, o2, h2⟩ := p v H1 Z1 s1 r1 a1
  obtain ⟨x, o, R3, S3, sz, w, e, rel, pf⟩ := rz_op1 h2 o2
  cases x with
  | str k =>
    have e : (lookS tabS k).map OV.d = some o := e
    cases q : lookS tabS k with
    | none => rw [q] at e; cases e
    | some z =>
      rw [q] at e
      cases e
      obtain ⟨r, kd, hr⟩ := D k z q
      exact ⟨d, k, r, rfl, w.str, kd, pf r H1 Z2 (Sub.refl _) (rel.push (hr Z2))⟩
  | _ => cases e
end
end PL

/-! PL21: zip of texts, lists, tuples in any mix; enumerate -/
namespace PL
open PySem PySem.Spec PyProof.Rows L2 LamX

theorem pairedV : ∀ {xs : List V} {us : List Value} {i : Nat} {u : Value}, Paired RelV xs us → us[i]? = some u → ∃ x, xs[i]? = some x ∧ RelV x u
  | _, _, _, _, .nil, e => by simp at e
  | _, _, 0, _, .cons a _, e => by simp at e; subst e; exact ⟨_, rfl, a⟩
  | _, _, i + 1, _, .cons _ b, e => by
    obtain ⟨x, h1, h2⟩ := pairedV (i := i) b (by simpa using e)
    exact ⟨x, by simpa using h1, h2⟩
/-- a source of items: what it begins, what it draws -/
structure Src (P : Program) (w : World) (K : PySem.W.Frag) (v : V) (xs : List V) (go : Hp → Prop) (ex : List Addr) (tn : Addr → Nat → Heap → Prop) : Prop where
  obj : ∀ it i h, tn it i h → ∃ o, h.get? it = some o ∧ ∀ c, o.data ≠ .cell c
  keep : ∀ it i h h', tn it i h → (∀ o, h.get? it = some o → h'.get? it = some o) → tn it i h'
  beg : ∀ (X : Cx), X.prog = P → X.w = w → X.K = K → ∀ (pins : List (Addr × Obj)) (s : Shared) (σ : L2.St) (H : Hp) (u : Value), Inv X pins σ H s → go H → RelV v u →
    (∀ b ∈ ex, b < s.heap.objs.size) ∧ ∃ (o : Obj) (HH : Heap → Prop), Begins u o HH ∧ HH s.heap ∧ ∀ it h, h.get? it = some o → tn it 0 h
  drw : ∀ (X : Cx), X.prog = P → X.w = w → X.K = K → X.A.handled = none → ∀ (pins : List (Addr × Obj)) (s : Shared) (σ : L2.St) (H : Hp), Inv X pins σ H s → go H → ∀ it i, tn it i s.heap → it ∉ ex →
    ∃ (Pv : Nat → Value → Prop) (St : Nat → Heap → Prop), Draws P w X.A.in1 it (it :: ex) xs.length Pv St ∧ St i s.heap ∧ (∀ i u, Pv i u → ∃ x, xs[i]? = some x ∧ RelV x u) ∧ ∀ i h, St i h → tn it i h

theorem src_list {P : Program} {w : World} {K : PySem.W.Frag} {a : Addr} {xs : List V} : Src P w K (.ref a) xs (fun H => SqL K H a xs) [a] (fun it i h => h.IsListIter it a i) where
  obj := fun it i h ⟨o, e, c, d⟩ => ⟨o, e, fun v z => by rw [d] at z; cases z⟩
  keep := fun it i h h' st k => st.at k
  beg := by
    intro X hP hw hK pins s σ H u I g r
    subst hP hw hK
    cases r
    obtain ⟨its, rv, p, _⟩ := I.list g
    refine ⟨fun b hb => ?_, _, _, begins_list a its.toArray, p.isList, fun it h e => ⟨_, e, rfl, rfl⟩⟩
    rw [List.mem_singleton.mp hb]; exact p.lt
  drw := by
    intro X hP hw hK hh pins s σ H I g it i st hn
    subst hP hw hK
    obtain ⟨its, rv, p, _⟩ := I.list g
    have hl := rv.length
    refine ⟨_, _, (show its.toArray.size = xs.length by simp; omega) ▸ Draws.list (show X.A.in1.handled = none from hh) it a (fun z => hn (by simp [z])) its.toArray, ⟨st, p.isList⟩, fun i u e => ?_, fun i h st => st.1⟩
    exact pairedV rv (by simpa using e)
theorem src_tup {P : Program} {w : World} {K : PySem.W.Frag} {a : Addr} {xs : List V} : Src P w K (.ref a) xs (fun H => SqT K H a xs) [a] (fun it i h => h.IsTupleIter it a i) where
  obj := fun it i h ⟨o, e, c, d⟩ => ⟨o, e, fun v z => by rw [d] at z; cases z⟩
  keep := fun it i h h' st k => st.at k
  beg := by
    intro X hP hw hK pins s σ H u I g r
    subst hP hw hK
    cases r
    obtain ⟨its, rv, p, _⟩ := I.tuple g
    obtain ⟨o1, ho1, _⟩ := id p
    refine ⟨fun b hb => ?_, _, _, begins_tuple a its.toArray, p, fun it h e => ⟨_, e, rfl, rfl⟩⟩
    rw [List.mem_singleton.mp hb]; exact Heap.lt_size ho1
  drw := by
    intro X hP hw hK hh pins s σ H I g it i st hn
    subst hP hw hK
    obtain ⟨its, rv, p, _⟩ := I.tuple g
    have hl := rv.length
    refine ⟨_, _, (show its.toArray.size = xs.length by simp; omega) ▸ Draws.tuple (show X.A.in1.handled = none from hh) it a (fun z => hn (by simp [z])) its.toArray, ⟨st, p⟩, fun i u e => ?_, fun i h st => st.1⟩
    exact pairedV rv (by simpa using e)
theorem src_str {P : Program} {w : World} {K : PySem.W.Frag} {z : Str} : Src P w K (.str z) (z.cps.toList.map fun c => V.str ⟨#[c]⟩) (fun _ => True) [] (fun it i h => ∃ t, h.IsStrIter it (strIterType z) z t i) where
  obj := fun it i h ⟨t, o, e, c, d⟩ => ⟨o, e, fun v z => by rw [d] at z; cases z⟩
  keep := fun it i h h' ⟨t, o, ho, r⟩ k => ⟨t, o, k o ho, r⟩
  beg := by
    intro X hP hw hK pins s σ H u I g r
    obtain ⟨t, rfl⟩ := r
    exact ⟨(fun b hb => nomatch hb), _, _, begins_text z t, trivial, fun it h e => ⟨t, _, e, rfl, rfl⟩⟩
  drw := by
    intro X hP hw hK hh pins s σ H I g it i st hn
    obtain ⟨t, st⟩ := st
    refine ⟨_, _, (show z.cps.size = (z.cps.toList.map fun c => V.str ⟨#[c]⟩).length by simp) ▸ Draws.text (show X.A.in1.handled = none from hh) it z t, st, fun i u ⟨c, t2, e, eu⟩ => ⟨.str ⟨#[c]⟩, ?_, ?_⟩, fun i h st => ⟨t, st⟩⟩
    · rw [List.getElem?_map, Array.getElem?_toList, e]; rfl
    · exact ⟨t2, eu⟩
/-- pairs of two sources -/
def Itz2 (xs ys : List V) (g1 g2 : Hp → Prop) : It :=
  ⟨fun i H => g1 H ∧ g2 H ∧ i < min xs.length ys.length,
    fun i H v H' => ∃ T x y, v = .ref T ∧ H T = none ∧ H' = upd H T (.tup [x, y]) ∧ xs[i]? = some x ∧ ys[i]? = some y,
    fun i H => g1 H ∧ g2 H ∧ i = min xs.length ys.length⟩
theorem turn_zip2 {P : Program} {w : World} {K : PySem.W.Frag} {v1 v2 : V} {xs ys : List V} {g1 g2 : Hp → Prop} {e1 e2 : List Addr} {t1 t2 : Addr → Nat → Heap → Prop} {elts : List Expr} {kk : Nat} {tpos : Pos} {z TI TO i1 i2 : Addr}
    (S1 : Src P w K v1 xs g1 e1 t1) (S2 : Src P w K v2 ys g2 e2 t2) (D : ZipSep2 z TI TO i1 i2 (i1 :: e1) (i2 :: e2)) (n1 : i1 ∉ e1) (n2 : i2 ∉ e2) :
    Turn P w K (.Tuple elts kk tpos) (Itz2 xs ys g1 g2) [z, TI, TO, i1, i2] z (fun i h => IsZip h z TI TO .none ∧ IsTupOf2 h TI (.ref i1) (.ref i2) ∧ (∃ x y, IsTupOf2 h TO x y) ∧ t1 i1 i h ∧ t2 i2 i h) where
  mem := by simp
  obj := fun i h st c hc => by
    obtain ⟨hz, hTI, ⟨x, y, hTO⟩, h1, h2⟩ := st
    have e' : c = z ∨ c = TI ∨ c = TO ∨ c = i1 ∨ c = i2 := by simpa using hc
    rcases e' with q | q | q | q | q
    · rw [q]; exact ⟨_, hz, fun v q => nomatch q⟩
    · rw [q]; exact ⟨_, hTI, fun v q => nomatch q⟩
    · rw [q]; exact ⟨_, hTO, fun v q => nomatch q⟩
    · rw [q]; exact S1.obj _ _ _ h1
    · rw [q]; exact S2.obj _ _ _ h2
  keep := fun i h h' st k => by
    obtain ⟨hz, hTI, ⟨x, y, hTO⟩, h1, h2⟩ := st
    exact ⟨k z (by simp) _ hz, k TI (by simp) _ hTI, ⟨x, y, k TO (by simp) _ hTO⟩, S1.keep _ _ _ _ h1 (fun o q => k i1 (by simp) o q), S2.keep _ _ _ _ h2 (fun o q => k i2 (by simp) o q)⟩
  item := by
    intro X hP hw hK hc i pins s σ H E I hf st hg
    subst hP hw hK
    obtain ⟨hz, hTI, ⟨x0, y0, hTO⟩, h1, h2⟩ := st
    obtain ⟨gx, gy, hi⟩ := hg
    obtain ⟨P1, St1, D1, s1, r1, b1⟩ := S1.drw X rfl rfl rfl (I.ok.hd hc) pins s σ H I gx i1 i h1 n1
    obtain ⟨P2, St2, D2, s2, r2, b2⟩ := S2.drw X rfl rfl rfl (I.ok.hd hc) pins s σ H I gy i2 i h2 n2
    have hzl : z < s.heap.objs.size := Heap.lt_size hz
    refine wpAny_pyNext_zipD2_item D D1 D2 hz hTI hTO s1 s2 (by omega) (by omega) fun u u2 h' tk p1 p2 z' TO' h1' h2' hT hsz hk => ?_
    obtain ⟨x, hx, ru⟩ := r1 i u p1
    obtain ⟨y, hy, ru2⟩ := r2 i u2 p2
    refine ⟨_, rfl, wpAny_letOwnedTupleGo_zip (s := { s with heap := h', toks := tk }) z' fun h'' z'' sb => ?_⟩
    have hT2 : h''.get? s.heap.objs.size = some { cls := .type "tuple", data := .seq #[u, u2] } := (sb.2 _ (Nat.ne_of_gt hzl)).trans hT
    have new : ObjOk X.prog X.w (upd H s.heap.objs.size (.tup [x, y])) h'' s.heap.objs.size (.tup [x, y]) :=
      ⟨by show 2 ≤ sizeLine; decide, [u, u2], .cons ru (.cons ru2 .nil), ⟨_, hT2, rfl, _, rfl⟩⟩
    have I1 : Inv X pins σ (upd H s.heap.objs.size (.tup [x, y])) { s with heap := h'', toks := tk } :=
      I.turnedNew (t' := tk) (ch := [z, TI, TO, i1, i2]) (fun c o hb q => (sb.2 c (fun q' => hb (by simp [q']))).trans (hk c o (fun q' => hb (by simp [q'])) (fun q' => hb (by simp [q'])) (fun q' => hb (by simp [q'])) (fun q' => hb (by simp [q'])) q)) hf (Nat.le_refl _) new
    refine ⟨.ref s.heap.objs.size, _, I1, rfl, ⟨_, x, y, rfl, I.hok.fresh (Nat.le_refl _), rfl, hx, hy⟩, ⟨z'', ?_, ⟨u, u2, ?_⟩, ?_, ?_⟩, fun c hcm => ?_⟩
    · exact (sb.2 _ D.TIz).trans (hk _ _ D.TIz D.TITO D.TIi1 D.TIi2 hTI)
    · exact (sb.2 _ D.TOz).trans TO'
    · exact S1.keep _ _ _ _ (b1 _ _ h1') fun o q => (sb.2 _ (fun e => D.zf1 (by rw [← e]; exact D.mem1))).trans q
    · exact S2.keep _ _ _ _ (b2 _ _ h2') fun o q => (sb.2 _ (fun e => D.zf2 (by rw [← e]; exact D.mem2))).trans q
    · have hlt : c < s.heap.objs.size := by
        have e' : c = z ∨ c = TI ∨ c = TO ∨ c = i1 ∨ c = i2 := by simpa using hcm
        rcases e' with q | q | q | q | q
        · rw [q]; exact hzl
        · rw [q]; exact Heap.lt_size hTI
        · rw [q]; exact Heap.lt_size hTO
        · rw [q]; obtain ⟨_, e1, _⟩ := S1.obj _ _ _ h1; exact Heap.lt_size e1
        · rw [q]; obtain ⟨_, e2, _⟩ := S2.obj _ _ _ h2; exact Heap.lt_size e2
      rw [upd_ne (Nat.ne_of_lt hlt)]
      exact (hf c hcm).1
  done := by
    intro X hP hw hK hc i pins s σ H E I hf st hg
    subst hP hw hK
    obtain ⟨hz, hTI, ⟨x0, y0, hTO⟩, h1, h2⟩ := st
    obtain ⟨gx, gy, hi⟩ := hg
    obtain ⟨P1, St1, D1, s1, r1, b1⟩ := S1.drw X rfl rfl rfl (I.ok.hd hc) pins s σ H I gx i1 i h1 n1
    obtain ⟨P2, St2, D2, s2, r2, b2⟩ := S2.drw X rfl rfl rfl (I.ok.hd hc) pins s σ H I gy i2 i h2 n2
    exact wpAny_pyNext_zipD2_end D D1 D2 hz hTI hTO s1 s2 (by omega) (by omega) (by omega) fun h' tk hk => ⟨rfl, I.turnedL (t' := tk) (ch := [z, TI, TO, i1, i2]) (fun c o hb q =>
      hk c o (fun q' => hb (by simp [q'])) (fun q' => hb (by simp [q'])) (fun q' => hb (by simp [q'])) (fun q' => hb (by simp [q'])) q) hf⟩
  self := fun A i s Q E st h => wpAny_pyIter_zip st.1 h

def iZip2 (P : Program) (w : World) (K : PySem.W.Frag) (ta : TA) : TI := fun σ H R => ta σ H fun vs H1 => ∃ (v1 v2 : V) (xs ys : List V) (g1 g2 : Hp → Prop) (e1 e2 : List Addr) (t1 t2 : Addr → Nat → Heap → Prop), vs = [v1, v2] ∧ Src P w K v1 xs g1 e1 t1 ∧ Src P w K v2 ys g2 e2 t2 ∧ g1 H1 ∧ g2 H1 ∧ R (Itz2 xs ys g1 g2) H1
theorem pi_zip2 {X : Cx} {e e2 : Expr} {ta : TA} {p pos tpos : Pos} {elts : List Expr} {kk : Nat} (hg : Gl X "zip") (hm : X.mg "zip" = none) (ha : PA X [e, e2] ta)
    (hs : starEach [e, e2] X.env = (false, eval e X.env) :: starEach [e2] X.env := by rfl) (hpl : (backTo pos (starEach [e2] X.env)).any (·.1) = false := by rfl) :
    PI X (.Tuple elts kk tpos) (.Call (.Name "zip" p) [e, e2] [] pos) (iZip2 X.prog X.w X.K ta) := by
  refine ⟨fun pins s σ H R I h => ?_⟩
  refine Call_ (ld_blt I hg hm PyProof.Rows.boot_zip (PyProof.Rows.callWith_type1 (thn (ha.run pos pins s σ H _ I h) fun us s1 ⟨vs, H1, I1, r1, q1⟩ => ?_) hs hpl))
  obtain ⟨v1, v2, xs, ys, g1, g2, x1, x2, t1, t2, ex, S1, S2, gx, gy, q⟩ := q1
  subst ex
  cases r1 with
  | cons r rr =>
    cases rr with
    | cons r' rr =>
      cases rr
      obtain ⟨b1, o1, HH1, B1, h1, k1⟩ := S1.beg X rfl rfl rfl pins s1 σ H1 _ I1 gx r
      obtain ⟨b2, o2, HH2, B2, h2, k2⟩ := S2.beg X rfl rfl rfl pins s1 σ H1 _ I1 gy r'
      refine zip_begins2 B1 B2 h1 h2 fun h' hz hTI hTO e1 e2 hsz hk => wpAny_pyIter_zip hz ?_
      have I2 : Inv X pins σ H1 { s1 with heap := h' } := I1.kept (t' := s1.toks) hk
      refine ⟨s1.heap.objs.size + 4, [s1.heap.objs.size + 4, s1.heap.objs.size + 2, s1.heap.objs.size + 3, s1.heap.objs.size, s1.heap.objs.size + 1], _, _, H1, rfl, I2,
        turn_zip2 S1 S2 (zip_sep2 b1 b2) (fun z => Nat.lt_irrefl _ (b1 _ z)) (fun z => Nat.lt_irrefl _ (Nat.lt_trans (Nat.lt_succ_self _) (b2 _ z))), ⟨hz, hTI, ⟨_, _, hTO⟩, k1 _ _ e1, k2 _ _ e2⟩, fun c hcm => ?_, q⟩
      have e' : c = s1.heap.objs.size + 4 ∨ c = s1.heap.objs.size + 2 ∨ c = s1.heap.objs.size + 3 ∨ c = s1.heap.objs.size ∨ c = s1.heap.objs.size + 1 := by simpa using hcm
      have hle : s1.heap.objs.size ≤ c := by
        rcases e' with z | z | z | z | z
        · rw [z]; exact Nat.le_add_right _ _
        · rw [z]; exact Nat.le_add_right _ _
        · rw [z]; exact Nat.le_add_right _ _
        · rw [z]; exact Nat.le_refl _
        · rw [z]; exact Nat.le_add_right _ _
      exact I1.fpOk hle (I1.hok.fresh hle)

/-! as readings -/
def seqD : PyData → Option (List PyData)
  | .str z => some (z.cps.toList.map fun c => .str ⟨#[c]⟩)
  | .list xs => some xs
  | .tuple xs => some xs
  | _ => none
theorem frAll_str {K : PySem.W.Frag} {Z : Hp} : ∀ l : List Nat, FrAll K Z (l.map fun c => V.str ⟨#[c]⟩) (l.map fun c => PyData.str ⟨#[c]⟩)
  | [] => .nil
  | c :: l => .cons (.str _) (frAll_str l)
theorem src_of {P : Program} {w : World} {K : PySem.W.Frag} {Z : Hp} {v : V} {x : PyData} {ds : List PyData} (f : Fr K Z v x) (e : seqD x = some ds) :
    ∃ (xs : List V) (g : Hp → Prop) (ex : List Addr) (t : Addr → Nat → Heap → Prop), Src P w K v xs g ex t ∧ FrAll K Z xs ds ∧ ∀ Z' H, Sub Z Z' → Sub Z' H → g H := by
  cases f with
  | str z => cases e; exact ⟨_, _, _, _, src_str, frAll_str _, fun _ _ _ _ => trivial⟩
  | lst h a => cases e; exact ⟨_, _, _, _, src_list, a, fun Z' H s1 s2 => .inl (Rd.sub (Rd.sub h s1) s2)⟩
  | tup h a => cases e; exact ⟨_, _, _, _, src_tup, a, fun Z' H s1 s2 => sqT_sub (sqT_sub h s1) s2⟩
  | _ => cases e
def zipD : List PyData → Option (List PyData)
  | [x, y] => match seqD x, seqD y with
    | some xs, some ys => some (List.zipWith (fun a b => .tuple [a, b]) xs ys)
    | _, _ => none
  | _ => none
def zipE (ga : M (List AV)) : M (List PyData) := ga >>= fun as => M.lift ((frs as).bind zipD)
theorem goes_zip {K : PySem.W.Frag} {T : List (Addr × Str)} {Z : Hp} {xs ys : List V} {ds es : List PyData} {g1 g2 : Hp → Prop} (fx : FrAll K Z xs ds) (fy : FrAll K Z ys es) (h1 : ∀ Z' H, Sub Z Z' → Sub Z' H → g1 H) (h2 : ∀ Z' H, Sub Z Z' → Sub Z' H → g2 H) :
    Goes K T Z (Itz2 xs ys g1 g2) (List.zipWith (fun a b => PyData.tuple [a, b]) ds es) := fun Z1 R S σ H s1 rel i => by
  have l1 := fx.length
  have l2 := fy.length
  refine ⟨fun hi => ⟨h1 _ _ s1 rel.z, h2 _ _ s1 rel.z, by rw [hi, List.length_zipWith, l1, l2]⟩, fun d hd => ?_⟩
  obtain ⟨dx, dy, e1, e2, rfl⟩ : ∃ dx dy, ds[i]? = some dx ∧ es[i]? = some dy ∧ PyData.tuple [dx, dy] = d := by
    rw [List.getElem?_zipWith] at hd
    split at hd
    · rename_i a b e1 e2
      exact ⟨a, b, e1, e2, Option.some.inj hd⟩
    · cases hd
  have k1 : i < ds.length := (List.getElem?_eq_some_iff.mp e1).1
  have k2 : i < es.length := (List.getElem?_eq_some_iff.mp e2).1
  refine ⟨⟨h1 _ _ s1 rel.z, h2 _ _ s1 rel.z, by omega⟩, fun x H' ⟨t, u, w, ex, ht, eH, hx, hy⟩ => ?_⟩
  subst ex eH
  obtain ⟨u', a1, f1⟩ := fx.get e1
  obtain ⟨w', a2, f2⟩ := fy.get e2
  rw [hx] at a1; cases a1
  rw [hy] at a2; cases a2
  have r2 := rel.frozen ht (.tup [u, w]) (fun _ z => by cases z)
  have zp : Z1 t = none := by
    cases e : Z1 t with
    | none => rfl
    | some o => rw [rel.z _ _ e] at ht; cases ht
  exact ⟨upd Z1 t (.tup [u, w]), sub_upd _ zp, r2, .tup (SqT.of upd_same) (.cons (f1.sub (s1.trans (sub_upd _ zp))) (.cons (f2.sub (s1.trans (sub_upd _ zp))) .nil))⟩
section
variable {X : Cx} {T : List (Addr × Str)} {e e2 : Expr} {ga : M (List AV)} {p pos tpos : Pos} {elts : List Expr} {kk : Nat}
theorem evi_zip (hg : Gl X "zip") (hm : X.mg "zip" = none) (ha : EVA X T [e, e2] ga)
    (hs : starEach [e, e2] X.env = (false, eval e X.env) :: starEach [e2] X.env := by rfl) (hpl : (backTo pos (starEach [e2] X.env)).any (·.1) = false := by rfl) :
    EVI X T (.Tuple elts kk tpos) (.Call (.Name "zip" p) [e, e2] [] pos) (zipE ga) := pi_mono (pi_zip2 hg hm ha hs hpl) fun σ H R0 ⟨Z, h⟩ => by
  refine ⟨Z, rz_mono (ra_bind PIt.mono h) fun Z R as S p vs H1 Z1 s1 r1 a1 => ?_⟩
  obtain ⟨us, Z2, s2, o2, h2⟩ := p vs H1 Z1 s1 r1 a1
  obtain ⟨ds, R3, S3, e, rel, pf⟩ := rz_lift h2
  cases q : frs us with
  | none => rw [q] at e; cases e
  | some as =>
    rw [q] at e
    have e : zipD as = some ds := e
    unfold zipD at e
    split at e
    · rename_i x y
      split at e
      · rename_i xs ys q1 q2
        cases e
        have f := o2.frs q
        cases f with
        | cons f1 f =>
          cases f with
          | cons f2 f =>
            cases f
            obtain ⟨us1, g1, x1, t1, S1, k1, m1⟩ := src_of (P := X.prog) (w := X.w) f1 q1
            obtain ⟨us2, g2, x2, t2, S2, k2, m2⟩ := src_of (P := X.prog) (w := X.w) f2 q2
            exact ⟨_, _, us1, us2, g1, g2, x1, x2, t1, t2, rfl, S1, S2, m1 _ _ (Sub.refl _) rel.z, m2 _ _ (Sub.refl _) rel.z, pf _ H1 Z2 (Sub.refl _) rel (goes_zip k1 k2 m1 m2)⟩
      · cases e
    · cases e
end
end PL

/-! PL22: for k, v in D.items(), D a dict of the written program -/
namespace PL
open PySem PySem.Spec PyProof.Rows L2 LamX

/-- entries as pairs -/
inductive CPair (K : PySem.W.Frag) : List DictEntry → List (V × V) → List (PyData × PyData) → Prop
  | nil : CPair K [] [] []
  | cons {e : DictEntry} {k v : V} {a x : PyData} {es : List DictEntry} {vs : List (V × V)} {tab : List (PyData × PyData)} : RelV k e.key → (∀ Z, Fr K Z k a) → RelV v e.val → (∀ Z, Fr K Z v x) → CPair K es vs tab → CPair K (e :: es) ((k, v) :: vs) ((a, x) :: tab)
structure CItm (K : PySem.W.Frag) (d : Addr) (tab : List (PyData × PyData)) : Prop where
  ex : ∃ es n vs, K.lookup d = some ⟨.type "dict", none, .dict es n, #[]⟩ ∧ CPair K es.toList vs tab
  low : (d == sysModules) = false
section
variable {K : PySem.W.Frag}
theorem CPair.len {es : List DictEntry} {vs : List (V × V)} {tab : List (PyData × PyData)} (h : CPair K es vs tab) : es.length = vs.length ∧ vs.length = tab.length := by
  induction h with
  | nil => exact ⟨rfl, rfl⟩
  | cons _ _ _ _ _ ih => exact ⟨congrArg (· + 1) ih.1, congrArg (· + 1) ih.2⟩
theorem CPair.at {es : List DictEntry} {vs : List (V × V)} {tab : List (PyData × PyData)} (h : CPair K es vs tab) : ∀ (i : Nat) (e : DictEntry), es[i]? = some e → ∃ p q, vs[i]? = some p ∧ tab[i]? = some q ∧ RelV p.1 e.key ∧ RelV p.2 e.val ∧ (∀ Z, Fr K Z p.1 q.1) ∧ ∀ Z, Fr K Z p.2 q.2 := by
  induction h with
  | nil => intro i e q; simp at q
  | cons h1 h2 h3 h4 _ ih =>
    intro i e q
    cases i with
    | zero => simp at q; subst q; exact ⟨_, _, rfl, rfl, h1, h3, h2, h4⟩
    | succ i => exact ih i e (by simpa using q)
theorem CEnt.pairs {es : List DictEntry} {tab : List (Int × PyData)} (h : CEnt K es tab) : ∃ vs, CPair K es vs (tab.map fun p => (.int p.1, p.2)) := by
  induction h with
  | nil => exact ⟨_, .nil⟩
  | @cons e i t v x es tab h1 h2 h3 h4 _ ih =>
    obtain ⟨vs, ih⟩ := ih
    exact ⟨_, .cons (k := .int i) (by rw [h1]; exact ⟨t, rfl⟩) (fun _ => .int i) h3 h4 ih⟩
theorem CInt.itm {d : Addr} {tab : List (Int × PyData)} (D : CInt K d tab) : CItm K d (tab.map fun p => (.int p.1, p.2)) := by
  obtain ⟨es, n, hl, ce⟩ := D.ex
  obtain ⟨vs, cp⟩ := ce.pairs
  exact ⟨⟨es, n, vs, hl, cp⟩, D.low⟩
end
def Itc (vs : List (V × V)) : It :=
  ⟨fun i _ => i < vs.length, fun i H v H' => ∃ T p, v = .ref T ∧ H T = none ∧ H' = upd H T (.tup [p.1, p.2]) ∧ vs[i]? = some p, fun i _ => i = vs.length⟩
theorem turn_citems {P : Program} {w : World} {K : PySem.W.Frag} {d it : Addr} {es : Array DictEntry} {n : Nat} {vs : List (V × V)} {tab : List (PyData × PyData)} {elts : List Expr} {kk : Nat} {tpos : Pos}
    (hl : K.lookup d = some ⟨.type "dict", none, .dict es n, #[]⟩) (ce : CPair K es.toList vs tab) :
    Turn P w K (.Tuple elts kk tpos) (Itc vs) [it] it (fun i h => ∃ ok ov, IsItemIter h it d i es.size n ok ov) where
  mem := by simp
  obj := fun i h st b hb => by
    have e : b = it := by simpa using hb
    subst e
    obtain ⟨ok, ov, e⟩ := st
    exact ⟨_, e, fun v z => nomatch z⟩
  keep := fun i h h' st k => let ⟨ok, ov, e⟩ := st; ⟨ok, ov, k it (by simp) _ e⟩
  item := by
    intro X hP hw hK hc i pins s σ H E I hf st hg
    subst hP hw hK
    obtain ⟨ok, ov, he⟩ := st
    have hi : i < vs.length := hg
    have hsz : es.size = vs.length := by rw [← Array.length_toList]; exact ce.len.1
    have hi2 : i < es.size := by omega
    obtain ⟨p, q, h1, h2, h3, h4, h5, h6⟩ := ce.at i es[i] (by rw [Array.getElem?_toList]; exact Array.getElem?_eq_getElem hi2)
    have hm : s.heap.DictRaw d es n := ⟨_, I.kIn _ _ hl, ⟨rfl, rfl, rfl⟩, rfl⟩
    have hlt : it < s.heap.objs.size := Heap.lt_size he
    refine wpAny_pyNext_items_item_raw he hm hi2 fun h' ho hT hz hk => ?_
    refine ⟨_, rfl, wpAny_letOwnedTupleGo_items (s := { s with heap := h' }) ho fun h'' he' sb => ?_⟩
    have hT2 : h''.get? s.heap.objs.size = some { cls := .type "tuple", data := .seq #[es[i].key, es[i].val] } := (sb.2 _ (Nat.ne_of_gt hlt)).trans hT
    have new : ObjOk X.prog X.w (upd H s.heap.objs.size (.tup [p.1, p.2])) h'' s.heap.objs.size (.tup [p.1, p.2]) :=
      ⟨by show 2 ≤ sizeLine; decide, [es[i].key, es[i].val], .cons h3 (.cons h4 .nil), ⟨_, hT2, rfl, _, rfl⟩⟩
    have I1 : Inv X pins σ (upd H s.heap.objs.size (.tup [p.1, p.2])) { s with heap := h'' } :=
      I.turnedNew (t' := s.toks) (ch := [it]) (fun b ob hb e => (sb.2 b (by simpa using hb)).trans (hk b ob (by simpa using hb) e)) hf (Nat.le_refl _) new
    refine ⟨.ref s.heap.objs.size, _, I1, rfl, ⟨_, p, rfl, I.hok.fresh (Nat.le_refl _), rfl, h1⟩, ⟨_, _, he'⟩, fun b hb => ?_⟩
    have e : b = it := by simpa using hb
    rw [e, upd_ne (Nat.ne_of_lt hlt)]
    exact (hf it (by simp)).1
  done := by
    intro X hP hw hK hc i pins s σ H E I hf st hg
    subst hP hw hK
    obtain ⟨f0, f1, f2, f3, f4, f5⟩ := hf it (by simp)
    obtain ⟨ok, ov, he⟩ := st
    have hi : i = vs.length := hg
    have hsz : es.size = vs.length := by rw [← Array.length_toList]; exact ce.len.1
    have hm : s.heap.DictRaw d es n := ⟨_, I.kIn _ _ hl, ⟨rfl, rfl, rfl⟩, rfl⟩
    exact wpAny_pyNext_items_end_raw (I.ok.hd hc) he hm (by omega) fun h' eb => ⟨rfl, I.turned (t' := s.toks) (fun b ob hb e => eb b ob hb e) f0 f1 f3 f4 f5⟩
  self := fun A i s Q E st h => let ⟨_, _, e⟩ := st; PySem.W.kcp_self e h
def iCItems (td : TE) (d : Addr) (vs : List (V × V)) : TI := fun σ H R => td σ H fun x H1 => x = .ref d ∧ R (Itc vs) H1
section
variable {X : Cx} {e : Expr} {td : TE} {apos cpos : Pos}
theorem pi_citems {elts : List Expr} {kk : Nat} {tpos : Pos} {d : Addr} {es : Array DictEntry} {n : Nat} {vs : List (V × V)} {tab : List (PyData × PyData)} (hl : X.K.lookup d = some ⟨.type "dict", none, .dict es n, #[]⟩) (ce : CPair X.K es.toList vs tab) (low : (d == sysModules) = false)
    (he : PE X e td) (hbase : attributeBase e "items" X.env (eval e X.env) = eval e X.env := by rfl) (hline : (apos.endLine == cpos.line) = true := by rfl) :
    PI X (.Tuple elts kk tpos) (.Call (.Attribute e "items" apos) [] [] cpos) (iCItems td d vs) := by
  refine ⟨fun pins s σ H R I h => ?_⟩
  refine wpAny_Call_method (T := "dict") (id := "dict.items") hbase rfl hline F.plainAttrs_dict F.slot_dict_items F.type_dict_items (thn (he.run pins s σ H _ I h) fun u s1 ⟨x, H1, I1, rx, ex, q⟩ => ?_)
  subst ex
  obtain rfl : u = Value.ref d := rx
  have hm : s1.heap.DictRaw d es n := ⟨_, I1.kIn _ _ hl, ⟨rfl, rfl, rfl⟩, rfl⟩
  refine ⟨hm.typeIs, (fun a e => by cases e; exact ⟨_, I1.kIn _ _ hl, rfl⟩), ?_⟩
  have I2 : Inv X pins σ H1 { s1 with heap := s1.heap.push { cls := .type "dict_items", data := .fields #[.ref d] } } := I1.kept (t' := s1.toks) fun b ob q => Heap.get?_push_of_some _ q
  have fin : wpAny (model X.prog X.w) X.A (pyIter (.ref s1.heap.objs.size)) (PIE X pins σ (.Tuple elts kk tpos) R) X.xe { s1 with heap := s1.heap.push { cls := .type "dict_items", data := .fields #[.ref d] } } := by
    refine wpAny_pyIter_items_raw (d := d) ⟨_, Heap.get?_push_size _ rfl, rfl, rfl⟩ (hm.at fun _ e => Heap.get?_push_of_some _ e) (pi_one (tk := s1.toks) I2 _ (turn_citems hl ce) ⟨.none, .none, ?_⟩ q)
    exact Heap.get?_push_size _ rfl
  show wpAny _ _ (callWith cpos (.builtin "dict.items") [.ref d] [] []) _ X.xe s1
  exact method_meetsIn F.slot_dict_items F.entry_dict_items rfl (PySem.evalArgs_none ⟨rfl, hm.typeIs, F.args_dict_items_1 _, _, meets_dict_items_raw d low, ⟨_, _, hm⟩, fin⟩)

def citM (tab : List (PyData × PyData)) : M (List PyData) := M.ret (tab.map fun p => .tuple [p.1, p.2])
theorem evi_citems {T : List (Addr × Str)} {x : Str} {p : Pos} {elts : List Expr} {kk : Nat} {tpos : Pos} {d : Addr} {tab : List (PyData × PyData)} (D : CItm X.K d tab) (hg : Gl X x) (hm : X.mg x = some (.ref d)) (hd : (x == ("__debug__" : Str)) = false := by decide)
    (hbase : attributeBase (.Name x p) "items" X.env (eval (.Name x p) X.env) = eval (.Name x p) X.env := by rfl) (hline : (apos.endLine == cpos.line) = true := by rfl) :
    EVI X T (.Tuple elts kk tpos) (.Call (.Attribute (.Name x p) "items" apos) [] [] cpos) (citM tab) := by
  obtain ⟨es, n, vs, hl, cp⟩ := D.ex
  refine pi_mono (pi_citems hl cp D.low (pe_glob (v := .ref d) hg hm rfl hd) hbase hline) fun σ H R0 ⟨Z, h⟩ => ?_
  obtain ⟨R, S, rel, pf⟩ := rz_ret h
  have hlen := cp.len
  refine ⟨rfl, pf _ H Z (Sub.refl _) rel fun Z1 R1 S1 σ1 H1 s1 rel1 i => ⟨fun hi => ?_, fun q hq => ?_⟩⟩
  · show i = vs.length
    rw [hi, List.length_map]; exact hlen.2.symm
  · rw [List.getElem?_map] at hq
    cases e : tab[i]? with
    | none => rw [e] at hq; cases hq
    | some q0 =>
      rw [e] at hq
      cases hq
      have hi : i < tab.length := (List.getElem?_eq_some_iff.mp e).1
      have hi2 : i < es.toList.length := by omega
      obtain ⟨v0, q1, h1, h2, h3, h4, h5, h6⟩ := cp.at i _ (List.getElem?_eq_getElem hi2)
      rw [e] at h2
      cases h2
      refine ⟨by show i < vs.length; omega, fun x H' ⟨t, p, ex, ht, eH, hp⟩ => ?_⟩
      subst ex eH
      rw [h1] at hp
      cases hp
      have r2 := rel1.frozen ht (.tup [v0.1, v0.2]) (fun _ z => by cases z)
      have zp : Z1 t = none := by
        cases e : Z1 t with
        | none => rfl
        | some o => rw [rel1.z _ _ e] at ht; cases ht
      exact ⟨upd Z1 t (.tup [v0.1, v0.2]), sub_upd _ zp, r2, .tup (SqT.of upd_same) (.cons (h5 _) (.cons (h6 _) .nil))⟩
end
end PL

/-! PL23: {..}[x]; s.count(t) -/
namespace PL
open PySem PySem.Spec PyProof.Rows L2 LamX
section
variable {X : Cx} {T : List (Addr × Str)} {mp : List Nat} {e : Expr} {fe : M OV} {pos : Pos} {Z R H : Hp} {S : SS} {σ : L2.St}
/-- a displayed dict at a text that the slot i holds -/
def dispIx (i : Nat) (f : M OV) : M OV := f >>= fun o => fun S => match o, S[i]? with
  | .dct xs, some (some (.d (.str k))) => match getO xs (.inr k) with
    | some (.d y) => some (.ok (.d y), S)
    | _ => none
  | _, _ => none
theorem ev_dispIx {i : Nat} {x : Str} {px : Pos} (hu : X.A.units + 1 < cLine) (he : EV X T e fe) (hN : X.N[i]? = some x) (hv : Vis X.env.scope x) (hd : (x == ("__debug__" : Str)) = false := by decide) (hcd : (x == ("__classdict__" : Str)) = false := by decide) (hs : NoSl (.Name x px) := by intro _ _; rfl) :
    EV X T (.Subscript e (.Name x px) pos) (dispIx i fe) := pe_mono (pe_dget hu he (pe_var hN hv hd hcd) hs) fun σ H Q ⟨Z, h⟩ => by
  refine ⟨Z, rz_mono (rd_bind POk.mono h) fun Z R o S p v H1 Z1 s1 r1 => ?_⟩
  obtain ⟨o', Z2, R2, S2, r, S', W, s2, rel, er, tk, q⟩ := p v H1 Z1 s1 r1
  split at er
  · rename_i xs k e2
    split at er
    · rename_i y q1
      cases er
      obtain ⟨a, ws, L, h1, h2, h3, _⟩ := Rel.dct (i := 0) rel rfl
      simp at h1
      subst h1
      obtain ⟨v, Lv, g1, g2, _⟩ := ownD_get h3 q1
      obtain ⟨_, f⟩ := g2.frz
      obtain ⟨u, h4, f4⟩ := rel.pop.get e2
      cases f4
      refine ⟨_, h4, a, v, rfl, ?_, q v H1 Z2 (Sub.refl _) (rel.pop.push f)⟩
      rw [← g1]
      exact DGet.k (k := .inr k) h2
    · cases er
  · cases er
end
end PL

/-! PL24: try: x = the lambda() except C as n: x = n; return x; a def whose code object is known; str.count -/
namespace PL
open PySem PySem.Spec PyProof.Rows L2 LamX

section
variable {X : Cx}
theorem set3b {σ : L2.St} {v : Option V} (h : σ.length = 3) {u : Option V} : ((σ.set 2 u).set 1 v).set 2 none = [σ[0], v, none] := set3 h
theorem keep2_gives {Ng : List Str} {x a e n r q : Str} {sg : Scope} {g CS : Addr} {cdg : Value} {p2 p4 p5 p6 p7 p8 p9 p10 p11 p12 p13 p14 : Pos} (hNg : Ng = [a, r, n]) (nd : Ng.Nodup) (hge : sg.names.lookup e = some .globalImplicit) (hme : X.mg e = some (.ref CS)) (hde : (e == ("__debug__" : Str)) = false)
    (hla : sg.names.lookup a = some .local) (hlr : sg.names.lookup r = some .local) (hln : sg.names.lookup n = some .local) (hdr : (r == ("__debug__" : Str)) = false) (hdr2 : (r == ("__classdict__" : Str)) = false) (hdn : (n == ("__debug__" : Str)) = false) (hdn2 : (n == ("__classdict__" : Str)) = false)
    (hsw2 : ∀ Y : Cx, Y.env.scope = sg → swapsWith (.Call (.Name a p4) [] [] p5) (some (.Name r p2)) p6.line Y.env = pure false) (hsw3 : ∀ Y : Cx, Y.env.scope = sg → swapsWith (.Name n p8) (some (.Name r p9)) p10.line Y.env = pure false) :
    GivesTo X Ng x sg g cdg [.Try [.Assign [.Name r p2] (.Call (.Name a p4) [] [] p5) p6] [.ExceptHandler (some (.Name e p7)) (some n) [.Assign [.Name r p9] (.Name n p8) p10] p11] [] [] p12, .Return (some (.Name r p13)) p14] a q (TKeep X.K CS true) := by
  subst hNg
  intro f c' s H Q tl act hc h
  have hgl : Gl (cxOf C8.CX0 X.prog X.w X.K X.mg X.base [a, r, n] x sg g cdg X.A X.stack s H C8.E0).nox e := hge
  refine ⟨_, pss_cons (ps_try_keep (X := (cxOf C8.CX0 X.prog X.w X.K X.mg X.base [a, r, n] x sg g cdg X.A X.stack s H C8.E0).nox) (i := 2) (c := .ref CS)
      (ts := fun a cls d => tAsg (tVar 2) (gName 1))
      (tb := fun W D σ H => σ = [some (.ref f), none, none] ∧ ∃ Ech : XK, (∀ cls d σ' H', Ech cls d H' → σ'.length = 3 → W cls d σ' H') ∧ H c' = some (CodeO c' q) ∧ tl Ech H fun v H1 => D.nx (σ.set 1 (some v)) H1)
      rfl rfl rfl nd rfl hln ⟨hgl, hde, .inl hme⟩ L2.takes0 (fun W pn xe tk _ => ?_) (fun a oe cls d pn _ _ => pss_one (ps_set (i := 1) nd rfl (.inl hlr) (pe_var (i := 2) rfl (.inl hln) hdn hdn2) (hsw3 _ rfl) (.inl rfl))))
    (pss_one (ps_ret (pe_var (i := 1) rfl (.inl hlr) hdr hdr2))), ?_⟩
  · refine ⟨fun pins s' σ H' D I h' => ?_⟩
    obtain ⟨hσ, Ech, hW, h2, h3⟩ := h'
    have hp := act _ pn xe Ech p4 p5 (takesLen tk) (fun cls d σ' H' h hl => hW cls d σ' H' h hl)
    have hq := pss_one (ps_set (i := 1) (pos := p6) (pos' := p2) nd rfl (.inl hlr) hp (hsw2 _ rfl) (.inl rfl))
    exact hq.run pins s' σ H' D I ⟨by rw [hσ]; rfl, h2, h3⟩
  · refine ⟨rfl, fun cls d H' => ∃ b, PySem.W.exmOne X.K cls (.ref CS) = some b ∧ (b = true → ∀ a, H' a = none → Q (.ref a) (upd H' a (ExV cls d a))) ∧ (b = false → False), fun cls d σ' H' ⟨b, e1, e2, e3⟩ hl => ⟨b, e1, fun hb a' ha' => ?_, fun hb => e3 hb⟩, hc, ?_⟩
    · match σ', hl with
      | [s0, s1, s2], _ => exact ⟨.ref a', rfl, .ref a', rfl, e2 hb a' ha'⟩
    · have ef : (fun (v : V) (H' : Hp) => Q v H') = fun (v : V) (H1 : Hp) => ∃ w, ([some (V.ref f), none, none].set 1 (some v))[1]? = some (some w) ∧ Q w H1 := by
        funext v H1
        exact propext ⟨fun h => ⟨v, rfl, h⟩, fun ⟨w, e, h⟩ => by cases e; exact h⟩
      have h' : tl (fun cls d H' => ∃ b, PySem.W.exmOne X.K cls (.ref CS) = some b ∧ (b = true → ∀ a, H' a = none → Q (.ref a) (upd H' a (ExV cls d a))) ∧ (b = false → False)) H (fun v H' => Q v H') := h
      rw [ef] at h'
      exact h'
end

/-! ### a def whose code object is known -/
structure FunC (K : PySem.W.Frag) (x qual : Str) (st : Stmt) (f : Addr) (fd : FuncData) (cl : Addr) : Prop where
  ex : ∃ (oc : Value) (od : Option Addr) (kV doc pm : Value) (an : Option Addr) (ct : Value) (osl : Array (Option Value)),
    fd = PySem.W.fnOf x qual (defArgs st) (defBody st) (defScope st) .none kV doc pm an (.ref cl) ct ∧ K.lookup f = some ⟨oc, od, .func fd, osl⟩ ∧ PySem.W.codeIn K (.ref cl) qual = true
  kp : PySem.W.keepIn K (.ref f) = true
section
variable {P : Program} {w : World} {K : PySem.W.Frag} {mg : Str → Option Value} {base : Heap} {T : List (Addr × Str)}
theorem FunC.fn {x qual : Str} {st : Stmt} {f cl : Addr} {fd : FuncData} (F : FunC K x qual st f fd cl) : Fun K x qual st f fd := by
  obtain ⟨oc, od, kV, doc, pm, an, ct, osl, h⟩ := F.ex
  exact ⟨⟨oc, od, kV, doc, pm, an, _, ct, osl, h⟩, F.kp⟩
theorem def_okC {x qual : Str} {st : Stmt} {f cl : Addr} {fd : FuncData} {N ps : List Str} {k : Nat} {mp : List Nat} {fden : SM} (F : FunC K x qual st f fd cl) (S : FnScope N ps (defScope st)) (hmp : mp.all (fun i => decide (i < ps.length)) = true)
    (hb : ∀ (A : Around) (outer : List Env) (s : Shared) (H : Hp) (E : XK), Room k (A.deeper (envOfC qual (defScope st) s.heap.objs.size f (.ref cl))) →
      SVs (cxOf (L2.CX P w) P w K mg base N qual (defScope st) f (.ref cl) A outer s H E) T mp (defBody st) fden) : DefOk P w K T mg base (k + 1) f fd ps (runF ps.length N.length mp fden) := by
  obtain ⟨oc, od, kV, doc, pm, an, ct, osl, rfl, lk, hcd⟩ := F.ex
  refine fn_of lk hcd S (fun vs H Q E h => h.1) fun A outer s H vs Q E hr h => ⟨_, hb A outer s H E hr, ?_⟩
  exact body_of (X := cxOf (L2.CX P w) P w K mg base N qual (defScope st) f (.ref cl) A outer s H E) rfl (fun i hi => of_decide_eq_true (List.all_eq_true.mp hmp i hi)) (takes_of rfl rfl rfl rfl) h
theorem funC_mk {x qual : Str} {st : Stmt} {f cl : Addr} {oc : Value} {od : Option Addr} {kV doc pm : Value} {an : Option Addr} {ct : Value} {osl : Array (Option Value)}
    (l : K.lookup f = some ⟨oc, od, .func (PySem.W.fnOf x qual (defArgs st) (defBody st) (defScope st) .none kV doc pm an (.ref cl) ct), osl⟩) (c : PySem.W.codeIn K (.ref cl) qual = true) (p : PySem.W.keepIn K (.ref f) = true) :
    FunC K x qual st f (PySem.W.fnOf x qual (defArgs st) (defBody st) (defScope st) .none kV doc pm an (.ref cl) ct) cl := ⟨⟨_, _, _, _, _, _, _, _, rfl, l, c⟩, p⟩
end

/-! ### s.count(t) -/
section
variable {X : Cx} {T : List (Addr × Str)}
def oCount : PyData → List PyData → Option OV
  | .str a, [.str b] => okI (Txt.count a b : Int)
  | _, _ => none
def rCountA : V → List V → Hp → VK → Prop := fun x xs H Q => ∃ a b, x = .str a ∧ xs = [.str b] ∧ Q (.int (Txt.count a b)) H
theorem mt_countA : MtR X "str.count" rCountA := mt_count
theorem mg_count : MethG X T rCountA oCount := by
  intro Z v vs x xs o σ H Q sz hv hvs e fin
  unfold oCount at e
  split at e
  · cases e
    obtain ⟨w, rfl, hw⟩ := hvs.one
    exact ⟨_, _, hv.str, by rw [hw.str], fin.val (.int _)⟩
  · cases e
end
end PL

/-! PL25: written data of the program, decided by a look at the written part -/
namespace PL
open PySem PySem.Spec PyProof.Rows L2 LamX

def eqStrB (s t : Str) : Bool := s.cps.toList == t.cps.toList
theorem eqStrB_ok {s t : Str} (h : eqStrB s t = true) : s = t := by
  obtain ⟨⟨a⟩⟩ := s
  obtain ⟨⟨b⟩⟩ := t
  unfold eqStrB at h
  have h : a = b := by simpa using h
  rw [h]
mutual
def wrB (K : PySem.W.Frag) : PyData → Value → Bool
  | .none, .none => true
  | .bool b, .bool c => b == c
  | .int i, .int j _ => decide (i = j)
  | .str s, .str t _ => eqStrB s t
  | .tuple xs, .ref a => (match K.lookup a with
    | some ⟨.type c, _, .seq its _, _⟩ => decide (c = "tuple") && (Nat.ble its.size 1000 && wrBL K xs its.toList)
    | _ => false)
  | _, _ => false
def wrBL (K : PySem.W.Frag) : List PyData → List Value → Bool
  | [], [] => true
  | x :: xs, u :: us => wrB K x u && wrBL K xs us
  | _, _ => false
end
/-- u is written as x -/
def Wr (K : PySem.W.Frag) (u : Value) (x : PyData) : Prop := ∃ v, RelV v u ∧ ∀ Z, Fr K Z v x
def WrL (K : PySem.W.Frag) (us : List Value) (xs : List PyData) : Prop := ∃ vs, Vals vs us ∧ ∀ Z, FrAll K Z vs xs
section
variable {K : PySem.W.Frag}
mutual
theorem wrB_ok : ∀ {x : PyData} {u : Value}, wrB K x u = true → Wr K u x
  | .none, u, h => by
    cases u with
    | none => exact ⟨.non, rfl, fun _ => .non⟩
    | _ => simp [wrB] at h
  | .bool b, u, h => by
    cases u with
    | bool c => simp [wrB] at h; subst h; exact ⟨.bl b, rfl, fun _ => .bl b⟩
    | _ => simp [wrB] at h
  | .int i, u, h => by
    cases u with
    | int j t => simp [wrB] at h; subst h; exact ⟨.int i, ⟨t, rfl⟩, fun _ => .int i⟩
    | _ => simp [wrB] at h
  | .str s, u, h => by
    cases u with
    | str z t =>
      have h : eqStrB s z = true := by simpa [wrB] using h
      cases eqStrB_ok h
      exact ⟨.str s, ⟨t, rfl⟩, fun _ => .str s⟩
    | _ => simp [wrB] at h
  | .list xs, u, h => by cases u <;> simp [wrB] at h
  | .dict xs, u, h => by cases u <;> simp [wrB] at h
  | .tuple xs, u, h => by
    cases u with
    | ref a =>
      simp only [wrB] at h
      split at h
      · rename_i c d its n sl hl
        simp only [Bool.and_eq_true, decide_eq_true_eq, Nat.ble_eq] at h
        obtain ⟨rfl, h1, h2⟩ := h
        obtain ⟨vs, r, f⟩ := wrBL_ok h2
        exact ⟨.ref a, rfl, fun Z => .tup (.inr ⟨_, its, n, hl, rfl, rfl, Nat.le_trans h1 (by rw [sizeLine_eq]; decide), r⟩) (f Z)⟩
      · cases h
    | _ => simp [wrB] at h
theorem wrBL_ok : ∀ {xs : List PyData} {us : List Value}, wrBL K xs us = true → WrL K us xs
  | [], [], _ => ⟨[], .nil, fun _ => .nil⟩
  | [], _ :: _, h => by simp [wrBL] at h
  | _ :: _, [], h => by simp [wrBL] at h
  | x :: xs, u :: us, h => by
    simp only [wrBL, Bool.and_eq_true] at h
    obtain ⟨v, r, f⟩ := wrB_ok h.1
    obtain ⟨vs, rs, fs⟩ := wrBL_ok h.2
    exact ⟨v :: vs, .cons r rs, fun Z => .cons (f Z) (fs Z)⟩
end
/-! int keys -/
def ceB (K : PySem.W.Frag) : List DictEntry → List (Int × PyData) → Bool
  | [], [] => true
  | e :: es, p :: tab => (match e.key with
    | .int j _ => decide (j = p.1)
    | _ => false) && (decide (e.hash = hashInt p.1) && (wrB K p.2 e.val && ceB K es tab))
  | _, _ => false
theorem ceB_ok : ∀ {es : List DictEntry} {tab : List (Int × PyData)}, ceB K es tab = true → CEnt K es tab
  | [], [], _ => .nil
  | [], _ :: _, h => by simp [ceB] at h
  | _ :: _, [], h => by simp [ceB] at h
  | e :: es, (i, x) :: tab, h => by
    simp only [ceB, Bool.and_eq_true, decide_eq_true_eq] at h
    obtain ⟨h1, h2, h3, h4⟩ := h
    obtain ⟨v, r, f⟩ := wrB_ok h3
    split at h1
    · rename_i j t q
      have h1 : j = i := by simpa using h1
      subst h1
      exact .cons q h2 r f (ceB_ok h4)
    · cases h1
def cdI (K : PySem.W.Frag) (d : Addr) (tab : List (Int × PyData)) : Bool := match K.lookup d with
  | some ⟨.type c, none, .dict es _, sl⟩ => decide (c = "dict") && (sl.isEmpty && (!(d == sysModules) && ceB K es.toList tab))
  | _ => false
theorem cdI_ok {d : Addr} {tab : List (Int × PyData)} (h : cdI K d tab = true) : CInt K d tab := by
  unfold cdI at h
  split at h
  · rename_i c es n sl hl
    simp only [Bool.and_eq_true, decide_eq_true_eq, Bool.not_eq_true'] at h
    obtain ⟨rfl, h1, h2, h3⟩ := h
    have e1 : sl = #[] := Array.isEmpty_iff.mp h1
    subst e1
    exact ⟨⟨es, n, hl, ceB_ok h3⟩, h2⟩
  · cases h
/-! text keys -/
def csB (K : PySem.W.Frag) : List DictEntry → List (Str × PyData) → Bool
  | [], [] => true
  | e :: es, p :: tab => (match e.key with
    | .str j _ => eqStrB j p.1
    | _ => false) && (wrB K p.2 e.val && csB K es tab)
  | _, _ => false
def cdS (K : PySem.W.Frag) (d : Addr) (tab : List (Str × PyData)) : Bool := match K.lookup d with
  | some ⟨_, _, .dict es _, _⟩ => csB K es.toList tab
  | _ => false
theorem csB_find : ∀ {es : List DictEntry} {tab : List (Str × PyData)}, csB K es tab = true → ∀ z x, lookS tab z = some x → ∃ e, es.find? (·.key.isStr z) = some e ∧ Wr K e.val x
  | [], [], _, z, x, e => by simp [lookS] at e
  | [], _ :: _, h, _, _, _ => by simp [csB] at h
  | _ :: _, [], h, _, _, _ => by simp [csB] at h
  | e :: es, (k, y) :: tab, h, z, x, q => by
    simp only [csB, Bool.and_eq_true] at h
    obtain ⟨h1, h2, h3⟩ := h
    split at h1
    · rename_i j t hk
      cases eqStrB_ok h1
      by_cases hz : k = z
      · subst hz
        have : lookS ((k, y) :: tab) k = some y := by simp [lookS]
        rw [this] at q
        cases q
        exact ⟨e, by rw [List.find?_cons]; simp [hk, Value.isStr], wrB_ok h2⟩
      · have : lookS ((k, y) :: tab) z = lookS tab z := by simp [lookS, hz]
        rw [this] at q
        obtain ⟨e', g1, g2⟩ := csB_find h3 z x q
        refine ⟨e', ?_, g2⟩
        rw [List.find?_cons]
        have : e.key.isStr z = false := by rw [hk]; simp [Value.isStr, hz]
        rw [this]
        exact g1
    · cases h1
theorem cdS_ok {w : World} {d : Addr} {tab : List (Str × PyData)} {ks : List Str} (h1 : He.dicW K d = some (He.keysIn w.params ks)) (h2 : cdS K d tab = true) : CStr K w d tab := by
  obtain ⟨es, n, D⟩ := He.dicW_ok h1
  intro z x e
  unfold cdS at h2
  rw [D.at_] at h2
  obtain ⟨e', g1, v, r, f⟩ := csB_find h2 z x e
  refine ⟨v, ⟨es, n, e'.val, D.at_, D.lit, ?_, r⟩, f⟩
  unfold PySem.W.nsIn
  rw [D.at_]
  simp only
  rw [g1]
/-- a constant of the program -/
def cnB (K : PySem.W.Frag) (x : Str) (d : PyData) : Bool := match PySem.W.nsIn K mainGlobals x with
  | some (some u) => wrB K d u
  | _ => false
theorem cnB_ok {x : Str} {d : PyData} (h : cnB K x d = true) : ∃ u, PySem.W.nsIn K mainGlobals x = some (some u) ∧ Wr K u d := by
  unfold cnB at h
  split at h
  · rename_i u q
    exact ⟨u, q, wrB_ok h⟩
  · cases h
end
section
variable {X : Cx} {T : List (Addr × Str)} {x : Str} {p : Pos} {u : Value} {d : PyData}
/-- a constant's name -/
def CnG (K : PySem.W.Frag) (mg : Str → Option Value) (x : Str) (d : PyData) : Prop := ∃ u, mg x = some u ∧ Wr K u d
theorem ev_con (hg : Gl X x) (h : CnG X.K X.mg x d) (hd : (x == ("__debug__" : Str)) = false := by decide) : EV X T (.Name x p) (cst d) := by
  obtain ⟨u, hm, v, r, f⟩ := h
  exact ev_glob (v := v) hg hm r (fun _ => f _) hd
end
end PL

/-! PL26: more for reckoning: shapes, equality, texts -/
namespace PL
open PySem PySem.Spec PyProof.Rows L2 LamX

def Shp (n : Nat) (x : PyData) : Prop := PyData.canLay0 x = true ∧ PyData.depth x ≤ n
theorem Shp.mono {m n : Nat} {x : PyData} (h : Shp m x) (e : m ≤ n) : Shp n x := ⟨h.1, Nat.le_trans h.2 e⟩
theorem Shp.sh {n : Nat} {x : PyData} (h : Shp n x) (e : n ≤ 64 := by decide) : SeqAt.shaped x = true := by
  unfold SeqAt.shaped
  rw [Bool.and_eq_true]
  exact ⟨h.1, decide_eq_true (Nat.le_trans h.2 e)⟩
theorem shp_int (n : Nat) (i : Int) : Shp n (.int i) := ⟨by simp [PyData.canLay0], by simp [PyData.depth]⟩
theorem shp_bool (n : Nat) (i : Bool) : Shp n (.bool i) := ⟨by simp [PyData.canLay0], by simp [PyData.depth]⟩
theorem shp_none (n : Nat) : Shp n .none := ⟨by simp [PyData.canLay0], by simp [PyData.depth]⟩
theorem shp_str (n : Nat) {z : Str} (h : PyData.strOk z = true) : Shp n (.str z) := ⟨by simp [PyData.canLay0, h], by simp [PyData.depth]⟩
theorem shp_all {n : Nat} : ∀ {xs : List PyData}, (∀ x ∈ xs, Shp n x) → PyData.canLayAll0 xs = true ∧ PyData.depthAll xs ≤ n
  | [], _ => ⟨rfl, Nat.zero_le _⟩
  | x :: xs, h => by
    obtain ⟨h1, h2⟩ := shp_all (xs := xs) fun y hy => h y (List.mem_cons_of_mem _ hy)
    obtain ⟨g1, g2⟩ := h x List.mem_cons_self
    refine ⟨?_, ?_⟩
    · show (PyData.canLay0 x && PyData.canLayAll0 xs) = true
      rw [g1, h1]; rfl
    · show max (PyData.depth x) (PyData.depthAll xs) ≤ n
      exact Nat.max_le.mpr ⟨g2, h2⟩
theorem shp_tup {n : Nat} {xs : List PyData} (h : ∀ x ∈ xs, Shp n x) : Shp (n + 1) (.tuple xs) := by
  obtain ⟨h1, h2⟩ := shp_all h
  refine ⟨?_, ?_⟩
  · show PyData.canLayAll0 xs = true
    exact h1
  · simp only [PyData.depth]
    omega
theorem shp_lst {n : Nat} {xs : List PyData} (h : ∀ x ∈ xs, Shp n x) : Shp (n + 1) (.list xs) := by
  obtain ⟨h1, h2⟩ := shp_all h
  refine ⟨?_, ?_⟩
  · show PyData.canLayAll0 xs = true
    exact h1
  · simp only [PyData.depth]
    omega
theorem oEq_of {m n : Nat} {x y : PyData} (hx : Shp m x) (hy : Shp n y) (e1 : m ≤ 64 := by decide) (e2 : n ≤ 64 := by decide) : oEq x y = some (.d (.bool (PyData.eqv x y))) := by
  unfold oEq
  rw [hx.sh e1, hy.sh e2]
  rfl
theorem oNe_of {m n : Nat} {x y : PyData} (hx : Shp m x) (hy : Shp n y) (e1 : m ≤ 64 := by decide) (e2 : n ≤ 64 := by decide) : oNe x y = some (.d (.bool (!PyData.eqv x y))) := by
  unfold oNe
  rw [hx.sh e1, hy.sh e2]
  rfl
mutual
theorem eqv_refl : ∀ x : PyData, PyData.canLay0 x = true → PyData.eqv x x = true
  | .none, _ => by simp [PyData.eqv]
  | .bool b, _ => by simp [PyData.eqv]
  | .int i, _ => by simp [PyData.eqv]
  | .str s, _ => by simp [PyData.eqv]
  | .list xs, h => by
    have h : PyData.canLayAll0 xs = true := h
    simp only [PyData.eqv]
    exact eqvAll_refl xs h
  | .tuple xs, h => by
    have h : PyData.canLayAll0 xs = true := h
    simp only [PyData.eqv]
    exact eqvAll_refl xs h
  | .dict xs, h => by simp [PyData.canLay0] at h
theorem eqvAll_refl : ∀ xs : List PyData, PyData.canLayAll0 xs = true → PyData.eqvAll xs xs = true
  | [], _ => rfl
  | x :: xs, h => by
    have h : (PyData.canLay0 x && PyData.canLayAll0 xs) = true := h
    rw [Bool.and_eq_true] at h
    show (PyData.eqv x x && PyData.eqvAll xs xs) = true
    rw [eqv_refl x h.1, eqvAll_refl xs h.2]; rfl
end
theorem Shp.refl {n : Nat} {x : PyData} (h : Shp n x) : PyData.eqv x x = true := eqv_refl x h.1
/-- a number within bounds -/
def isNum : PyData → Int → Int → Bool
  | .int i, lo, hi => decide (lo ≤ i) && decide (i < hi)
  | _, _, _ => false
/-- data without exceptions at the top -/
def NX (x : PyData) : Prop := ∀ kvs, x ≠ .dict kvs
theorem Shp.nx {n : Nat} {x : PyData} (h : Shp n x) : NX x := fun kvs e => by
  subst e
  have := h.1
  simp [PyData.canLay0] at this
theorem shp_mem {n : Nat} : ∀ {xs : List PyData}, PyData.canLayAll0 xs = true → PyData.depthAll xs ≤ n → ∀ x ∈ xs, Shp n x
  | [], _, _, x, hx => by cases hx
  | y :: ys, h1, h2, x, hx => by
    have h1 : (PyData.canLay0 y && PyData.canLayAll0 ys) = true := h1
    rw [Bool.and_eq_true] at h1
    have h2 : max (PyData.depth y) (PyData.depthAll ys) ≤ n := h2
    obtain ⟨g1, g2⟩ := Nat.max_le.mp h2
    rcases List.mem_cons.mp hx with rfl | hx
    · exact ⟨h1.1, g1⟩
    · exact shp_mem h1.2 g2 x hx
theorem shp_mem_tup {n : Nat} {xs : List PyData} (h : Shp (n + 1) (.tuple xs)) : ∀ x ∈ xs, Shp n x := shp_mem h.1 (by have := h.2; simp only [PyData.depth] at this; omega)
theorem shp_mem_lst {n : Nat} {xs : List PyData} (h : Shp (n + 1) (.list xs)) : ∀ x ∈ xs, Shp n x := shp_mem h.1 (by have := h.2; simp only [PyData.depth] at this; omega)
/-! isinstance -/
def isTy (n : String) (x : PyData) : Bool := match tyName x with
  | some m => (kitB m n).getD false
  | none => false
@[simp] theorem isi_int_int (i : Int) : oIsi "int" (.int i) = some (.d (.bool true)) := by simp [oIsi, tyName, show kitB "int" "int" = some true from by decide]
@[simp] theorem isi_int_bool (i : Bool) : oIsi "int" (.bool i) = some (.d (.bool true)) := by simp [oIsi, tyName, show kitB "bool" "int" = some true from by decide]
@[simp] theorem isi_int_none : oIsi "int" .none = some (.d (.bool false)) := by simp [oIsi, tyName, show kitB "NoneType" "int" = some false from by decide]
@[simp] theorem isi_int_str (i : Str) : oIsi "int" (.str i) = some (.d (.bool false)) := by simp [oIsi, tyName, show kitB "str" "int" = some false from by decide]
@[simp] theorem isi_int_list (i : List PyData) : oIsi "int" (.list i) = some (.d (.bool false)) := by simp [oIsi, tyName, show kitB "list" "int" = some false from by decide]
@[simp] theorem isi_int_tuple (i : List PyData) : oIsi "int" (.tuple i) = some (.d (.bool false)) := by simp [oIsi, tyName, show kitB "tuple" "int" = some false from by decide]
@[simp] theorem isi_bool_int (i : Int) : oIsi "bool" (.int i) = some (.d (.bool false)) := by simp [oIsi, tyName, show kitB "int" "bool" = some false from by decide]
@[simp] theorem isi_bool_bool (i : Bool) : oIsi "bool" (.bool i) = some (.d (.bool true)) := by simp [oIsi, tyName, show kitB "bool" "bool" = some true from by decide]
@[simp] theorem isi_bool_none : oIsi "bool" .none = some (.d (.bool false)) := by simp [oIsi, tyName, show kitB "NoneType" "bool" = some false from by decide]
@[simp] theorem isi_bool_str (i : Str) : oIsi "bool" (.str i) = some (.d (.bool false)) := by simp [oIsi, tyName, show kitB "str" "bool" = some false from by decide]
@[simp] theorem isi_bool_list (i : List PyData) : oIsi "bool" (.list i) = some (.d (.bool false)) := by simp [oIsi, tyName, show kitB "list" "bool" = some false from by decide]
@[simp] theorem isi_bool_tuple (i : List PyData) : oIsi "bool" (.tuple i) = some (.d (.bool false)) := by simp [oIsi, tyName, show kitB "tuple" "bool" = some false from by decide]
@[simp] theorem isi_tuple_int (i : Int) : oIsi "tuple" (.int i) = some (.d (.bool false)) := by simp [oIsi, tyName, show kitB "int" "tuple" = some false from by decide]
@[simp] theorem isi_tuple_bool (i : Bool) : oIsi "tuple" (.bool i) = some (.d (.bool false)) := by simp [oIsi, tyName, show kitB "bool" "tuple" = some false from by decide]
@[simp] theorem isi_tuple_none : oIsi "tuple" .none = some (.d (.bool false)) := by simp [oIsi, tyName, show kitB "NoneType" "tuple" = some false from by decide]
@[simp] theorem isi_tuple_str (i : Str) : oIsi "tuple" (.str i) = some (.d (.bool false)) := by simp [oIsi, tyName, show kitB "str" "tuple" = some false from by decide]
@[simp] theorem isi_tuple_list (i : List PyData) : oIsi "tuple" (.list i) = some (.d (.bool false)) := by simp [oIsi, tyName, show kitB "list" "tuple" = some false from by decide]
@[simp] theorem isi_tuple_tuple (i : List PyData) : oIsi "tuple" (.tuple i) = some (.d (.bool true)) := by simp [oIsi, tyName, show kitB "tuple" "tuple" = some true from by decide]
@[simp] theorem isi_str_int (i : Int) : oIsi "str" (.int i) = some (.d (.bool false)) := by simp [oIsi, tyName, show kitB "int" "str" = some false from by decide]
@[simp] theorem isi_str_bool (i : Bool) : oIsi "str" (.bool i) = some (.d (.bool false)) := by simp [oIsi, tyName, show kitB "bool" "str" = some false from by decide]
@[simp] theorem isi_str_none : oIsi "str" .none = some (.d (.bool false)) := by simp [oIsi, tyName, show kitB "NoneType" "str" = some false from by decide]
@[simp] theorem isi_str_str (i : Str) : oIsi "str" (.str i) = some (.d (.bool true)) := by simp [oIsi, tyName, show kitB "str" "str" = some true from by decide]
@[simp] theorem isi_str_list (i : List PyData) : oIsi "str" (.list i) = some (.d (.bool false)) := by simp [oIsi, tyName, show kitB "list" "str" = some false from by decide]
@[simp] theorem isi_str_tuple (i : List PyData) : oIsi "str" (.tuple i) = some (.d (.bool false)) := by simp [oIsi, tyName, show kitB "tuple" "str" = some false from by decide]
section
variable (i : Int) (b : Bool) (s : Str) (xs : List PyData)
@[simp] theorem isT_int : oIsiT ["tuple", "list"] (.int i) = some (.d (.bool false)) := by simp [oIsiT, tyName, show kitA "int" ["tuple", "list"] = some false from by decide]
@[simp] theorem isT_bool : oIsiT ["tuple", "list"] (.bool b) = some (.d (.bool false)) := by simp [oIsiT, tyName, show kitA "bool" ["tuple", "list"] = some false from by decide]
@[simp] theorem isT_none : oIsiT ["tuple", "list"] .none = some (.d (.bool false)) := by simp [oIsiT, tyName, show kitA "NoneType" ["tuple", "list"] = some false from by decide]
@[simp] theorem isT_str : oIsiT ["tuple", "list"] (.str s) = some (.d (.bool false)) := by simp [oIsiT, tyName, show kitA "str" ["tuple", "list"] = some false from by decide]
@[simp] theorem isT_list : oIsiT ["tuple", "list"] (.list xs) = some (.d (.bool true)) := by simp [oIsiT, tyName, show kitA "list" ["tuple", "list"] = some true from by decide]
@[simp] theorem isT_tuple : oIsiT ["tuple", "list"] (.tuple xs) = some (.d (.bool true)) := by simp [oIsiT, tyName, show kitA "tuple" ["tuple", "list"] = some true from by decide]
@[simp] theorem isL_int : oIsiT ["list", "tuple"] (.int i) = some (.d (.bool false)) := by simp [oIsiT, tyName, show kitA "int" ["list", "tuple"] = some false from by decide]
@[simp] theorem isL_bool : oIsiT ["list", "tuple"] (.bool b) = some (.d (.bool false)) := by simp [oIsiT, tyName, show kitA "bool" ["list", "tuple"] = some false from by decide]
@[simp] theorem isL_none : oIsiT ["list", "tuple"] .none = some (.d (.bool false)) := by simp [oIsiT, tyName, show kitA "NoneType" ["list", "tuple"] = some false from by decide]
@[simp] theorem isL_str : oIsiT ["list", "tuple"] (.str s) = some (.d (.bool false)) := by simp [oIsiT, tyName, show kitA "str" ["list", "tuple"] = some false from by decide]
@[simp] theorem isL_list : oIsiT ["list", "tuple"] (.list xs) = some (.d (.bool true)) := by simp [oIsiT, tyName, show kitA "list" ["list", "tuple"] = some true from by decide]
@[simp] theorem isL_tuple : oIsiT ["list", "tuple"] (.tuple xs) = some (.d (.bool true)) := by simp [oIsiT, tyName, show kitA "tuple" ["list", "tuple"] = some true from by decide]
end
theorem bools_mapB : ∀ bs : List Bool, bools (bs.map .bool) = some bs
  | [] => rfl
  | b :: bs => by
    show (bools (bs.map .bool)).map (b :: ·) = _
    rw [bools_mapB bs]; rfl
@[simp] theorem oAdd_t (own : Bool) (xs ys : List PyData) : oAdd own (.tuple xs) (.tuple ys) = if xs.length + ys.length ≤ sizeLine then some (.d (.tuple (xs ++ ys))) else none := rfl
@[simp] theorem cixM_S (tab : List (Int × PyData)) (fa : M AV) (S : SS) : cixM tab fa S = (fa >>= fun a => op1 (oCix tab) a) S := rfl
@[simp] theorem cixMS_S (tab : List (Str × PyData)) (fa : M AV) (S : SS) : cixMS tab fa S = (fa >>= fun a => op1 (oCixS tab) a) S := rfl
@[simp] theorem cinM_S (tab : List (Int × PyData)) (neg : Bool) (fa : M AV) (S : SS) : cinM tab neg fa S = (fa >>= fun a => op1 (oCin tab neg) a) S := rfl
@[simp] theorem zipE_S (ga : M (List AV)) (S : SS) : zipE ga S = (ga >>= fun as => M.lift ((frs as).bind zipD)) S := rfl
@[simp] theorem citM_S (tab : List (PyData × PyData)) (S : SS) : citM tab S = some (.ok (tab.map fun p => .tuple [p.1, p.2]), S) := rfl
@[simp] theorem itS_S (f : M OV) (S : SS) : itS f S = (f >>= fun o => M.lift (strOf o)) S := rfl
@[simp] theorem asgS_S (g : PyData → SS → Option SS) (f : M OV) (S : SS) : asgS g f S = doE f (fun o S => match o with
  | .d x => (g x S).map fun S' => (.nx, S')
  | _ => none) S := rfl
@[simp] theorem oLen_s (s : Str) : oLen [.str s] = if s.length ≤ sizeLine then some (.d (.int s.length)) else none := rfl
@[simp] theorem oCount_s (a b : Str) : oCount (.str a) [.str b] = some (.d (.int (Txt.count a b : Int))) := rfl
end PL

/-! PL27: control by single laws -/
namespace PL
open PySem PySem.Spec PyProof.Rows L2 LamX
@[simp] theorem items_c (x : PyData) (r : List OV) : items (.d x :: r) = (items r).map (x :: ·) := rfl
section
variable {S S1 S2 : SS} {f g : SM} {a b : Bool} {c d : M Bool}
theorem seq_nx {f g : SM} (h : f S = some (.nx, S1)) : seqS f g S = g S1 := by rw [seqS_S, h]
theorem seq_ret {o : OV} {f g : SM} (h : f S = some (.ret o, S1)) : seqS f g S = some (.ret o, S1) := by rw [seqS_S, h]
theorem seq_exc {o : PyData} {f g : SM} (h : f S = some (.exc o, S1)) : seqS f g S = some (.exc o, S1) := by rw [seqS_S, h]
theorem if_of {c : M Bool} {f g : SM} (h : c S = some (.ok b, S1)) : ifS c f g S = (if b then f else g) S1 := by rw [ifS_S, doE_S, h]
theorem if_t {c : M Bool} {f g : SM} (h : c S = some (.ok true, S1)) : ifS c f g S = f S1 := by rw [if_of h]; rfl
theorem if_f {c : M Bool} {f g : SM} (h : c S = some (.ok false, S1)) : ifS c f g S = g S1 := by rw [if_of h]; rfl
theorem and_t {c d : M Bool} (h : c S = some (.ok true, S1)) : andT c d S = d S1 := by rw [andT_S, bind_S, h]; rfl
theorem and_f {c d : M Bool} (h : c S = some (.ok false, S1)) : andT c d S = some (.ok false, S1) := by rw [andT_S, bind_S, h]; rfl
theorem or_f {c d : M Bool} (h : c S = some (.ok false, S1)) : orT c d S = d S1 := by rw [orT_S, bind_S, h]; rfl
theorem or_t {c d : M Bool} (h : c S = some (.ok true, S1)) : orT c d S = some (.ok true, S1) := by rw [orT_S, bind_S, h]; rfl
theorem and_all {c d : M Bool} (h : c S = some (.ok a, S)) (h2 : d S = some (.ok b, S)) : andT c d S = some (.ok (a && b), S) := by
  cases a
  · rw [and_f h]; rfl
  · rw [and_t h, h2]; rfl
theorem or_all {c d : M Bool} (h : c S = some (.ok a, S)) (h2 : d S = some (.ok b, S)) : orT c d S = some (.ok (a || b), S) := by
  cases a
  · rw [or_f h, h2]; rfl
  · rw [or_t h]; rfl
theorem not_of {c : M Bool} (h : c S = some (.ok a, S1)) : notT c S = some (.ok (!a), S1) := by rw [notT_S, bind_S, h]; rfl
theorem set_of {i : Nat} {f : M OV} {o : OV} (h : f S = some (.ok o, S1)) (hi : i < S1.length) : setS i f S = some (.nx, S1.set i (some o)) := by
  rw [setS_S, doE_S, h]
  simp only [putS_S]
  rw [if_pos hi]
theorem ret_of {f : M OV} {o : OV} (h : f S = some (.ok o, S1)) : retS f S = some (.ret o, S1) := by
  rw [retS_S, doE_S, h]
theorem for_of {fi : M (List PyData)} {g : PyData → SS → Option SS} {b : SM} {ds : List PyData} (h : fi S = some (.ok ds, S1)) : forS fi g b S = forL g b ds S1 := by
  rw [forS_S, doE_S, h]
theorem forL_step {g : PyData → SS → Option SS} {b : SM} {x : PyData} {xs : List PyData} (h1 : g x S = some S1) (h2 : b S1 = some (.nx, S2)) : forL g b (x :: xs) S = forL g b xs S2 := by
  show (match g x S with | some S1 => turnS b (forL g b xs) S1 | none => none) = _
  rw [h1]
  show turnS b (forL g b xs) S1 = _
  unfold turnS
  rw [h2]
theorem forL_ct {g : PyData → SS → Option SS} {b : SM} {x : PyData} {xs : List PyData} (h1 : g x S = some S1) (h2 : b S1 = some (.ct, S2)) : forL g b (x :: xs) S = forL g b xs S2 := by
  show (match g x S with | some S1 => turnS b (forL g b xs) S1 | none => none) = _
  rw [h1]
  show turnS b (forL g b xs) S1 = _
  unfold turnS
  rw [h2]
theorem forL_ret {g : PyData → SS → Option SS} {b : SM} {x : PyData} {xs : List PyData} {o : OV} (h1 : g x S = some S1) (h2 : b S1 = some (.ret o, S2)) : forL g b (x :: xs) S = some (.ret o, S2) := by
  show (match g x S with | some S1 => turnS b (forL g b xs) S1 | none => none) = _
  rw [h1]
  show turnS b (forL g b xs) S1 = _
  unfold turnS
  rw [h2]
theorem forL_exc {g : PyData → SS → Option SS} {b : SM} {x : PyData} {xs : List PyData} {o : PyData} (h1 : g x S = some S1) (h2 : b S1 = some (.exc o, S2)) : forL g b (x :: xs) S = some (.exc o, S2) := by
  show (match g x S with | some S1 => turnS b (forL g b xs) S1 | none => none) = _
  rw [h1]
  show turnS b (forL g b xs) S1 = _
  unfold turnS
  rw [h2]
theorem forL_bk {g : PyData → SS → Option SS} {b : SM} {x : PyData} {xs : List PyData} (h1 : g x S = some S1) (h2 : b S1 = some (.bk, S2)) : forL g b (x :: xs) S = some (.nx, S2) := by
  show (match g x S with | some S1 => turnS b (forL g b xs) S1 | none => none) = _
  rw [h1]
  show turnS b (forL g b xs) S1 = _
  unfold turnS
  rw [h2]
theorem forL_nil {g : PyData → SS → Option SS} {b : SM} : forL g b [] S = some (.nx, S) := rfl
theorem comp_of {own : Bool} {fi : M (List PyData)} {g : PyData → SS → Option SS} {ft : M Bool} {fe : M OV} {vs : List Nat} {ds acc : List PyData} (h : fi S = some (.ok ds, S1)) (hv : vs.all (fun i => decide (i < S1.length)) = true) (h2 : compL g ft fe vs ds [] (wipeS S1 vs) = some (acc, S2)) :
    compE own fi g ft fe vs S = some (.ok (newL own acc), S2) := by
  rw [compE_S, h]
  simp only
  rw [if_pos hv, h2]
  rfl
theorem toV_of {f : M OV} {x : PyData} (h : f S = some (.ok (.d x), S1)) : toV f S = some (.ok (.fr x), S1) := by
  rw [toV_S, bind_S, h]; rfl
theorem exc_of {f : M OV} {x : PyData} (h : f S = some (.error x, S1)) : exprS f S = some (.exc x, S1) := by
  rw [exprS_S, doE_S, h]
theorem cau_ok {K : PySem.W.Frag} {CS : Addr} {f : M OV} {o : OV} (h : f S = some (.ok o, S1)) : caughtM K CS true f S = some (.ok o, S1) := by
  rw [caughtM_S, h]; rfl
theorem cau_ex {K : PySem.W.Frag} {CS : Addr} {kp : Bool} {f : M OV} {x : PyData} (h : f S = some (.error x, S1)) (h2 : exm K CS x = some true) : caughtM K CS kp f S = some (.ok (.d x), S1) := by
  rw [caughtM_S, h]
  simp only [h2]
end
end PL

/-! PL28: the law's start where several defs hold lambdas; constants -/
namespace PL
open PySem PySem.Spec PyProof.Rows L2 LamX

theorem walkG2 {l : PySem.W.OpenLaw} {n : Nat} {q : Program} {loose : List Str} {XP : (Str → Option Value) → Heap → Prop} {YP : World → Heap → Prop} {d : DefRec} {K : Params → PySem.W.Frag} {xs : List Str}
    (hn : l.most = some n) (hn2 : n ≤ sizeLine) (hdf : d.params.defaults = []) (hr : xs.all (fun x => ((recsOf q).find? (fun e => e.name == x)).isSome) = true) (hY : ∀ (w : World) (h : Heap), YP w h → (K w.params).In h)
    (F : ∀ (w : World) (mg : Str → Option Value) (fa : Addr) (h : Heap), YP w h → (K w.params).In h → h.Ns mainGlobals mg → mg d.name = some (.ref fa) → (∀ x ∈ xs, ∀ c P, PySem.W.tabIn (K w.params) x = some (c, P) → PySem.W.CodeHd h c P ∧ h.get? P = some (PySem.W.tabObj #[])) → LawG l w (K w.params) n mg fa h) :
    PySem.W.WalkO q loose XP YP l.row.toRowW d [] (fun f vs => PySem.call f vs) := by
  refine Att.attach_callB hn hdf fun w s₀ s₁ mg mb fa o pm cd doc a vs ns G Y ho hd hcd hmg hobj hints hlen hbits hg => ?_
  obtain ⟨cs, hT, nT, C, hF⟩ := F w mg fa _ Y (hY w _ Y) G.T.g hmg fun x hx c P e => by
    have h1 := List.all_eq_true.mp hr x hx
    cases h2 : (recsOf q).find? (fun e => e.name == x) with
    | none => rw [h2] at h1; cases h1
    | some dL => exact PySem.W.tab_of G.T (hY w _ Y) h2 e
  exact law_callG (hY w _ Y) G.T.g G.T.b G.T.builtins G.T.nolimit hg hT nT C G.T.bmain hobj hints (Nat.le_trans hlen hn2) (fun base H tb e0 hH sq => hF base H _ a ns hlen hbits tb e0 hH sq) fun H e s' ⟨_, _, _, _, _, _, _, _, _, _, _, _, z⟩ => z
theorem cng_of {K : PySem.W.Frag} {h : Heap} {mg : Str → Option Value} {x : Str} {d : PyData} (X : K.In h) (G : h.Ns mainGlobals mg) (q : cnB K x d = true) : CnG K mg x d := by
  obtain ⟨u, e, r⟩ := cnB_ok q
  exact ⟨u, PySem.W.mg_of X G e, r⟩
end PL

/-! PL29: own exceptions whose __init__ says super().__init__(text) and then stores its parameters -/
namespace PL
open PySem PySem.Spec PyProof.Rows L2 LamX

/-- what the written part says of an __init__ that stands in the class D, its instance of the class C -/
structure SupC (P : Program) (K : PySem.W.Frag) (C D cda cc : Addr) : Prop where
  cell : ∃ cl cld csl, K.lookup cc = some ⟨cl, cld, .cell (some (.ref D)), csl⟩
  cls : ∃ cd, PySem.W.clsIn K D = some cd
  mro : PySem.W.mroIn K C (.ref D) = some true
  code : ∃ ccl cdd vs ccs file tf, K.lookup cda = some ⟨ccl, cdd, .fields vs, ccs⟩ ∧ vs[2]? = some (.str file tf) ∧ ((P.main.file : Str) == file) = true
  top : (P.main.scope.names.lookup ("super" : Str)).isSome = false
  sup : PySem.W.ks_superIn K C D "__init__" = some (some (.builtin "ValueError.__init__"))
  opq : PySem.W.nsIn K cStatics "thirdparty.any" = some none
  sub : PySem.W.subIn K (.ref C) (.type "ValueError") = some true

def supCx (CX : CXT) (P : Program) (w : World) (K : PySem.W.Frag) (mg : Str → Option Value) (base : Heap) (N : List Str) (qual : Str) (scope : Scope) (f : Addr) (cd : Value) (cc : Addr) (A : Around) (outer : List Env) (s : Shared) (H : Hp) (E : XK) : Cx where
  prog := P
  w := w
  K := K
  mg := mg
  base := base
  A := A.deeper (PySem.W.ksEnv qual scope s.heap.objs.size f cd cc)
  N := N
  s_0 := s
  H_0 := H
  env := PySem.W.ksEnv qual scope s.heap.objs.size f cd cc
  outer := outer
  stack := PySem.W.ksEnv qual scope s.heap.objs.size f cd cc :: outer
  ex := []
  calm := true
  fn := fun _ => false
  pn := []
  xe := fun e s' => wpAny (model P w) (A.deeper (PySem.W.ksEnv qual scope s.heap.objs.size f cd cc)) (leaving (PySem.W.ksEnv qual scope s.heap.objs.size f cd cc) e) (fun _ s'' => CX outer H s E e s'') (fun e' s'' => CX outer H s E e' s'') s'

/-- the scope of such an __init__ -/
structure SupS (N : List Str) (scope : Scope) : Prop where
  co : scope.isCoroutine = false
  gen : scope.isGenerator = false
  kind : scope.kind = .function
  nd : N.Nodup
  loc : ∀ x ∈ N, scope.names.lookup x = some .local
  sup : scope.names.lookup ("super" : Str) = some .globalImplicit
  cls : scope.names.lookup ("__class__" : Str) = some .free
  only : ∀ y, (scope.names.lookup y = some .cell ∨ scope.names.lookup y = some .free) → y = ("__class__" : Str)
  ncell : ∀ x ∈ scope.names, x.2 ≠ .cell

section
variable {CX : CXT} {P : Program} {w : World} {K : PySem.W.Frag} {mg : Str → Option Value} {base : Heap} {N : List Str} {qual : Str} {scope : Scope} {f cc : Addr} {cd : Value} {A : Around} {outer : List Env} {s : Shared} {H : Hp} {E : XK}
theorem zip_fst_sub : ∀ (N : List Str) (us : List Value), ((N.zip us).map Prod.fst).Sublist N
  | [], _ => by simp
  | _ :: _, [] => by simp
  | n :: N, u :: us => by
    rw [List.zip_cons_cons, List.map_cons]
    exact (zip_fst_sub N us).cons₂ n
theorem look1 {y : Str} {c cc : Addr} (h : List.lookup y [(("__class__" : Str), cc)] = some c) : y = ("__class__" : Str) ∧ c = cc := by
  rw [List.lookup_cons] at h
  by_cases e : y = ("__class__" : Str)
  · subst e
    simp at h
    exact ⟨rfl, h.symm⟩
  · have : (y == ("__class__" : Str)) = false := by simpa using e
    rw [this] at h
    simp at h
theorem sup_start {us : List Value} {vs : List V} {h₁ : Heap} {tk : Nat} (S : SupS N scope) (hd : A.handled = none) (e0 : Env0 P w K mg base A outer s H) (hcc : ∃ cl cld csl D, K.lookup cc = some ⟨cl, cld, .cell (some (.ref D)), csl⟩) (hl : vs.length = N.length) (r : Vals vs us)
    (hns : h₁.Ns s.heap.objs.size fun x => (N.zip us).reverse.lookup x) (hk : ∀ b o, s.heap.get? b = some o → h₁.get? b = some o) :
    Inv (supCx CX P w K mg base N qual scope f cd cc A outer s H E) [] (vs.map some) H { s with heap := h₁, toks := tk } := by
  have noA : ∀ b : Addr, b ∉ (supCx CX P w K mg base N qual scope f cd cc A outer s H E).ex := fun b z => absurd (show b ∈ ([] : List Addr) from z) (by simp)
  obtain ⟨cl, cld, csl, D, hcl⟩ := hcc
  have hb := e0.mod.kin _ _ hcl
  refine ⟨⟨e0.mod, S.kind, rfl, rfl, Nat.le_refl _, fun y z c h1 h2 => ?_, fun y hy => ?_, fun y c h _ => ?_, fun _ => hd, Around.frames_deeper e0.frames, .inr ⟨rfl, rfl⟩, fun b z => absurd z (noA b), e0.bs, e0.bsz, fun b _ _ => noA b, fun b z => absurd z (noA b), e0.funs, e0.frf⟩,
    rfl, e0.bare, Un.kept hk, ⟨_, hns, fun i y v h1 h2 h3 => ?_⟩, fun y c h => ?_, e0.hok.fresh (Nat.le_refl _), fun y c h => ?_, fun p hp => absurd (show p ∈ ([] : List (Addr × Obj)) from hp) (by simp), e0.hok.kept hk, ?_⟩
  · have h1 : List.lookup y [(("__class__" : Str), cc)] = some c := h1
    have h2 : List.lookup z [(("__class__" : Str), cc)] = some c := h2
    rw [(look1 h1).1, (look1 h2).1]
  · have hy : scope.names.lookup y = some .cell ∨ scope.names.lookup y = some .free := hy
    exact ⟨cc, by rw [S.only y hy]; show List.lookup _ [(("__class__" : Str), cc)] = _; simp [List.lookup]⟩
  · cases h
  · have h1 : N[i]? = some y := h1
    have hmem := List.mem_of_getElem? h1
    have ha : vs[i]? = some v := by
      rw [List.getElem?_map] at h2
      cases e : vs[i]? with
      | none => rw [e] at h2; cases h2
      | some a => rw [e] at h2; cases h2; rfl
    obtain ⟨u, hu, rv⟩ := r.get ha
    refine ⟨u, rv, .inl ⟨S.loc y hmem, ?_⟩⟩
    have key : ∀ (N : List Str) (us : List Value) (i : Nat), N.Nodup → N[i]? = some y → us[i]? = some u → (N.zip us).reverse.lookup y = some u := fun N us i nd hN hu => by
      have hz : (N.zip us)[i]? = some (y, u) := List.getElem?_zip_eq_some.mpr ⟨hN, hu⟩
      have hm : (y, u) ∈ (N.zip us).reverse := List.mem_reverse.mpr (List.mem_of_getElem? hz)
      have nd2 : ((N.zip us).reverse.map Prod.fst).Nodup := by
        rw [List.map_reverse]
        refine ((List.reverse_perm _).nodup_iff).mpr ?_
        exact nd.sublist (zip_fst_sub N us)
      generalize (N.zip us).reverse = L at hm nd2
      induction L with
      | nil => cases hm
      | cons p L ih =>
        obtain ⟨a, b⟩ := p
        rw [List.map_cons] at nd2
        obtain ⟨n1, n2⟩ := List.nodup_cons.mp nd2
        rw [List.lookup_cons]
        rcases List.mem_cons.mp hm with e | hm
        · cases e
          simp
        · have : (y == a) = false := by
            have : y ≠ a := fun z => n1 (by rw [← z]; exact List.mem_map.mpr ⟨(y, u), hm, rfl⟩)
            simpa using this
          rw [this]
          exact ih hm n2
    exact key N us i S.nd h1 hu
  · have h : List.lookup y [(("__class__" : Str), cc)] = some c := h
    obtain ⟨_, rfl⟩ := look1 h
    exact ⟨_, ⟨_, hk _ _ (e0.bs _ _ hb).1, rfl⟩⟩
  · have h : List.lookup y [(("__class__" : Str), cc)] = some c := h
    obtain ⟨_, rfl⟩ := look1 h
    exact (e0.bs _ _ hb).2
  · rw [List.length_map]; exact hl
/-- super().__init__(text): the object's args are laid anew -/
theorem sup_init {X : Cx} {pins : List (Addr × Obj)} {σ : L2.St} {H : Hp} {s : Shared} {C D cda cc a f : Addr} {p0 p1 p2 p3 p5 : Pos} {msg : Str} {j : Nat} {body : List Stmt} {fd : FuncData} {of : Obj} {ar : Arg} {Q : Value → Shared → Prop}
    (T : OexC X.K C) (U : SupC X.prog X.K C D cda cc) (I : Inv X pins σ H s) (hkind : X.env.scope.kind = .function) (hks : X.env.kindOf "super" = some .globalImplicit) (hkc : X.env.kindOf "__class__" = some .free)
    (hcc : X.env.cells.lookup ("__class__" : Str) = some cc) (hfu : X.env.func = some f) (hf : X.K.lookup f = some of) (hfd : of.data = .func fd) (hp : (fd.params.posonlyargs ++ fd.params.args).head? = some ar) (hco : X.env.code = .ref cda) (hglob : X.env.globals = mainGlobals) (hblt : X.env.builtins = builtinsNs)
    (hms : X.mg "super" = none) (hN : X.N[0]? = some ar.arg) (hloc : X.env.scope.names.lookup ar.arg = some .local) (hσ : σ[0]? = some (some (.ref a))) (e : H a = some (exo a C none))
    {pl : Sem Bool} (hev : eval (.Call (.Attribute (.Call (.Name "super" p0) [] [] p1) "__init__" p2) [.Constant (.str msg) j p5] [] p3) X.env = (do
      let ov ← attributeBase (.Call (.Name "super" p0) [] [] p1) "__init__" X.env (eval (.Call (.Name "super" p0) [] [] p1) X.env)
      standAt p2.atName
      let (f, first) ← holding [ov] (getMethod ov "__init__" pl)
      callWith p3 f first (backTo p3 (starEach [.Constant (.str msg) j p5] X.env)) []) := by rfl)
    (h : ∀ s', Inv X pins σ H s' → Q .none s') :
    _root_.PySem.wpAt (model X.prog X.w) X.A (.func body X.env) (eval (.Call (.Attribute (.Call (.Name "super" p0) [] [] p1) "__init__" p2) [.Constant (.str msg) j p5] [] p3) X.env) Q X.xe s := by
  obtain ⟨cl, cld, csl, hcell⟩ := U.cell
  obtain ⟨cd, hcd⟩ := U.cls
  obtain ⟨ccl, cdd, cvs, ccs, file, tf, hcode, hvs, hfile⟩ := U.code
  have KX : X.K.In s.heap := I.kIn
  obtain ⟨mb, hmb, hbb⟩ := I.mod.blt
  obtain ⟨oD, hD1, hD2⟩ : ∃ oD, s.heap.get? D = some oD ∧ oD.data = .cls cd := by
    unfold PySem.W.clsIn at hcd
    split at hcd
    · rename_i c d cd' sl ho
      cases hcd
      exact ⟨_, KX _ _ ho, rfl⟩
    · cases hcd
  obtain ⟨t1, ho⟩ := exo_at I.hok e
  refine PySem.ks_wpAt_MethodCall ?_ hev
  refine PySem.ks_wpAt_super_base (env := X.env) hks hkc (by decide) hfu (KX _ _ hf) hfd hp hco (KX _ _ hcode) rfl hvs hfile U.top ?_
  refine PySem.W.ks_loadName_global hkind hks (PySem.Calls.loadGlobal_builtin (env := X.env) (by rw [hglob]; exact I.mod.glob.keeps I.bk) hms (by rw [hblt]; exact hmb.keeps I.bk) ((hbb _ (by decide +kernel)).trans (show bootBuiltins "super" = some (.type "super") by first | boot_by_name | rfl | kernel_rfl)) ⟨rfl, ?_⟩)
  refine wpAny_loadName_free hkind hkc hcc ⟨_, KX _ _ hcell, rfl⟩ ?_
  obtain ⟨m, hns, hlk⟩ := I.loc
  obtain ⟨u, ru, hu⟩ := hlk 0 ar.arg (.ref a) hN hσ (.inl hloc)
  obtain rfl : u = Value.ref a := ru
  have hu : m ar.arg = some (.ref a) := by
    rcases hu with hu | ⟨hu, _⟩
    · exact hu.2
    · have : X.env.kindOf ar.arg = some .local := hloc
      rw [this] at hu
      rcases hu with hu | hu <;> cases hu
  refine wpAny_loadName_local hkind hloc hns hu ?_
  refine PySem.ks_wpAny_isType_cls hD1 hD2 ⟨rfl, ?_⟩
  obtain ⟨hp0, g0, d0, tk0, os0⟩ := s
  have IX : PySem.W.InstAt hp0 a { cls := .ref C, dict := none, data := .fields #[.ref t1, .none, .none, .none, .bool false, .none] } C none := ⟨ho, rfl, rfl, trivial⟩
  refine PySem.ks_wpAny_call_super hD1 hD2 ho rfl (fun c z => by cases z) (PySem.W.looks_mroIn KX U.mro) (fun h1 hso k1 => ?_)
  have I1 : Inv X pins σ H ⟨h1, g0, d0, tk0, os0⟩ := I.kept (t' := tk0) k1
  have KX1 : X.K.In h1 := I1.kIn
  have ho1 := k1 _ _ ho
  obtain ⟨nm, q, NN, bs, bm, sn, sub, ab, col, dd, k0, k1', k2, k3, k5, hC, hbm⟩ := T.cls
  have hcl : PySem.W.clsIn X.K C = some { name := nm, bases := bs, mro := .ref C :: bm, ns := NN, qualname := q, hasDict := true, slotNames := sn, subclasses := sub, abstract := ab, collection := col, hasDel := false } := by unfold PySem.W.clsIn; rw [hC] <;> rfl
  have IX1 : PySem.W.InstAt h1 a { cls := .ref C, dict := none, data := .fields #[.ref t1, .none, .none, .none, .bool false, .none] } C none := ⟨ho1, rfl, rfl, trivial⟩
  have hsup := U.sup
  unfold PySem.W.ks_superIn at hsup
  rw [hcl] at hsup
  refine PySem.W.kxs_getMethod PySem.W.kxs_ValueError hso (PySem.W.looks_opaque KX1 U.opq) (l₀ := .ref C :: bm) (fun A Q E s k q => wpAny_bind ((PySem.W.looks_clsIn KX1 hcl) A _ E s k (wpAny_pure q))) rfl KX1 hsup (IX1.type.andThen (PySem.W.looks_subIn KX1 U.sub)) (PySem.W.ks_ne KX1 IX1 hcl) (by decide) ?_
  have k2' : ∀ b o, h1.get? b = some o → (h1.push (PySem.W.kxs_mw "ValueError.__init__" a)).get? b = some o := fun b o z => Heap.get?_push_of_some _ z
  have I2 : Inv X pins σ H ⟨h1.push (PySem.W.kxs_mw "ValueError.__init__" a), g0, d0, tk0 + 1, os0⟩ := I1.kept (t' := tk0 + 1) k2'
  have hu2 : (h1.push (PySem.W.kxs_mw "ValueError.__init__" a)).get? h1.objs.size = some (PySem.W.kxs_mw "ValueError.__init__" a) := Heap.get?_push_size _ rfl
  have hst : starEach [Expr.Constant (.str msg) j p5] X.env = (false, eval (.Constant (.str msg) j p5) X.env) :: starEach [] X.env := rfl
  rw [hst]
  refine PySem.W.kxs_callWith (i := "ValueError.__init__") (x := a) (by rfl) ?_
  refine PySem.Calls.evalArgs_plain ?_
  show wpAny _ _ (spliced ((false, eval (.Constant (.str msg) j p5) X.env) :: backTo p3 (starEach [] X.env))) _ _ _
  refine PySem.Calls.spliced_cons (PySem.Calls.Constant_str ?_)
  refine PySem.Calls.spliced_nil ⟨hu2, ?_⟩
  have I3 := I2.tok (tk0 + 1 + 1)
  show wpAny _ _ (call (.ref h1.objs.size) [.str msg (tk0 + 1)]) _ _ ⟨h1.push (PySem.W.kxs_mw "ValueError.__init__" a), g0, d0, tk0 + 1 + 1, os0⟩
  have ho2 := k2' _ _ ho1
  have hC2 := I3.kIn _ _ hC
  refine wpAny_call (codeAny_of_tree ?_)
  show wpAny _ _ (callAny (.ref h1.objs.size) ⟨[.str msg (tk0 + 1)], []⟩) _ _ _
  simp only [callAny]
  refine wpAny_bind (wpAny_load hu2 ?_)
  simp only [PySem.W.kxs_mw, show (Value.type "method-wrapper" == Value.type "method" || Value.type "method-wrapper" == Value.type "builtin_function_or_method" || Value.type "method-wrapper" == Value.type "method-wrapper") = true by decide, if_true]
  refine PySem.W.KFB.if_so (by decide) ?_
  refine wpAny_bind (PySem.W.check_bound_init F.excBase_ValueError.toExcCallFacts hC2 ho2 rfl ?_)
  refine wpAny_bind (wpAny_pure (wpAny_pure ?_))
  refine ⟨plainId_quiet F.excBase_ValueError.init.plain _, codeAny_builtin F.excBase_ValueError.initEntry ?_⟩
  refine PySem.W.exc_init_tree (cls := .ref C) (t0 := t1) (dv := none) (c2 := .none) (c3 := .none) (b4 := .bool false) ho2 (by simp [sizeLine_eq]) (fun h' k hx ht => ?_)
  have J := I3.write (t' := tk0 + 1 + 1) (x := a) (e := a) (o := exo a C none) (by rw [e]; exact True.intro) (.inl rfl) k ⟨_, hx⟩ (exo_ok hx)
  have eu : upd H a (exo a C none) = H := by
    funext b
    by_cases hb : b = a
    · rw [hb, upd_same, e]
    · rw [upd_ne hb]
  rw [eu] at J
  exact h _ J
end
/-! ### the stores behind it -/
inductive AStm (N : List Str) (self : Str) : List Stmt → List (Str × Nat) → Prop
  | nil : AStm N self [] []
  | cons {x f : Str} {i : Nat} {p1 p2 p3 p4 : Pos} {rest : List Stmt} {L : List (Str × Nat)} : N[i]? = some x → (x == ("__debug__" : Str)) = false → (x == ("__classdict__" : Str)) = false → (∀ env, swapsWith (.Name x p3) (some (.Attribute (.Name self p1) f p2)) p4.line env = pure false) → AStm N self rest L →
      AStm N self (.Assign [.Attribute (.Name self p1) f p2] (.Name x p3) p4 :: rest) ((f, i) :: L)
def pairsA (σ : L2.St) : List (Str × Nat) → List (Str × V)
  | [] => []
  | (f, i) :: L => pairsA σ L ++ [(f, ((σ[i]?).join).getD .non)]
def tT (K : PySem.W.Frag) (L : List (Str × Nat)) : TS := fun D σ H => ∃ (a C dx : Addr) (fs : List (Str × V)), dx ≠ a ∧ σ[0]? = some (some (.ref a)) ∧ OexC K C ∧ (∀ p ∈ L, PySem.W.findIn K (.ref C) p.1 = some none ∧ ∃ v, σ[p.2]? = some (some v)) ∧ H a = some (exo a C (some dx)) ∧ H dx = some (exd dx fs) ∧ fs.length + L.length ≤ 900 ∧ D.nx σ (upd H dx (exd dx (pairsA σ L ++ fs)))
def tA (K : PySem.W.Frag) (L : List (Str × Nat)) : TS := fun D σ H => ∃ (a C : Addr), σ[0]? = some (some (.ref a)) ∧ OexC K C ∧ (∀ p ∈ L, PySem.W.findIn K (.ref C) p.1 = some none ∧ ∃ v, σ[p.2]? = some (some v)) ∧ H a = some (exo a C none) ∧ L.length ≤ 900 ∧ ∀ dx, H dx = none → dx ≠ a → D.nx σ (upd (upd H dx (exd dx (pairsA σ L))) a (exo a C (some dx)))
theorem upd_self {H : Hp} {a : Addr} {o : HO} (h : H a = some o) : upd H a o = H := by
  funext b
  by_cases e : b = a
  · rw [e, upd_same, h]
  · rw [upd_ne e]
theorem upd_upd {H : Hp} {a : Addr} {o u : HO} : upd (upd H a o) a u = upd H a u := by
  funext b
  by_cases e : b = a
  · rw [e, upd_same, upd_same]
  · rw [upd_ne e, upd_ne e, upd_ne e]
theorem upd_swap {H : Hp} {a b : Addr} {o u : HO} (n : a ≠ b) : upd (upd H a o) b u = upd (upd H b u) a o := by
  funext c
  by_cases e : c = a
  · rw [e, upd_same, upd_ne n, upd_same]
  · by_cases e2 : c = b
    · rw [e2, upd_same, upd_ne (Ne.symm n), upd_same]
    · rw [upd_ne e, upd_ne e2, upd_ne e2, upd_ne e]
section
variable {X : Cx} {N : List Str} {self : Str}
theorem rest_ok (hX : X.N = N) (h0 : N[0]? = some self) (hd : (self == ("__debug__" : Str)) = false) (hcd : (self == ("__classdict__" : Str)) = false) (hloc : ∀ x ∈ N, X.env.scope.names.lookup x = some .local) : ∀ {rest : List Stmt} {L : List (Str × Nat)}, AStm N self rest L → PSs X rest (tT X.K L) := by
  intro rest L h
  induction h with
  | nil =>
    refine pss_mono pss_nil fun D σ H h => ?_
    obtain ⟨a, C, dx, fs, hne, h1, h2, h3, h4, h5, h6, q⟩ := h
    have e : upd H dx (exd dx (pairsA σ [] ++ fs)) = H := upd_self h5
    rw [e] at q
    exact q
  | @cons x f i p1 p2 p3 p4 rest L hN hx1 hx2 hsw _ ih =>
    refine pss_mono (pss_cons (ps_ost (pe_var (i := 0) (by rw [hX]; exact h0) (.inl (hloc _ (List.mem_of_getElem? h0))) hd hcd) (pe_var (i := i) (by rw [hX]; exact hN) (.inl (hloc _ (List.mem_of_getElem? hN))) hx1 hx2) (hsw _)) ih) fun D σ H h => ?_
    obtain ⟨a, C, dx, fs, hne, h1, h2, h3, h4, h5, h6, q⟩ := h
    obtain ⟨g1, v, g2⟩ := h3 (f, i) List.mem_cons_self
    refine ⟨v, g2, .ref a, h1, a, C, rfl, h2, g1, .inr ⟨dx, fs, h4, h5, by rw [List.length_cons] at h6; omega, ?_⟩⟩
    refine ⟨a, C, dx, (f, v) :: fs, hne, h1, h2, fun p hp => h3 p (List.mem_cons_of_mem _ hp), by rw [upd_ne (Ne.symm hne)]; exact h4, upd_same, by rw [List.length_cons] at h6 ⊢; omega, ?_⟩
    rw [upd_upd]
    have : pairsA σ ((f, i) :: L) ++ fs = pairsA σ L ++ ((f, v) :: fs) := by
      show pairsA σ L ++ [(f, ((σ[i]?).join).getD .non)] ++ fs = _
      rw [g2, List.append_assoc]
      rfl
    rw [← this]
    exact q
theorem rest_new (hX : X.N = N) (h0 : N[0]? = some self) (hd : (self == ("__debug__" : Str)) = false) (hcd : (self == ("__classdict__" : Str)) = false) (hloc : ∀ x ∈ N, X.env.scope.names.lookup x = some .local) {rest : List Stmt} {L : List (Str × Nat)} (h : AStm N self rest L) (hL : L ≠ []) : PSs X rest (tA X.K L) := by
  cases h with
  | nil => exact absurd rfl hL
  | @cons x f i p1 p2 p3 p4 rest L hN hx1 hx2 hsw hr =>
    refine pss_mono (pss_cons (ps_ost (pe_var (i := 0) (by rw [hX]; exact h0) (.inl (hloc _ (List.mem_of_getElem? h0))) hd hcd) (pe_var (i := i) (by rw [hX]; exact hN) (.inl (hloc _ (List.mem_of_getElem? hN))) hx1 hx2) (hsw _)) (rest_ok hX h0 hd hcd hloc hr)) fun D σ H h => ?_
    obtain ⟨a, C, h1, h2, h3, h4, h6, q⟩ := h
    obtain ⟨g1, v, g2⟩ := h3 (f, i) List.mem_cons_self
    refine ⟨v, g2, .ref a, h1, a, C, rfl, h2, g1, .inl ⟨h4, fun dx n ne => ?_⟩⟩
    refine ⟨a, C, dx, [(f, v)], ne, h1, h2, fun p hp => h3 p (List.mem_cons_of_mem _ hp), upd_same, by rw [upd_ne ne, upd_same], by rw [List.length_cons] at h6; simp; omega, ?_⟩
    have e1 : upd (upd (upd H dx (exd dx [(f, v)])) a (exo a C (some dx))) dx (exd dx (pairsA σ L ++ [(f, v)])) = upd (upd H dx (exd dx (pairsA σ L ++ [(f, v)]))) a (exo a C (some dx)) := by
      rw [upd_swap (Ne.symm ne), upd_upd]
    rw [e1]
    have : pairsA σ ((f, i) :: L) = pairsA σ L ++ [(f, v)] := by
      show pairsA σ L ++ [(f, ((σ[i]?).join).getD .non)] = _
      rw [g2]
      rfl
    rw [← this]
    exact q dx n ne
end
/-! ### the def -/
def spSup (K : PySem.W.Frag) (N : List Str) (L : List (Str × Nat)) (C0 : Addr) : Sp := fun vs H Q _ => vs.length = N.length ∧ ∃ (a : Addr), vs[0]? = some (.ref a) ∧ OexC K C0 ∧ (∀ p ∈ L, PySem.W.findIn K (.ref C0) p.1 = some none) ∧ H a = some (exo a C0 none) ∧ ∀ dx, H dx = none → dx ≠ a → Q .non (upd (upd H dx (exd dx (pairsA (vs.map some) L))) a (exo a C0 (some dx)))
theorem fn_sup {CX : CXT} {P : Program} {w : World} {K : PySem.W.Frag} {mg : Str → Option Value} {base : Heap} {k : Nat} {f C D cda cc : Addr} {name qual msg : Str} {params : Arguments} {body rest : List Stmt} {scope : Scope} {dV kV doc pm ct oc : Value} {an od : Option Addr}
    {osl : Array (Option Value)} {N : List Str} {L : List (Str × Nat)} {ar : Arg} {j : Nat} {p0 p1 p2 p3 p4 p5 : Pos} (lk : K.lookup f = some ⟨oc, od, .func (PySem.W.ksFn name qual params body scope dV kV doc pm an (.ref cda) ct cc), osl⟩) (hcdn : PySem.W.codeIn K (.ref cda) qual = true) (S : SupS N scope)
    (U : SupC P K C D cda cc) (hms : mg "super" = none) (har : (params.posonlyargs ++ params.args).head? = some ar) (h0 : N[0]? = some ar.arg) (hd : (ar.arg == ("__debug__" : Str)) = false) (hcd : (ar.arg == ("__classdict__" : Str)) = false) (hL : L ≠ []) (hLi : ∀ p ∈ L, p.2 < N.length) (hL9 : L.length ≤ 900)
    (hbody : body = .Expr (.Call (.Attribute (.Call (.Name "super" p0) [] [] p1) "__init__" p2) [.Constant (.str msg) j p5] [] p3) p4 :: rest) (hr : AStm N ar.arg rest L)
    (hev : ∀ env : Env, ∃ pl : Sem Bool, eval (.Call (.Attribute (.Call (.Name "super" p0) [] [] p1) "__init__" p2) [.Constant (.str msg) j p5] [] p3) env = (do
      let ov ← attributeBase (.Call (.Name "super" p0) [] [] p1) "__init__" env (eval (.Call (.Name "super" p0) [] [] p1) env)
      standAt p2.atName
      let (f, first) ← holding [ov] (getMethod ov "__init__" pl)
      callWith p3 f first (backTo p3 (starEach [.Constant (.str msg) j p5] env)) []))
    (hsw : ∀ env : Env, swapsWith (.Call (.Attribute (.Call (.Name "super" p0) [] [] p1) "__init__" p2) [.Constant (.str msg) j p5] [] p3) none p4.line env = pure false) :
    FnOk P w K mg base CX (k + 1) f (PySem.W.ksFn name qual params body scope dV kV doc pm an (.ref cda) ct cc) N (spSup K N L C) := by
  refine ⟨fun vs H Q E h => h.1, fun A outer s H args us vs Q E hr0 e0 hb r hsp => ?_⟩
  obtain ⟨hl, a, hv0, T, hno, ea, q⟩ := hsp
  have KX : K.In s.heap := e0.mod.kin.keeps fun b o e => (e0.bs b o e).1
  have lim : s.heap.NoLimit := e0.mod.nolimit.keeps fun b o e => (e0.bs b o e).1
  have hul : us.length = N.length := by rw [← Paired.length r]; exact hl
  refine PySem.ks_codeAny_call_defAt (fd := PySem.W.ksFn name qual params body scope dV kV doc pm an (.ref cda) ct cc) (body := body) (binds := N.zip us) hr0.depth (KX _ _ lk) rfl lim (PySem.W.codeRec_of KX hcdn) rfl hb S.ncell (fun x hx => S.loc _ (List.of_mem_zip hx).1) (fun h₁ hns hk₁ => ?_) S.co S.gen S.kind
  obtain ⟨cl, cld, csl, hcell⟩ := U.cell
  have I : Inv (supCx CX P w K mg base N qual scope f (.ref cda) cc A outer s H E) [] (vs.map some) H { s with heap := h₁, toks := s.toks + (N.zip us).length } :=
    sup_start S hr0.hd e0 ⟨cl, cld, csl, D, hcell⟩ hl r hns hk₁
  subst hbody
  refine PySem.ks_wpAt_execs_cons (PySem.ks_wpAt_Expr_any ?_ (by unfold interactive; show (scope.kind == .module && _) = false; rw [S.kind]; rfl) (hsw _))
  obtain ⟨pl, hev⟩ := hev (supCx CX P w K mg base N qual scope f (.ref cda) cc A outer s H E).env
  have hloc0 : scope.names.lookup ar.arg = some .local := S.loc _ (List.mem_of_getElem? h0)
  refine sup_init (X := supCx CX P w K mg base N qual scope f (.ref cda) cc A outer s H E) (pins := []) (σ := vs.map some) (H := H) T U I S.kind S.sup S.cls (by show List.lookup _ [(("__class__" : Str), cc)] = _; simp [List.lookup]) rfl lk rfl har rfl rfl rfl hms h0 hloc0 (by rw [List.getElem?_map, hv0]; rfl) ea (pl := pl) hev (fun s' J => ?_)
  have hp := rest_new (X := supCx CX P w K mg base N qual scope f (.ref cda) cc A outer s H E) rfl h0 hd hcd S.loc hr hL
  refine wpAt_of_wpAny (wpAny_mono (hp.run [] s' (vs.map some) H { nx := fun _ H' => Q .non H', rt := Q } J ⟨a, C, by rw [List.getElem?_map, hv0]; rfl, T, fun p hpm => ⟨hno p hpm, ?_⟩, ea, hL9, fun dx n ne => q dx n ne⟩) (fun fl s2 hs => ?_) fun e s2 hs => hs)
  · have hi : p.2 < vs.length := by rw [hl]; exact hLi p hpm
    exact ⟨vs[p.2], by rw [List.getElem?_map, List.getElem?_eq_getElem hi]; rfl⟩
  · have fin : ∀ {σ' : L2.St} {H' : Hp} {v : V} {u : Value}, Inv (supCx CX P w K mg base N qual scope f (.ref cda) cc A outer s H E) [] σ' H' s2 → RelV v u → Q v H' → CE outer P w H s Q u s2 :=
      fun {σ' H' v u} J rv q => ⟨v, H', J.os, J.bare, J.base, J.hok, rv, q⟩
    cases fl with
    | ret u =>
      obtain ⟨v, σ', H', J, rv, q⟩ := hs
      exact fin J rv q
    | next =>
      obtain ⟨σ', H', J, q⟩ := hs
      exact fin (v := V.non) (u := Value.none) J rfl q
    | brk =>
      obtain ⟨_, _, _, q⟩ := hs
      exact False.elim q
    | cont =>
      obtain ⟨_, _, _, q⟩ := hs
      exact False.elim q
end PL

/-! PL30: exceptions with attributes: raised, read, asked for their class -/
namespace PL
open PySem PySem.Spec PyProof.Rows L2 LamX

def attrsD (xs : List PyData) : List (Str × Nat) → List (Str × PyData)
  | [] => []
  | (f, i) :: L => attrsD xs L ++ [(f, ((PyData.none :: xs)[i]?).getD .none)]
/-- raise C(e, ..), the parameters stored as L says -/
def raiseA (C : Addr) (n : Nat) (L : List (Str × Nat)) (ga : M (List AV)) : SM := fun S => match ga S with
  | some (.ok as, S') => (match frs as with
    | some xs => if xs.length = n then some (.exc (excD C (attrsD xs L)), S') else none
    | none => none)
  | some (.error x, S') => some (.exc x, S')
  | none => none
theorem frs_all {K : PySem.W.Frag} {Z : Hp} {σ : L2.St} {vs : List V} {as : List AV} (h : AvAll K Z σ vs as) : ∀ {xs : List PyData}, frs as = some xs → FrAll K Z vs xs := by
  induction h with
  | nil => intro xs e; cases e; exact .nil
  | @cons v vs a as h1 _ ih =>
    intro xs e
    cases a with
    | fr x =>
      have e : (frs as).map (x :: ·) = some xs := e
      cases q : frs as with
      | none => rw [q] at e; cases e
      | some ys => rw [q] at e; cases e; exact .cons h1 (ih q)
    | bw i => cases e
theorem attrs_names (σ : L2.St) (xs : List PyData) : ∀ L : List (Str × Nat), (pairsA σ L).map (·.1) = (attrsD xs L).map (·.1)
  | [] => rfl
  | (f, i) :: L => by
    show (pairsA σ L ++ [_]).map _ = (attrsD xs L ++ [_]).map _
    rw [List.map_append, List.map_append, attrs_names σ xs L]
    rfl
theorem FrAll.get0 {K : PySem.W.Frag} {Z : Hp} {vs : List V} {xs : List PyData} (h : FrAll K Z vs xs) {i : Nat} (hi : i < vs.length) : ∃ v x, vs[i]? = some v ∧ xs[i]? = some x ∧ Fr K Z v x := by
  obtain ⟨x, h1, h2⟩ := h.getV (List.getElem?_eq_getElem hi)
  exact ⟨_, x, List.getElem?_eq_getElem hi, h1, h2⟩
theorem attrs_fr {K : PySem.W.Frag} {Z : Hp} {a : V} {vs : List V} {xs : List PyData} (h : FrAll K Z vs xs) : ∀ L : List (Str × Nat), (∀ p ∈ L, 0 < p.2 ∧ p.2 < vs.length + 1) → FrAll K Z ((pairsA ((a :: vs).map some) L).map (·.2)) ((attrsD xs L).map (·.2))
  | [], _ => .nil
  | (f, i) :: L, hL => by
    show FrAll K Z ((pairsA _ L ++ [_]).map _) ((attrsD xs L ++ [_]).map _)
    rw [List.map_append, List.map_append]
    refine FrAll.append (attrs_fr h L fun p hp => hL p (List.mem_cons_of_mem _ hp)) (.cons ?_ .nil)
    obtain ⟨h0, h1⟩ := hL (f, i) List.mem_cons_self
    obtain ⟨j, rfl⟩ : ∃ j, i = j + 1 := ⟨i - 1, by omega⟩
    have h1 : j < vs.length := by omega
    obtain ⟨v, x, g1, g2, g3⟩ := h.get0 h1
    have e1 : (((a :: vs).map some)[j + 1]?).join = some v := by
      rw [List.map_cons, List.getElem?_cons_succ, List.getElem?_map, g1]; rfl
    have e2 : (PyData.none :: xs)[j + 1]? = some x := by rw [List.getElem?_cons_succ, g2]
    show Fr K Z ((((a :: vs).map some)[j + 1]?).join.getD .non) (((PyData.none :: xs)[j + 1]?).getD .none)
    rw [e1, e2]
    exact g3
theorem zip_fst_snd {α β : Type} : ∀ l : List (α × β), (l.map (·.1)).zip (l.map (·.2)) = l
  | [] => rfl
  | (a, b) :: l => by rw [List.map_cons, List.map_cons, List.zip_cons_cons, zip_fst_snd l]
section
variable {X : Cx} {T : List (Addr × Str)} {mp : List Nat} {e : Expr} {es : List Expr} {p pos pos2 : Pos}
theorem sv_raiseA {x : Str} {C fI : Addr} {k : Nat} {fd : FuncData} {N : List Str} {L : List (Str × Nat)} {ga : M (List AV)} (hc : X.calm = true) (T0 : OexC X.K C) (hno : ∀ p ∈ L, PySem.W.findIn X.K (.ref C) p.1 = some none) (hL : L ≠ []) (hLi : ∀ p ∈ L, 0 < p.2 ∧ p.2 < N.length) (hn : N.length ≤ 900)
    (iC : PySem.W.findIn X.K (.ref C) "__init__" = some (some (.ref fI))) (tI : PySem.W.typeIn X.K (.ref fI) = some (.type "function"))
    (F1 : FnOk X.prog X.w X.K X.mg X.base (L2.CX X.prog X.w) k fI fd N (spSup X.K N L C)) (hr : Room (k + 1) X.A) (hb : Binds X.K fd N []) (hx : Passes (L2.CX X.prog X.w) X (fun _ _ _ => False)) (hg : Gl X x) (hm : X.mg x = some (.ref C)) (ha : EVA X T (e :: es) ga)
    (hdb : (x == ("__debug__" : Str)) = false := by decide) (he : starEach (e :: es) X.env = (false, eval e X.env) :: starEach es X.env := by rfl) (hpl : (backTo pos (starEach es X.env)).any (·.1) = false := by rfl) :
    SV X T mp (.Raise (some (.Call (.Name x p) (e :: es) [] pos)) none pos2) (raiseA C (N.length - 1) L ga) := by
  refine ⟨fun pins s σ H D I ⟨Z, R, S, r, S', W, P, rel, pn, er, tk, q⟩ => ?_⟩
  refine (ps_raise hc tk (pmk_oex (ds := []) (dvs := []) T0 iC tI F1 hr hb .nil hx hg hm ha hdb he hpl)).run pins s σ H D I ?_
  unfold raiseA at er
  cases ef : ga S with
  | none => rw [ef] at er; cases er
  | some t =>
    obtain ⟨r0, S0⟩ := t
    rw [ef] at er
    cases r0 with
    | error y =>
      cases er
      exact ⟨Z, R, S, .error y, _, W, rel, ef, tk, fun cls d H' Z' sb rel' ix => q cls d σ H' Z' sb rel' pn ix⟩
    | ok as =>
      have er : (match frs as with
        | some xs => if xs.length = N.length - 1 then some (Fl.exc (excD C (attrsD xs L)), S0) else none
        | none => none) = some (r, S') := er
      cases eq : frs as with
      | none => rw [eq] at er; cases er
      | some xs =>
        rw [eq] at er
        have er : (if xs.length = N.length - 1 then some (Fl.exc (excD C (attrsD xs L)), S0) else none) = some (r, S') := er
        split at er
        · rename_i hlen
          cases er
          refine ⟨Z, R, S, .ok as, _, W, rel, ef, tk, fun vs H1 Z1 s1 r1 a1 => ?_⟩
          have fr := frs_all a1 eq
          have hvl := fr.length
          have hN0 : 0 < N.length := by
            cases L with
            | nil => exact absurd rfl hL
            | cons p L => have := (hLi p List.mem_cons_self).2; omega
          refine ⟨by omega, fun a ha0 => ?_⟩
          refine ⟨by simp; omega, a, rfl, T0, hno, upd_same, fun dx hdx hne => ?_⟩
          rw [upd_ne hne] at hdx
          rw [List.append_nil]
          refine ⟨rfl, dx, pairsA ((V.ref a :: vs).map some) L, upd_same, by rw [upd_ne hne]; exact upd_same, hdx, ?_⟩
          have eH : upd (L2.del (upd (upd (upd H1 a (exo a C none)) dx (exd dx (pairsA ((V.ref a :: vs).map some) L))) a (exo a C (some dx))) a) dx (.xd (pairsA ((V.ref a :: vs).map some) L)) = upd H1 dx (.xd (pairsA ((V.ref a :: vs).map some) L)) := by
            funext b
            by_cases e1 : b = dx
            · rw [e1, upd_same, upd_same]
            · rw [upd_ne e1, upd_ne e1]
              by_cases e2 : b = a
              · rw [e2, del_same, ha0]
              · rw [del_ne e2, upd_ne e2, upd_ne e1, upd_ne e2]
          rw [eH]
          have r2 := r1.frozen hdx (.xd (pairsA ((V.ref a :: vs).map some) L)) (fun ps z => by cases z)
          have zp : Z1 dx = none := by
            cases e : Z1 dx with
            | none => rfl
            | some w => rw [r1.z _ _ e] at hdx; cases hdx
          refine q (.ref C) (some dx) σ _ (upd Z1 dx (.xd (pairsA ((V.ref a :: vs).map some) L))) (s1.trans (sub_upd _ zp)) r2 pn ⟨C, attrsD xs L, rfl, rfl, .inr ⟨?_, dx, (pairsA ((V.ref a :: vs).map some) L).map (·.2), rfl, ?_, ?_⟩⟩
          · cases L with
            | nil => exact absurd rfl hL
            | cons p L =>
              obtain ⟨f, i⟩ := p
              intro z
              have : attrsD xs L ++ [(f, ((PyData.none :: xs)[i]?).getD .none)] = [] := z
              simp at this
          · rw [upd_same, ← attrs_names ((V.ref a :: vs).map some) xs L, zip_fst_snd]
          · refine (attrs_fr fr L fun p hp => ?_).sub (sub_upd _ zp)
            have := hLi p hp
            omega
        · cases er
/-! ### reading an attribute -/
def getX : PyData → Option (Addr × List (PyData × PyData))
  | .dict ((.none, .int C) :: kvs) => some (C.toNat, kvs)
  | _ => none
def oAttr (n : Str) (x : PyData) : Option OV := match getX x with
  | some (_, kvs) => (kvs.find? fun p => match p.1 with
    | .str z => decide (z = n)
    | _ => false).map fun p => .d p.2
  | none => none
def oAttrD (Ds : List Addr) (n : Str) (x : PyData) : Option OV := match getX x with
  | some (C, _) => if C ∈ Ds then oAttr n x else none
  | none => none
def attrM (Ds : List Addr) (n : Str) (fa : M AV) : M OV := fa >>= fun a => op1 (oAttrD Ds n) a
theorem getX_excD (C : Addr) (fs : List (Str × PyData)) : getX (excD C fs) = some (C, fs.map fun p => (.str p.1, p.2)) := by
  show some (((C : Nat) : Int).toNat, _) = _
  rw [Int.toNat_natCast]
theorem attr_find (n : Str) : ∀ (fs : List (Str × PyData)) (ws : List V) {K : PySem.W.Frag} {Z : Hp} {o : OV}, FrAll K Z ws (fs.map (·.2)) → ((fs.map fun p => ((PyData.str p.1, p.2) : PyData × PyData)).find? fun p => match p.1 with
    | .str z => decide (z = n)
    | _ => false).map (fun p => OV.d p.2) = some o → ∃ v x, ((fs.map (·.1)).zip ws).lookup n = some v ∧ o = .d x ∧ Fr K Z v x
  | [], ws, K, Z, o, h, e => by simp at e
  | (f, x) :: fs, ws, K, Z, o, h, e => by
    cases ws with
    | nil => cases h
    | cons w ws =>
      cases h with
      | cons h1 h2 =>
        rw [List.map_cons, List.find?_cons] at e
        rw [List.map_cons, List.zip_cons_cons, List.lookup_cons]
        by_cases hf : f = n
        · subst hf
          simp at e
          exact ⟨w, x, by simp, e.symm, h1⟩
        · have e1 : (n == f) = false := by simpa using fun z => hf z.symm
          rw [e1]
          simp only [decide_eq_false hf] at e
          exact attr_find n fs ws h2 e
theorem Fr.getExc {K : PySem.W.Frag} {Z : Hp} {v : V} {x : PyData} {D : Addr} {kvs : List (PyData × PyData)} (f : Fr K Z v x) (e : getX x = some (D, kvs)) : ∃ a, v = .ref a ∧ ((Z a = some (ExV (.ref D) none a) ∧ kvs = []) ∨ ∃ (dx : Addr) (ws : List V) (fs : List (Str × PyData)), Z a = some (ExV (.ref D) (some dx) a) ∧ Z dx = some (.xd ((fs.map (·.1)).zip ws)) ∧ FrAll K Z ws (fs.map (·.2)) ∧ kvs = fs.map fun p => (PyData.str p.1, p.2)) := by
  cases f with
  | @exc0 a C h =>
    rw [getX_excD] at e
    cases e
    exact ⟨a, rfl, .inl ⟨h, rfl⟩⟩
  | @exc a C dx ws fs n h h2 fr =>
    rw [getX_excD] at e
    cases e
    exact ⟨a, rfl, .inr ⟨dx, ws, fs, h, h2, fr, rfl⟩⟩
  | _ => cases e
def tXfV (K : PySem.W.Frag) (f : Str) (te : TE) : TE := fun σ H Q => te σ H fun x H1 => ∃ (a C dd : Addr) (fs : List (Str × V)) (v : V), x = .ref a ∧ XfC K C ∧ PySem.W.findIn K (.ref C) f = some none ∧ H1 a = some (ExV (.ref C) (some dd) a) ∧ H1 dd = some (.xd fs) ∧ fs.lookup f = some v ∧ Q v H1
theorem pe_xfV {te : TE} {n : Str} (he : PE X e te) (hb : attributeBase e n X.env (eval e X.env) = eval e X.env := by rfl) : PE X (.Attribute e n pos) (tXfV X.K n te) := by
  refine ⟨fun pins s σ H Q I h => ?_⟩
  refine attr_of hb (thn (he.run pins s σ H _ I h) fun u s1 hh => ?_)
  obtain ⟨x, H1, I1, rx, a, C, dd, fs, v, ex, T, hno, hH, ea, l, q⟩ := hh
  subst ex
  obtain rfl : u = Value.ref a := rx
  obtain ⟨⟨oe, vs, hget, hz, hd⟩, _⟩ := I1.hok a _ hH
  have hx : ObjOk X.prog X.w H1 s1.heap dd (.xd fs) := I1.hok dd _ ea
  obtain ⟨mA, hns, hr⟩ := hx
  obtain ⟨od, ho, hl⟩ := lookIn_ns hns
  obtain ⟨u, hu, ru⟩ := RelO.some_of (v := v) (o := mA n) (by rw [← l]; exact hr n)
  have J : PySem.W.InstAt s1.heap a oe C (some od) := ⟨hget, hz.1, by unfold PySem.W.notCls; rw [hd] <;> rfl, by rw [hz.2]; exact ho⟩
  exact HandSPX.exc_get I1.kIn J T.ga T.gg T.exC (PySem.W.findObj_own T.hdC hno rfl (by rw [hl, hu])) (handed_of ru) ⟨v, H1, I1.tok _, ru, q⟩
theorem ev_xattr {Ds : List Addr} {n : Str} {fa : M AV} (hD : ∀ C ∈ Ds, XfC X.K C ∧ PySem.W.findIn X.K (.ref C) n = some none) (ha : EVV X T e fa) (hb : attributeBase e n X.env (eval e X.env) = eval e X.env := by rfl) : EV X T (.Attribute e n pos) (attrM Ds n fa) :=
  pe_mono (pe_xfV ha hb) fun σ H Q ⟨Z, h⟩ => by
    refine ⟨Z, rz_mono (rv_bind POk.mono h) fun Z R a S p v H1 Z1 s1 r1 a1 => ?_⟩
    obtain ⟨u, Z2, s2, o2, h2⟩ := p v H1 Z1 s1 r1 a1
    obtain ⟨x, o, R3, S3, sz, w, e, rel, pf⟩ := rz_op1 h2 o2
    cases hg : getX x with
    | none =>
      have e : (match getX x with
        | some (C, _) => if C ∈ Ds then oAttr n x else none
        | none => none) = some o := e
      rw [hg] at e; cases e
    | some t =>
      obtain ⟨C, kvs⟩ := t
      have e : (match getX x with
        | some (C, _) => if C ∈ Ds then oAttr n x else none
        | none => none) = some o := e
      rw [hg] at e
      have e : (if C ∈ Ds then oAttr n x else none) = some o := e
      split at e
      · rename_i hC
        obtain ⟨t1, t2⟩ := hD C hC
        unfold oAttr at e
        rw [hg] at e
        have f := w.fr (fun ds z => by subst z; cases hg)
        obtain ⟨a, rfl, ⟨hZ, rfl⟩ | ⟨dx, ws, fs, hZ, hZ2, fr, rfl⟩⟩ := f.getExc hg
        · cases e
        · obtain ⟨v, y, g1, rfl, g3⟩ := attr_find n fs ws fr e
          exact ⟨a, C, dx, _, v, rfl, t1, t2, sz _ _ hZ, sz _ _ hZ2, g1, pf v H1 Z2 (Sub.refl _) (rel.push g3)⟩
      · cases e
/-! ### isinstance, exceptions with and without attributes -/
def rIsiE2 (K : PySem.W.Frag) (D : Addr) : List V → Hp → VK → Prop := fun xs H Q => ∃ (a : Addr) (c : V) (u : Value) (b : Bool) (dx : Addr) (fs : List (Str × V)), xs = [.ref a, c] ∧ ClsV c u ∧ H a = some (ExV (.ref D) (some dx) a) ∧ H dx = some (.xd fs) ∧ PySem.W.kitOne K (.ref D) u = some b ∧ Q (.bl b) H
theorem call_isiE2 {D : Addr} (C : ExcC X.K D) : CallR X (.builtin "isinstance") (rIsiE2 X.K D) := by
  intro pins s σ H xs us Q I r h
  obtain ⟨a, c, cv, b, dx, fs, rfl, hcv, hH, hH2, e, q⟩ := h
  cases r with
  | cons rx rr =>
    cases rr with
    | cons rt rr =>
      cases rr
      cases rx
      have ec := hcv.eq rt
      subst ec
      obtain ⟨⟨oe, vs, hget, hz, hv⟩, _⟩ := I.hok a _ hH
      have hx : ObjOk X.prog X.w H s.heap dx (.xd fs) := I.hok dx _ hH2
      obtain ⟨mA, hns, hr⟩ := hx
      obtain ⟨od, ho, hl⟩ := lookIn_ns hns
      have J : PySem.W.InstAt s.heap a oe D (some od) := ⟨hget, hz.1, by unfold PySem.W.notCls; rw [hv] <;> rfl, by rw [hz.2]; exact ho⟩
      have hcl : (PySem.W.clsIn X.K D).isSome = true := by
        obtain ⟨cdD, hcD, _⟩ := PySem.W.any_some C.hd
        rw [hcD]; rfl
      exact PySem.W.kia_one (PySem.W.kitx_exc (ox := oe) (od := some od) hcl C.hg C.hk C.hs C.ha C.hn C.ht C.hm) I.kIn J e (fun z => nomatch z) fun tk => ⟨.bl b, H, I.kept (t' := tk) fun _ _ z => z, rfl, q⟩
/-- isinstance(x, c) of data, exceptions of the classes Ds among them, with attributes or without -/
def rIsiY (K : PySem.W.Frag) (Ds : List Addr) : List V → Hp → VK → Prop := fun xs H Q => rIsiX K Ds xs H Q ∨ ∃ D ∈ Ds, rIsiE2 K D xs H Q
theorem call_isiY {Ds : List Addr} (C : ∀ D ∈ Ds, ExcC X.K D) : CallR X (.builtin "isinstance") (rIsiY X.K Ds) := by
  intro pins s σ H xs us Q I r h
  rcases h with h | ⟨D, hD, h⟩
  · exact call_isiX C pins s σ H xs us Q I r h
  · exact call_isiE2 (C D hD) pins s σ H xs us Q I r h
def oIsiY (K : PySem.W.Frag) (Ds : List Addr) (c : Value) (x : PyData) : Option OV := match tyName x with
  | some m => (PySem.W.kitOne K (.type m) c).bind okB
  | none => match getX x with
    | some (D, _) => if D ∈ Ds then (PySem.W.kitOne K (.ref D) c).bind okB else none
    | none => none
def isiY (K : PySem.W.Frag) (Ds : List Addr) (c : Value) (fa : M AV) : M OV := fa >>= fun a => op1 (oIsiY K Ds c) a
theorem ev_isiY {Ds : List Addr} {a b : Expr} {fa : M AV} {cv : V} {c : Value} {p pos : Pos} (C : ∀ D ∈ Ds, ExcC X.K D) (hg : Gl X "isinstance") (hm : X.mg "isinstance" = none) (ha : EVV X T a fa) (hb : PE X b (tC cv)) (hcl : ClsV cv c)
    (he : starEach [a, b] X.env = (false, eval a X.env) :: starEach [b] X.env := by rfl) (he2 : starEach [b] X.env = (false, eval b X.env) :: starEach [] X.env := by rfl) (hpl : (backTo pos (starEach [b] X.env)).any (·.1) = false := by rfl) : EV X T (.Call (.Name "isinstance" p) [a, b] [] pos) (isiY X.K Ds c fa) :=
  pe_mono (pe_callB (call_isiY C) hg hm (by decide +kernel) (pa_cons ha (pa_cons hb pa_nil he2) he) (by decide) (by decide) he hpl) fun σ H Q ⟨Z, h⟩ => by
    refine ⟨Z, rz_mono (rv_bind POk.mono h) fun Z R a S p v H1 Z1 s1 r1 a1 => ?_⟩
    obtain ⟨u, Z2, s2, o2, h2⟩ := p v H1 Z1 s1 r1 a1
    obtain ⟨x, o, R3, S3, sz, w, e, rel, pf⟩ := rz_op1 h2 o2
    have fin : ∀ k, o = .d (.bool k) → Q (.bl k) H1 := fun k ek => by subst ek; exact pf _ H1 Z2 (Sub.refl _) (rel.push (.bl k))
    unfold oIsiY at e
    split at e
    · rename_i m q1
      cases q2 : PySem.W.kitOne X.K (.type m) c with
      | none => rw [q2] at e; cases e
      | some k =>
        rw [q2] at e
        cases e
        exact .inl (.inl ⟨v, cv, .type m, c, k, rfl, hcl, w.tyX sz q1, q2, fin k rfl⟩)
    · split at e
      · rename_i q0 D kvs q1
        split at e
        · rename_i hD
          cases q2 : PySem.W.kitOne X.K (.ref D) c with
          | none => rw [q2] at e; cases e
          | some k =>
            rw [q2] at e
            cases e
            have f := w.fr (fun ds z => by subst z; cases q1)
            obtain ⟨a, rfl, ⟨hZ, _⟩ | ⟨dx, ws, fs, hZ, hZ2, fr, _⟩⟩ := f.getExc q1
            · exact .inl (.inr ⟨D, hD, a, cv, c, k, rfl, hcl, sz _ _ hZ, q2, fin k rfl⟩)
            · exact .inr ⟨D, hD, a, cv, c, k, dx, _, rfl, hcl, sz _ _ hZ, sz _ _ hZ2, q2, fin k rfl⟩
        · cases e
      · cases e
end
@[simp] theorem isiY_S (K : PySem.W.Frag) (Ds : List Addr) (c : Value) (f : M AV) (S : SS) : isiY K Ds c f S = (f >>= fun a => op1 (oIsiY K Ds c) a) S := rfl
@[simp] theorem raiseA_S (C : Addr) (n : Nat) (L : List (Str × Nat)) (ga : M (List AV)) (S : SS) : raiseA C n L ga S = match ga S with
  | some (.ok as, S') => (match frs as with
    | some xs => if xs.length = n then some (.exc (excD C (attrsD xs L)), S') else none
    | none => none)
  | some (.error x, S') => some (.exc x, S')
  | none => none := rfl
@[simp] theorem attrM_S (Ds : List Addr) (n : Str) (f : M AV) (S : SS) : attrM Ds n f S = (f >>= fun a => op1 (oAttrD Ds n) a) S := rfl
end PL

/-! PL31: what is known of an own exception class with attributes -/
namespace PL
open PySem PySem.Spec PyProof.Rows L2 LamX

structure XI (P : Program) (w : World) (K : PySem.W.Frag) (mg : Str → Option Value) (base : Heap) (C fI : Addr) (fd : FuncData) (N : List Str) (L : List (Str × Nat)) : Prop where
  ox : OexC K C
  no : ∀ p ∈ L, PySem.W.findIn K (.ref C) p.1 = some none
  ini : PySem.W.findIn K (.ref C) "__init__" = some (some (.ref fI))
  tyI : PySem.W.typeIn K (.ref fI) = some (.type "function")
  fn : FnOk P w K mg base (L2.CX P w) 1 fI fd N (spSup K N L C)
  bi : Binds K fd N []
theorem passesF {P : Program} {w : World} {X : Cx} : Passes (L2.CX P w) X (fun _ _ _ => False) := fun _ _ _ _ _ _ _ ⟨_, _, _, _, _, _, _, _, _, _, _, _, z⟩ => z.elim
theorem only_of {scope : Scope} (h : scope.names.all (fun p => match p.2 with
  | .cell => false
  | .free => p.1.cps.toList == ("__class__" : Str).cps.toList
  | _ => true) = true) : (∀ y, (scope.names.lookup y = some .cell ∨ scope.names.lookup y = some .free) → y = ("__class__" : Str)) ∧ ∀ x ∈ scope.names, x.2 ≠ .cell := by
  have h := List.all_eq_true.mp h
  refine ⟨fun y hy => ?_, fun x hx e => ?_⟩
  · rcases hy with hy | hy
    · have := h _ (PySem.mem_of_lookup hy)
      simp at this
    · have := h _ (PySem.mem_of_lookup hy)
      exact eqStrB_ok (s := y) (t := "__class__") this
  · have := h x hx
    rw [e] at this
    simp at this
section
variable {P : Program} {w : World} {K : PySem.W.Frag} {mg : Str → Option Value} {base : Heap} {st : Stmt} {N : List Str} {L : List (Str × Nat)} {msg qual : Str} {rest : List Stmt} {ar : Arg} {j : Nat} {p0 p1 p2 p3 p4 p5 : Pos}
  {C fI cda cc : Addr} {oc ccl cl2 dV kV doc pm ct : Value} {od an cdd cld : Option Addr} {osl ccs csl : Array (Option Value)} {cvs : Array Value} {file nm q : Str} {tf : Tok} {NN : Addr} {bs bm sub : List Value} {sn : List Str} {ab : Bool} {col : Option Bool} {dd : Option Addr} {k0 k1 k2 k3 k5 : Option Value}
theorem xi_mk (S : SupS N (defScope st)) (hms : mg "super" = none)
    (har : ((defArgs st).posonlyargs ++ (defArgs st).args).head? = some ar) (h0 : N[0]? = some ar.arg) (hd : (ar.arg == ("__debug__" : Str)) = false) (hcd : (ar.arg == ("__classdict__" : Str)) = false) (hL : L ≠ []) (hLi : ∀ p ∈ L, p.2 < N.length) (hL9 : L.length ≤ 900)
    (hbody : defBody st = .Expr (.Call (.Attribute (.Call (.Name "super" p0) [] [] p1) "__init__" p2) [.Constant (.str msg) j p5] [] p3) p4 :: rest) (hr : AStm N ar.arg rest L)
    (hev : ∀ env : Env, ∃ pl : Sem Bool, eval (.Call (.Attribute (.Call (.Name "super" p0) [] [] p1) "__init__" p2) [.Constant (.str msg) j p5] [] p3) env = (do
      let ov ← attributeBase (.Call (.Name "super" p0) [] [] p1) "__init__" env (eval (.Call (.Name "super" p0) [] [] p1) env)
      standAt p2.atName
      let (f, first) ← holding [ov] (getMethod ov "__init__" pl)
      callWith p3 f first (backTo p3 (starEach [.Constant (.str msg) j p5] env)) []))
    (hsw : ∀ env : Env, swapsWith (.Call (.Attribute (.Call (.Name "super" p0) [] [] p1) "__init__" p2) [.Constant (.str msg) j p5] [] p3) none p4.line env = pure false)
    (hb : ∀ us : List Value, us.length = N.length → bindArgs (PySem.W.ksFn "__init__" qual (defArgs st) (defBody st) (defScope st) dV kV doc pm an (.ref cda) ct cc) ⟨us, []⟩ = pure (N.zip us))
    (f1 : K.lookup fI = some ⟨oc, od, .func (PySem.W.ksFn "__init__" qual (defArgs st) (defBody st) (defScope st) dV kV doc pm an (.ref cda) ct cc), osl⟩) (f2 : PySem.W.codeIn K (.ref cda) qual = true)
    (f3 : K.lookup cc = some ⟨cl2, cld, .cell (some (.ref C)), csl⟩) (f4 : PySem.W.isClsIn K C = true) (f5 : PySem.W.mroIn K C (.ref C) = some true) (f6 : K.lookup cda = some ⟨ccl, cdd, .fields cvs, ccs⟩) (f7 : cvs[2]? = some (.str file tf)) (f8 : ((P.main.file : Str) == file) = true)
    (f9 : (P.main.scope.names.lookup ("super" : Str)).isSome = false) (f10 : PySem.W.ks_superIn K C C "__init__" = some (some (.builtin "ValueError.__init__"))) (f11 : PySem.W.nsIn K cStatics "thirdparty.any" = some none) (f12 : PySem.W.subIn K (.ref C) (.type "ValueError") = some true)
    (g1 : K.lookup C = some (excClassObj nm q C NN bs bm true sn sub ab col dd k0 k1 k2 k3 k5 "ValueError.__new__")) (g2 : PySem.HandSPX.refsVE bm = true) (g3 : PySem.W.findIn K (.ref C) "__setattr__" = some (some (.builtin "object.__setattr__")))
    (g4 : PySem.W.subIn K (.ref C) (.type "BaseException") = some true) (g5 : PySem.W.typeIn K (.ref C) = some (.type "type")) (g6 : PySem.W.keepIn K (.ref C) = true) (g7 : L.all (fun p => decide (PySem.W.findIn K (.ref C) p.1 = some none)) = true)
    (g8 : PySem.W.findIn K (.ref C) "__init__" = some (some (.ref fI))) (g9 : PySem.W.typeIn K (.ref fI) = some (.type "function")) :
    XI P w K mg base C fI (PySem.W.ksFn "__init__" qual (defArgs st) (defBody st) (defScope st) dV kV doc pm an (.ref cda) ct cc) N L where
  ox := ⟨⟨_, _, _, _, _, _, _, _, _, _, _, _, _, _, _, g1, g2⟩, g3, g4, g5, g6⟩
  no := fun p hp => of_decide_eq_true (List.all_eq_true.mp g7 p hp)
  ini := g8
  tyI := g9
  fn := fn_sup (k := 0) f1 f2 S (D := C) ⟨⟨_, _, _, f3⟩, by
    have h : (PySem.W.clsIn K C).isSome = true := f4
    exact Option.isSome_iff_exists.mp h, f5, ⟨_, _, _, _, _, _, f6, f7, f8⟩, f9, f10, f11, f12⟩ hms har h0 hd hcd hL hLi hL9 hbody hr hev hsw
  bi := .all hb
end
end PL

/-! PL32: l.index(x) -/
namespace PL
open PySem PySem.Spec PyProof.Rows L2 LamX
def idxD (d : PyData) : List PyData → Option Nat
  | [] => none
  | z :: ds => if PyData.eqv z d then some 0 else (idxD d ds).map (· + 1)
theorem idxD_spec {d : PyData} : ∀ {ds : List PyData} {j : Nat}, idxD d ds = some j → ∃ z, ds[j]? = some z ∧ PyData.eqv z d = true ∧ ∀ (m : Nat) (z' : PyData), m < j → ds[m]? = some z' → PyData.eqv z' d = false
  | [], j, e => by cases e
  | z :: ds, j, e => by
    unfold idxD at e
    split at e
    · rename_i h
      cases e
      exact ⟨z, rfl, h, fun m z' hm => absurd hm (Nat.not_lt_zero m)⟩
    · rename_i h
      cases q : idxD d ds with
      | none => rw [q] at e; cases e
      | some i =>
        rw [q] at e
        cases e
        obtain ⟨z1, h1, h2, h3⟩ := idxD_spec q
        refine ⟨z1, by simpa using h1, h2, fun m z' hm hz => ?_⟩
        cases m with
        | zero => simp at hz; subst hz; simpa using h
        | succ m => exact h3 m z' (Nat.lt_of_succ_lt_succ hm) (by simpa using hz)
section
variable {X : Cx} {T : List (Addr × Str)}
def oIndex : PyData → List PyData → Option OV
  | .list ds, [d] => if SeqAt.shaped d && SeqAt.shaped (.list ds) then (idxD d ds).bind fun j => okI (j : Nat) else none
  | _, _ => none
theorem mg_index : MethG X T (rIndexD X.K) oIndex := by
  intro Z v vs x xs o σ H Q sz hv hvs e fin
  unfold oIndex at e
  split at e
  · rename_i ds d
    split at e
    · rename_i hs
      rw [Bool.and_eq_true] at hs
      cases q : idxD d ds with
      | none => rw [q] at e; cases e
      | some j =>
        rw [q] at e
        cases e
        obtain ⟨w, rfl, hw⟩ := hvs.one
        obtain ⟨z, h1, h2, h3⟩ := idxD_spec q
        have f1 := hv.dp sz (flat_of_shaped hs.2)
        have f2 := hw.dp sz (flat_of_shaped hs.1)
        cases f1 with
        | lst ha hr => exact ⟨_, w, d, ds, j, z, rfl, rfl, .lst ha hr, f2, hs.2, hs.1, h1, h2, h3, fin.val (.int _)⟩
    · cases e
  · cases e
end
@[simp] theorem tyOk_list (xs : List PyData) : tyOk "list" (.list xs) = true := rfl
theorem oIndex_e (ds : List PyData) (d : PyData) : oIndex (.list ds) [d] = if SeqAt.shaped d && SeqAt.shaped (.list ds) then (idxD d ds).bind fun j => okI (j : Nat) else none := rfl
end PL

/-! PL33: while loops by steps; stores into lists -/
namespace PL
open PySem PySem.Spec PyProof.Rows L2 LamX
section
variable {ft : M Bool} {b : SM} {S S1 S2 : SS} {n : Nat} {p : Fl × SS}
theorem wh_stop (h : ft S = some (.ok false, S1)) : whileN ft b (n + 1) S = some (.nx, S1) := by
  show doE ft _ S = _
  rw [doE_S, h]; rfl
theorem wh_step (h : ft S = some (.ok true, S1)) (h2 : b S1 = some (.nx, S2)) (h3 : whileN ft b n S2 = some p) : whileN ft b (n + 1) S = some p := by
  show doE ft _ S = _
  rw [doE_S, h]
  show turnS b (whileN ft b n) S1 = _
  unfold turnS
  rw [h2]; exact h3
theorem wh_ret {o : OV} (h : ft S = some (.ok true, S1)) (h2 : b S1 = some (.ret o, S2)) : whileN ft b (n + 1) S = some (.ret o, S2) := by
  show doE ft _ S = _
  rw [doE_S, h]
  show turnS b (whileN ft b n) S1 = _
  unfold turnS
  rw [h2]
theorem wh_exc {o : PyData} (h : ft S = some (.ok true, S1)) (h2 : b S1 = some (.exc o, S2)) : whileN ft b (n + 1) S = some (.exc o, S2) := by
  show doE ft _ S = _
  rw [doE_S, h]
  show turnS b (whileN ft b n) S1 = _
  unfold turnS
  rw [h2]
end
@[simp] theorem setL_S (i : Nat) (fe : M OV) (fk : M AV) (S : SS) : setL i fe fk S = doE fe (fun o => match o with
  | .d x => putL i fk x
  | _ => fun _ => none) S := rfl
@[simp] theorem putL_S (i : Nat) (fk : M AV) (x : PyData) (S : SS) : putL i fk x S = match isL S[i]? with
  | some _ => doE fk (storeL i x) S
  | none => none := rfl
@[simp] theorem storeL_S (i : Nat) (x : PyData) (a : AV) (S : SS) : storeL i x a S = match isL S[i]?, view S a with
  | some ds, some (.int k) => (ixN ds.length k).map fun j => (.nx, S.set i (some (.lst ((ds.set j x).map .d))))
  | _, _ => none := rfl
theorem oIsN_n (x : PyData) : oIsN x .none = some (.d (.bool (isNone x))) := rfl
theorem oNotN_n (x : PyData) : oNotN x .none = some (.d (.bool (!isNone x))) := rfl
end PL

/-! PL34: isinstance of an own exception class against a built-in type -/
namespace PL
open PySem PySem.Spec PyProof.Rows L2 LamX
theorem kit_ty {K : PySem.W.Frag} {C : Addr} {T : String} {b : Bool} (h0 : (Value.ref C == Value.type T) = false) (h1 : PySem.W.kitMeta T = true) (h2 : PySem.W.subIn K (.ref C) (.type T) = some b) : PySem.W.kitOne K (.ref C) (.type T) = some b := by
  unfold PySem.W.kitOne
  rw [if_neg (by rw [h0]; decide)]
  exact (if_pos h1).trans h2
end PL

/-! PL35: lists of the slot's own within such lists -/
namespace PL
open PySem PySem.Spec PyProof.Rows L2 LamX

/-! ### a slot's cells go into the frame and come back -/
def restr (H : Hp) (L : List Addr) (R : Hp) : Hp := fun a => if a ∈ L then H a else R a
section
variable {K : PySem.W.Frag} {T : List (Addr × Str)} {Z Z' R H H' H0 : Hp} {S S' : SS} {σ σ' : L2.St} {v : V} {o : OV} {L M : List Addr}
theorem restr_in {a : Addr} (h : a ∈ L) : restr H L R a = H a := if_pos h
theorem restr_out {a : Addr} (h : a ∉ L) : restr H L R a = R a := if_neg h
theorem Rel.hide (r : Rel K T Z R (some o :: S) (some v :: σ) H) : ∃ L, Own K Z H v o L ∧ L.Nodup ∧ (∀ a ∈ L, Z a = none ∧ R a = none) ∧ Rel K T Z (restr H L R) S σ H := by
  obtain ⟨_, h, n, q⟩ := r.own
  cases h with
  | @own _ _ _ _ L M h0 h =>
    obtain ⟨n1, n2, n3⟩ := List.nodup_append.mp n
    refine ⟨L, h0, n1, fun a ha => q a (List.mem_append_left _ ha), ⟨M, h, n2, fun a ha => ?_⟩, r.z, fun a w e => ?_, r.zt, fun a ps e => ?_, fun a w e => ?_, r.tab⟩
    · have hn : a ∉ L := fun z => n3 a z a ha rfl
      rw [restr_out hn]
      exact q a (List.mem_append_right _ ha)
    · by_cases hl : a ∈ L
      · rwa [restr_in hl] at e
      · rw [restr_out hl] at e; exact r.r a w e
    · by_cases hl : a ∈ L
      · rw [restr_in hl] at e
        obtain ⟨u, hu, hn⟩ := h0.at_ a hl
        rw [hu] at e
        exact hn ps (Option.some.inj e)
      · rw [restr_out hl] at e; exact r.rt a ps e
    · have hl : a ∉ L := fun z => by
        rw [(q a (List.mem_append_left _ z)).1] at e; cases e
      rw [restr_out hl]; exact r.zr a w e
theorem Rel.show_ (r : Rel K T Z' (restr H0 L R) S σ H) (s : Sub Z Z') (ow : Own K Z H0 v o L) (n : L.Nodup) (q : ∀ a ∈ L, R a = none) : Rel K T Z' R (some o :: S) (some v :: σ) H := by
  obtain ⟨M, h, n2, q2⟩ := r.own
  have e1 : ∀ a ∈ L, H a = H0 a := fun a ha => by
    obtain ⟨u, hu, _⟩ := ow.at_ a ha
    rw [r.r a u (by rw [restr_in ha, hu]), hu]
  have e2 : ∀ a ∈ L, Z' a = none := fun a ha => by
    cases e : Z' a with
    | none => rfl
    | some w =>
      obtain ⟨u, hu, _⟩ := ow.at_ a ha
      have := r.zr a w e
      rw [restr_in ha, hu] at this
      cases this
  have e3 : ∀ a ∈ M, a ∉ L := fun a ha hl => by
    have := (q2 a ha).2
    obtain ⟨u, hu, _⟩ := ow.at_ a hl
    rw [restr_in hl, hu] at this
    cases this
  refine ⟨⟨L ++ M, .own (ow.mono s e1) h, List.nodup_append.mpr ⟨n, n2, fun a ha b hb e => e3 b hb (e ▸ ha)⟩, fun a ha => ?_⟩, r.z, fun a w e => ?_, r.zt, fun a ps e => ?_, fun a w e => ?_, r.tab⟩
  · rcases List.mem_append.mp ha with ha | ha
    · exact ⟨e2 a ha, q a ha⟩
    · have := q2 a ha
      rw [restr_out (e3 a ha)] at this
      exact this
  · have hl : a ∉ L := fun z => by rw [q a z] at e; cases e
    exact r.r a w (by rw [restr_out hl]; exact e)
  · have hl : a ∉ L := fun z => by rw [q a z] at e; cases e
    exact r.rt a ps (by rw [restr_out hl]; exact e)
  · have := r.zr a w e
    by_cases hl : a ∈ L
    · exact q a hl
    · rwa [restr_out hl] at this
/-- a slot's object on top -/
theorem Rel.outS (r : Rel K T Z R S σ H) {i : Nat} (e : S[i]? = some (some o)) : ∃ v, σ[i]? = some (some v) ∧ Rel K T Z R (some o :: S.set i none) (some v :: σ) H := by
  obtain ⟨L, h, n, q⟩ := r.own
  obtain ⟨v, Li, Lr, h1, h2, h3, h4⟩ := h.get e
  exact ⟨v, h1, ⟨Li ++ Lr, .own h2 h3, (h4.nodup_iff).mp n, fun a ha => q a (h4.mem_iff.mpr ha)⟩, r.z, r.r, r.zt, r.rt, r.zr, r.tab⟩
/-- .. and back -/
theorem Rel.inS (r : Rel K T Z R (some o :: S) (some v :: σ) H) {i : Nat} (e : σ[i]? = some (some v)) : Rel K T Z R (S.set i (some o)) σ H := by
  have hl : i < S.length := by
    have h1 := r.length
    have h2 := (List.getElem?_eq_some_iff.mp e).1
    simp only [List.length_cons] at h1
    omega
  have := r.set hl
  rwa [set_same e] at this
/-- an item of an owned list -/
theorem OwnL.at1 : ∀ {vs : List V} {xs : List OV} {L : List Addr} {k : Nat} {o : OV}, OwnL K Z H vs xs L → xs[k]? = some o →
    ∃ v Lk Lr, vs[k]? = some v ∧ Own K Z H v o Lk ∧ L.Perm (Lk ++ Lr) ∧ ∀ (Z' H' : Hp) (o' : OV) (Lk' : List Addr), Sub Z Z' → (∀ c ∈ Lr, H' c = H c) → Own K Z' H' v o' Lk' → ∃ L', OwnL K Z' H' vs (xs.set k o') L' ∧ L'.Perm (Lk' ++ Lr)
  | _, _, _, _, _, .nil, e => by simp at e
  | _, _, _, 0, o, .cons (L := L1) (M := M1) h r, e => by
    simp at e; subst e
    exact ⟨_, L1, M1, rfl, h, List.Perm.refl _, fun Z' H' o' Lk' s hc ow => ⟨Lk' ++ M1, .cons ow (OwnL.mono s r hc), List.Perm.refl _⟩⟩
  | _, _, _, k + 1, o, .cons (L := L1) (M := M1) h r, e => by
    obtain ⟨v, Lk, Lr, h1, h2, h3, h4⟩ := OwnL.at1 (k := k) r (by simpa using e)
    have pm : ∀ X : List Addr, (L1 ++ (X ++ Lr)).Perm (X ++ (L1 ++ Lr)) := fun X => by
      rw [← List.append_assoc, ← List.append_assoc]
      exact List.Perm.append_right _ List.perm_append_comm
    refine ⟨v, Lk, L1 ++ Lr, by simpa using h1, h2, (List.Perm.append_left L1 h3).trans (pm Lk), fun Z' H' o' Lk' s hc ow => ?_⟩
    obtain ⟨L', g1, g2⟩ := h4 Z' H' o' Lk' s (fun c hcm => hc c (List.mem_append_right _ hcm)) ow
    exact ⟨L1 ++ L', .cons (h.mono s fun c hcm => hc c (List.mem_append_left _ hcm)) g1, (List.Perm.append_left L1 g2).trans (pm Lk')⟩
end
/-! ### data within -/
mutual
def ovD : OV → Option PyData
  | .d x => some x
  | .lst xs => (ovDs xs).map .list
  | .dct _ => none
  | .ins C fs => (ovDf fs).map (insD C)
def ovDs : List OV → Option (List PyData)
  | [] => some []
  | o :: os => match ovD o, ovDs os with
    | some x, some xs => some (x :: xs)
    | _, _ => none
def ovDf : List (Str × OV) → Option (List (Str × PyData))
  | [] => some []
  | p :: ps => match ovDp p, ovDf ps with
    | some x, some xs => some (x :: xs)
    | _, _ => none
def ovDp : Str × OV → Option (Str × PyData)
  | (f, o) => match ovD o with
    | some x => some (f, x)
    | none => none
end
theorem ovDf_of : ∀ {fs : List (Str × OV)} {gs : List (Str × PyData)}, ovDf fs = some gs → ovDs (fs.map (·.2)) = some (gs.map (·.2)) ∧ gs.map (·.1) = fs.map (·.1)
  | [], gs, e => by
    unfold ovDf at e
    cases e
    exact ⟨by unfold ovDs; rfl, rfl⟩
  | (f, o) :: ps, gs, e => by
    unfold ovDf ovDp at e
    cases e1 : ovD o with
    | none => rw [e1] at e; cases e
    | some x =>
      rw [e1] at e
      simp only at e
      cases e2 : ovDf ps with
      | none => rw [e2] at e; cases e
      | some xs =>
        rw [e2] at e
        cases e
        obtain ⟨h1, h2⟩ := ovDf_of e2
        refine ⟨?_, by rw [List.map_cons, List.map_cons, h2]⟩
        rw [List.map_cons, List.map_cons]
        unfold ovDs
        simp only
        rw [e1, h1]
section
variable {K : PySem.W.Frag} {T : List (Addr × Str)} {Z Z' R H H' H0 : Hp} {S S' : SS} {σ σ' : L2.St}
mutual
theorem Own.froze (s : Sub Z Z') : ∀ {v : V} {o : OV} {L : List Addr} {x : PyData}, Own K Z H v o L → ovD o = some x → (∀ a ∈ L, Z' a = H a) → Fr K Z' v x
  | _, _, _, _, .d h, e, _ => by
    cases e
    exact h.sub s
  | _, _, _, x, .lst (xs := xs) h r, e, q => by
    unfold ovD at e
    cases e1 : ovDs xs with
    | none => rw [e1] at e; cases e
    | some ds =>
      rw [e1] at e
      cases e
      exact .lst (Rd.of ((q _ List.mem_cons_self).trans h)) (OwnL.froze s r e1 fun a ha => q a (List.mem_cons_of_mem _ ha))
  | _, _, _, _, .dct _ _, e, _ => by unfold ovD at e; cases e
  | _, _, _, _, .ins (dx := dx) (fs := fs) h _ r, e, q => by
    unfold ovD at e
    cases e1 : ovDf fs with
    | none => rw [e1] at e; cases e
    | some gs =>
      rw [e1] at e
      cases e
      obtain ⟨g1, g2⟩ := ovDf_of e1
      refine .ins (dx := dx) ?_ (OwnL.froze s r g1 fun a ha => q a (List.mem_cons_of_mem _ (List.mem_cons_of_mem _ ha)))
      rw [g2]
      exact (q _ List.mem_cons_self).trans h
theorem OwnL.froze (s : Sub Z Z') : ∀ {vs : List V} {os : List OV} {L : List Addr} {xs : List PyData}, OwnL K Z H vs os L → ovDs os = some xs → (∀ a ∈ L, Z' a = H a) → FrAll K Z' vs xs
  | _, _, _, _, .nil, e, _ => by
    unfold ovDs at e
    cases e
    exact .nil
  | _, _, _, _, .cons (x := x) (xs := os) h r, e, q => by
    unfold ovDs at e
    cases e1 : ovD x with
    | none => rw [e1] at e; cases e
    | some d =>
      cases e2 : ovDs os with
      | none => rw [e1, e2] at e; cases e
      | some ds =>
        rw [e1, e2] at e
        cases e
        exact .cons (Own.froze s h e1 fun a ha => q a (List.mem_append_left _ ha)) (OwnL.froze s r e2 fun a ha => q a (List.mem_append_right _ ha))
end
/-- the items of a list of the slot's own are frozen -/
theorem Rel.froze {xs : List OV} {ds : List PyData} {v : V} (r : Rel K T Z R (some (.lst xs) :: S) (some v :: σ) H) (e : ovDs xs = some ds) : ∃ Z', Sub Z Z' ∧ Rel K T Z' R (some (.lst (ds.map .d)) :: S) (some v :: σ) H := by
  obtain ⟨_, h, n, q⟩ := r.own
  cases h with
  | @own _ _ _ _ L M h0 h =>
    obtain ⟨n1, n2, n3⟩ := List.nodup_append.mp n
    cases h0 with
    | @lst a vs _ L0 ha r0 =>
      have sb : Sub Z (restr H L0 Z) := fun c w ec => by
        have hl : c ∉ L0 := fun z => by rw [(q c (List.mem_append_left _ (List.mem_cons_of_mem _ z))).1] at ec; cases ec
        rw [restr_out hl]; exact ec
      have hM : ∀ c ∈ M, c ∉ L0 := fun c hc z => n3 c (List.mem_cons_of_mem _ z) c hc rfl
      have haL : a ∉ L0 := (List.nodup_cons.mp n1).1
      have f := OwnL.froze (Z' := restr H L0 Z) sb r0 e fun c hc => restr_in hc
      refine ⟨_, sb, ⟨[a] ++ M, .own (.lst ha (OwnL.ofFr f)) (h.mono sb fun _ _ => rfl), List.nodup_append.mpr ⟨by simp, n2, fun c hc b hb ecb => n3 c (by rw [List.mem_singleton.mp hc]; exact List.mem_cons_self) b hb ecb⟩, fun c hc => ?_⟩, fun c w ec => ?_, r.r, fun c ps ec => ?_, r.rt, fun c w ec => ?_, r.tab⟩
      · rcases List.mem_append.mp hc with hc | hc
        · rw [List.mem_singleton.mp hc]
          have := q a (List.mem_append_left _ List.mem_cons_self)
          exact ⟨by rw [restr_out haL]; exact this.1, this.2⟩
        · have := q c (List.mem_append_right _ hc)
          exact ⟨by rw [restr_out (hM c hc)]; exact this.1, this.2⟩
      · by_cases hl : c ∈ L0
        · rwa [restr_in hl] at ec
        · rw [restr_out hl] at ec; exact r.z c w ec
      · by_cases hl : c ∈ L0
        · rw [restr_in hl] at ec
          obtain ⟨u, hu, hn⟩ := OwnL.at_ r0 c hl
          rw [hu] at ec
          exact hn ps (Option.some.inj ec)
        · rw [restr_out hl] at ec; exact r.zt c ps ec
      · by_cases hl : c ∈ L0
        · exact (q c (List.mem_append_left _ (List.mem_cons_of_mem _ hl))).2
        · rw [restr_out hl] at ec; exact r.zr c w ec
end
end PL

/-! PL36: such lists looked at, made, lent -/
namespace PL
open PySem PySem.Spec PyProof.Rows L2 LamX

/-! ### a look at a slot's object as data, for a scalar -/
def hidO (S : SS) : SS := S.map fun o => match o with
  | some (.d x) => some (.d x)
  | _ => none
def scalB : PyData → Bool
  | .none => true
  | .bool _ => true
  | .int _ => true
  | .str _ => true
  | _ => false
section
variable {K : PySem.W.Frag} {T : List (Addr × Str)} {Z Z' R H H' H0 : Hp} {S S' : SS} {σ σ' : L2.St}
theorem OwnS.hid (s : Sub Z Z') : ∀ {σ : L2.St} {S : SS} {L : List Addr}, OwnS K Z H σ S L → OwnS K Z' H' σ (hidO S) []
  | _, _, _, .emp => .emp
  | _, _, _, .out r => .out (OwnS.hid s r)
  | _, _, _, .own (x := x) a b => by
    cases x with
    | d y => exact OwnS.own (L := []) (M := []) (.d (a.frz.2.sub s)) (OwnS.hid s b)
    | lst _ => exact .out (OwnS.hid s b)
    | dct _ => exact .out (OwnS.hid s b)
    | ins _ _ => exact .out (OwnS.hid s b)
theorem hidO_len : (hidO S).length = S.length := by unfold hidO; rw [List.length_map]
theorem peek_in {i : Nat} {o : OV} {x : PyData} (rel : Rel K T Z R S σ H) (e : S[i]? = some (some o)) (ex : ovD o = some x) :
    ∃ Z2 R2, Rel K T Z2 R2 ((hidO S).set i (some (.d x))) σ H ∧ ∀ (Sx : SS) (σ' : L2.St) (H' Z' : Hp), Sub Z2 Z' → Rel K T Z' R2 Sx σ' H' → Rel K T Z R S σ H' := by
  obtain ⟨L, ow, n, q⟩ := rel.own
  obtain ⟨v, Li, Lr, h1, h2, h3, h4⟩ := ow.get e
  have hlt : i < S.length := (List.getElem?_eq_some_iff.mp e).1
  have n2 := (h4.nodup_iff).mp n
  obtain ⟨n3, n4, n5⟩ := List.nodup_append.mp n2
  have qi : ∀ a ∈ Li, Z a = none ∧ R a = none := fun a ha => q a (h4.mem_iff.mpr (List.mem_append_left _ ha))
  have qr : ∀ a ∈ Lr, Z a = none ∧ R a = none := fun a ha => q a (h4.mem_iff.mpr (List.mem_append_right _ ha))
  have sb : Sub Z (restr H Li Z) := fun c w ec => by
    have hl : c ∉ Li := fun z => by rw [(qi c z).1] at ec; cases ec
    rw [restr_out hl]; exact ec
  have sr : Sub R (restr H Lr R) := fun c w ec => by
    have hl : c ∉ Lr := fun z => by rw [(qr c z).2] at ec; cases ec
    rw [restr_out hl]; exact ec
  have f : Fr K (restr H Li Z) v x := h2.froze sb ex fun a ha => restr_in ha
  refine ⟨restr H Li Z, restr H Lr R, ⟨?_, fun a w ea => ?_, fun a w ea => ?_, fun a ps ea => ?_, fun a ps ea => ?_, fun a w ea => ?_, rel.tab⟩, fun Sx σ' H' Z' s r' => ?_⟩
  · obtain ⟨M, h5, D, h6⟩ := (ow.hid (H' := H) sb).put (i := i) (v := v) (x := .d x) (Li := []) (.d f) (by rw [hidO_len]; exact hlt)
    rw [set_same h1] at h5
    have hM : M = [] := by
      have := h6.length_eq
      simp at this
      exact List.length_eq_zero_iff.mp (by omega)
    subst hM
    exact ⟨[], h5, List.nodup_nil, fun a ha => by cases ha⟩
  · by_cases hl : a ∈ Li
    · rwa [restr_in hl] at ea
    · rw [restr_out hl] at ea; exact rel.z a w ea
  · by_cases hl : a ∈ Lr
    · rwa [restr_in hl] at ea
    · rw [restr_out hl] at ea; exact rel.r a w ea
  · by_cases hl : a ∈ Li
    · rw [restr_in hl] at ea
      obtain ⟨u, hu, hn⟩ := h2.at_ a hl
      rw [hu] at ea
      exact hn ps (Option.some.inj ea)
    · rw [restr_out hl] at ea; exact rel.zt a ps ea
  · by_cases hl : a ∈ Lr
    · rw [restr_in hl] at ea
      obtain ⟨u, hu, hn⟩ := h3.at_ a hl
      rw [hu] at ea
      exact hn ps (Option.some.inj ea)
    · rw [restr_out hl] at ea; exact rel.rt a ps ea
  · by_cases hl : a ∈ Li
    · have hr : a ∉ Lr := fun z => n5 a hl a z rfl
      rw [restr_out hr]; exact (qi a hl).2
    · rw [restr_out hl] at ea
      have hr : a ∉ Lr := fun z => by rw [(qr a z).1] at ea; cases ea
      rw [restr_out hr]; exact rel.zr a w ea
  · refine ⟨⟨L, ow.mono (Sub.refl Z) fun a ha => ?_, n, q⟩, fun a w ea => r'.z a w (s a w (sb a w ea)), fun a w ea => r'.r a w (sr a w ea), rel.zt, rel.rt, rel.zr, r'.tab⟩
    obtain ⟨u, hu, _⟩ := ow.at_ a ha
    rcases List.mem_append.mp (h4.mem_iff.mp ha) with hl | hl
    · rw [r'.z a u (s a u (by rw [restr_in hl]; exact hu)), hu]
    · rw [r'.r a u (by rw [restr_in hl]; exact hu), hu]
theorem Fr.scal {v : V} {y : PyData} (h : Fr K Z' v y) (e : scalB y = true) : Fr K Z v y := by
  cases h with
  | non => exact .non
  | bl b => exact .bl b
  | int i => exact .int i
  | str x => exact .str x
  | lst _ _ => cases e
  | tup _ _ => cases e
  | exc0 _ => cases e
  | exc _ _ _ _ => cases e
  | scr _ => cases e
  | ins _ _ => cases e
end
def peek (i : Nat) (f : M OV) : M OV := fun S => match S[i]? with
  | some (some o) => match ovD o with
    | some x => match f ((hidO S).set i (some (.d x))) with
      | some (.ok (.d y), _) => if scalB y then some (.ok (.d y), S) else none
      | _ => none
    | none => none
  | _ => none
def peekT (i : Nat) (f : M Bool) : M Bool := fun S => match S[i]? with
  | some (some o) => match ovD o with
    | some x => match f ((hidO S).set i (some (.d x))) with
      | some (.ok b, _) => some (.ok b, S)
      | _ => none
    | none => none
  | _ => none
section
variable {X : Cx} {T : List (Addr × Str)} {mp : List Nat} {Z Z' R H : Hp} {S : SS} {σ : L2.St} {e : Expr}
theorem ev_peek {i : Nat} {f : M OV} (h : EV X T e f) : EV X T e (peek i f) := pe_mono h fun σ H Q ⟨Z, R, S, r, S', W, rel, e, tk, p⟩ => by
  unfold peek at e
  split at e
  · rename_i o eo
    split at e
    · rename_i x ex
      split at e
      · rename_i y Sx ef
        split at e
        · rename_i hs
          cases e
          obtain ⟨Z2, R2, rel2, bk⟩ := peek_in rel eo ex
          refine ⟨Z2, R2, _, _, Sx, W, rel2, ef, tk, fun v H' Z' s r' => ?_⟩
          exact p v H' Z (Sub.refl _) ((bk _ _ H' Z' s r'.pop).push (r'.popd.1.scal hs))
        · cases e
      · cases e
    · cases e
  · cases e
theorem evt_peek {i : Nat} {f : M Bool} (h : EVT X T e f) : EVT X T e (peekT i f) := pt_mono h fun σ H Q ⟨Z, R, S, r, S', W, rel, e, tk, p⟩ => by
  unfold peekT at e
  split at e
  · rename_i o eo
    split at e
    · rename_i x ex
      split at e
      · rename_i b Sx ef
        cases e
        obtain ⟨Z2, R2, rel2, bk⟩ := peek_in rel eo ex
        exact ⟨Z2, R2, _, _, Sx, W, rel2, ef, tk, fun H' Z' s r' => p H' Z (Sub.refl _) (bk _ _ H' Z' s r')⟩
      · cases e
    · cases e
  · cases e
/-! ### ghosts -/
def frzE (i : Nat) : SM := fun S => match S[i]? with
  | some (some (.lst xs)) => (ovDs xs).map fun ds => (.nx, S.set i (some (.lst (ds.map .d))))
  | _ => none
theorem svs_frz {i : Nat} {sts : List Stmt} {f : SM} (h : SVs X T mp sts f) : SVs X T mp sts (seqS (frzE i) f) := pss_mono h fun D σ H ⟨Z, R, S, r, S', W, P, rel, pn, e, tk, q⟩ => by
  unfold seqS at e
  cases e0 : S[i]? with
  | none => unfold frzE at e; rw [e0] at e; cases e
  | some oo =>
    cases oo with
    | none => unfold frzE at e; rw [e0] at e; cases e
    | some o =>
      cases o with
      | lst xs =>
        cases e1 : ovDs xs with
        | none => unfold frzE at e; rw [e0] at e; simp only [e1, Option.map_none] at e; cases e
        | some ds =>
          unfold frzE at e
          rw [e0] at e
          simp only [e1, Option.map_some] at e
          obtain ⟨v, h1, h2⟩ := rel.outS e0
          obtain ⟨Z2, s2, h3⟩ := h2.froze e1
          have h4 := h3.inS h1
          rw [List.set_set] at h4
          exact ⟨Z2, R, _, r, S', W, P, h4, pn, e, tk, PFl.sub s2 q⟩
      | d _ => unfold frzE at e; rw [e0] at e; cases e
      | dct _ => unfold frzE at e; rw [e0] at e; cases e
      | ins _ _ => unfold frzE at e; rw [e0] at e; cases e
theorem svs_choose {p : SS → Bool} {sts : List Stmt} {f g : SM} (h1 : SVs X T mp sts f) (h2 : SVs X T mp sts g) : SVs X T mp sts (fun S => if p S then f S else g S) := ⟨fun pins s σ H D I ⟨Z, R, S, r, S', W, P, rel, pn, e, tk, q⟩ => by
  simp only at e
  split at e
  · exact h1.run pins s σ H D I ⟨Z, R, S, r, S', W, P, rel, pn, e, tk, q⟩
  · exact h2.run pins s σ H D I ⟨Z, R, S, r, S', W, P, rel, pn, e, tk, q⟩⟩
def stuckS : SM := fun _ => none
/-! ### y = x[k]; then a statement that stores into y -/
def lendS (i j kv : Nat) (fA : SM) : SM := fun S => match S[i]?, S[kv]? with
  | some (some (.lst xs)), some (some (.d (.int n))) => match ixN xs.length n with
    | some k => match xs[k]? with
      | some (.lst ys) => if j < S.length then match fA ((S.set i none).set j (some (.lst ys))) with
        | some (.nx, S') => match S'[j]? with
          | some (some (.lst ys')) => some (.nx, (S'.set j none).set i (some (.lst (xs.set k (.lst ys')))))
          | _ => none
        | _ => none
        else none
      | _ => none
    | none => none
  | _, _ => none
theorem lendS_nx {i j kv : Nat} {fA : SM} {S S' : SS} {r : Fl} (h : lendS i j kv fA S = some (r, S')) : r = .nx := by
  unfold lendS at h
  split at h
  · split at h
    · split at h
      · split at h
        · split at h
          · split at h
            · cases h; rfl
            · cases h
          · cases h
        · cases h
      · cases h
    · cases h
  · cases h
end
section
variable {K : PySem.W.Frag} {R H H' : Hp} {L M : List Addr}
theorem restr_perm (h : ∀ a, a ∈ L ↔ a ∈ M) : restr H L R = restr H M R := by
  funext a
  unfold restr
  by_cases e : a ∈ L
  · rw [if_pos e, if_pos ((h a).mp e)]
  · rw [if_neg e, if_neg fun z => e ((h a).mpr z)]
theorem restr_congr (h : ∀ a ∈ L, H' a = H a) : restr H L R = restr H' L R := by
  funext a
  unfold restr
  by_cases e : a ∈ L
  · rw [if_pos e, if_pos e, h a e]
  · rw [if_neg e, if_neg e]
theorem restr_two (h : ∀ a ∈ M, H' a = H a) : restr H' L (restr H M R) = restr H' (L ++ M) R := by
  funext a
  unfold restr
  by_cases e : a ∈ L
  · rw [if_pos e, if_pos (List.mem_append_left _ e)]
  · by_cases e2 : a ∈ M
    · rw [if_neg e, if_pos e2, if_pos (List.mem_append_right _ e2), h a e2]
    · rw [if_neg e, if_neg e2, if_neg fun z => (List.mem_append.mp z).elim e e2]
end
section
variable {X : Cx} {T : List (Addr × Str)} {mp : List Nat} {Z Z' R H : Hp} {S : SS} {σ : L2.St}
def pin2 (i j : Nat) (u w : V) (P : Nat → V) (c : Nat) : V := if c = i then u else if c = j then w else P c
theorem pin2_i {i j : Nat} {u w : V} {P : Nat → V} : pin2 i j u w P i = u := if_pos rfl
theorem pin2_j {i j : Nat} {u w : V} {P : Nat → V} (h : i ≠ j) : pin2 i j u w P j = w := (if_neg (Ne.symm h)).trans (if_pos rfl)
theorem pin2_o {i j c : Nat} {u w : V} {P : Nat → V} (h : c ≠ i) (h2 : c ≠ j) : pin2 i j u w P c = P c := (if_neg h).trans (if_neg h2)
theorem svs_lend {i j kv : Nat} {x y z : Str} {px py pz p1 pos : Pos} {st2 : Stmt} {rest : List Stmt} {fA g : SM} (hN : X.N.Nodup) (hi : X.N[i]? = some x) (hj : X.N[j]? = some y) (hk : X.N[kv]? = some z) (vx : Vis X.env.scope x) (vz : Vis X.env.scope z) (ly : Loc X.env.scope y)
    (hA : SV X T (i :: j :: mp) st2 fA) (hr : SVs X T mp rest g) (hij : i ≠ j := by decide) (hm : j ∉ mp := by decide) (hm2 : i ∉ mp := by decide)
    (dx : (x == ("__debug__" : Str)) = false := by decide) (cx : (x == ("__classdict__" : Str)) = false := by decide) (dz : (z == ("__debug__" : Str)) = false := by decide) (cz : (z == ("__classdict__" : Str)) = false := by decide)
    (hs : swapsWith (.Subscript (.Name x px) (.Name z pz) p1) (some (.Name y py)) pos.line X.env = pure false := by rfl) (hf : X.fn y = true ∨ X.env.scope.names.lookup y = some .local := by first | exact .inl rfl | exact .inr rfl | assumption) :
    SVs X T mp (.Assign [.Name y py] (.Subscript (.Name x px) (.Name z pz) p1) pos :: st2 :: rest) (seqS (lendS i j kv fA) g) :=
  pss_mono (pss_cons (ps_set hN hj ly (pe_ix ix_list (pe_var hi vx dx cx) (pe_var hk vz dz cz) (by intro _ _; rfl)) hs hf) (pss_cons hA hr)) fun D σ H ⟨Z, R, S, r, S9, W, P, rel, pn, e, tk, q⟩ => by
    unfold seqS at e
    split at e
    · rename_i S1 e1
      unfold lendS at e1
      split at e1
      · rename_i xs n ei ek
        split at e1
        · rename_i k ex
          split at e1
          · rename_i ys exk
            split at e1
            · rename_i hjl0
              split at e1
              · rename_i S' eA
                split at e1
                · rename_i ys' ej
                  cases e1
                  obtain ⟨vn, hn1, hn2⟩ := rel.get ek
                  cases hn2
                  obtain ⟨vf, hf1, rel1⟩ := rel.outS ei
                  obtain ⟨Lf, owf, nf, qf, rel2⟩ := rel1.hide
                  cases owf with
                  | @lst a vs _ L0 ha r0 =>
                    obtain ⟨vk, Lk, Lr, hv1, hv2, hv3, hv4⟩ := r0.at1 exk
                    have hlen := r0.length
                    cases hv2 with
                    | @lst b ws _ Lb hb rb =>
                      have np := List.nodup_cons.mp nf
                      have np2 := (hv3.nodup_iff).mp np.2
                      obtain ⟨m1, m2, m3⟩ := List.nodup_append.mp np2
                      have mem0 : ∀ c, c ∈ a :: L0 ↔ c ∈ (b :: Lb) ++ (a :: Lr) := fun c => by
                        have := hv3.mem_iff (a := c)
                        simp only [List.mem_cons, List.mem_append] at this ⊢
                        constructor
                        · rintro (h | h)
                          · exact .inr (.inl h)
                          · rcases this.mp h with h | h
                            · exact .inl h
                            · exact .inr (.inr h)
                        · rintro (h | h | h)
                          · exact .inr (this.mpr (.inl h))
                          · exact .inl h
                          · exact .inr (this.mpr (.inr h))
                      have eR : restr H (a :: L0) R = restr H (b :: Lb) (restr H (a :: Lr) R) := by
                        rw [restr_two fun _ _ => rfl]
                        exact restr_perm mem0
                      rw [eR] at rel2
                      have qk : ∀ c ∈ b :: Lb, restr H (a :: Lr) R c = none := fun c hc => by
                        have h1 : c ∉ a :: Lr := fun h => by
                          rcases List.mem_cons.mp h with rfl | h
                          · exact np.1 (hv3.mem_iff.mpr (List.mem_append_left _ hc))
                          · exact m3 c hc c h rfl
                        rw [restr_out h1]
                        exact (qf c ((mem0 c).mpr (List.mem_append_left _ hc))).2
                      have rel3 := rel2.show_ (Sub.refl _) (Own.lst hb rb) m1 qk
                      have rel4 := rel3.set (i := j) (by rw [List.length_set]; exact hjl0)
                      have rS : ∀ c ∈ a :: Lr, ∃ u, H c = some u := fun c hc => by
                        rcases List.mem_cons.mp hc with rfl | hc
                        · exact ⟨_, ha⟩
                        · obtain ⟨u, hu, _⟩ := OwnL.at_ r0 c (hv3.mem_iff.mpr (List.mem_append_right _ hc))
                          exact ⟨u, hu⟩
                      refine ⟨_, hf1, _, hn1, a, vs, n, .ref b, rfl, rfl, SqL.of ha, by unfold L2.atI; rw [hlen, ex]; exact hv1, ?_⟩
                      refine ⟨Z, _, _, .nx, S', W, pin2 i j (.ref a) (.ref b) P, rel4, fun c hc => ?_, eA, tk, fun σ2 H2 Z' s rel5 pn5 => ?_⟩
                      · by_cases h1 : c = i
                        · subst h1
                          rw [pin2_i, List.getElem?_set_ne (Ne.symm hij)]
                          exact hf1
                        · by_cases h2 : c = j
                          · subst h2
                            rw [pin2_j hij, List.getElem?_set_self (by rw [rel.length]; exact hjl0)]
                          · rw [pin2_o h1 h2, List.getElem?_set_ne (Ne.symm h2)]
                            rcases List.mem_cons.mp hc with h | hc
                            · exact absurd h h1
                            · rcases List.mem_cons.mp hc with h | hc
                              · exact absurd h h2
                              · exact pn c hc
                      · have p_i : σ2[i]? = some (some (.ref a)) := by
                          have := pn5 i List.mem_cons_self
                          rwa [pin2_i] at this
                        have p_j : σ2[j]? = some (some (.ref b)) := by
                          have := pn5 j (List.mem_cons_of_mem _ List.mem_cons_self)
                          rwa [pin2_j hij] at this
                        obtain ⟨v', g1, rel6⟩ := rel5.outS ej
                        rw [p_j] at g1
                        cases g1
                        obtain ⟨Lk', ow', nk', qk', rel7⟩ := rel6.hide
                        have rH : ∀ c ∈ a :: Lr, H2 c = H c := fun c hc => by
                          obtain ⟨u, hu⟩ := rS c hc
                          rw [rel5.r c u (by rw [restr_in hc]; exact hu), hu]
                        have dj : ∀ c ∈ Lk', c ∉ a :: Lr := fun c hc h => by
                          have h1 := (qk' c hc).2
                          obtain ⟨u, hu⟩ := rS c h
                          rw [restr_in h, hu] at h1
                          cases h1
                        obtain ⟨L', g2, g3⟩ := hv4 Z' H2 (.lst ys') Lk' s (fun c hc => rH c (List.mem_cons_of_mem _ hc)) ow'
                        have eR2 : restr H2 Lk' (restr H (a :: Lr) R) = restr H2 (a :: L') R := by
                          rw [restr_congr rH, restr_two fun _ _ => rfl]
                          refine restr_perm fun c => ?_
                          have := g3.mem_iff (a := c)
                          simp only [List.mem_cons, List.mem_append] at this ⊢
                          constructor
                          · rintro (h | h | h)
                            · exact .inr (this.mpr (.inl h))
                            · exact .inl h
                            · exact .inr (this.mpr (.inr h))
                          · rintro (h | h)
                            · exact .inr (.inl h)
                            · rcases this.mp h with h | h
                              · exact .inl h
                              · exact .inr (.inr h)
                        rw [eR2] at rel7
                        have rel9 := rel7.show_ (Sub.refl _) (Own.lst ((rH a List.mem_cons_self).trans ha) g2) (by
                          refine List.nodup_cons.mpr ⟨fun h => ?_, (g3.nodup_iff).mpr (List.nodup_append.mpr ⟨nk', m2, fun c hc d hd ecd => dj c hc (List.mem_cons_of_mem _ (ecd ▸ hd))⟩)⟩
                          rcases List.mem_append.mp (g3.mem_iff.mp h) with h | h
                          · exact dj a h List.mem_cons_self
                          · exact np.1 (hv3.mem_iff.mpr (List.mem_append_right _ h))) (fun c hc => by
                          rcases List.mem_cons.mp hc with rfl | hc
                          · exact (qf _ List.mem_cons_self).2
                          · rcases List.mem_append.mp (g3.mem_iff.mp hc) with h | h
                            · have h1 := (qk' c h).2
                              rwa [restr_out (dj c h)] at h1
                            · exact (qf c (List.mem_cons_of_mem _ (hv3.mem_iff.mpr (List.mem_append_right _ h)))).2)
                        have rel10 := rel9.inS p_i
                        exact ⟨Z', R, _, r, S9, W, P, rel10, fun c hc => by
                          have h1 := pn5 c (List.mem_cons_of_mem _ (List.mem_cons_of_mem _ hc))
                          rwa [pin2_o (c := c) (fun z => hm2 (by rw [← z]; exact hc)) (fun z => hm (by rw [← z]; exact hc))] at h1, e, tk, PFl.sub s q⟩
                · cases e1
              · cases e1
            · cases e1
          · cases e1
        · cases e1
      · cases e1
    · rename_i hr'
      have h1 := lendS_nx e
      subst h1
      exact absurd e (hr' S9)
end
end PL

/-! PL37: comprehensions whose items are objects of the list's own -/
namespace PL
open PySem PySem.Spec PyProof.Rows L2 LamX

section
variable {K : PySem.W.Frag} {T : List (Addr × Str)} {Z Z' R H H' H0 : Hp} {S S' : SS} {σ σ' : L2.St} {L M : List Addr}
theorem OwnL.snocO : ∀ {vs : List V} {xs : List OV} {L : List Addr} {v : V} {o : OV} {M : List Addr}, OwnL K Z H vs xs L → Own K Z H v o M → OwnL K Z H (vs ++ [v]) (xs ++ [o]) (L ++ M)
  | _, _, _, v, o, M, .nil, h => by
    have := OwnL.cons h (OwnL.nil (K := K) (Z := Z) (H := H))
    rw [List.append_nil] at this
    exact this
  | _, _, _, v, o, M, .cons a b, h => by
    rw [List.append_assoc]
    exact .cons a (OwnL.snocO b h)
theorem restr_upd {D : Addr} {u : HO} (h : D ∉ L) : restr H L (upd R D u) = upd (restr H L R) D u := by
  funext a
  by_cases e : a = D
  · subst e
    rw [restr_out h, upd_same, upd_same]
  · rw [upd_ne e]
    unfold restr
    by_cases e2 : a ∈ L
    · rw [if_pos e2, if_pos e2]
    · rw [if_neg e2, if_neg e2, upd_ne e]
theorem restr_app (h : ∀ a ∈ L, H' a = H a) : restr H' M (restr H L R) = restr H' (L ++ M) R := by
  rw [restr_two h]
  exact restr_perm fun a => by simp [or_comm]
end
def compLO (g : PyData → SS → Option SS) (ft : M Bool) (fe : M OV) (vs : List Nat) : List PyData → List OV → SS → Option (List OV × SS)
  | [], acc, S => some (acc, S)
  | d :: ds, acc, S => match g d S with
    | none => none
    | some S1 => match ft S1 with
      | some (.ok true, S2) => match fe S2 with
        | some (.ok o, S3) => if acc.length < sizeLine then compLO g ft fe vs ds (acc ++ [o]) (wipeS S3 vs) else none
        | _ => none
      | some (.ok false, S2) => compLO g ft fe vs ds acc (wipeS S2 vs)
      | _ => none
def compEO (fi : M (List PyData)) (g : PyData → SS → Option SS) (ft : M Bool) (fe : M OV) (vs : List Nat) : M OV := fi >>= fun ds => fun S => if vs.all (fun i => decide (i < S.length)) then (compLO g ft fe vs ds [] (wipeS S vs)).map fun p => (.ok (.lst p.1), p.2) else none
section
variable {X : Cx} {T : List (Addr × Str)} {mp : List Nat} {a b c e l tg iter elt : Expr} {ifs : List Expr} {pos : Pos} {Z R H : Hp} {S : SS} {σ : L2.St}
theorem lc_ofO {vs ws : List Nat} {fi : M (List PyData)} {g : PyData → SS → Option SS} {ft : M Bool} {fe : M OV} (hw : ∀ i ∈ ws, i ∈ vs) : ∀ (σ : L2.St) (H : Hp) (Q : VK), rdg X T (compEO fi g ft fe vs) σ H Q →
    tLc (rig X T fi) (rgd X T ws g) (fun σ H Q => ∃ Z, rz0 X.K T (PBo X.K T σ Q) Z ft σ H) (fun σ H Q => ∃ Z, rz0 X.K T (POk X.K T σ Q) Z fe σ H) vs σ H Q := fun σ H Q ⟨Z, h⟩ => by
  obtain ⟨Z0, h⟩ := ri_bind POk.mono h
  refine ⟨Z0, rz_mono h fun Z R o S p J H1 Z1 s1 r1 go1 D hD => ?_⟩
  obtain ⟨ds, Z2, s2, go, R, S, r, S', W, rel, e, tk, pf⟩ := p J H1 Z1 s1 r1 go1
  have e : (if vs.all (fun i => decide (i < S.length)) then (compLO g ft fe vs ds [] (wipeS S vs)).map (fun p => (Except.ok (OV.lst p.1), p.2)) else none) = some (r, S') := e
  split at e
  · rename_i hall
    cases q0 : compLO g ft fe vs ds [] (wipeS S vs) with
    | none => rw [q0] at e; cases e
    | some t =>
      obtain ⟨accF, S9⟩ := t
      rw [q0] at e
      cases e
      have hR : R D = none := by
        cases q : R D with
        | none => rfl
        | some w => rw [rel.r _ _ q] at hD; cases hD
      have hlt : ∀ i ∈ vs, i < S.length := fun i hi => of_decide_eq_true (List.all_eq_true.mp hall i hi)
      refine ⟨fun i m H => m = ds.length - i ∧ i ≤ ds.length ∧ ∃ Z' S2 accV acc Lc H0, Sub Z2 Z' ∧ Rel X.K T Z' (upd (restr H0 Lc R) D (.lst accV)) S2 (L2.wipe σ vs) H ∧ OwnL X.K Z' H0 accV acc Lc ∧ Lc.Nodup ∧ (∀ a ∈ Lc, R a = none ∧ a ≠ D) ∧ S2.length = S.length ∧ (∀ i ∈ vs, S2[i]? = some none) ∧ compLO g ft fe vs (ds.drop i) acc S2 = some (accF, S9),
        ⟨_, rfl, Nat.zero_le _, Z2, wipeS S _, [], [], [], H, Sub.refl _, by
          have : restr H [] R = R := by funext a; exact restr_out (by simp)
          rw [this]
          exact (rel.wipe _).addR hD [], .nil, List.nodup_nil, (fun a ha => by cases ha), wipeS_len _, fun i hi => wipeS_get _ i hi (hlt i hi), q0⟩, ?_⟩
      rintro i m H3 ⟨rfl, hi, Z3, S3, accV, acc, Lc, H0, s3, rel3, fa, nc, qc, hl3, hn3, e3⟩
      obtain ⟨g1, g2⟩ := go Z3 _ S3 _ H3 s3 rel3 i
      by_cases hlt2 : i < ds.length
      · obtain ⟨g3, g4⟩ := g2 ds[i] (List.getElem?_eq_getElem hlt2)
        rw [List.drop_eq_getElem_cons hlt2] at e3
        refine .inr ⟨g3, fun H' => ∃ Z' S2 accV acc Lc H0, Sub Z2 Z' ∧ Rel X.K T Z' (upd (restr H0 Lc R) D (.lst accV)) S2 (L2.wipe σ vs) H' ∧ OwnL X.K Z' H0 accV acc Lc ∧ Lc.Nodup ∧ (∀ a ∈ Lc, R a = none ∧ a ≠ D) ∧ S2.length = S.length ∧ (∀ i ∈ vs, S2[i]? = some none) ∧ compLO g ft fe vs (ds.drop (i + 1)) acc S2 = some (accF, S9),
          fun H' hh => ⟨ds.length - (i + 1), by omega, rfl, hlt2, hh⟩, fun x H4 y => ?_⟩
        obtain ⟨Z4, s4, rel4, fx⟩ := g4 x H4 y
        unfold compLO at e3
        cases eg : g ds[i] S3 with
        | none => rw [eg] at e3; cases e3
        | some S5 =>
          rw [eg] at e3
          refine ⟨ds[i], Z4, _, S3, S5, fx, rel4, eg, fun σ5 rel5 off => ⟨wipe_off off hw, ?_⟩⟩
          have hσ : L2.wipe σ5 vs = L2.wipe σ vs := wipe_off off hw
          have hσl : σ5.length = S.length := by rw [off.1, rel4.length, hl3]
          simp only at e3
          cases et : ft S5 with
          | none => rw [et] at e3; cases e3
          | some tt =>
            obtain ⟨tr, S6⟩ := tt
            rw [et] at e3
            cases tr with
            | error _ => cases e3
            | ok b =>
              refine ⟨Z4, _, S5, b, S6, rel5, et, fun H6 Z6 s6 rel6 => ?_⟩
              cases b with
              | false =>
                rw [if_neg Bool.false_ne_true]
                have hl6 : S6.length = S.length := by rw [← rel6.length, hσl]
                have rel7 := rel6.wipe vs
                rw [hσ] at rel7
                exact ⟨Z6, wipeS S6 _, accV, acc, Lc, H0, (s3.trans s4).trans s6, rel7, fa.mono (s4.trans s6) (fun _ _ => rfl), nc, qc, (wipeS_len _).trans hl6, fun i hi => wipeS_get _ i hi (by rw [hl6]; exact hlt i hi), e3⟩
              | true =>
                rw [if_pos rfl]
                simp only at e3
                cases ee : fe S6 with
                | none => rw [ee] at e3; cases e3
                | some ts =>
                  obtain ⟨tv, S7⟩ := ts
                  rw [ee] at e3
                  cases tv with
                  | error _ => cases e3
                  | ok ov =>
                    simp only at e3
                    split at e3
                    · rename_i hsz
                      refine ⟨Z6, _, S6, _, S7, rel6, ee, fun y H7 Z7 s7 rel7 => ?_⟩
                      obtain ⟨Ly, owy, ny, qy, rel8⟩ := rel7.hide
                      have hDy : D ∉ Ly := fun z => by have := (qy D z).2; rw [upd_same] at this; cases this
                      have hDc : D ∉ Lc := fun z => (qc D z).2 rfl
                      have eH : ∀ a ∈ Lc, H7 a = H0 a := fun a ha => by
                        obtain ⟨u, hu, _⟩ := OwnL.at_ fa a ha
                        rw [rel7.r a u (by rw [upd_ne (qc a ha).2, restr_in ha]; exact hu), hu]
                      have dj : ∀ a ∈ Ly, a ∉ Lc := fun a ha h => by
                        have h1 := (qy a ha).2
                        obtain ⟨u, hu, _⟩ := OwnL.at_ fa a h
                        rw [upd_ne (qc a h).2, restr_in h, hu] at h1
                        cases h1
                      rw [restr_upd hDy, restr_app eH] at rel8
                      refine ⟨accV, rel8.r D _ upd_same, by rw [OwnL.length fa]; exact hsz, ?_⟩
                      have hl7 : S7.length = S.length := by rw [← rel8.length, hσl]
                      have rel9 := (rel8.setR (vs' := accV ++ [y])).wipe vs
                      rw [hσ] at rel9
                      exact ⟨Z7, wipeS S7 _, accV ++ [y], acc ++ [ov], Lc ++ Ly, H7, ((s3.trans s4).trans s6).trans s7, rel9, OwnL.snocO (fa.mono ((s4.trans s6).trans s7) eH) owy, List.nodup_append.mpr ⟨nc, ny, fun a ha b hb eab => dj b hb (by rw [← eab]; exact ha)⟩, (fun a ha => by
                        rcases List.mem_append.mp ha with ha | ha
                        · exact qc a ha
                        · have h1 := (qy a ha).2
                          have h2 : a ≠ D := fun z => hDy (by rw [← z]; exact ha)
                          rw [upd_ne h2, restr_out (dj a ha)] at h1
                          exact ⟨h1, h2⟩), (wipeS_len _).trans hl7, fun i hi => wipeS_get _ i hi (by rw [hl7]; exact hlt i hi), e3⟩
                    · cases e3
      · have he : i = ds.length := by omega
        subst he
        rw [List.drop_length] at e3
        cases e3
        refine .inl ⟨g1 rfl, ?_⟩
        have hDc : D ∉ Lc := fun z => (qc D z).2 rfl
        have rel5 := rel3.unwipe _ hn3
        have eD : H3 D = some (.lst accV) := rel5.r D _ upd_same
        have eH : ∀ a ∈ Lc, H3 a = H0 a := fun a ha => by
          obtain ⟨u, hu, _⟩ := OwnL.at_ fa a ha
          rw [rel5.r a u (by rw [upd_ne (qc a ha).2, restr_in ha]; exact hu), hu]
        have eR : upd (restr H0 Lc R) D (.lst accV) = restr H3 (D :: Lc) R := by
          funext a
          by_cases h : a = D
          · subst h
            rw [upd_same, restr_in List.mem_cons_self, eD]
          · rw [upd_ne h]
            by_cases h2 : a ∈ Lc
            · rw [restr_in h2, restr_in (List.mem_cons_of_mem _ h2), eH a h2]
            · rw [restr_out h2, restr_out (by simp [h, h2])]
        rw [eR] at rel5
        have rel6 := rel5.show_ (Sub.refl _) (Own.lst eD (fa.mono (Sub.refl _) eH)) (List.nodup_cons.mpr ⟨hDc, nc⟩) (fun a ha => by
          rcases List.mem_cons.mp ha with rfl | ha
          · exact hR
          · exact (qc a ha).1)
        exact pf _ H3 Z3 s3 rel6
  · cases e
theorem ev_compO {scope : Scope} {ownN : List (Str × Nat)} {ws : List Nat} {fi : M (List PyData)} {g : PyData → SS → Option SS} {ft : M Bool} {fe : M OV} (hc : X.calm = true) (hN : X.N.Nodup) (hi : EVI X T tg iter fi) (ok : BlkOk X.N X.env.scope scope ownN)
    (hg : ∀ (s : Shared) (H : Hp) (C : Addr) (cl : List (Str × Addr)) (fp : List Addr), GV (X.blk s H scope (compEnvC scope cl C X.env) fp) T ws tg g) (ht : ∀ (s : Shared) (H : Hp) (C : Addr) (cl : List (Str × Addr)) (fp : List Addr), EVTs (X.blk s H scope (compEnvC scope cl C X.env) fp) T ifs ft)
    (he : ∀ (s : Shared) (H : Hp) (C : Addr) (cl : List (Str × Addr)) (fp : List Addr), EV (X.blk s H scope (compEnvC scope cl C X.env) fp) T elt fe) (hw : ∀ i ∈ ws, i ∈ ownN.map (·.2) := by decide) (hs : ∀ x, foldedSetIterable iter X.env x = pure x := by intro _; rfl) :
    EV X T (.ListComp elt [⟨tg, iter, ifs, 0⟩] scope pos) (compEO fi g ft fe (ownN.map (·.2))) :=
  pe_mono (pe_lc (g := rgd X T ws g) (tt := fun σ H Q => ∃ Z, rz0 X.K T (PBo X.K T σ Q) Z ft σ H) (te := fun σ H Q => ∃ Z, rz0 X.K T (POk X.K T σ Q) Z fe σ H) hc hN hi ok hg
    (fun s H C cl fp => pts_mono (ht s H C cl fp) fun σ H Q ⟨Z, h⟩ => ⟨Z, rz0_rz h⟩) (fun s H C cl fp => pe_mono (he s H C cl fp) fun σ H Q ⟨Z, h⟩ => ⟨Z, rz0_rz h⟩) hs) fun σ H Q h => lc_ofO hw σ H Q h
end
end PL

/-! PL38: xs[::-1] of a list -/
namespace PL
open PySem PySem.Spec PyProof.Rows L2 LamX
def oRev (own : Bool) : PyData → Option OV
  | .list xs => some (newL own xs.reverse)
  | _ => none
def revA (own : Bool) (fa : M AV) : M OV := fa >>= op1 (oRev own)
theorem FrAll.rev {K : PySem.W.Frag} {Z : Hp} : ∀ {vs : List V} {ds : List PyData}, FrAll K Z vs ds → FrAll K Z vs.reverse ds.reverse
  | _, _, .nil => .nil
  | _, _, .cons a b => by
    rw [List.reverse_cons, List.reverse_cons]
    exact (FrAll.rev b).append (.cons a .nil)
section
variable {X : Cx} {T : List (Addr × Str)} {a : Expr} {fa : M AV} {pos p1 p2 p3 : Pos}
theorem ev_revL {own : Bool} {k : Nat} (ha : EVV X T a fa) : EV X T (.Subscript a (.Slice none none (some (.UnaryOp .USub (.Constant (.int 1) k p1) p2)) p3) pos) (revA own fa) := pe_mono (pe_revL ha) fun σ H Q ⟨Z, h⟩ => by
  refine ⟨Z, rz_mono (rv_bind POk.mono h) fun Z R a S p v H1 Z1 s1 r1 a1 => ?_⟩
  obtain ⟨u, Z2, s2, o2, h2⟩ := p v H1 Z1 s1 r1 a1
  obtain ⟨x, o, R8, S8, sz, w, e8, rel8, pf8⟩ := rz_op1 h2 o2
  have fin : Fin X T Z2 o σ H1 Q := ⟨R8, S8, rel8, pf8⟩
  cases x with
  | list xs =>
    cases e8
    obtain ⟨b, vs, rfl, hb, rb⟩ := w.list sz
    exact ⟨b, vs, rfl, .inl hb, fin.lst rb.rev⟩
  | _ => cases e8
end
@[simp] theorem revA_S {own : Bool} {fa : M AV} {S : SS} : revA own fa S = (fa >>= op1 (oRev own)) S := rfl
@[simp] theorem oRev_l (own : Bool) (xs : List PyData) : oRev own (.list xs) = some (newL own xs.reverse) := rfl
/-- a number of the list stands in the slot -/
def inB (i : Nat) (L : List Int) (S : SS) : Bool := match S[i]? with
  | some (some (.d (.int n))) => L.contains n
  | _ => false
theorem svs_stuck {X : Cx} {T : List (Addr × Str)} {mp : List Nat} {sts : List Stmt} : SVs X T mp sts stuckS := ⟨fun pins s σ H D I ⟨Z, R, S, r, S', W, P, rel, pn, e, tk, q⟩ => by cases e⟩
@[simp] theorem stuckS_S (S : SS) : stuckS S = none := rfl
@[simp] theorem peek_S (i : Nat) (f : M OV) (S : SS) : peek i f S = match S[i]? with
  | some (some o) => match ovD o with
    | some x => match f ((hidO S).set i (some (.d x))) with
      | some (.ok (.d y), _) => if scalB y then some (.ok (.d y), S) else none
      | _ => none
    | none => none
  | _ => none := rfl
@[simp] theorem peekT_S (i : Nat) (f : M Bool) (S : SS) : peekT i f S = match S[i]? with
  | some (some o) => match ovD o with
    | some x => match f ((hidO S).set i (some (.d x))) with
      | some (.ok b, _) => some (.ok b, S)
      | _ => none
    | none => none
  | _ => none := rfl
@[simp] theorem frzE_S (i : Nat) (S : SS) : frzE i S = match S[i]? with
  | some (some (.lst xs)) => (ovDs xs).map fun ds => (.nx, S.set i (some (.lst (ds.map .d))))
  | _ => none := rfl
@[simp] theorem compEO_S (fi : M (List PyData)) (g : PyData → SS → Option SS) (ft : M Bool) (fe : M OV) (vs : List Nat) (S : SS) : compEO fi g ft fe vs S = (fi >>= fun ds => fun S => if vs.all (fun i => decide (i < S.length)) then (compLO g ft fe vs ds [] (wipeS S vs)).map fun p => (.ok (.lst p.1), p.2) else none) S := rfl
@[simp] theorem hidO_nil : hidO [] = [] := rfl
@[simp] theorem hidO_d (x : PyData) (S : SS) : hidO (some (.d x) :: S) = some (.d x) :: hidO S := rfl
@[simp] theorem hidO_n (S : SS) : hidO (none :: S) = none :: hidO S := rfl
@[simp] theorem hidO_l (xs : List OV) (S : SS) : hidO (some (.lst xs) :: S) = none :: hidO S := rfl
@[simp] theorem hidO_c (xs : List (Key × OV)) (S : SS) : hidO (some (.dct xs) :: S) = none :: hidO S := rfl
end PL

/-! PL39: instances of own classes in slots: their methods, their attributes -/
namespace PL
open PySem PySem.Spec PyProof.Rows L2 LamX

theorem lookup_zip {m : Str} : ∀ {fs : List (Str × OV)} {ws : List V}, ws.length = fs.length → (fs.lookup m = none → ((fs.map (·.1)).zip ws).lookup m = none) ∧ ∀ o, fs.lookup m = some o → ∃ (k : Nat) (w : V), fs[k]? = some (m, o) ∧ ws[k]? = some w ∧ ((fs.map (·.1)).zip ws).lookup m = some w
  | [], ws, hl => ⟨fun _ => by simp, fun o h => by simp at h⟩
  | (f, x) :: fs, [], hl => by simp at hl
  | (f, x) :: fs, w :: ws, hl => by
    obtain ⟨h1, h2⟩ := lookup_zip (m := m) (fs := fs) (ws := ws) (by simpa using hl)
    have e1 : List.lookup m ((f, x) :: fs) = if m == f then some x else List.lookup m fs := by
      rw [List.lookup_cons]
      cases m == f <;> rfl
    have e2 : ((((f, x) :: fs).map (·.1)).zip (w :: ws)).lookup m = if m == f then some w else ((fs.map (·.1)).zip ws).lookup m := by
      show List.lookup m ((f, w) :: (fs.map (·.1)).zip ws) = _
      rw [List.lookup_cons]
      cases m == f <;> rfl
    rw [e1, e2]
    cases hb : m == f with
    | true =>
      refine ⟨fun z => (by simp at z), fun o h => ?_⟩
      have : m = f := by simpa using hb
      subst this
      simp only [if_true] at h ⊢
      cases h
      exact ⟨0, w, rfl, rfl, rfl⟩
    | false =>
      simp only [Bool.false_eq_true, if_false]
      refine ⟨h1, fun o h => ?_⟩
      obtain ⟨k, w', g1, g2, g3⟩ := h2 o h
      exact ⟨k + 1, w', g1, g2, g3⟩
theorem lookup_zipP {m : Str} : ∀ {fs : List (Str × PyData)} {ws : List V}, ws.length = fs.length → (fs.lookup m = none → ((fs.map (·.1)).zip ws).lookup m = none) ∧ ∀ o, fs.lookup m = some o → ∃ (k : Nat) (w : V), fs[k]? = some (m, o) ∧ ws[k]? = some w ∧ ((fs.map (·.1)).zip ws).lookup m = some w
  | [], ws, hl => ⟨fun _ => by simp, fun o h => by simp at h⟩
  | (f, x) :: fs, [], hl => by simp at hl
  | (f, x) :: fs, w :: ws, hl => by
    obtain ⟨h1, h2⟩ := lookup_zipP (m := m) (fs := fs) (ws := ws) (by simpa using hl)
    have e1 : List.lookup m ((f, x) :: fs) = if m == f then some x else List.lookup m fs := by
      rw [List.lookup_cons]
      cases m == f <;> rfl
    have e2 : ((((f, x) :: fs).map (·.1)).zip (w :: ws)).lookup m = if m == f then some w else ((fs.map (·.1)).zip ws).lookup m := by
      show List.lookup m ((f, w) :: (fs.map (·.1)).zip ws) = _
      rw [List.lookup_cons]
      cases m == f <;> rfl
    rw [e1, e2]
    cases hb : m == f with
    | true =>
      refine ⟨fun z => (by simp at z), fun o h => ?_⟩
      have : m = f := by simpa using hb
      subst this
      simp only [if_true] at h ⊢
      cases h
      exact ⟨0, w, rfl, rfl, rfl⟩
    | false =>
      simp only [Bool.false_eq_true, if_false]
      refine ⟨h1, fun o h => ?_⟩
      obtain ⟨k, w', g1, g2, g3⟩ := h2 o h
      exact ⟨k + 1, w', g1, g2, g3⟩
section
variable {K : PySem.W.Frag} {T : List (Addr × Str)} {Z Z' R H H' H0 : Hp} {S S' : SS} {σ σ' : L2.St}
/-- an instance that a slot holds -/
theorem Rel.insS (r : Rel K T Z R S σ H) {i : Nat} {C : Addr} {fs : List (Str × OV)} (e : S[i]? = some (some (.ins C fs))) : ∃ (a dx : Addr) (ws : List V), σ[i]? = some (some (.ref a)) ∧ H a = some (.ins C dx ((fs.map (·.1)).zip ws)) ∧ ws.length = fs.length := by
  obtain ⟨v, h1, h2⟩ := r.outS e
  obtain ⟨L, ow, n, q, r3⟩ := h2.hide
  cases ow with
  | ins h h2' rr => exact ⟨_, _, _, h1, h, by rw [OwnL.length rr, List.length_map]⟩
end
/-- the method m of the instance in the slot i -/
def mcallF (n i : Nat) (C : Addr) (m : Str) (g : DF) (ga : M (List AV)) : M OV := fun S => match S[i]? with
  | some (some (.ins C' fs)) => if C' = C ∧ (fs.lookup m).isNone = true then callF n g (argsCons (rdV i) ga) S else none
  | _ => none
section
variable {X : Cx} {T : List (Addr × Str)} {mp : List Nat} {Z Z' R H : Hp} {S : SS} {σ : L2.St} {e : Expr} {es : List Expr} {pos apos px : Pos}
theorem mcall_args {i : Nat} {ga : M (List AV)} {S S' : SS} {o : OV} {r : Except PyData (List AV)} (hi : S[i]? = some (some o)) (e : argsCons (rdV i) ga S = some (r, S')) : (∃ x, ga S = some (.error x, S') ∧ r = .error x) ∨ ∃ as, ga S = some (.ok as, S') ∧ r = .ok (.bw i :: as) := by
  rw [argsCons_S, bind_S, rdV_S, hi] at e
  simp only [bind_S] at e
  cases q : ga S with
  | none => rw [q] at e; cases e
  | some p =>
    obtain ⟨r1, S1⟩ := p
    rw [q] at e
    cases r1 with
    | error x => cases e; exact .inl ⟨x, rfl, rfl⟩
    | ok as => cases e; exact .inr ⟨as, rfl, rfl⟩
theorem ev_mcall {k i : Nat} {f C : Addr} {fd : FuncData} {ps : List Str} {g : DF} {x m : Str} {ga : M (List AV)} {pl : Sem Bool} (hN : X.N[i]? = some x) (hv : Vis X.env.scope x) (c : Cls X.K C) (hm : Meth X.K C m f) (F : DefOk X.prog X.w X.K T X.mg X.base k f fd ps g) (hr : Room k X.A) (hb : Binds X.K fd ps [])
    (ha : EVA X T (e :: es) ga) (hd : (x == ("__debug__" : Str)) = false := by decide) (hcd : (x == ("__classdict__" : Str)) = false := by decide)
    (hst : starEach (e :: es) X.env = (false, eval e X.env) :: starEach es X.env := by rfl) (hpl : (backTo pos (starEach es X.env)).any (·.1) = false := by rfl)
    (ht : eval (.Call (.Attribute (.Name x px) m apos) (e :: es) [] pos) X.env = (do
      let ov ← eval (.Name x px) X.env
      standAt apos.atName
      let (f, first) ← holding [ov] (getMethod ov m pl)
      callWith pos f first (backTo pos (starEach (e :: es) X.env)) (backToKw pos (keywordEach [] X.env))) := by rfl) :
    EV X T (.Call (.Attribute (.Name x px) m apos) (e :: es) [] pos) (mcallF ps.length i C m g ga) := by
  refine ⟨fun pins s σ H Q I ⟨Z, R, S, r, S', W, rel, er, tk, pq⟩ => ?_⟩
  unfold mcallF at er
  split at er
  · rename_i C' fs ei
    split at er
    · rename_i hc
      obtain ⟨rfl, hl⟩ := hc
      obtain ⟨a, dx, ws, ha1, ha2, ha3⟩ := rel.insS ei
      have hlk : ((fs.map (·.1)).zip ws).lookup m = none := (lookup_zip ha3).1 (Option.isNone_iff_eq_none.mp hl)
      refine PySem.W.methodCall_KW (pl := pl) (thn ((pe_var (pos := px) hN hv hd hcd).run pins s σ H (fun x H1 => x = .ref a ∧ H1 = H) I ⟨.ref a, ha1, rfl, rfl⟩) fun u s1 ⟨x, H1, I1, rx, ex, eH⟩ => ?_) ht
      subst ex eH
      obtain rfl : u = Value.ref a := rx
      refine getmeth_ok I1 ha2 c hm hlk ?_
      rcases bind_eq er with ⟨y, ef, rfl⟩ | ⟨as, S1, ef, eg⟩
      · rcases mcall_args ei ef with ⟨x, g1, g2⟩ | ⟨as, g1, g2⟩
        · cases g2
          exact PySem.W.callWith_K (first := [.ref a]) (h₀ := X.base) I.ok.mod.kin hm.kp (thn (ha.run pos pins s1 σ H1 (fun _ _ => False) I1 ⟨Z, R, S, _, _, W, rel, g1, tk, pq⟩) fun us s2 ⟨vs, H2, I2, r, q⟩ => q.elim) hst hpl
        · cases g2
      · rcases mcall_args ei ef with ⟨x, g1, g2⟩ | ⟨as', g1, g2⟩
        · cases g2
        · cases g2
          refine PySem.W.callWith_K (first := [.ref a]) (h₀ := X.base) I.ok.mod.kin hm.kp (thn (ha.run pos pins s1 σ H1 (fun vs H2 => ∃ Z1, Sub Z Z1 ∧ Rel X.K T Z1 R S1 σ H2 ∧ AvAll X.K Z1 σ vs as') I1 ⟨Z, R, S, _, _, W, rel, g1, tk, fun vs H1 Z1 s1 r1 a1 => ⟨Z1, s1, r1, a1⟩⟩) fun us s2 ⟨vs, H2, I2, rv, Z1, sb, rel1, av⟩ => ⟨I2.kIn, ?_⟩) hst hpl
          have eg : (if (AV.bw i :: as').length = ps.length then handF g (AV.bw i :: as') else stuck) S1 = some (r, S') := eg
          split at eg
          · rename_i hn
            refine call_ok (us := .ref a :: us) (vs := .ref a :: vs) F hr hb I2 (.cons rfl rv) hn rel1 (.cons ha1 av) eg tk ?_
            cases r with
            | ok o => exact POk.mono _ _ _ _ _ sb pq
            | error x => exact ExPost.mono sb pq
          · cases eg
    · cases er
  · cases er
theorem ev_mcall0 {k i : Nat} {f C : Addr} {fd : FuncData} {ps : List Str} {g : DF} {x m : Str} {pl : Sem Bool} (hN : X.N[i]? = some x) (hv : Vis X.env.scope x) (c : Cls X.K C) (hm : Meth X.K C m f) (F : DefOk X.prog X.w X.K T X.mg X.base k f fd ps g) (hr : Room k X.A) (hb : Binds X.K fd ps [])
    (hd : (x == ("__debug__" : Str)) = false := by decide) (hcd : (x == ("__classdict__" : Str)) = false := by decide)
    (ht : eval (.Call (.Attribute (.Name x px) m apos) [] [] pos) X.env = (do
      let ov ← eval (.Name x px) X.env
      standAt apos.atName
      let (f, first) ← holding [ov] (getMethod ov m pl)
      callWith pos f first (backTo pos (starEach [] X.env)) (backToKw pos (keywordEach [] X.env))) := by rfl) :
    EV X T (.Call (.Attribute (.Name x px) m apos) [] [] pos) (mcallF ps.length i C m g argsNil) := by
  refine ⟨fun pins s σ H Q I ⟨Z, R, S, r, S', W, rel, er, tk, pq⟩ => ?_⟩
  unfold mcallF at er
  split at er
  · rename_i C' fs ei
    split at er
    · rename_i hc
      obtain ⟨rfl, hl⟩ := hc
      obtain ⟨a, dx, ws, ha1, ha2, ha3⟩ := rel.insS ei
      have hlk : ((fs.map (·.1)).zip ws).lookup m = none := (lookup_zip ha3).1 (Option.isNone_iff_eq_none.mp hl)
      refine PySem.W.methodCall_KW (pl := pl) (thn ((pe_var (pos := px) hN hv hd hcd).run pins s σ H (fun x H1 => x = .ref a ∧ H1 = H) I ⟨.ref a, ha1, rfl, rfl⟩) fun u s1 ⟨x, H1, I1, rx, ex, eH⟩ => ?_) ht
      subst ex eH
      obtain rfl : u = Value.ref a := rx
      refine getmeth_ok I1 ha2 c hm hlk ?_
      rcases bind_eq er with ⟨y, ef, rfl⟩ | ⟨as, S1, ef, eg⟩
      · rcases mcall_args ei ef with ⟨x, g1, g2⟩ | ⟨as, g1, g2⟩
        · cases g1
        · cases g2
      · rcases mcall_args ei ef with ⟨x, g1, g2⟩ | ⟨as', g1, g2⟩
        · cases g2
        · cases g2
          cases g1
          refine PySem.W.callWith_K0 (first := [.ref a]) I1.kIn hm.kp ?_
          have eg : (if [AV.bw i].length = ps.length then handF g [AV.bw i] else stuck) S = some (r, S') := eg
          split at eg
          · rename_i hn
            refine call_ok (us := [.ref a]) (vs := [.ref a]) F hr hb I1 (.cons rfl .nil) hn rel (.cons ha1 .nil) eg tk ?_
            cases r with
            | ok o => exact pq
            | error x => exact pq
          · cases eg
    · cases er
  · cases er
end
end PL

/-! PL40: attributes of own instances: read, stored -/
namespace PL
open PySem PySem.Spec PyProof.Rows L2 LamX

section
variable {K : PySem.W.Frag} {T : List (Addr × Str)} {Z Z' R H H' H0 : Hp} {S S' : SS} {σ σ' : L2.St} {L M : List Addr}
theorem OwnL.fr : ∀ {vs : List V} {xs : List OV} {L : List Addr} {k : Nat} {y : PyData}, OwnL K Z H vs xs L → xs[k]? = some (.d y) → ∃ w, vs[k]? = some w ∧ Fr K Z w y
  | _, _, _, _, _, .nil, e => by simp at e
  | _, _, _, 0, y, .cons a _, e => by
    simp at e
    subst e
    exact ⟨_, rfl, a.frz.2⟩
  | _, _, _, k + 1, y, .cons _ b, e => by
    obtain ⟨w, h1, h2⟩ := OwnL.fr (k := k) b (by simpa using e)
    exact ⟨w, by simpa using h1, h2⟩
theorem Rel.insF (r : Rel K T Z R S σ H) {i : Nat} {C : Addr} {fs : List (Str × OV)} {f : Str} {y : PyData} (e : S[i]? = some (some (.ins C fs))) (hf : fs.lookup f = some (.d y)) :
    ∃ (a dx : Addr) (ws : List V) (w : V), σ[i]? = some (some (.ref a)) ∧ H a = some (.ins C dx ((fs.map (·.1)).zip ws)) ∧ ((fs.map (·.1)).zip ws).lookup f = some w ∧ Fr K Z w y := by
  obtain ⟨v, h1, h2⟩ := r.outS e
  obtain ⟨L, ow, n, q, r3⟩ := h2.hide
  cases ow with
  | ins h h2' rr =>
    have hl := OwnL.length rr
    rw [List.length_map] at hl
    obtain ⟨k, w, g1, g2, g3⟩ := (lookup_zip hl).2 _ hf
    obtain ⟨w', g4, g5⟩ := OwnL.fr (k := k) rr (by rw [List.getElem?_map, g1]; rfl)
    rw [g2] at g4
    cases g4
    exact ⟨_, _, _, w, h1, h, g3, g5⟩
/-- less in the frame -/
theorem Rel.subR {R' : Hp} (r : Rel K T Z R S σ H) (s : Sub R' R) : Rel K T Z R' S σ H := by
  obtain ⟨L, ow, n, q⟩ := r.own
  have low : ∀ a, R a = none → R' a = none := fun a h => by
    cases e : R' a with
    | none => rfl
    | some w => rw [s a w e] at h; cases h
  exact ⟨⟨L, ow, n, fun a ha => ⟨(q a ha).1, low a (q a ha).2⟩⟩, r.z, fun a o e => r.r a o (s a o e), r.zt, fun a ps e => r.rt a ps (s a _ e), fun a o e => low a (r.zr a o e), r.tab⟩
/-- a cell of the frame is written anew -/
theorem Rel.wrR {D : Addr} {u u' : HO} (r : Rel K T Z (upd R D u) S σ H) (n1 : ∀ ps, u ≠ .tbl ps) (n2 : ∀ φ, u ≠ .ext φ) (n3 : ∀ ps, u' ≠ .tbl ps) : Rel K T Z (upd R D u') S σ (upd H D u') := by
  obtain ⟨L, ow, n, q⟩ := r.own
  have hD : H D = some u := r.r D _ upd_same
  have lp : ∀ a ∈ L, a ≠ D := fun a ha e => by
    have := (q a ha).2
    rw [e, upd_same] at this; cases this
  have zD : Z D = none := by
    cases e : Z D with
    | none => rfl
    | some o => have := r.zr D o e; rw [upd_same] at this; cases this
  refine ⟨⟨L, ow.mono (Sub.refl Z) (fun a ha => upd_ne (lp a ha)), n, fun a ha => ⟨(q a ha).1, by have := (q a ha).2; rw [upd_ne (lp a ha)] at this ⊢; exact this⟩⟩, fun a o e => ?_, fun a o e => ?_, r.zt, fun a ps e => ?_, fun a o e => ?_, tabs_upd r.tab hD n1 n2⟩
  · rw [upd_ne (fun z => by rw [z, zD] at e; cases e)]; exact r.z a o e
  · by_cases h : a = D
    · subst h; rw [upd_same] at e ⊢; exact e
    · rw [upd_ne h] at e ⊢
      exact r.r a o (by rw [upd_ne h]; exact e)
  · by_cases h : a = D
    · subst h; rw [upd_same] at e; exact n3 ps (Option.some.inj e)
    · rw [upd_ne h] at e
      exact r.rt a ps (by rw [upd_ne h]; exact e)
  · by_cases h : a = D
    · subst h; rw [zD] at e; cases e
    · have := r.zr a o e
      rw [upd_ne h] at this ⊢; exact this
def putFO (f : Str) (o : OV) : List (Str × OV) → List (Str × OV)
  | [] => [(f, o)]
  | (g, x) :: r => if g = f then (g, o) :: r else (g, x) :: putFO f o r
theorem putFO_own {f : Str} {o : OV} {v : V} {Lo : List Addr} (ho : Own K Z H v o Lo) : ∀ {fs : List (Str × OV)} {ws : List V} {L : List Addr}, OwnL K Z H ws (fs.map (·.2)) L →
    ∃ ws' L', ((putFO f o fs).map (·.1)).zip ws' = putF f v ((fs.map (·.1)).zip ws) ∧ OwnL K Z H ws' ((putFO f o fs).map (·.2)) L' ∧ ∃ D, (Lo ++ L).Perm (D ++ L')
  | [], ws, L, h => by
    cases h
    exact ⟨[v], Lo ++ [], rfl, .cons ho .nil, [], List.Perm.refl _⟩
  | (g, x) :: r, ws, L, h => by
    cases h with
    | @cons w vs _ _ L1 M1 a b =>
      by_cases e : g = f
      · refine ⟨v :: vs, Lo ++ M1, ?_, ?_, L1, perm_swap _ _ _⟩
        · unfold putFO
          rw [if_pos e]
          show (g, v) :: (r.map (·.1)).zip vs = putF f v ((g, w) :: (r.map (·.1)).zip vs)
          rw [show putF f v ((g, w) :: (r.map (·.1)).zip vs) = (if g = f then (g, v) :: (r.map (·.1)).zip vs else (g, w) :: putF f v ((r.map (·.1)).zip vs)) from rfl, if_pos e]
        · unfold putFO
          rw [if_pos e]
          exact .cons ho b
      · obtain ⟨ws', L', h1, h2, D, h3⟩ := putFO_own (f := f) ho b
        refine ⟨w :: ws', L1 ++ L', ?_, ?_, D, ?_⟩
        · unfold putFO
          rw [if_neg e]
          show (g, w) :: ((putFO f o r).map (·.1)).zip ws' = putF f v ((g, w) :: (r.map (·.1)).zip vs)
          rw [show putF f v ((g, w) :: (r.map (·.1)).zip vs) = (if g = f then (g, v) :: (r.map (·.1)).zip vs else (g, w) :: putF f v ((r.map (·.1)).zip vs)) from rfl, if_neg e, h1]
        · unfold putFO
          rw [if_neg e]
          exact .cons a h2
        · refine (perm_swap Lo L1 M1).trans ?_
          refine (List.Perm.append_left L1 h3).trans ?_
          exact perm_swap _ _ _
end
def lookA (f : Str) : List (PyData × PyData) → Option PyData
  | (.str g, y) :: r => if f == g then some y else lookA f r
  | _ => none
/-- an attribute of a frozen instance -/
def insA (C : Addr) (f : Str) : PyData → Option PyData
  | .dict ((.bool false, .int c) :: kvs) => if c = (C : Int) then lookA f kvs else none
  | _ => none
theorem lookA_map (f : Str) : ∀ fs : List (Str × PyData), lookA f (fs.map fun p => (PyData.str p.1, p.2)) = fs.lookup f
  | [] => rfl
  | (g, y) :: r => by
    rw [List.map_cons, List.lookup_cons]
    show (if f == g then some y else lookA f _) = _
    rw [lookA_map f r]
    cases f == g <;> rfl
theorem insA_insD (C : Addr) (f : Str) (fs : List (Str × PyData)) : insA C f (insD C fs) = fs.lookup f := by
  show (if ((C : Nat) : Int) = (C : Int) then lookA f (fs.map fun p => (PyData.str p.1, p.2)) else none) = _
  rw [if_pos rfl, lookA_map]
theorem frA {K : PySem.W.Frag} {Z : Hp} {v : V} {x y : PyData} {C : Addr} {f : Str} (h : Fr K Z v x) (e : insA C f x = some y) : ∃ (a dx : Addr) (gs : List (Str × V)) (w : V), v = .ref a ∧ Z a = some (.ins C dx gs) ∧ gs.lookup f = some w ∧ Fr K Z w y := by
  cases h with
  | @ins a C' dx ws fs ha r =>
    have e : (if ((C' : Nat) : Int) = (C : Int) then lookA f (fs.map fun p => (PyData.str p.1, p.2)) else none) = some y := e
    split at e
    · rename_i hc
      have hc : C' = C := by
        have : (C' : Nat) = (C : Nat) := by exact_mod_cast hc
        exact this
      subst hc
      rw [insA_insD] at e
      have hl := FrAll.length r
      rw [List.length_map] at hl
      obtain ⟨k, w, g1, g2, g3⟩ := (lookup_zipP hl).2 _ e
      obtain ⟨w', g4, g5⟩ := r.get (i := k) (by rw [List.getElem?_map, g1]; rfl)
      rw [g2] at g4
      cases g4
      exact ⟨a, dx, _, w, rfl, ha, g3, g5⟩
    · cases e
  | non => cases e
  | bl _ => cases e
  | int _ => cases e
  | str _ => cases e
  | lst _ _ => cases e
  | tup _ _ => cases e
  | exc0 _ => cases e
  | exc _ _ _ _ => cases e
  | scr _ => cases e
/-- x.f, frozen data -/
def getF (i : Nat) (C : Addr) (f : Str) : M OV := fun S => match S[i]? with
  | some (some (.ins C' fs)) => if C' = C then match fs.lookup f with
    | some (.d y) => some (.ok (.d y), S)
    | _ => none
    else none
  | some (some (.d x)) => match insA C f x with
    | some y => some (.ok (.d y), S)
    | none => none
  | _ => none
def putA (i : Nat) (C : Addr) (f : Str) (o : OV) : SM := fun S => match S[i]? with
  | some (some (.ins C' fs)) => if C' = C ∧ fs.length < 1000 then some (.nx, S.set i (some (.ins C (putFO f o fs)))) else none
  | _ => none
/-- x.f = e -/
def setF (i : Nat) (C : Addr) (f : Str) (fe : M OV) : SM := doE fe (putA i C f)
section
variable {X : Cx} {T : List (Addr × Str)} {mp : List Nat} {Z Z' R H : Hp} {S : SS} {σ : L2.St} {e : Expr} {pos px p2 : Pos} {fe : M OV}
theorem ev_getF {i : Nat} {C : Addr} {x f : Str} (hN : X.N[i]? = some x) (hv : Vis X.env.scope x) (c : Cls X.K C) (n : NoAttr X.K C f) (hd : (x == ("__debug__" : Str)) = false := by decide) (hcd : (x == ("__classdict__" : Str)) = false := by decide)
    (hb : attributeBase (.Name x px) f X.env (eval (.Name x px) X.env) = eval (.Name x px) X.env := by rfl) : EV X T (.Attribute (.Name x px) f pos) (getF i C f) :=
  pe_mono (pe_fld (pe_var hN hv hd hcd) hb) fun σ H Q ⟨Z, R, S, r, S', W, rel, e, tk, p⟩ => by
    unfold getF at e
    split at e
    · rename_i C' fs ei
      split at e
      · rename_i hc
        subst hc
        split at e
        · rename_i y hf
          cases e
          obtain ⟨a, dx, ws, w, h1, h2, h3, h4⟩ := rel.insF ei hf
          exact ⟨.ref a, h1, a, C', dx, _, w, rfl, h2, c, n, h3, p w H Z (Sub.refl _) (rel.push h4)⟩
        · cases e
      · cases e
    · rename_i x ei
      split at e
      · rename_i y hf
        cases e
        obtain ⟨v, h1, h2⟩ := rel.get ei
        obtain ⟨a, dx, gs, w, rfl, h3, h4, h5⟩ := frA h2 hf
        exact ⟨.ref a, h1, a, C, dx, gs, w, rfl, rel.z _ _ h3, c, n, h4, p w H Z (Sub.refl _) (rel.push h5)⟩
      · cases e
    · cases e
theorem sv_setF {i : Nat} {C : Addr} {x f : Str} (hN : X.N[i]? = some x) (hv : Vis X.env.scope x) (c : Cls X.K C) (n : NoAttr X.K C f) (he : EV X T e fe) (hd : (x == ("__debug__" : Str)) = false := by decide) (hcd : (x == ("__classdict__" : Str)) = false := by decide)
    (hs : swapsWith e (some (.Attribute (.Name x px) f p2)) pos.line X.env = pure false := by rfl) : SV X T mp (.Assign [.Attribute (.Name x px) f p2] e pos) (setF i C f fe) :=
  ps_mono (ps_fld (pe_var hN hv hd hcd) he hs) fun D σ H h => by
    obtain ⟨Z, h⟩ := doE_of h
    refine ⟨Z, rz_mono h fun Z R o S p v H1 Z1 s1 r1 => ?_⟩
    obtain ⟨o, Z1, R, S1, r, S', W, P, rel, pn, e, tk, q⟩ := p v H1 Z1 s1 r1
    unfold putA at e
    split at e
    · rename_i C' fs ei
      split at e
      · rename_i hc
        obtain ⟨rfl, hl⟩ := hc
        cases e
        obtain ⟨Lo, owo, no, qo, rel2⟩ := rel.hide
        obtain ⟨vi, h1, rel3⟩ := rel2.outS ei
        obtain ⟨Li, owi, ni, qi, rel4⟩ := rel3.hide
        cases owi with
        | @ins a _ dx ws _ L0 ha hdx r0 =>
          have nI := List.nodup_cons.mp ni
          have nI2 := List.nodup_cons.mp nI.2
          have djo : ∀ b ∈ a :: dx :: L0, b ∉ Lo := fun b hb hbo => by
            have h2 := (qi b hb).2
            obtain ⟨u, hu, _⟩ := owo.at_ b hbo
            rw [restr_in hbo, hu] at h2
            cases h2
          refine ⟨.ref a, h1, a, C', dx, _, rfl, ha, c, n, ?_, ?_⟩
          · rw [List.length_zip, List.length_map]; omega
          · obtain ⟨ws', L', g1, g2, D', g3⟩ := putFO_own (f := f) owo r0
            -- the frame with a's cell apart
            have haLo : a ∉ Lo := djo a List.mem_cons_self
            have eR : restr H1 (a :: dx :: L0) (restr H1 Lo R) = upd (restr H1 (dx :: L0) (restr H1 Lo R)) a (.ins C' dx ((fs.map (·.1)).zip ws)) := by
              funext b
              by_cases hb : b = a
              · subst hb
                rw [restr_in List.mem_cons_self, upd_same, ha]
              · rw [upd_ne hb]
                by_cases h2 : b ∈ dx :: L0
                · rw [restr_in h2, restr_in (List.mem_cons_of_mem _ h2)]
                · rw [restr_out h2, restr_out (by simp only [List.mem_cons, not_or] at h2 ⊢; exact ⟨hb, h2⟩)]
            rw [eR] at rel4
            have rel5 := rel4.wrR (u' := .ins C' dx (putF f v ((fs.map (·.1)).zip ws))) (fun _ z => by cases z) (fun _ z => by cases z) (fun _ z => by cases z)
            have hne : ∀ b ∈ Lo ++ (dx :: L0), b ≠ a := fun b hb z => by
              subst z
              rcases List.mem_append.mp hb with hb | hb
              · exact haLo hb
              · exact nI.1 hb
            have nd : (Lo ++ L0).Nodup := List.nodup_append.mpr ⟨no, nI2.2, fun b hb d hd e => djo d (List.mem_cons_of_mem _ (List.mem_cons_of_mem _ hd)) (e ▸ hb)⟩
            obtain ⟨n1, n2⟩ := nodup_sub ⟨D', g3⟩ nd
            have eR2 : Sub (restr (upd H1 a (.ins C' dx (putF f v ((fs.map (·.1)).zip ws)))) (a :: dx :: L') R) (upd (restr H1 (dx :: L0) (restr H1 Lo R)) a (.ins C' dx (putF f v ((fs.map (·.1)).zip ws)))) := fun b u hu => by
              by_cases hb : b = a
              · subst hb
                rw [restr_in List.mem_cons_self, upd_same] at hu
                rw [upd_same]; exact hu
              · rw [upd_ne hb]
                by_cases h2 : b ∈ dx :: L0
                · rw [restr_in h2]
                  by_cases h3 : b ∈ a :: dx :: L'
                  · rw [restr_in h3, upd_ne hb] at hu; exact hu
                  · rw [restr_out h3] at hu
                    have := (qi b (List.mem_cons_of_mem _ h2)).2
                    rw [restr_out (djo b (List.mem_cons_of_mem _ h2))] at this
                    rw [this] at hu; cases hu
                · rw [restr_out h2]
                  by_cases h4 : b ∈ Lo
                  · rw [restr_in h4]
                    by_cases h3 : b ∈ a :: dx :: L'
                    · rw [restr_in h3, upd_ne hb] at hu; exact hu
                    · rw [restr_out h3] at hu
                      rw [(qo b h4).2] at hu; cases hu
                  · rw [restr_out h4]
                    by_cases h3 : b ∈ a :: dx :: L'
                    · exfalso
                      rcases List.mem_cons.mp h3 with h3 | h3
                      · exact hb h3
                      · rcases List.mem_cons.mp h3 with h3 | h3
                        · exact h2 (h3 ▸ List.mem_cons_self)
                        · rcases List.mem_append.mp (n2 b h3) with h5 | h5
                          · exact h4 h5
                          · exact h2 (List.mem_cons_of_mem _ h5)
                    · rw [restr_out h3] at hu; exact hu
            have rel6 := rel5.subR eR2
            have hdxa : dx ≠ a := fun z => nI.1 (z ▸ List.mem_cons_self)
            have rel7 := rel6.show_ (Sub.refl _) (v := .ref a) (o := .ins C' (putFO f o fs)) (Own.ins (dx := dx) (ws := ws') (by rw [upd_same, g1]) (by rw [upd_ne hdxa]; exact hdx) (g2.mono (Sub.refl _) fun b hb => by
              have := n2 b hb
              refine upd_ne fun z => ?_
              subst z
              rcases List.mem_append.mp this with h5 | h5
              · exact haLo h5
              · exact nI.1 (List.mem_cons_of_mem _ h5))) (by
              refine List.nodup_cons.mpr ⟨fun z => ?_, List.nodup_cons.mpr ⟨fun z => ?_, n1⟩⟩
              · rcases List.mem_cons.mp z with z | z
                · exact hdxa z.symm
                · rcases List.mem_append.mp (n2 a z) with h5 | h5
                  · exact haLo h5
                  · exact nI.1 (List.mem_cons_of_mem _ h5)
              · rcases List.mem_append.mp (n2 dx z) with h5 | h5
                · exact djo dx (List.mem_cons_of_mem _ List.mem_cons_self) h5
                · exact nI2.1 h5) (fun b hb => by
              have key : ∀ b ∈ a :: dx :: L0, R b = none := fun b hb => by
                have := (qi b hb).2
                rwa [restr_out (djo b hb)] at this
              rcases List.mem_cons.mp hb with rfl | hb
              · exact key _ List.mem_cons_self
              · rcases List.mem_cons.mp hb with rfl | hb
                · exact key _ (List.mem_cons_of_mem _ List.mem_cons_self)
                · rcases List.mem_append.mp (n2 b hb) with h5 | h5
                  · exact (qo b h5).2
                  · exact key _ (List.mem_cons_of_mem _ (List.mem_cons_of_mem _ h5)))
            have rel8 := rel7.inS h1
            rw [List.set_set] at rel8
            exact q σ _ Z1 (Sub.refl _) rel8 pn
      · cases e
    · cases e
end
end PL

/-! PL41: what an instance's attribute holds of its own, changed in place -/
namespace PL
open PySem PySem.Spec PyProof.Rows L2 LamX

section
variable {K : PySem.W.Frag} {T : List (Addr × Str)} {Z Z' R H H' H0 : Hp} {S S' : SS} {σ σ' : L2.St} {L M : List Addr}
theorem putFO_at {f : Str} {o : OV} : ∀ {fs : List (Str × OV)} {ws : List V}, ws.length = fs.length → fs.lookup f = some o → ∃ (k : Nat) (w : V), (fs.map (·.2))[k]? = some o ∧ ws[k]? = some w ∧ ((fs.map (·.1)).zip ws).lookup f = some w ∧ ∀ o2, (putFO f o2 fs).map (·.2) = (fs.map (·.2)).set k o2 ∧ (putFO f o2 fs).map (·.1) = fs.map (·.1)
  | [], ws, _, h => by simp at h
  | (g, x) :: fs, [], hl, _ => by simp at hl
  | (g, x) :: fs, w :: ws, hl, h => by
    rw [List.lookup_cons] at h
    cases hb : f == g with
    | true =>
      rw [hb] at h
      cases h
      have : f = g := by simpa using hb
      subst this
      refine ⟨0, w, rfl, rfl, ?_, fun o2 => ?_⟩
      · show List.lookup f ((f, w) :: (fs.map (·.1)).zip ws) = _
        rw [List.lookup_cons, hb]
      · unfold putFO
        rw [if_pos rfl]
        exact ⟨rfl, rfl⟩
    | false =>
      rw [hb] at h
      obtain ⟨k, w', h1, h2, h3, h4⟩ := putFO_at (fs := fs) (ws := ws) (by simpa using hl) h
      have ne : ¬ g = f := fun z => by subst z; simp at hb
      refine ⟨k + 1, w', by simpa using h1, by simpa using h2, ?_, fun o2 => ?_⟩
      · show List.lookup f ((g, w) :: (fs.map (·.1)).zip ws) = _
        rw [List.lookup_cons, hb]
        exact h3
      · obtain ⟨g1, g2⟩ := h4 o2
        unfold putFO
        rw [if_neg ne, List.map_cons, List.map_cons, List.map_cons, List.map_cons, g1, g2]
        exact ⟨rfl, rfl⟩
/-- an attribute of an owned instance -/
theorem Own.fldAt {v : V} {C : Addr} {fs : List (Str × OV)} {f : Str} {o : OV} (h : Own K Z H v (.ins C fs) L) (e : fs.lookup f = some o) :
    ∃ (a dx : Addr) (ws : List V) (w : V) (L1 Lr : List Addr), v = .ref a ∧ H a = some (.ins C dx ((fs.map (·.1)).zip ws)) ∧ ((fs.map (·.1)).zip ws).lookup f = some w ∧ Own K Z H w o L1 ∧ L.Perm (L1 ++ Lr) ∧
      ∀ (Z' H' : Hp) (o2 : OV) (L2 : List Addr), Sub Z Z' → (∀ c ∈ Lr, H' c = H c) → Own K Z' H' w o2 L2 → ∃ L', Own K Z' H' v (.ins C (putFO f o2 fs)) L' ∧ L'.Perm (L2 ++ Lr) := by
  cases h with
  | @ins a _ dx ws _ L0 ha hdx r0 =>
    have hl := OwnL.length r0
    rw [List.length_map] at hl
    obtain ⟨k, w, h1, h2, h3, h4⟩ := putFO_at hl e
    obtain ⟨w', L1, Lr, g1, g2, g3, g4⟩ := r0.at1 h1
    rw [h2] at g1
    cases g1
    refine ⟨a, dx, ws, w, L1, a :: dx :: Lr, rfl, ha, h3, g2, ?_, fun Z' H' o2 L2 s hc ow => ?_⟩
    · refine ((List.Perm.cons a (List.Perm.cons dx g3))).trans ?_
      have : (a :: dx :: (L1 ++ Lr)) = [a, dx] ++ (L1 ++ Lr) := rfl
      rw [this]
      exact perm_swap [a, dx] L1 Lr
    · obtain ⟨L', k1, k2⟩ := g4 Z' H' o2 L2 s (fun c hcm => hc c (List.mem_cons_of_mem _ (List.mem_cons_of_mem _ hcm))) ow
      obtain ⟨k3, k4⟩ := h4 o2
      refine ⟨a :: dx :: L', .ins (dx := dx) (ws := ws) ?_ ?_ ?_, ?_⟩
      · rw [hc a List.mem_cons_self, k4]; exact ha
      · rw [hc dx (List.mem_cons_of_mem _ List.mem_cons_self)]; exact hdx
      · rw [k3]; exact k1
      · refine ((List.Perm.cons a (List.Perm.cons dx k2))).trans ?_
        have : (a :: dx :: (L2 ++ Lr)) = [a, dx] ++ (L2 ++ Lr) := rfl
        rw [this]
        exact perm_swap [a, dx] L2 Lr
/-- an item of an owned list -/
theorem Own.ixAt {v : V} {xs : List OV} {k : Nat} {o : OV} (h : Own K Z H v (.lst xs) L) (e : xs[k]? = some o) :
    ∃ (a : Addr) (vs : List V) (w : V) (L1 Lr : List Addr), v = .ref a ∧ H a = some (.lst vs) ∧ vs.length = xs.length ∧ vs[k]? = some w ∧ Own K Z H w o L1 ∧ L.Perm (L1 ++ Lr) ∧
      ∀ (Z' H' : Hp) (o2 : OV) (L2 : List Addr), Sub Z Z' → (∀ c ∈ Lr, H' c = H c) → Own K Z' H' w o2 L2 → ∃ L', Own K Z' H' v (.lst (xs.set k o2)) L' ∧ L'.Perm (L2 ++ Lr) := by
  cases h with
  | @lst a vs _ L0 ha r0 =>
    obtain ⟨w, L1, Lr, g1, g2, g3, g4⟩ := r0.at1 e
    refine ⟨a, vs, w, L1, a :: Lr, rfl, ha, OwnL.length r0, g1, g2, ?_, fun Z' H' o2 L2 s hc ow => ?_⟩
    · refine (List.Perm.cons a g3).trans ?_
      exact perm_swap [a] L1 Lr
    · obtain ⟨L', k1, k2⟩ := g4 Z' H' o2 L2 s (fun c hcm => hc c (List.mem_cons_of_mem _ hcm)) ow
      refine ⟨a :: L', .lst (by rw [hc a List.mem_cons_self]; exact ha) k1, ?_⟩
      refine (List.Perm.cons a k2).trans ?_
      exact perm_swap [a] L2 Lr
/-- an inner list of the frame is written anew, and all goes back -/
theorem Rel.zoom {F : Hp} {d : Addr} {vs vs' : List V} {v : V} {o' : OV} (r : Rel K T Z F S σ H) (hd : F d = some (.lst vs)) (ow : Own K Z (upd H d (.lst vs')) v o' L) (nL : L.Nodup) (q : ∀ a ∈ L, R a = none) (sub : ∀ a ∈ L, ∃ u, F a = some u) (sR : Sub R F) (hdR : R d = none) :
    Rel K T Z R (some o' :: S) (some v :: σ) (upd H d (.lst vs')) := by
  have eF : upd F d (.lst vs) = F := upd_self hd
  rw [← eF] at r
  have r2 := r.wrR (u' := .lst vs') (fun _ z => by cases z) (fun _ z => by cases z) (fun _ z => by cases z)
  have r3 := r2.subR (R' := restr (upd H d (.lst vs')) L R) fun a u hu => by
    by_cases h : a = d
    · subst h
      rw [upd_same]
      by_cases h2 : a ∈ L
      · rw [restr_in h2, upd_same] at hu; exact hu
      · rw [restr_out h2, hdR] at hu; cases hu
    · rw [upd_ne h]
      by_cases h2 : a ∈ L
      · rw [restr_in h2, upd_ne h] at hu
        obtain ⟨w, hw⟩ := sub a h2
        have := r.r a w (by rw [eF]; exact hw)
        rw [this] at hu
        cases hu
        exact hw
      · rw [restr_out h2] at hu
        exact sR a u hu
  exact r3.show_ (Sub.refl _) ow nL q
end
/-- x.f[-1].append(e) -/
def apF (i : Nat) (C : Addr) (f : Str) (fe : M OV) : M OV := fun S => match S[i]? with
  | some (some (.ins C' fs)) => if C' = C then match fs.lookup f with
    | some (.lst xs) => match ixN xs.length (-1) with
      | some k => match xs[k]? with
        | some (.lst ys) => match items ys with
          | some ds => match fe (S.set i none) with
            | some (.ok (.d y), S1) => if ds.length < sizeLine then some (.ok (.d .none), S1.set i (some (.ins C' (putFO f (.lst (xs.set k (.lst ((ds ++ [y]).map .d)))) fs)))) else none
            | _ => none
          | none => none
        | _ => none
      | none => none
    | _ => none
    else none
  | _ => none
section
variable {X : Cx} {T : List (Addr × Str)} {mp : List Nat} {Z Z' R H : Hp} {S : SS} {σ : L2.St} {e : Expr} {pos apos px p1 p2 p3 p4 : Pos} {fe : M OV}
theorem ev_apF {i : Nat} {C : Addr} {x f : Str} {kk : Nat} (hN : X.N[i]? = some x) (hv : Vis X.env.scope x) (c : Cls X.K C) (n : NoAttr X.K C f) (he : EV X T e fe) (hd : (x == ("__debug__" : Str)) = false := by decide) (hcd : (x == ("__classdict__" : Str)) = false := by decide)
    (hb : attributeBase (.Name x px) f X.env (eval (.Name x px) X.env) = eval (.Name x px) X.env := by rfl)
    (hbase : attributeBase (.Subscript (.Attribute (.Name x px) f p1) (.UnaryOp .USub (.Constant (.int 1) kk p2) p3) p4) "append" X.env (eval (.Subscript (.Attribute (.Name x px) f p1) (.UnaryOp .USub (.Constant (.int 1) kk p2) p3) p4) X.env) = eval (.Subscript (.Attribute (.Name x px) f p1) (.UnaryOp .USub (.Constant (.int 1) kk p2) p3) p4) X.env := by rfl)
    (hfew : ((backTo pos (starEach [e] X.env)).all (fun x => !x.1) && (backToKw pos (keywordEach [] X.env)).all (fun x => x.1.isSome)
      && decide ([e].length + ([] : List Keyword).length + (if ([] : List Keyword).isEmpty then 0 else 1) < 30)) = true := by rfl)
    (hline : (apos.endLine == pos.line) = true := by rfl) (hs : starEach [e] X.env = (false, eval e X.env) :: starEach [] X.env := by rfl) (hplain : (backTo pos (starEach [] X.env)).any (·.1) = false := by rfl) :
    EV X T (.Call (.Attribute (.Subscript (.Attribute (.Name x px) f p1) (.UnaryOp .USub (.Constant (.int 1) kk p2) p3) p4) "append" apos) [e] [] pos) (apF i C f fe) :=
  pe_mono (pe_bm PySem.F.plainAttrs_list PySem.F.slot_list_append PySem.F.type_list_append mt_append (pe_ix ix_list (pe_fld (pe_var hN hv hd hcd) hb) (pe_un un_neg pe_int) (by intro _ _; rfl)) (pa_cons he pa_nil hs) hbase hfew hline hs hplain) fun σ H Q ⟨Z, R, S, r, S', W, rel, er, tk, pf⟩ => by
    unfold apF at er
    split at er
    · rename_i C' fs ei
      split at er
      · rename_i hc
        subst hc
        split at er
        · rename_i xs hf
          split at er
          · rename_i k ek
            split at er
            · rename_i ys ey
              split at er
              · rename_i ds ed
                split at er
                · rename_i y S1 ef
                  split at er
                  · rename_i hz
                    cases er
                    obtain ⟨v, h1, rel1⟩ := rel.outS ei
                    obtain ⟨L, ow, nL, qL, relF⟩ := rel1.hide
                    obtain ⟨a, dx, ws, w, L1, Lr, rfl, ha, hlk, ow1, pm1, back1⟩ := ow.fldAt hf
                    obtain ⟨b, vs, u, L2, Lr2, rfl, hb2, hvl, hvk, ow2, pm2, back2⟩ := ow1.ixAt ey
                    rw [items_eq ed] at ow2
                    cases ow2 with
                    | @lst d us _ L3 hd3 r3 =>
                      obtain ⟨rfl, fr3⟩ := OwnL.toFr r3
                      have pmA : L.Perm ([d] ++ (Lr2 ++ Lr)) := by
                        refine pm1.trans ?_
                        rw [← List.append_assoc]
                        exact List.Perm.append_right _ pm2
                      have nA := (pmA.nodup_iff).mp nL
                      have dA : d ∉ Lr2 ++ Lr := (List.nodup_cons.mp nA).1
                      have dL : d ∈ L := pmA.mem_iff.mpr (by simp)
                      refine ⟨.ref a, h1, a, C', dx, _, .ref b, rfl, ha, c, n, hlk, ?_⟩
                      refine ⟨1, rfl, ?_⟩
                      refine ⟨b, vs, -1, .ref d, rfl, rfl, SqL.of hb2, by unfold L2.atI; rw [hvl, ek]; exact hvk, ?_⟩
                      refine ⟨.inl ⟨rfl, us, SqL.of hd3⟩, ?_⟩
                      refine ⟨Z, restr H L R, S.set i none, .ok (.d y), S1, W, relF, ef, tk, fun vy H2 Z2 s2 rel2 => ?_⟩
                      obtain ⟨fy, rel3⟩ := rel2.popd
                      have cell : ∀ q ∈ L, ∃ u, H q = some u := fun q hq => by
                        obtain ⟨u, hu, _⟩ := ow.at_ q hq
                        exact ⟨u, hu⟩
                      have same : ∀ q ∈ L, H2 q = H q := fun q hq => by
                        obtain ⟨u, hu⟩ := cell q hq
                        rw [rel3.r q u (by rw [restr_in hq]; exact hu), hu]
                      have hd2 : H2 d = some (.lst us) := (same d dL).trans hd3
                      refine ⟨d, us, vy, rfl, rfl, hd2, by rw [fr3.length]; exact hz, ?_⟩
                      have ow3 : Own X.K Z2 (upd H2 d (.lst (us ++ [vy]))) (.ref d) (.lst ((ds ++ [y]).map .d)) [d] := .lst upd_same (OwnL.ofFr ((fr3.sub s2).append (.cons fy .nil)))
                      have keep : ∀ q ∈ Lr2 ++ Lr, upd H2 d (.lst (us ++ [vy])) q = H q := fun q hq => by
                        rw [upd_ne (a := d) (b := q) (fun z => dA (by rw [← z]; exact hq))]
                        exact same q (pmA.mem_iff.mpr (List.mem_append_right _ hq))
                      obtain ⟨M1, k1, k2⟩ := back2 Z2 _ _ [d] s2 (fun q hq => keep q (List.mem_append_left _ hq)) ow3
                      obtain ⟨M2, k3, k4⟩ := back1 Z2 _ _ M1 s2 (fun q hq => keep q (List.mem_append_right _ hq)) k1
                      have pmB : M2.Perm L := by
                        refine k4.trans ((List.Perm.append_right _ k2).trans ?_)
                        rw [List.append_assoc]
                        exact pmA.symm
                      have rel4 := rel3.zoom (R := R) (d := d) (vs := us) (by rw [restr_in dL]; exact hd3) k3 ((pmB.nodup_iff).mpr nL) (fun q hq => (qL q (pmB.mem_iff.mp hq)).2) (fun q hq => by
                        have hq := pmB.mem_iff.mp hq
                        obtain ⟨u, hu⟩ := cell q hq
                        exact ⟨u, by rw [restr_in hq]; exact hu⟩) (fun q u hu => by
                        have : q ∉ L := fun z => by rw [(qL q z).2] at hu; cases hu
                        rw [restr_out this]; exact hu) (qL d dL).2
                      have rel5 := rel4.inS h1
                      exact pf .non _ Z2 s2 (rel5.push .non)
                  · cases er
                · cases er
              · cases er
            · cases er
          · cases er
        · cases er
      · cases er
    · cases er
end
end PL

/-! PL42: x.f.append(own), freezing a slot whole, freezing what was made -/
namespace PL
open PySem PySem.Spec PyProof.Rows L2 LamX

section
variable {K : PySem.W.Frag} {T : List (Addr × Str)} {Z Z' R H H' H0 : Hp} {S S' : SS} {σ σ' : L2.St} {L M : List Addr}
/-- what is on top is frozen whole -/
theorem Rel.frozeD {o : OV} {x : PyData} {v : V} (r : Rel K T Z R (some o :: S) (some v :: σ) H) (e : ovD o = some x) : ∃ Z', Sub Z Z' ∧ Rel K T Z' R (some (.d x) :: S) (some v :: σ) H := by
  obtain ⟨_, h, n, q⟩ := r.own
  cases h with
  | @own _ _ _ _ L M h0 h =>
    obtain ⟨n1, n2, n3⟩ := List.nodup_append.mp n
    have sb : Sub Z (restr H L Z) := fun c w ec => by
      have hl : c ∉ L := fun z => by rw [(q c (List.mem_append_left _ z)).1] at ec; cases ec
      rw [restr_out hl]; exact ec
    have hM : ∀ c ∈ M, c ∉ L := fun c hc z => n3 c z c hc rfl
    have f := Own.froze (Z' := restr H L Z) sb h0 e fun c hc => restr_in hc
    refine ⟨_, sb, ⟨[] ++ M, .own (.d f) (h.mono sb fun _ _ => rfl), n2, fun c hc => ?_⟩, fun c w ec => ?_, r.r, fun c ps ec => ?_, r.rt, fun c w ec => ?_, r.tab⟩
    · have := q c (List.mem_append_right _ hc)
      exact ⟨by rw [restr_out (hM c hc)]; exact this.1, this.2⟩
    · by_cases hl : c ∈ L
      · rwa [restr_in hl] at ec
      · rw [restr_out hl] at ec; exact r.z c w ec
    · by_cases hl : c ∈ L
      · rw [restr_in hl] at ec
        obtain ⟨u, hu, hn⟩ := h0.at_ c hl
        rw [hu] at ec
        exact hn ps (Option.some.inj ec)
      · rw [restr_out hl] at ec; exact r.zt c ps ec
    · by_cases hl : c ∈ L
      · exact (q c (List.mem_append_left _ hl)).2
      · rw [restr_out hl] at ec; exact r.zr c w ec
end
/-- a slot is frozen whole -/
def frzW (i : Nat) : SM := fun S => match S[i]? with
  | some (some o) => (ovD o).map fun x => (.nx, S.set i (some (.d x)))
  | _ => none
/-- what was made is frozen -/
def frzM (f : M OV) : M OV := fun S => match f S with
  | some (.ok o, S1) => (ovD o).map fun x => (.ok (.d x), S1)
  | some (.error x, S1) => some (.error x, S1)
  | none => none
section
variable {X : Cx} {T : List (Addr × Str)} {mp : List Nat} {Z Z' R H : Hp} {S : SS} {σ : L2.St} {e : Expr} {pos apos px p1 p2 p3 p4 : Pos} {fe : M OV}
theorem svs_frzW {i : Nat} {sts : List Stmt} {f : SM} (h : SVs X T mp sts f) : SVs X T mp sts (seqS (frzW i) f) := pss_mono h fun D σ H ⟨Z, R, S, r, S', W, P, rel, pn, e, tk, q⟩ => by
  unfold seqS at e
  split at e
  · rename_i S1 e1
    unfold frzW at e1
    split at e1
    · rename_i o e0
      cases e2 : ovD o with
      | none => rw [e2] at e1; cases e1
      | some x =>
        rw [e2] at e1
        cases e1
        obtain ⟨v, h1, h2⟩ := rel.outS e0
        obtain ⟨Z2, s2, h3⟩ := h2.frozeD e2
        have h4 := h3.inS h1
        rw [List.set_set] at h4
        exact ⟨Z2, R, _, r, S', W, P, h4, pn, e, tk, PFl.sub s2 q⟩
    · cases e1
  · rename_i hr
    exfalso
    unfold frzW at e hr
    cases e0 : S[i]? with
    | none => rw [e0] at e; cases e
    | some oo =>
      cases oo with
      | none => rw [e0] at e; cases e
      | some o =>
        rw [e0] at e hr
        cases e2 : ovD o with
        | none => simp only [e2, Option.map_none] at e; cases e
        | some x => simp only [e2, Option.map_some] at hr; exact hr _ rfl
theorem ev_frzM (h : EV X T e fe) : EV X T e (frzM fe) := pe_mono h fun σ H Q ⟨Z, R, S, r, S', W, rel, er, tk, p⟩ => by
  unfold frzM at er
  split at er
  · rename_i o S1 e1
    cases e2 : ovD o with
    | none => rw [e2] at er; cases er
    | some x =>
      rw [e2] at er
      cases er
      refine ⟨Z, R, S, _, _, W, rel, e1, tk, fun v H' Z' s r' => ?_⟩
      obtain ⟨Z2, s2, r2⟩ := r'.frozeD e2
      exact p v H' Z2 (s.trans s2) r2
  · rename_i x S1 e1
    cases er
    exact ⟨Z, R, S, _, _, W, rel, e1, tk, p⟩
  · cases er
end
/-- x.f.append(e), what e makes becoming the list's own -/
def apO (i : Nat) (C : Addr) (f : Str) (fe : M OV) : M OV := fun S => match S[i]? with
  | some (some (.ins C' fs)) => if C' = C then match fs.lookup f with
    | some (.lst xs) => match fe (S.set i none) with
      | some (.ok o, S1) => if xs.length < sizeLine then some (.ok (.d .none), S1.set i (some (.ins C' (putFO f (.lst (xs ++ [o])) fs)))) else none
      | _ => none
    | _ => none
    else none
  | _ => none
section
variable {X : Cx} {T : List (Addr × Str)} {mp : List Nat} {Z Z' R H : Hp} {S : SS} {σ : L2.St} {e : Expr} {pos apos px p1 p2 p3 p4 : Pos} {fe : M OV}
theorem ev_apO {i : Nat} {C : Addr} {x f : Str} (hN : X.N[i]? = some x) (hv : Vis X.env.scope x) (c : Cls X.K C) (n : NoAttr X.K C f) (he : EV X T e fe) (hd : (x == ("__debug__" : Str)) = false := by decide) (hcd : (x == ("__classdict__" : Str)) = false := by decide)
    (hb : attributeBase (.Name x px) f X.env (eval (.Name x px) X.env) = eval (.Name x px) X.env := by rfl)
    (hbase : attributeBase (.Attribute (.Name x px) f p1) "append" X.env (eval (.Attribute (.Name x px) f p1) X.env) = eval (.Attribute (.Name x px) f p1) X.env := by rfl)
    (hfew : ((backTo pos (starEach [e] X.env)).all (fun x => !x.1) && (backToKw pos (keywordEach [] X.env)).all (fun x => x.1.isSome)
      && decide ([e].length + ([] : List Keyword).length + (if ([] : List Keyword).isEmpty then 0 else 1) < 30)) = true := by rfl)
    (hline : (apos.endLine == pos.line) = true := by rfl) (hs : starEach [e] X.env = (false, eval e X.env) :: starEach [] X.env := by rfl) (hplain : (backTo pos (starEach [] X.env)).any (·.1) = false := by rfl) :
    EV X T (.Call (.Attribute (.Attribute (.Name x px) f p1) "append" apos) [e] [] pos) (apO i C f fe) :=
  pe_mono (pe_bm PySem.F.plainAttrs_list PySem.F.slot_list_append PySem.F.type_list_append mt_append (pe_fld (pe_var hN hv hd hcd) hb) (pa_cons he pa_nil hs) hbase hfew hline hs hplain) fun σ H Q ⟨Z, R, S, r, S', W, rel, er, tk, pf⟩ => by
    unfold apO at er
    split at er
    · rename_i C' fs ei
      split at er
      · rename_i hc
        subst hc
        split at er
        · rename_i xs hf
          split at er
          · rename_i o S1 ef
            split at er
            · rename_i hz
              cases er
              obtain ⟨v, h1, rel1⟩ := rel.outS ei
              obtain ⟨L, ow, nL, qL, relF⟩ := rel1.hide
              obtain ⟨a, dx, ws, w, L1, Lr, rfl, ha, hlk, ow1, pm1, back1⟩ := ow.fldAt hf
              cases ow1 with
              | @lst b vs _ Lx hb2 rx =>
                have hvl := OwnL.length rx
                have bL : b ∈ L := pm1.mem_iff.mpr (List.mem_append_left _ List.mem_cons_self)
                refine ⟨.ref a, h1, a, C', dx, _, .ref b, rfl, ha, c, n, hlk, ?_⟩
                refine ⟨.inl ⟨rfl, vs, SqL.of hb2⟩, ?_⟩
                refine ⟨Z, restr H L R, S.set i none, .ok o, S1, W, relF, ef, tk, fun vy H2 Z2 s2 rel2 => ?_⟩
                obtain ⟨Lo, owo, no, qo, rel3⟩ := rel2.hide
                have cell : ∀ q ∈ L, ∃ u, H q = some u := fun q hq => by
                  obtain ⟨u, hu, _⟩ := ow.at_ q hq
                  exact ⟨u, hu⟩
                have djo : ∀ q ∈ Lo, q ∉ L := fun q hq hl => by
                  obtain ⟨u, hu⟩ := cell q hl
                  have := (qo q hq).2
                  rw [restr_in hl, hu] at this
                  cases this
                have same : ∀ q ∈ L, H2 q = H q := fun q hq => by
                  obtain ⟨u, hu⟩ := cell q hq
                  rw [rel2.r q u (by rw [restr_in hq]; exact hu), hu]
                have hb3 : H2 b = some (.lst vs) := (same b bL).trans hb2
                refine ⟨b, vs, vy, rfl, rfl, hb3, by rw [hvl]; exact hz, ?_⟩
                have nA := (pm1.nodup_iff).mp nL
                obtain ⟨nA1, nA2, nA3⟩ := List.nodup_append.mp nA
                have bx := (List.nodup_cons.mp nA1).1
                have xIn : ∀ q ∈ Lx, q ∈ L := fun q hq => pm1.mem_iff.mpr (List.mem_append_left _ (List.mem_cons_of_mem _ hq))
                have rIn : ∀ q ∈ Lr, q ∈ L := fun q hq => pm1.mem_iff.mpr (List.mem_append_right _ hq)
                have ne1 : ∀ q ∈ Lx, q ≠ b := fun q hq z => bx (by rw [← z]; exact hq)
                have ne2 : ∀ q ∈ Lr, q ≠ b := fun q hq z => nA3 b List.mem_cons_self q hq z.symm
                have ne3 : ∀ q ∈ Lo, q ≠ b := fun q hq z => djo q hq (by rw [z]; exact bL)
                have ow3 : Own X.K Z2 (upd H2 b (.lst (vs ++ [vy]))) (.ref b) (.lst (xs ++ [o])) (b :: (Lx ++ Lo)) := .lst upd_same (OwnL.snocO (rx.mono s2 fun q hq => by rw [upd_ne (ne1 q hq)]; exact same q (xIn q hq)) (owo.mono (Sub.refl _) fun q hq => upd_ne (ne3 q hq)))
                obtain ⟨M2, k3, k4⟩ := back1 Z2 _ _ _ s2 (fun q hq => by rw [upd_ne (ne2 q hq)]; exact same q (rIn q hq)) ow3
                have mem4 : ∀ q ∈ M2, q ∈ L ∨ q ∈ Lo := fun q hq => by
                  have := k4.mem_iff.mp hq
                  simp only [List.mem_append, List.mem_cons] at this
                  rcases this with (h | h | h) | h
                  · exact .inl (by rw [h]; exact bL)
                  · exact .inl (xIn q h)
                  · exact .inr h
                  · exact .inl (rIn q h)
                have pm5 : M2.Perm (L ++ Lo) := by
                  refine k4.trans ?_
                  have e1 : ((b :: (Lx ++ Lo)) ++ Lr) = (b :: Lx) ++ (Lo ++ Lr) := by simp
                  rw [e1]
                  refine (List.Perm.append_left _ List.perm_append_comm).trans ?_
                  rw [← List.append_assoc]
                  exact List.Perm.append_right _ pm1.symm
                have n5 : M2.Nodup := (pm5.nodup_iff).mpr (List.nodup_append.mpr ⟨nL, no, fun p hp q hq z => djo q hq (z ▸ hp)⟩)
                have rel4 := rel3.zoom (R := R) (d := b) (vs := vs) (by rw [restr_out (fun z => djo b z bL), restr_in bL]; exact hb2) k3 n5 (fun q hq => by
                  rcases mem4 q hq with h | h
                  · exact (qL q h).2
                  · have := (qo q h).2
                    rwa [restr_out (djo q h)] at this) (fun q hq => by
                  rcases mem4 q hq with h | h
                  · obtain ⟨u, hu⟩ := cell q h
                    exact ⟨u, by rw [restr_out (fun z => djo q z h), restr_in h]; exact hu⟩
                  · obtain ⟨u, hu, _⟩ := owo.at_ q h
                    exact ⟨u, by rw [restr_in h]; exact hu⟩) (fun q u hu => by
                  have h1 : q ∉ L := fun z => by rw [(qL q z).2] at hu; cases hu
                  have h2 : q ∉ Lo := fun z => by
                    have := (qo q z).2
                    rw [restr_out h1, hu] at this
                    cases this
                  rw [restr_out h2, restr_out h1]; exact hu) (qL b bL).2
                have rel5 := rel4.inS h1
                exact pf .non _ Z2 s2 (rel5.push .non)
            · cases er
          · cases er
        · cases er
      · cases er
    · cases er
end
end PL

/-! PL43: x.f.pop() -/
namespace PL
open PySem PySem.Spec PyProof.Rows L2 LamX
theorem OwnL.last {K : PySem.W.Frag} {Z H : Hp} : ∀ {xs : List OV} {vs : List V} {L : List Addr} {o : OV}, OwnL K Z H vs xs L → xs.getLast? = some o →
    ∃ (w : V) (Lo Lx : List Addr), vs[vs.length - 1]? = some w ∧ Own K Z H w o Lo ∧ OwnL K Z H vs.dropLast xs.dropLast Lx ∧ L.Perm (Lo ++ Lx)
  | [], _, _, _, h, e => by simp at e
  | [x], _, _, o, h, e => by
    cases h with
    | @cons v vs _ _ L1 M1 a b =>
      cases b
      simp at e
      subst e
      exact ⟨v, L1, [], rfl, a, .nil, List.Perm.refl _⟩
  | x :: y :: xs, _, _, o, h, e => by
    cases h with
    | @cons v vs _ _ L1 M1 a b =>
      have e : (y :: xs).getLast? = some o := by rwa [List.getLast?_cons_cons] at e
      obtain ⟨w, Lo, Lx, h1, h2, h3, h4⟩ := OwnL.last b e
      cases b with
      | @cons u us _ _ L2 M2 c d =>
        refine ⟨w, Lo, L1 ++ Lx, ?_, h2, ?_, ?_⟩
        · have : (v :: u :: us).length - 1 = ((u :: us).length - 1) + 1 := by simp
          rw [this, List.getElem?_cons_succ]
          exact h1
        · rw [List.dropLast_cons₂, List.dropLast_cons₂]
          exact .cons a h3
        · exact (List.Perm.append_left L1 h4).trans (perm_swap _ _ _)
/-- x.f.pop(): the last item, the list's own, is handed out -/
def popF (i : Nat) (C : Addr) (f : Str) : M OV := fun S => match S[i]? with
  | some (some (.ins C' fs)) => if C' = C then match fs.lookup f with
    | some (.lst xs) => match xs.getLast? with
      | some o => some (.ok o, S.set i (some (.ins C' (putFO f (.lst xs.dropLast) fs))))
      | none => none
    | _ => none
    else none
  | _ => none
section
variable {X : Cx} {T : List (Addr × Str)} {mp : List Nat} {Z Z' R H : Hp} {S : SS} {σ : L2.St} {e : Expr} {pos apos px p1 p2 p3 p4 : Pos} {fe : M OV}
theorem ev_popF {i : Nat} {C : Addr} {x f : Str} (hN : X.N[i]? = some x) (hv : Vis X.env.scope x) (c : Cls X.K C) (n : NoAttr X.K C f) (hd : (x == ("__debug__" : Str)) = false := by decide) (hcd : (x == ("__classdict__" : Str)) = false := by decide)
    (hb : attributeBase (.Name x px) f X.env (eval (.Name x px) X.env) = eval (.Name x px) X.env := by rfl)
    (hbase : attributeBase (.Attribute (.Name x px) f p1) "pop" X.env (eval (.Attribute (.Name x px) f p1) X.env) = eval (.Attribute (.Name x px) f p1) X.env := by rfl) (hline : (apos.endLine == pos.line) = true := by rfl) :
    EV X T (.Call (.Attribute (.Attribute (.Name x px) f p1) "pop" apos) [] [] pos) (popF i C f) :=
  pe_mono (pe_bm0 PySem.F.plainAttrs_list PySem.F.slot_list_pop PySem.F.type_list_pop mt_pop (pe_fld (pe_var hN hv hd hcd) hb) hbase hline) fun σ H Q ⟨Z, R, S, r, S', W, rel, er, tk, pf⟩ => by
    unfold popF at er
    split at er
    · rename_i C' fs ei
      split at er
      · rename_i hc
        subst hc
        split at er
        · rename_i xs hf
          split at er
          · rename_i o el
            cases er
            obtain ⟨v, h1, rel1⟩ := rel.outS ei
            obtain ⟨L, ow, nL, qL, relF⟩ := rel1.hide
            obtain ⟨a, dx, ws, w, L1, Lr, rfl, ha, hlk, ow1, pm1, back1⟩ := ow.fldAt hf
            cases ow1 with
            | @lst b vs _ Lx hb2 rx =>
              obtain ⟨wl, Lo, Ly, g1, g2, g3, g4⟩ := rx.last el
              have bL : b ∈ L := pm1.mem_iff.mpr (List.mem_append_left _ List.mem_cons_self)
              have nA := (pm1.nodup_iff).mp nL
              obtain ⟨nA1, nA2, nA3⟩ := List.nodup_append.mp nA
              obtain ⟨bx, nx⟩ := List.nodup_cons.mp nA1
              have nx2 := (g4.nodup_iff).mp nx
              obtain ⟨no, ny, noy⟩ := List.nodup_append.mp nx2
              have oIn : ∀ q ∈ Lo, q ∈ Lx := fun q hq => g4.mem_iff.mpr (List.mem_append_left _ hq)
              have yIn : ∀ q ∈ Ly, q ∈ Lx := fun q hq => g4.mem_iff.mpr (List.mem_append_right _ hq)
              have xIn : ∀ q ∈ Lx, q ∈ L := fun q hq => pm1.mem_iff.mpr (List.mem_append_left _ (List.mem_cons_of_mem _ hq))
              have rIn : ∀ q ∈ Lr, q ∈ L := fun q hq => pm1.mem_iff.mpr (List.mem_append_right _ hq)
              have cell : ∀ q ∈ L, ∃ u, H q = some u := fun q hq => by
                obtain ⟨u, hu, _⟩ := ow.at_ q hq
                exact ⟨u, hu⟩
              have ne1 : ∀ q ∈ Lx, q ≠ b := fun q hq z => bx (by rw [← z]; exact hq)
              have ne2 : ∀ q ∈ Lr, q ≠ b := fun q hq z => nA3 b List.mem_cons_self q hq z.symm
              refine ⟨.ref a, h1, a, C', dx, _, .ref b, rfl, ha, c, n, hlk, ?_⟩
              refine ⟨.inl ⟨rfl, vs, SqL.of hb2⟩, ?_⟩
              refine ⟨b, vs, wl, rfl, rfl, hb2, g1, ?_⟩
              have ow3 : Own X.K Z (upd H b (.lst vs.dropLast)) (.ref b) (.lst xs.dropLast) (b :: Ly) := .lst upd_same (g3.mono (Sub.refl _) fun q hq => upd_ne (ne1 q (yIn q hq)))
              obtain ⟨M2, k3, k4⟩ := back1 Z _ _ _ (Sub.refl _) (fun q hq => upd_ne (ne2 q hq)) ow3
              have mem4 : ∀ q ∈ M2, q ∈ L ∧ q ∉ Lo := fun q hq => by
                have := k4.mem_iff.mp hq
                simp only [List.mem_append, List.mem_cons] at this
                rcases this with (h | h) | h
                · exact ⟨by rw [h]; exact bL, fun z => ne1 q (oIn q z) h⟩
                · exact ⟨xIn q (yIn q h), fun z => noy q z q h rfl⟩
                · exact ⟨rIn q h, fun z => nA3 q (List.mem_cons_of_mem _ (oIn q z)) q h rfl⟩
              have n5 : M2.Nodup := by
                refine (k4.nodup_iff).mpr (List.nodup_append.mpr ⟨List.nodup_cons.mpr ⟨fun z => bx (yIn b z), ny⟩, nA2, fun p hp q hq z => ?_⟩)
                refine nA3 p ?_ q hq z
                rcases List.mem_cons.mp hp with rfl | hp
                · exact List.mem_cons_self
                · exact List.mem_cons_of_mem _ (yIn p hp)
              have bLo : b ∉ Lo := fun z => ne1 b (oIn b z) rfl
              have rel4 := relF.zoom (R := restr H Lo R) (d := b) (vs := vs) (by rw [restr_in bL]; exact hb2) k3 n5 (fun q hq => by
                obtain ⟨g5, g6⟩ := mem4 q hq
                rw [restr_out g6]; exact (qL q g5).2) (fun q hq => by
                obtain ⟨g5, g6⟩ := mem4 q hq
                obtain ⟨u, hu⟩ := cell q g5
                exact ⟨u, by rw [restr_in g5]; exact hu⟩) (fun q u hu => by
                by_cases g5 : q ∈ Lo
                · rw [restr_in g5] at hu
                  rw [restr_in (xIn q (oIn q g5))]; exact hu
                · rw [restr_out g5] at hu
                  have : q ∉ L := fun z => by rw [(qL q z).2] at hu; cases hu
                  rw [restr_out this]; exact hu) (by rw [restr_out bLo]; exact (qL b bL).2)
              have rel5 := rel4.inS h1
              rw [List.set_set] at rel5
              have rel6 := rel5.show_ (Sub.refl _) g2 no (fun q hq => (qL q (xIn q (oIn q hq))).2)
              exact pf wl _ Z (Sub.refl _) rel6
          · cases er
        · cases er
      · cases er
    · cases er
end
end PL

/-! PL44: [own], C() -/
namespace PL
open PySem PySem.Spec PyProof.Rows L2 LamX

/-- [e], what e makes becoming the list's own -/
def lst1 (fe : M OV) : M OV := fun S => match fe S with
  | some (.ok o, S1) => some (.ok (.lst [o]), S1)
  | some (.error x, S1) => some (.error x, S1)
  | none => none
/-- C(), __init__ being the def g -/
def newF (C : Addr) (g : DF) : M OV := fun S => match g [.ins C []] with
  | some (.ok (.d .none), [o]) => some (.ok o, S)
  | _ => none
section
variable {K : PySem.W.Frag} {T : List (Addr × Str)} {Z Z' R H H' H0 : Hp} {S S' : SS} {σ σ' : L2.St} {L M : List Addr}
/-- all slots go into the frame -/
theorem Rel.hideAll (r : Rel K T Z R S σ H) : ∃ L, OwnS K Z H σ S L ∧ L.Nodup ∧ (∀ a ∈ L, Z a = none ∧ R a = none) ∧ Rel K T Z (restr H L R) [] [] H := by
  obtain ⟨L, h, n, q⟩ := r.own
  refine ⟨L, h, n, q, ⟨[], .emp, List.nodup_nil, fun a ha => by cases ha⟩, r.z, fun a w e => ?_, r.zt, fun a ps e => ?_, fun a w e => ?_, r.tab⟩
  · by_cases hl : a ∈ L
    · rwa [restr_in hl] at e
    · rw [restr_out hl] at e; exact r.r a w e
  · by_cases hl : a ∈ L
    · rw [restr_in hl] at e
      obtain ⟨u, hu, hn⟩ := h.at_ a hl
      rw [hu] at e
      exact hn ps (Option.some.inj e)
    · rw [restr_out hl] at e; exact r.rt a ps e
  · have hl : a ∉ L := fun z => by rw [(q a z).1] at e; cases e
    rw [restr_out hl]; exact r.zr a w e
theorem Rel.showAll (r : Rel K T Z' (restr H0 L R) [] [] H) (s : Sub Z Z') (ow : OwnS K Z H0 σ S L) (n : L.Nodup) (q : ∀ a ∈ L, R a = none) : Rel K T Z' R S σ H := by
  have e1 : ∀ a ∈ L, H a = H0 a := fun a ha => by
    obtain ⟨u, hu, _⟩ := ow.at_ a ha
    rw [r.r a u (by rw [restr_in ha, hu]), hu]
  have e2 : ∀ a ∈ L, Z' a = none := fun a ha => by
    cases e : Z' a with
    | none => rfl
    | some w =>
      obtain ⟨u, hu, _⟩ := ow.at_ a ha
      have := r.zr a w e
      rw [restr_in ha, hu] at this
      cases this
  refine ⟨⟨L, ow.mono s e1, n, fun a ha => ⟨e2 a ha, q a ha⟩⟩, r.z, fun a w e => ?_, r.zt, fun a ps e => ?_, fun a w e => ?_, r.tab⟩
  · have hl : a ∉ L := fun z => by rw [q a z] at e; cases e
    exact r.r a w (by rw [restr_out hl]; exact e)
  · have hl : a ∉ L := fun z => by rw [q a z] at e; cases e
    exact r.rt a ps (by rw [restr_out hl]; exact e)
  · have := r.zr a w e
    by_cases hl : a ∈ L
    · exact q a hl
    · rwa [restr_out hl] at this
/-- a new instance -/
theorem Rel.newIns (r : Rel K T Z R S σ H) {x dx C : Addr} (hx : H x = none) (hd : H dx = none) (ne : dx ≠ x) : Rel K T Z R (some (.ins C []) :: S) (some (.ref x) :: σ) (upd (upd H dx (.own x)) x (.ins C dx [])) := by
  obtain ⟨L, h, n, q⟩ := r.own
  have lx : ∀ a ∈ L, a ≠ x ∧ a ≠ dx := fun a ha => by
    obtain ⟨w, hw, _⟩ := h.at_ a ha
    exact ⟨fun e => (by rw [e, hx] at hw; cases hw), fun e => (by rw [e, hd] at hw; cases hw)⟩
  have nn : ∀ {Y : Hp}, Sub Y H → Y x = none ∧ Y dx = none := fun {Y} s => by
    refine ⟨?_, ?_⟩
    · cases e : Y x with
      | none => rfl
      | some w => rw [s _ _ e] at hx; cases hx
    · cases e : Y dx with
      | none => rfl
      | some w => rw [s _ _ e] at hd; cases hd
  have keep : ∀ {Y : Hp}, Sub Y H → Sub Y (upd (upd H dx (.own x)) x (.ins C dx [])) := fun {Y} s a w e => by
    have h1 : a ≠ x := fun z => by rw [z, (nn s).1] at e; cases e
    have h2 : a ≠ dx := fun z => by rw [z, (nn s).2] at e; cases e
    rw [upd_ne h1, upd_ne h2]; exact s a w e
  refine ⟨⟨[x, dx] ++ L, .own (.ins (dx := dx) (ws := []) upd_same (by rw [upd_ne ne, upd_same]) .nil) (h.mono (Sub.refl Z) fun a ha => by rw [upd_ne (lx a ha).1, upd_ne (lx a ha).2]), ?_, fun a ha => ?_⟩, keep r.z, keep r.r, r.zt, r.rt, r.zr, r.tab.ext fun a w e => ?_⟩
  · refine List.nodup_append.mpr ⟨by simp [Ne.symm ne], n, fun a ha b hb e => ?_⟩
    simp only [List.mem_cons, List.not_mem_nil, or_false] at ha
    rcases ha with rfl | rfl
    · exact (lx b hb).1 e.symm
    · exact (lx b hb).2 e.symm
  · rcases List.mem_append.mp ha with ha | ha
    · simp only [List.mem_cons, List.not_mem_nil, or_false] at ha
      rcases ha with rfl | rfl
      · exact ⟨(nn r.z).1, (nn r.r).1⟩
      · exact ⟨(nn r.z).2, (nn r.r).2⟩
    · exact q a ha
  · rw [upd_ne (ne_of_none e hx), upd_ne (ne_of_none e hd)]; exact e
end
section
variable {X : Cx} {T : List (Addr × Str)} {mp : List Nat} {Z Z' R H : Hp} {S : SS} {σ : L2.St} {e : Expr} {pos p : Pos} {fe : M OV}
theorem ev_lst1 (he : EV X T e fe) (hs : starEach [e] X.env = (false, eval e X.env) :: starEach [] X.env := by rfl) : EV X T (.List [e] pos) (lst1 fe) := pe_mono (pe_lst (pa_cons he pa_nil hs)) fun σ H Q ⟨Z, R, S, r, S', W, rel, er, tk, pf⟩ => by
  unfold lst1 at er
  split at er
  · rename_i o S1 ef
    cases er
    refine ⟨Z, R, S, .ok o, _, W, rel, ef, tk, fun vy H1 Z1 s1 rel1 => ?_⟩
    refine ⟨by rw [sizeLine_eq]; simp, fun d hd => ?_⟩
    obtain ⟨Lo, ow, no, qo, rel2⟩ := rel1.hide
    have rel3 := rel2.addR hd [vy]
    have dLo : d ∉ Lo := fun z => by
      obtain ⟨u, hu, _⟩ := ow.at_ d z
      rw [hd] at hu; cases hu
    have ne : ∀ q ∈ Lo, q ≠ d := fun q hq z => dLo (by rw [← z]; exact hq)
    have dR : R d = none := by
      cases e : R d with
      | none => rfl
      | some u => rw [rel1.r d u e] at hd; cases hd
    have eR : restr (upd H1 d (.lst [vy])) (d :: Lo) R = upd (restr H1 Lo R) d (.lst [vy]) := by
      funext q
      by_cases h : q = d
      · subst h
        rw [restr_in List.mem_cons_self, upd_same, upd_same]
      · rw [upd_ne h]
        by_cases h2 : q ∈ Lo
        · rw [restr_in (List.mem_cons_of_mem _ h2), upd_ne h, restr_in h2]
        · rw [restr_out h2, restr_out (by simp [h, h2])]
    rw [← eR] at rel3
    have rel4 := rel3.show_ (Sub.refl _) (v := .ref d) (o := .lst [o]) (.lst upd_same (by
      have := OwnL.cons (ow.mono (H' := upd H1 d (.lst [vy])) (Sub.refl _) fun q hq => upd_ne (ne q hq)) (OwnL.nil (K := X.K) (Z := Z1) (H := upd H1 d (.lst [vy])))
      rwa [List.append_nil] at this)) (List.nodup_cons.mpr ⟨dLo, no⟩) (fun q hq => by
      rcases List.mem_cons.mp hq with rfl | hq
      · exact dR
      · exact (qo q hq).2)
    exact pf (.ref d) _ Z1 s1 rel4
  · rename_i x S1 ef
    cases er
    exact ⟨Z, R, S, .error x, _, W, rel, ef, tk, pf⟩
  · cases er
theorem ev_new0 {k : Nat} {f C : Addr} {fd : FuncData} {n0 x : Str} {g : DF} (M : Mk X.K C f) (F : DefOk X.prog X.w X.K T X.mg X.base k f fd [n0] g) (hr : Room (k + 1) X.A) (hg : Gl X x) (hm : X.mg x = some (.ref C)) (hb : Binds X.K fd [n0] []) (hx : Passes (L2.CX X.prog X.w) X (fun _ _ _ => False))
    (hdb : (x == ("__debug__" : Str)) = false := by decide) : EV X T (.Call (.Name x p) [] [] pos) (newF C g) :=
  pe_mono (pe_make0 (E := fun _ _ _ => False) M F hr hg hm hb .nil hx hdb) fun σ H Q ⟨Z, R, S, r, S', W, rel, er, tk, pf⟩ => by
    unfold newF at er
    split at er
    · rename_i o eg
      cases er
      intro y dy hy hdy ney
      obtain ⟨L, ow, nL, qL, relF⟩ := rel.hideAll
      have rel2 := relF.newIns (C := C) hy hdy ney
      refine ⟨rfl, Z, restr H L R, [.ins C []], .ok (.d .none), [o], rel2, eg, fun v H' Z' s rel3 => ?_⟩
      obtain ⟨fv, rel4⟩ := rel3.popd
      refine ⟨fv.nonV, ?_⟩
      have rel4 : Rel X.K T Z' (restr H L R) [some o] [some (.ref y)] H' := rel4
      obtain ⟨Lo, owo, no, qo, rel5⟩ := rel4.hide
      have cell : ∀ q ∈ L, ∃ u, H q = some u := fun q hq => by
        obtain ⟨u, hu, _⟩ := ow.at_ q hq
        exact ⟨u, hu⟩
      have dj : ∀ q ∈ Lo, q ∉ L := fun q hq hl => by
        obtain ⟨u, hu⟩ := cell q hl
        have := (qo q hq).2
        rw [restr_in hl, hu] at this
        cases this
      have eF : restr H' Lo (restr H L R) = restr H L (restr H' Lo R) := by
        funext q
        by_cases h1 : q ∈ Lo
        · rw [restr_in h1, restr_out (dj q h1), restr_in h1]
        · rw [restr_out h1]
          by_cases h2 : q ∈ L
          · rw [restr_in h2, restr_in h2]
          · rw [restr_out h2, restr_out h2, restr_out h1]
      rw [eF] at rel5
      have rel6 := rel5.showAll s ow nL (fun q hq => by
        rw [restr_out (fun z => dj q z hq)]; exact (qL q hq).2)
      have rel7 := rel6.show_ (Sub.refl _) owo no (fun q hq => by
        have := (qo q hq).2
        rwa [restr_out (dj q hq)] at this)
      exact pf (.ref y) H' Z' s rel7
    · cases er
end
end PL

/-! PL45: a sign in a text; text.index -/
namespace PL
open PySem PySem.Spec PyProof.Rows L2 LamX
def oInS : PyData → PyData → Option OV
  | .str x, .str z => match x.cps.toList with
    | [c] => okB (decide (c ∈ z.cps.toList))
    | _ => none
  | _, _ => none
def oNotInS : PyData → PyData → Option OV
  | .str x, .str z => match x.cps.toList with
    | [c] => okB (!decide (c ∈ z.cps.toList))
    | _ => none
  | _, _ => none
theorem sign_of {x : Str} {c : Nat} (h : x.cps.toList = [c]) : x = ⟨#[c]⟩ := by
  cases x with
  | mk a =>
    have : a = #[c] := by
      rw [← Array.toArray_toList (xs := a)]
      rw [h]
    rw [this]
def oSidx : PyData → List PyData → Option OV
  | .str a, [.str b] => match Builtin.Str.occurrences a b 0 a.length 1 with
    | i :: _ => some (.d (.int (i : Nat)))
    | [] => none
  | _, _ => none
def rSidx : V → List V → Hp → VK → Prop := fun x xs H Q => ∃ a b i rest, x = .str a ∧ xs = [.str b] ∧ Builtin.Str.occurrences a b 0 a.length 1 = i :: rest ∧ Q (.int (i : Nat)) H
section
variable {X : Cx} {T : List (Addr × Str)}
theorem opg_inS : OpG X T rInS oInS := by
  intro Z v w x y o σ H Q sz fx fy e fin
  unfold oInS at e
  split at e
  · rename_i x z
    split at e
    · rename_i c hc
      cases e
      refine ⟨c, z, ?_, fy.str, fin.val (.bl _)⟩
      rw [fx.str, sign_of hc]
    · cases e
  · cases e
theorem opg_notInS : OpG X T rNotInS oNotInS := by
  intro Z v w x y o σ H Q sz fx fy e fin
  unfold oNotInS at e
  split at e
  · rename_i x z
    split at e
    · rename_i c hc
      cases e
      refine ⟨c, z, ?_, fy.str, fin.val (.bl _)⟩
      rw [fx.str, sign_of hc]
    · cases e
  · cases e
theorem mg_sidx : MethG X T rSidx oSidx := by
  intro Z v vs x xs o σ H Q sz hv hvs e fin
  unfold oSidx at e
  split at e
  · rename_i a b
    split at e
    · rename_i i rest hi
      cases e
      obtain ⟨w, rfl, hw⟩ := hvs.one
      exact ⟨a, b, i, rest, hv.str, by rw [hw.str], hi, fin.val (.int _)⟩
    · cases e
  · cases e
end
end PL

/-! PL46: enumerate of a text, a list, a tuple -/
namespace PL
open PySem PySem.Spec PyProof.Rows L2 LamX

theorem meets_enum1 {v : Value} {o : Obj} {H : Heap → Prop} (B : Begins v o H) :
    Meets (Builtin.«enumerate.__new__» ⟨[.type "enumerate", v], []⟩) (fun _ R s => H s.heap ∧
      R (.ok (.ret (.ref (s.heap.push o).objs.size))) { s with heap := (s.heap.push o).push { cls := .type "enumerate", data := .fields #[.none, .bool false, .ref s.heap.objs.size, rawInt 0, .none, .none] } }) :=
  .of_wp fun prog w A R s h => by
    obtain ⟨hp, g, d, tk, os⟩ := s; obtain ⟨h1, h⟩ := h
    have hsub := sub_enumerate
    have q1 : ∀ {A' : Around} {E : Value → Shared → Prop} {Q : Value → Shared → Prop}, Q (.ref hp.objs.size) ⟨hp.push o, g, d, tk, os⟩ → wpAny (model prog w) A' (pyIter v) Q E ⟨hp, g, d, tk, os⟩ :=
      fun q => B.iter prog w _ _ ⟨hp, g, d, tk, os⟩ _ h1 q
    wp_walk using q1
    refine wpAny_stack_any fun st => wpAny_pure ?_
    split
    · rename_i c _ _ _ _ _
      cases (c == Value.type "enumerate")
      · wp_walk using q1
        exact ⟨_, rfl, h⟩
      · wp_walk using q1
        exact ⟨_, rfl, h⟩
    · wp_walk using q1
      exact ⟨_, rfl, h⟩
section
variable {prog : Program} {w : World} {A : Around} {E : Value → Shared → Prop} {s : Shared}
theorem enum_begins1 {v : Value} {o : Obj} {H : Heap → Prop} {Q : Value → Shared → Prop} (B : Begins v o H) (h1 : H s.heap)
    (h : ∀ h', IsEnum h' (s.heap.objs.size + 1) s.heap.objs.size 0 .none → h'.get? s.heap.objs.size = some o → h'.objs.size = s.heap.objs.size + 2 →
      (∀ b o, s.heap.get? b = some o → h'.get? b = some o) → Q (.ref (s.heap.objs.size + 1)) { s with heap := h' }) :
    wpAny (model prog w) A (call (.type "enumerate") [v]) Q E s := by
  refine callType_new F.called_enumerate (by decide) (F.typeCall_enumerate_1 _) (F.newCall_enumerate_1 _) (fun obj => F.args_object_init_2 obj _) F.entry_enumerate_new
    (meets_enum1 B) ⟨h1, ?_⟩
  have hz : (s.heap.push o).objs.size = s.heap.objs.size + 1 := Heap.size_push ..
  show _ ∧ _
  rw [hz]
  have he : IsEnum ((s.heap.push o).push { cls := .type "enumerate", data := .fields #[.none, .bool false, .ref s.heap.objs.size, rawInt 0, .none, .none] }) (s.heap.objs.size + 1) s.heap.objs.size 0 .none := by
    have := Heap.get?_push_size (s.heap.push o) (o := { cls := .type "enumerate", data := .fields #[.none, .bool false, .ref s.heap.objs.size, rawInt 0, .none, .none] }) rfl
    rw [hz] at this; exact this
  refine ⟨⟨_, he, rfl⟩, h _ he (Heap.get?_push_of_some _ (Heap.get?_push_size _ B.free)) (by rw [Heap.size_push, hz]) fun b o x => Heap.get?_push_of_some _ (Heap.get?_push_of_some _ x)⟩
end
end PL

/-! PL47: for .. in enumerate(..) -/
namespace PL
open PySem PySem.Spec PyProof.Rows L2 LamX
def Ite2 (xs : List V) (g1 : Hp → Prop) : It :=
  ⟨fun i H => g1 H ∧ i < xs.length, fun i H v H' => ∃ T x, v = .ref T ∧ H T = none ∧ H' = upd H T (.tup [.int (i : Nat), x]) ∧ xs[i]? = some x, fun i H => g1 H ∧ i = xs.length⟩
theorem turn_enum2 {P : Program} {w : World} {K : PySem.W.Frag} {v1 : V} {xs : List V} {g1 : Hp → Prop} {e1 : List Addr} {t1 : Addr → Nat → Heap → Prop} {elts : List Expr} {kk : Nat} {tpos : Pos} {e it : Addr}
    (S1 : Src P w K v1 xs g1 e1 t1) (hne : e ≠ it) (n1 : it ∉ e1) (n2 : e ∉ e1) : Turn P w K (.Tuple elts kk tpos) (Ite2 xs g1) [e, it] e (fun i h => (∃ old, IsEnum h e it ((i : Nat) : Int) old) ∧ t1 it i h) where
  mem := by simp
  obj := fun i h st b hb => by
    obtain ⟨⟨old, he⟩, h1⟩ := st
    have e' : b = e ∨ b = it := by simpa using hb
    rcases e' with z | z
    · rw [z]; exact ⟨_, he, fun v q => nomatch q⟩
    · rw [z]; exact S1.obj _ _ _ h1
  keep := fun i h h' st k => let ⟨⟨old, he⟩, hi⟩ := st; ⟨⟨old, k e (by simp) _ he⟩, S1.keep _ _ _ _ hi fun o q => k it (by simp) o q⟩
  item := by
    intro X hP hw hK hc i pins s σ H E I hf st hg
    subst hP hw hK
    obtain ⟨⟨old, he⟩, h1⟩ := st
    obtain ⟨gx, hi⟩ := hg
    obtain ⟨P1, St1, D1, s1, r1, b1⟩ := S1.drw X rfl rfl rfl (I.ok.hd hc) pins s σ H I gx it i h1 n1
    have hel : e < s.heap.objs.size := Heap.lt_size he
    have hil : it < s.heap.objs.size := by obtain ⟨_, q, _⟩ := S1.obj _ _ _ h1; exact Heap.lt_size q
    refine wpAny_pyNext_enum_itemC D1 he s1 hi hne (by simp [hne, n2]) fun u h' tk p1 ho st' hT hsz hk => ?_
    obtain ⟨x, hx, ru⟩ := r1 i u p1
    refine ⟨_, rfl, wpAny_letOwnedTupleGo_enum (s := { s with heap := h', toks := tk + 1 }) ho fun h'' he' sb => ?_⟩
    have hT2 : h''.get? s.heap.objs.size = some { cls := .type "tuple", data := .seq #[.int i tk, u] } := (sb.2 _ (Nat.ne_of_gt hel)).trans hT
    have new : ObjOk X.prog X.w (upd H s.heap.objs.size (.tup [.int (i : Nat), x])) h'' s.heap.objs.size (.tup [.int (i : Nat), x]) :=
      ⟨by show 2 ≤ sizeLine; decide, [.int i tk, u], .cons ⟨_, rfl⟩ (.cons ru .nil), ⟨_, hT2, rfl, _, rfl⟩⟩
    have I1 : Inv X pins σ (upd H s.heap.objs.size (.tup [.int (i : Nat), x])) { s with heap := h'', toks := tk + 1 } :=
      I.turnedNew (t' := tk + 1) (ch := [e, it]) (fun b ob hb q => (sb.2 b (fun z => hb (by simp [z]))).trans (hk b ob (fun z => hb (by simp [z])) (fun z => hb (by simp [z])) q)) hf (Nat.le_refl _) new
    refine ⟨.ref s.heap.objs.size, _, I1, rfl, ⟨_, x, rfl, I.hok.fresh (Nat.le_refl _), rfl, hx⟩, ⟨⟨u, ?_⟩, S1.keep _ _ _ _ (b1 _ _ st') fun o q => (sb.2 it (Ne.symm hne)).trans q⟩, fun b hb => ?_⟩
    · have e1 : ((i + 1 : Nat) : Int) = (i : Int) + 1 := by omega
      rw [e1]; exact he'
    · have hb' : b < s.heap.objs.size := by
        have e' : b = e ∨ b = it := by simpa using hb
        rcases e' with z | z
        · rw [z]; exact hel
        · rw [z]; exact hil
      rw [upd_ne (Nat.ne_of_lt hb')]
      exact (hf b hb).1
  done := by
    intro X hP hw hK hc i pins s σ H E I hf st hg
    subst hP hw hK
    obtain ⟨⟨old, he⟩, h1⟩ := st
    obtain ⟨gx, hi⟩ := hg
    subst hi
    obtain ⟨P1, St1, D1, s1, r1, b1⟩ := S1.drw X rfl rfl rfl (I.ok.hd hc) pins s σ H I gx it xs.length h1 n1
    exact wpAny_pyNext_enum_endD D1 he s1 fun h' eb => ⟨rfl, I.turnedL (t' := s.toks) (ch := [e, it]) (fun b o hb q => eb b o (fun z => hb (by simp [z])) q) hf⟩
  self := fun A i s Q E st h => let ⟨⟨_, he⟩, _⟩ := st; wpAny_pyIter_enum he h
def iEnum2 (P : Program) (w : World) (K : PySem.W.Frag) (ta : TA) : TI := fun σ H R => ta σ H fun vs H1 => ∃ (v1 : V) (xs : List V) (g1 : Hp → Prop) (e1 : List Addr) (t1 : Addr → Nat → Heap → Prop), vs = [v1] ∧ Src P w K v1 xs g1 e1 t1 ∧ g1 H1 ∧ R (Ite2 xs g1) H1
theorem pi_enum2 {X : Cx} {e : Expr} {ta : TA} {p pos tpos : Pos} {elts : List Expr} {kk : Nat} (hg : Gl X "enumerate") (hm : X.mg "enumerate" = none) (ha : PA X [e] ta) (hs : starEach [e] X.env = [(false, eval e X.env)] := by rfl) :
    PI X (.Tuple elts kk tpos) (.Call (.Name "enumerate" p) [e] [] pos) (iEnum2 X.prog X.w X.K ta) := by
  refine ⟨fun pins s σ H R I h => ?_⟩
  refine Call_ (ld_blt I hg hm boot_enumerate (PyProof.Rows.callWith_type1 (thn (ha.run pos pins s σ H _ I h) fun us s1 ⟨vs, H1, I1, r1, q1⟩ => ?_) hs rfl))
  obtain ⟨v1, xs, g1, x1, t1, ex, S1, gx, q⟩ := q1
  subst ex
  cases r1 with
  | cons r rr =>
    cases rr
    obtain ⟨b1, o1, HH1, B1, h1, k1⟩ := S1.beg X rfl rfl rfl pins s1 σ H1 _ I1 gx r
    refine enum_begins1 B1 h1 fun h' he e1 hsz hk => wpAny_pyIter_enum he ?_
    have I2 : Inv X pins σ H1 { s1 with heap := h' } := I1.kept (t' := s1.toks) hk
    refine ⟨s1.heap.objs.size + 1, [s1.heap.objs.size + 1, s1.heap.objs.size], _, _, H1, rfl, I2, turn_enum2 S1 (Nat.succ_ne_self _) (fun z => Nat.lt_irrefl _ (b1 _ z)) (fun z => Nat.lt_irrefl _ (Nat.lt_trans (Nat.lt_succ_self _) (b1 _ z))), ⟨⟨.none, he⟩, k1 _ _ e1⟩, fun b hb => ?_, q⟩
    have e' : b = s1.heap.objs.size + 1 ∨ b = s1.heap.objs.size := by simpa using hb
    have hle : s1.heap.objs.size ≤ b := by
      rcases e' with z | z
      · rw [z]; exact Nat.le_add_right _ _
      · rw [z]; exact Nat.le_refl _
    exact I1.fpOk hle (I1.hok.fresh hle)
def enumL : Nat → List PyData → List PyData
  | _, [] => []
  | n, d :: ds => .tuple [.int (n : Int), d] :: enumL (n + 1) ds
theorem enumL_get : ∀ {ds : List PyData} {n i : Nat} {d : PyData}, (enumL n ds)[i]? = some d → ∃ x, ds[i]? = some x ∧ d = .tuple [.int ((n + i : Nat) : Int), x]
  | [], n, i, d, h => by simp [enumL] at h
  | x :: ds, n, 0, d, h => by
    simp [enumL] at h
    exact ⟨x, rfl, h.symm⟩
  | x :: ds, n, i + 1, d, h => by
    have h : (enumL (n + 1) ds)[i]? = some d := by simpa [enumL] using h
    obtain ⟨y, h1, h2⟩ := enumL_get h
    exact ⟨y, by simpa using h1, by rw [h2]; congr 3; omega⟩
theorem enumL_len : ∀ (n : Nat) (ds : List PyData), (enumL n ds).length = ds.length
  | _, [] => rfl
  | n, d :: ds => by
    show (enumL (n + 1) ds).length + 1 = _
    rw [enumL_len (n + 1) ds]; rfl
def enumE (ga : M (List AV)) : M (List PyData) := ga >>= fun as => M.lift ((frs as).bind fun xs => match xs with
  | [x] => (seqD x).map (enumL 0)
  | _ => none)
theorem goes_enum {K : PySem.W.Frag} {T : List (Addr × Str)} {Z : Hp} {xs : List V} {ds : List PyData} {g1 : Hp → Prop} (fx : FrAll K Z xs ds) (h1 : ∀ Z' H, Sub Z Z' → Sub Z' H → g1 H) :
    Goes K T Z (Ite2 xs g1) (enumL 0 ds) := fun Z1 R S σ H s1 rel i => by
  have l1 := fx.length
  refine ⟨fun hi => ⟨h1 _ _ s1 rel.z, by rw [hi, enumL_len, l1]⟩, fun d hd => ?_⟩
  obtain ⟨dx, e1, rfl⟩ := enumL_get hd
  have k1 : i < ds.length := (List.getElem?_eq_some_iff.mp e1).1
  refine ⟨⟨h1 _ _ s1 rel.z, by omega⟩, fun x H' ⟨t, u, ex, ht, eH, hx⟩ => ?_⟩
  subst ex eH
  obtain ⟨u', a1, f1⟩ := fx.get e1
  rw [hx] at a1; cases a1
  have r2 := rel.frozen ht (.tup [.int (i : Nat), u]) (fun _ z => by cases z)
  have zp : Z1 t = none := by
    cases e : Z1 t with
    | none => rfl
    | some o => rw [rel.z _ _ e] at ht; cases ht
  rw [Nat.zero_add]
  exact ⟨upd Z1 t (.tup [.int (i : Nat), u]), sub_upd _ zp, r2, .tup (SqT.of upd_same) (.cons (.int _) (.cons (f1.sub (s1.trans (sub_upd _ zp))) .nil))⟩
section
variable {X : Cx} {T : List (Addr × Str)} {e : Expr} {ga : M (List AV)} {p pos tpos : Pos} {elts : List Expr} {kk : Nat}
theorem evi_enum (hg : Gl X "enumerate") (hm : X.mg "enumerate" = none) (ha : EVA X T [e] ga) (hs : starEach [e] X.env = [(false, eval e X.env)] := by rfl) :
    EVI X T (.Tuple elts kk tpos) (.Call (.Name "enumerate" p) [e] [] pos) (enumE ga) := pi_mono (pi_enum2 hg hm ha hs) fun σ H R0 ⟨Z, h⟩ => by
  refine ⟨Z, rz_mono (ra_bind PIt.mono h) fun Z R as S p vs H1 Z1 s1 r1 a1 => ?_⟩
  obtain ⟨us, Z2, s2, o2, h2⟩ := p vs H1 Z1 s1 r1 a1
  obtain ⟨ds, R3, S3, e, rel, pf⟩ := rz_lift h2
  cases q : frs us with
  | none => rw [q] at e; cases e
  | some as =>
    rw [q] at e
    have f := o2.frs q
    cases as with
    | nil => cases e
    | cons x r =>
      cases r with
      | nil =>
        cases q1 : seqD x with
        | none => simp only [Option.bind_some, q1, Option.map_none] at e; cases e
        | some xs =>
          simp only [Option.bind_some, q1, Option.map_some] at e
          cases e
          cases f with
          | cons f1 f =>
            cases f
            obtain ⟨us1, g1, x1, t1, S1, k1, m1⟩ := src_of (P := X.prog) (w := X.w) f1 q1
            exact ⟨_, us1, g1, x1, t1, rfl, S1, m1 _ _ (Sub.refl _) rel.z, pf _ H1 Z2 (Sub.refl _) rel (goes_enum k1 m1)⟩
      | cons y r => cases e
end
end PL

/-! PL48: comprehensions with two sources -/
namespace PL
open PySem PySem.Spec PyProof.Rows L2 LamX
def compL2 (g : PyData → SS → Option SS) (ft : M Bool) (fi1 : M (List PyData)) (g1 : PyData → SS → Option SS) (ft1 : M Bool) (fe : M OV) (vs vs1 : List Nat) : List PyData → List PyData → SS → Option (List PyData × SS)
  | [], acc, S => some (acc, S)
  | d :: ds, acc, S => match g d S with
    | none => none
    | some S1 => match ft S1 with
      | some (.ok true, S2) => match fi1 S2 with
        | some (.ok ds1, S3) => if vs1.all (fun i => decide (i < S3.length)) then match compL g1 ft1 fe vs1 ds1 acc (wipeS S3 vs1) with
          | some (acc', S4) => compL2 g ft fi1 g1 ft1 fe vs vs1 ds acc' (wipeS S4 vs)
          | none => none
          else none
        | _ => none
      | some (.ok false, S2) => compL2 g ft fi1 g1 ft1 fe vs vs1 ds acc (wipeS S2 vs)
      | _ => none
def compE2 (own : Bool) (fi : M (List PyData)) (g : PyData → SS → Option SS) (ft : M Bool) (fi1 : M (List PyData)) (g1 : PyData → SS → Option SS) (ft1 : M Bool) (fe : M OV) (vs vs1 : List Nat) : M OV := fi >>= fun ds => fun S => if vs.all (fun i => decide (i < S.length)) then (compL2 g ft fi1 g1 ft1 fe vs vs1 ds [] (wipeS S vs)).map fun p => (.ok (newL own p.1), p.2) else none
section
variable {X : Cx} {T : List (Addr × Str)} {mp : List Nat} {Z R H : Hp} {S : SS} {σ : L2.St}
theorem wipe_sub {σ : L2.St} {vs vs1 : List Nat} (h : ∀ i ∈ vs1, i ∈ vs) : L2.wipe (L2.wipe σ vs1) vs = L2.wipe σ vs := by
  apply List.ext_getElem?
  intro j
  by_cases hj : j ∈ vs
  · rw [wipe_in vs _ j hj, wipe_in vs σ j hj, L2.wipe_length]
  · rw [L2.wipe_out hj, L2.wipe_out hj, L2.wipe_out fun z => hj (h j z)]
theorem lc2_of {own : Bool} {vs vs1 ws ws1 : List Nat} {fi fi1 : M (List PyData)} {g g1 : PyData → SS → Option SS} {ft ft1 : M Bool} {fe : M OV} (hw : ∀ i ∈ ws, i ∈ vs) (hw1 : ∀ i ∈ ws1, i ∈ vs1) (hv : ∀ i ∈ vs1, i ∈ vs) : ∀ (σ : L2.St) (H : Hp) (Q : VK), rdg X T (compE2 own fi g ft fi1 g1 ft1 fe vs vs1) σ H Q →
    tLc2 (rig X T fi) (rgd X T ws g) (fun σ H Q => ∃ Z, rz0 X.K T (PBo X.K T σ Q) Z ft σ H) (fun σ H R0 => ∃ Z, rz0 X.K T (PIt X.K T σ R0) Z fi1 σ H) (rgd X T ws1 g1) (fun σ H Q => ∃ Z, rz0 X.K T (PBo X.K T σ Q) Z ft1 σ H) (fun σ H Q => ∃ Z, rz0 X.K T (POk X.K T σ Q) Z fe σ H) vs vs1 σ H Q := fun σ H Q ⟨Z, h⟩ => by
  obtain ⟨Z0, h⟩ := ri_bind POk.mono h
  refine ⟨Z0, rz_mono h fun Z R o S p J H1 Z1 s1 r1 go1 D hD => ?_⟩
  obtain ⟨ds, Z2, s2, go, R, S, r, S', W, rel, e, tk, pf⟩ := p J H1 Z1 s1 r1 go1
  have e : (if vs.all (fun i => decide (i < S.length)) then (compL2 g ft fi1 g1 ft1 fe vs vs1 ds [] (wipeS S vs)).map (fun p => (Except.ok (newL own p.1), p.2)) else none) = some (r, S') := e
  split at e
  · rename_i hall
    cases q0 : compL2 g ft fi1 g1 ft1 fe vs vs1 ds [] (wipeS S vs) with
    | none => rw [q0] at e; cases e
    | some t =>
      obtain ⟨accF, S9⟩ := t
      rw [q0] at e
      cases e
      have hR : R D = none := by
        cases q : R D with
        | none => rfl
        | some w => rw [rel.r _ _ q] at hD; cases hD
      have hlt : ∀ i ∈ vs, i < S.length := fun i hi => of_decide_eq_true (List.all_eq_true.mp hall i hi)
      refine ⟨fun i m H => m = ds.length - i ∧ i ≤ ds.length ∧ ∃ Z' S2 accV acc, Sub Z2 Z' ∧ Rel X.K T Z' (upd R D (.lst accV)) S2 (L2.wipe σ vs) H ∧ FrAll X.K Z' accV acc ∧ S2.length = S.length ∧ (∀ i ∈ vs, S2[i]? = some none) ∧ compL2 g ft fi1 g1 ft1 fe vs vs1 (ds.drop i) acc S2 = some (accF, S9),
        ⟨_, rfl, Nat.zero_le _, Z2, wipeS S _, [], [], Sub.refl _, (rel.wipe _).addR hD [], .nil, wipeS_len _, fun i hi => wipeS_get _ i hi (hlt i hi), q0⟩, ?_⟩
      rintro i m H3 ⟨rfl, hi, Z3, S3, accV, acc, s3, rel3, fa, hl3, hn3, e3⟩
      obtain ⟨g1', g2⟩ := go Z3 _ S3 _ H3 s3 rel3 i
      by_cases hlt2 : i < ds.length
      · obtain ⟨g3, g4⟩ := g2 ds[i] (List.getElem?_eq_getElem hlt2)
        rw [List.drop_eq_getElem_cons hlt2] at e3
        refine .inr ⟨g3, fun H' => ∃ Z' S2 accV acc, Sub Z2 Z' ∧ Rel X.K T Z' (upd R D (.lst accV)) S2 (L2.wipe σ vs) H' ∧ FrAll X.K Z' accV acc ∧ S2.length = S.length ∧ (∀ i ∈ vs, S2[i]? = some none) ∧ compL2 g ft fi1 g1 ft1 fe vs vs1 (ds.drop (i + 1)) acc S2 = some (accF, S9),
          fun H' hh => ⟨ds.length - (i + 1), by omega, rfl, hlt2, hh⟩, fun x H4 y => ?_⟩
        obtain ⟨Z4, s4, rel4, fx⟩ := g4 x H4 y
        unfold compL2 at e3
        cases eg : g ds[i] S3 with
        | none => rw [eg] at e3; cases e3
        | some S5 =>
          rw [eg] at e3
          refine ⟨ds[i], Z4, _, S3, S5, fx, rel4, eg, fun σ5 rel5 off => ⟨wipe_off off hw, ?_⟩⟩
          have hσ : L2.wipe σ5 vs = L2.wipe σ vs := wipe_off off hw
          have hσl : σ5.length = S.length := by rw [off.1, rel4.length, hl3]
          simp only at e3
          cases et : ft S5 with
          | none => rw [et] at e3; cases e3
          | some tt =>
            obtain ⟨tr, S6⟩ := tt
            rw [et] at e3
            cases tr with
            | error _ => cases e3
            | ok b =>
              refine ⟨Z4, _, S5, b, S6, rel5, et, fun H6 Z6 s6 rel6 => ?_⟩
              cases b with
              | false =>
                rw [if_neg Bool.false_ne_true]
                have hl6 : S6.length = S.length := by rw [← rel6.length, hσl]
                have rel7 := rel6.wipe vs
                rw [hσ] at rel7
                exact ⟨Z6, wipeS S6 _, accV, acc, (s3.trans s4).trans s6, rel7, fa.sub (s4.trans s6), (wipeS_len _).trans hl6, fun i hi => wipeS_get _ i hi (by rw [hl6]; exact hlt i hi), e3⟩
              | true =>
                rw [if_pos rfl]
                simp only at e3
                cases ei : fi1 S6 with
                | none => rw [ei] at e3; cases e3
                | some ts =>
                  obtain ⟨ir, S7⟩ := ts
                  rw [ei] at e3
                  cases ir with
                  | error _ => cases e3
                  | ok ds1 =>
                    simp only at e3
                    split at e3
                    · rename_i hall1
                      cases ec : compL g1 ft1 fe vs1 ds1 acc (wipeS S7 vs1) with
                      | none => rw [ec] at e3; cases e3
                      | some tc =>
                        obtain ⟨accN, S8⟩ := tc
                        rw [ec] at e3
                        simp only at e3
                        refine ⟨Z6, _, S6, ds1, S7, rel6, ei, fun J1 H7 Z7 s7 rel7 go2 => ?_⟩
                        have hl7 : S7.length = S.length := by rw [← rel7.length, hσl]
                        have hlt1 : ∀ i ∈ vs1, i < S7.length := fun i hi => of_decide_eq_true (List.all_eq_true.mp hall1 i hi)
                        refine ⟨fun j k H => k = ds1.length - j ∧ j ≤ ds1.length ∧ ∃ Z' S2 accV acc2, Sub Z7 Z' ∧ Rel X.K T Z' (upd R D (.lst accV)) S2 (L2.wipe σ5 vs1) H ∧ FrAll X.K Z' accV acc2 ∧ S2.length = S.length ∧ (∀ i ∈ vs1, S2[i]? = some none) ∧ compL g1 ft1 fe vs1 (ds1.drop j) acc2 S2 = some (accN, S8),
                          ⟨_, rfl, Nat.zero_le _, Z7, wipeS S7 _, accV, acc, Sub.refl _, rel7.wipe _, fa.sub ((s4.trans s6).trans s7), (wipeS_len _).trans hl7, fun i hi => wipeS_get _ i hi (hlt1 i hi), ec⟩, ?_⟩
                        rintro j k Ha ⟨rfl, hj, Za, Sa, accVa, acca, sa, rela, faa, hla, hna, ea⟩
                        obtain ⟨ga1, ga2⟩ := go2 Za _ Sa _ Ha sa rela j
                        by_cases hjl : j < ds1.length
                        · obtain ⟨ga3, ga4⟩ := ga2 ds1[j] (List.getElem?_eq_getElem hjl)
                          rw [List.drop_eq_getElem_cons hjl] at ea
                          refine .inr ⟨ga3, fun H' => ∃ Z' S2 accV acc2, Sub Z7 Z' ∧ Rel X.K T Z' (upd R D (.lst accV)) S2 (L2.wipe σ5 vs1) H' ∧ FrAll X.K Z' accV acc2 ∧ S2.length = S.length ∧ (∀ i ∈ vs1, S2[i]? = some none) ∧ compL g1 ft1 fe vs1 (ds1.drop (j + 1)) acc2 S2 = some (accN, S8),
                            fun H' hh => ⟨ds1.length - (j + 1), by omega, rfl, hjl, hh⟩, fun x1 Hb yb => ?_⟩
                          obtain ⟨Zb, sb, relb, fxb⟩ := ga4 x1 Hb yb
                          unfold compL at ea
                          cases egb : g1 ds1[j] Sa with
                          | none => rw [egb] at ea; cases ea
                          | some Sb =>
                            rw [egb] at ea
                            refine ⟨ds1[j], Zb, _, Sa, Sb, fxb, relb, egb, fun σc relc offc => ⟨wipe_off offc hw1, ?_⟩⟩
                            have hσc : L2.wipe σc vs1 = L2.wipe σ5 vs1 := wipe_off offc hw1
                            have hσcl : σc.length = S.length := by rw [offc.1, relb.length, hla]
                            simp only at ea
                            cases etb : ft1 Sb with
                            | none => rw [etb] at ea; cases ea
                            | some ttb =>
                              obtain ⟨trb, Sc⟩ := ttb
                              rw [etb] at ea
                              cases trb with
                              | error _ => cases ea
                              | ok bb =>
                                refine ⟨Zb, _, Sb, bb, Sc, relc, etb, fun Hd Zd sd reld => ?_⟩
                                cases bb with
                                | false =>
                                  rw [if_neg Bool.false_ne_true]
                                  have hlc : Sc.length = S.length := by rw [← reld.length, hσcl]
                                  have relE := reld.wipe vs1
                                  rw [hσc] at relE
                                  exact ⟨Zd, wipeS Sc _, accVa, acca, (sa.trans sb).trans sd, relE, faa.sub (sb.trans sd), (wipeS_len _).trans hlc, fun i hi => wipeS_get _ i hi (by rw [hlc, ← hl7]; exact hlt1 i hi), ea⟩
                                | true =>
                                  rw [if_pos rfl]
                                  simp only at ea
                                  cases eeb : fe Sc with
                                  | none => rw [eeb] at ea; cases ea
                                  | some tsb =>
                                    obtain ⟨tvb, Sd⟩ := tsb
                                    rw [eeb] at ea
                                    cases tvb with
                                    | error _ => cases ea
                                    | ok ovb =>
                                      cases ovb with
                                      | d yD =>
                                        simp only at ea
                                        split at ea
                                        · rename_i hsz
                                          refine ⟨Zd, _, Sc, _, Sd, reld, eeb, fun yv He Ze se rele => ?_⟩
                                          obtain ⟨fy, relf⟩ := rele.popd
                                          refine ⟨accVa, relf.r D _ upd_same, by rw [faa.length]; exact hsz, ?_⟩
                                          have hld : Sd.length = S.length := by rw [← relf.length, hσcl]
                                          have relg := (relf.setR (vs' := accVa ++ [yv])).wipe vs1
                                          rw [hσc] at relg
                                          exact ⟨Ze, wipeS Sd _, accVa ++ [yv], acca ++ [yD], ((sa.trans sb).trans sd).trans se, relg, (faa.sub ((sb.trans sd).trans se)).append (.cons fy .nil), (wipeS_len _).trans hld, fun i hi => wipeS_get _ i hi (by rw [hld, ← hl7]; exact hlt1 i hi), ea⟩
                                        · cases ea
                                      | lst _ => cases ea
                                      | dct _ => cases ea
                                      | ins _ _ => cases ea
                        · have he : j = ds1.length := by omega
                          subst he
                          rw [List.drop_length] at ea
                          cases ea
                          refine .inl ⟨ga1 rfl, ?_⟩
                          have relz := rela.wipe vs
                          rw [wipe_sub hv, hσ] at relz
                          exact ⟨Za, wipeS S8 vs, accVa, accN, (((s3.trans s4).trans s6).trans s7).trans sa, relz, faa, (wipeS_len _).trans hla, fun i hi => wipeS_get _ i hi (by rw [hla]; exact hlt i hi), e3⟩
                    · cases e3
      · have he : i = ds.length := by omega
        subst he
        rw [List.drop_length] at e3
        cases e3
        refine .inl ⟨g1' rfl, ?_⟩
        obtain ⟨Z5, s5, rel5⟩ := (rel3.unwipe _ hn3).doneR (own := own) hR fa
        exact pf _ H3 Z5 (s3.trans s5) rel5
  · cases e
theorem ev_comp2 {own : Bool} {scope : Scope} {ownN : List (Str × Nat)} {ws ws1 vs1 : List Nat} {elt tg iter tg1 iter1 : Expr} {ifs ifs1 : List Expr} {pos : Pos} {fi fi1 : M (List PyData)} {g g1 : PyData → SS → Option SS} {ft ft1 : M Bool} {fe : M OV} (hc : X.calm = true) (hN : X.N.Nodup) (hi : EVI X T tg iter fi) (ok : BlkOk X.N X.env.scope scope ownN)
    (hg : ∀ (s : Shared) (H : Hp) (C : Addr) (cl : List (Str × Addr)) (fp : List Addr), GV (X.blk s H scope (compEnvC scope cl C X.env) fp) T ws tg g) (ht : ∀ (s : Shared) (H : Hp) (C : Addr) (cl : List (Str × Addr)) (fp : List Addr), EVTs (X.blk s H scope (compEnvC scope cl C X.env) fp) T ifs ft)
    (hi1 : ∀ (s : Shared) (H : Hp) (C : Addr) (cl : List (Str × Addr)) (fp : List Addr), EVI (X.blk s H scope (compEnvC scope cl C X.env) fp) T tg1 iter1 fi1)
    (hg1 : ∀ (s : Shared) (H : Hp) (C : Addr) (cl : List (Str × Addr)) (fp : List Addr), GV (X.blk s H scope (compEnvC scope cl C X.env) fp) T ws1 tg1 g1) (ht1 : ∀ (s : Shared) (H : Hp) (C : Addr) (cl : List (Str × Addr)) (fp : List Addr), EVTs (X.blk s H scope (compEnvC scope cl C X.env) fp) T ifs1 ft1)
    (he : ∀ (s : Shared) (H : Hp) (C : Addr) (cl : List (Str × Addr)) (fp : List Addr), EV (X.blk s H scope (compEnvC scope cl C X.env) fp) T elt fe)
    (hw : ∀ i ∈ ws, i ∈ ownN.map (·.2) := by decide) (hw1 : ∀ i ∈ ws1, i ∈ vs1 := by decide) (hv : ∀ i ∈ vs1, i ∈ ownN.map (·.2) := by decide) (hs : ∀ x, foldedSetIterable iter X.env x = pure x := by intro _; rfl) (hs1 : ∀ env x, foldedSetIterable iter1 env x = pure x := by intro _ _; rfl) :
    EV X T (.ListComp elt [⟨tg, iter, ifs, 0⟩, ⟨tg1, iter1, ifs1, 0⟩] scope pos) (compE2 own fi g ft fi1 g1 ft1 fe (ownN.map (·.2)) vs1) :=
  pe_mono (pe_lc2 (g := rgd X T ws g) (g1 := rgd X T ws1 g1) (tt := fun σ H Q => ∃ Z, rz0 X.K T (PBo X.K T σ Q) Z ft σ H) (wi1 := fun σ H R0 => ∃ Z, rz0 X.K T (PIt X.K T σ R0) Z fi1 σ H) (tt1 := fun σ H Q => ∃ Z, rz0 X.K T (PBo X.K T σ Q) Z ft1 σ H) (te := fun σ H Q => ∃ Z, rz0 X.K T (POk X.K T σ Q) Z fe σ H) hc hN hi ok hv hg
    (fun s H C cl fp => pts_mono (ht s H C cl fp) fun σ H Q ⟨Z, h⟩ => ⟨Z, rz0_rz h⟩)
    (fun s H C cl fp => pi_mono (hi1 s H C cl fp) fun σ H Q ⟨Z, h⟩ => ⟨Z, rz0_rz h⟩) hg1
    (fun s H C cl fp => pts_mono (ht1 s H C cl fp) fun σ H Q ⟨Z, h⟩ => ⟨Z, rz0_rz h⟩)
    (fun s H C cl fp => pe_mono (he s H C cl fp) fun σ H Q ⟨Z, h⟩ => ⟨Z, rz0_rz h⟩) hs hs1) fun σ H Q h => lc2_of hw hw1 hv σ H Q h
end
end PL

/-! PL49: rules of simp for the new readings -/
namespace PL
open PySem PySem.Spec PyProof.Rows L2 LamX
@[simp] theorem mcallF_S (n i : Nat) (C : Addr) (m : Str) (g : DF) (ga : M (List AV)) (S : SS) : mcallF n i C m g ga S = match S[i]? with
  | some (some (.ins C' fs)) => if C' = C ∧ (fs.lookup m).isNone = true then callF n g (argsCons (rdV i) ga) S else none
  | _ => none := rfl
@[simp] theorem getF_S (i : Nat) (C : Addr) (f : Str) (S : SS) : getF i C f S = match S[i]? with
  | some (some (.ins C' fs)) => if C' = C then match fs.lookup f with
    | some (.d y) => some (.ok (.d y), S)
    | _ => none
    else none
  | some (some (.d x)) => match insA C f x with
    | some y => some (.ok (.d y), S)
    | none => none
  | _ => none := rfl
@[simp] theorem putA_S (i : Nat) (C : Addr) (f : Str) (o : OV) (S : SS) : putA i C f o S = match S[i]? with
  | some (some (.ins C' fs)) => if C' = C ∧ fs.length < 1000 then some (.nx, S.set i (some (.ins C (putFO f o fs)))) else none
  | _ => none := rfl
@[simp] theorem setF_S (i : Nat) (C : Addr) (f : Str) (fe : M OV) (S : SS) : setF i C f fe S = doE fe (putA i C f) S := rfl
@[simp] theorem insA_D (C : Addr) (f : Str) (fs : List (Str × PyData)) : insA C f (insD C fs) = fs.lookup f := insA_insD C f fs
@[simp] theorem frzW_S (i : Nat) (S : SS) : frzW i S = match S[i]? with
  | some (some o) => (ovD o).map fun x => (.nx, S.set i (some (.d x)))
  | _ => none := rfl
@[simp] theorem frzM_S (f : M OV) (S : SS) : frzM f S = match f S with
  | some (.ok o, S1) => (ovD o).map fun x => (.ok (.d x), S1)
  | some (.error x, S1) => some (.error x, S1)
  | none => none := rfl
@[simp] theorem lst1_S (fe : M OV) (S : SS) : lst1 fe S = match fe S with
  | some (.ok o, S1) => some (.ok (.lst [o]), S1)
  | some (.error x, S1) => some (.error x, S1)
  | none => none := rfl
@[simp] theorem newF_S (C : Addr) (g : DF) (S : SS) : newF C g S = match g [.ins C []] with
  | some (.ok (.d .none), [o]) => some (.ok o, S)
  | _ => none := rfl
@[simp] theorem popF_S (i : Nat) (C : Addr) (f : Str) (S : SS) : popF i C f S = match S[i]? with
  | some (some (.ins C' fs)) => if C' = C then match fs.lookup f with
    | some (.lst xs) => match xs.getLast? with
      | some o => some (.ok o, S.set i (some (.ins C' (putFO f (.lst xs.dropLast) fs))))
      | none => none
    | _ => none
    else none
  | _ => none := rfl
@[simp] theorem apO_S (i : Nat) (C : Addr) (f : Str) (fe : M OV) (S : SS) : apO i C f fe S = match S[i]? with
  | some (some (.ins C' fs)) => if C' = C then match fs.lookup f with
    | some (.lst xs) => match fe (S.set i none) with
      | some (.ok o, S1) => if xs.length < sizeLine then some (.ok (.d .none), S1.set i (some (.ins C' (putFO f (.lst (xs ++ [o])) fs)))) else none
      | _ => none
    | _ => none
    else none
  | _ => none := rfl
@[simp] theorem apF_S (i : Nat) (C : Addr) (f : Str) (fe : M OV) (S : SS) : apF i C f fe S = match S[i]? with
  | some (some (.ins C' fs)) => if C' = C then match fs.lookup f with
    | some (.lst xs) => match ixN xs.length (-1) with
      | some k => match xs[k]? with
        | some (.lst ys) => match items ys with
          | some ds => match fe (S.set i none) with
            | some (.ok (.d y), S1) => if ds.length < sizeLine then some (.ok (.d .none), S1.set i (some (.ins C' (putFO f (.lst (xs.set k (.lst ((ds ++ [y]).map .d)))) fs)))) else none
            | _ => none
          | none => none
        | _ => none
      | none => none
    | _ => none
    else none
  | _ => none := rfl
theorem comp2_of {own : Bool} {fi fi1 : M (List PyData)} {g g1 : PyData → SS → Option SS} {ft ft1 : M Bool} {fe : M OV} {vs vs1 : List Nat} {ds acc : List PyData} {S S1 S2 : SS} (h : fi S = some (.ok ds, S1)) (hv : vs.all (fun i => decide (i < S1.length)) = true) (h2 : compL2 g ft fi1 g1 ft1 fe vs vs1 ds [] (wipeS S1 vs) = some (acc, S2)) :
    compE2 own fi g ft fi1 g1 ft1 fe vs vs1 S = some (.ok (newL own acc), S2) := by
  show M.bind fi _ S = _
  unfold M.bind
  rw [h]
  show (if _ then _ else _) = _
  rw [if_pos hv, h2]
  rfl
end PL

/-! PL50: x is True, x is False, of any x -/
namespace PL
open PySem PySem.Spec PyProof.Rows L2 LamX
def rIsBA : R2 := fun x y H Q => ∃ b : Bool, y = .bl b ∧ Q (.bl (decide (x = .bl b))) H
def isBoolB (b : Bool) : PyData → Bool
  | .bool a => a == b
  | _ => false
def oIsB : PyData → PyData → Option OV
  | x, .bool b => okB (isBoolB b x)
  | _, _ => none
section
variable {X : Cx} {T : List (Addr × Str)}
theorem op_isBA : OpR X (compareOp .Is) rIsBA := by
  intro pins s σ H x y v u Q I rx ry h
  obtain ⟨b, rfl, q⟩ := h
  cases (show u = Value.bool b from ry)
  by_cases e : x = .bl b
  · subst e
    cases (show v = Value.bool b from rx)
    exact wpAny_is_self rfl ⟨.bl true, H, I, rfl, by simpa using q⟩
  · have hp : plainIs v (Value.bool b) = true := by
      cases x <;> first
        | (cases rx; rfl)
        | (obtain ⟨t, rfl⟩ := rx; rfl)
    refine wpAny_is_other hp (fun z => e ?_) ⟨.bl false, H, I, rfl, by simpa [e] using q⟩
    subst z
    cases x with
    | bl a => cases (show Value.bool b = Value.bool a from rx); rfl
    | non => cases (show Value.bool b = Value.none from rx)
    | int i => obtain ⟨t, z⟩ := (show ∃ t, Value.bool b = Value.int i t from rx); cases z
    | str i => obtain ⟨t, z⟩ := (show ∃ t, Value.bool b = Value.str i t from rx); cases z
    | byt i => obtain ⟨t, z⟩ := (show ∃ t, Value.bool b = Value.bytes i t from rx); cases z
    | flt i => obtain ⟨t, z⟩ := (show ∃ t, Value.bool b = Value.float i t from rx); cases z
    | ref a => cases (show Value.bool b = Value.ref a from rx)
    | ty n => cases (show Value.bool b = Value.type n from rx)
theorem Vw.isB {K : PySem.W.Frag} {Z H : Hp} {v : V} {x : PyData} {b : Bool} (h : Vw K Z H v x) : decide (v = .bl b) = isBoolB b x := by
  rcases h with h | ⟨a, vs, ds, rfl, rfl, _⟩
  · cases h with
    | bl a => by_cases e : a = b <;> simp [isBoolB, e]
    | _ => rfl
  · rfl
theorem opg_isB : OpG X T rIsBA oIsB := by
  intro Z v w x y o σ H Q sz fx fy e fin
  unfold oIsB at e
  split at e
  · rename_i b
    cases e
    refine ⟨b, fy.bl, ?_⟩
    rw [fx.isB]
    exact fin.val (.bl _)
  · cases e
end
end PL

/-! PL51: repr of plain data -/
namespace PL
open PySem PySem.Spec PyProof.Rows L2 LamX
def cpOk (l : List Nat) : Prop := ∀ n ∈ l, n < 1114112
theorem cpOk_of {z : Str} (h : PyData.strOk z = true) : cpOk z.cps.toList := fun n hn => by
  unfold PyData.strOk at h
  rw [Array.all_eq_true_iff_forall_mem] at h
  exact of_decide_eq_true (h n (Array.mem_toList_iff.mp hn))
theorem of_cpOk {z : Str} (h : cpOk z.cps.toList) : PyData.strOk z = true := by
  unfold PyData.strOk
  rw [Array.all_eq_true_iff_forall_mem]
  exact fun n hn => decide_eq_true (h n (Array.mem_toList_iff.mpr hn))
theorem cpOk_app {a b : List Nat} (h1 : cpOk a) (h2 : cpOk b) : cpOk (a ++ b) := fun n hn => (List.mem_append.mp hn).elim (h1 n) (h2 n)
theorem strOk_apP {a b : Str} (h1 : PyData.strOk a = true) (h2 : PyData.strOk b = true) : PyData.strOk (a ++ b) = true := by
  unfold PyData.strOk at h1 h2 ⊢
  show Array.all (a.cps ++ b.cps) _ = true
  rw [Array.all_append, h1, h2]; rfl
theorem chr_lt (ch : Char) : ch.toNat < 1114112 := by
  have h := ch.valid
  show ch.val.toNat < 1114112
  rcases h with h | ⟨_, h⟩
  · have : ch.val.toNat < 0xd800 := h
    omega
  · exact h
theorem strOk_ofS (s : String) : PyData.strOk (s : Str) = true := by
  rw [Str.ofString_eq_toList]
  refine of_cpOk fun n hn => ?_
  have hn : n ∈ s.toList.map Char.toNat := by simpa using hn
  obtain ⟨ch, _, rfl⟩ := List.mem_map.mp hn
  exact chr_lt ch
theorem cpOk_hex (w c : Nat) : cpOk (List.replicate (w - ((Nat.toDigits 16 c).map Char.toNat).length) 48 ++ (Nat.toDigits 16 c).map Char.toNat) := by
  refine cpOk_app (fun n hn => ?_) (fun n hn => ?_)
  · rw [(List.mem_replicate.mp hn).2]; decide
  · obtain ⟨ch, _, rfl⟩ := List.mem_map.mp hn
    exact chr_lt ch
theorem cpOk_rc {q c : Nat} (hc : c < 1114112) : cpOk (Builtin.Str.reprChar q c) := by
  have two : ∀ {a b : Nat}, a < 1114112 → b < 1114112 → cpOk [a, b] := fun h1 h2 n hn => by
    simp only [List.mem_cons, List.not_mem_nil, or_false] at hn
    rcases hn with rfl | rfl <;> assumption
  unfold Builtin.Str.reprChar
  dsimp only
  split
  · exact two (by decide) hc
  · split
    · exact two (by decide) (by decide)
    · split
      · exact two (by decide) (by decide)
      · split
        · exact two (by decide) (by decide)
        · split
          · intro n hn
            rw [List.mem_singleton.mp hn]; exact hc
          · split
            · exact cpOk_app (two (by decide) (by decide)) (cpOk_hex _ _)
            · split
              · exact cpOk_app (two (by decide) (by decide)) (cpOk_hex _ _)
              · exact cpOk_app (two (by decide) (by decide)) (cpOk_hex _ _)
theorem cpOk_fold {q : Nat} : ∀ {l : List Nat} {acc : Array Nat}, cpOk l → cpOk acc.toList → cpOk (l.foldl (fun out c => out ++ (Builtin.Str.reprChar q c).toArray) acc).toList
  | [], acc, _, h => h
  | c :: r, acc, hl, h => by
    rw [List.foldl_cons]
    refine cpOk_fold (fun n hn => hl n (List.mem_cons_of_mem _ hn)) ?_
    rw [Array.toList_append]
    exact cpOk_app h (cpOk_rc (hl c List.mem_cons_self))
theorem strOk_rt {z : Str} (h : PyData.strOk z = true) : PyData.strOk (reprText z) = true := by
  have hq : reprQuote z < 1114112 := by
    unfold reprQuote
    split <;> decide
  have h1 : cpOk [reprQuote z] := fun n hn => by rw [List.mem_singleton.mp hn]; exact hq
  refine of_cpOk ?_
  unfold reprText
  rw [Array.toList_push, ← Array.foldl_toList]
  exact cpOk_app (cpOk_fold (cpOk_of h) h1) h1
theorem strOk_jn {sep : Str} (h : PyData.strOk sep = true) : ∀ {ts : List Str}, (∀ t ∈ ts, PyData.strOk t = true) → PyData.strOk (Str.join sep ts) = true
  | [], _ => by show PyData.strOk Str.empty = true; decide +kernel
  | [x], g => g x List.mem_cons_self
  | x :: y :: r, g => by
    show PyData.strOk (x ++ sep ++ Str.join sep (y :: r)) = true
    exact strOk_apP (strOk_apP (g x List.mem_cons_self) h) (strOk_jn h fun t ht => g t (List.mem_cons_of_mem _ ht))
theorem strOk_tt {ts : List Str} (g : ∀ t ∈ ts, PyData.strOk t = true) : PyData.strOk (tupleText ts) = true := by
  unfold tupleText
  refine strOk_apP (strOk_apP (strOk_ofS _) (strOk_jn (strOk_ofS _) g)) ?_
  split <;> exact strOk_ofS _
theorem strOk_tf : ∀ {ts : List Str} {k : Nat} {acc : Str}, PyData.strOk acc = true → (∀ t ∈ ts, PyData.strOk t = true) → PyData.strOk (textFrom k acc ts) = true
  | [], _, _, h, _ => h
  | t :: ts, k, acc, h, g => by
    show PyData.strOk (textFrom (k + 1) _ ts) = true
    refine strOk_tf ?_ fun u hu => g u (List.mem_cons_of_mem _ hu)
    refine strOk_apP (strOk_apP h ?_) (g t List.mem_cons_self)
    exact strOk_ofS _
theorem strOk_lt {ts : List Str} (g : ∀ t ∈ ts, PyData.strOk t = true) : PyData.strOk (listText ts) = true := by
  unfold listText
  exact strOk_apP (strOk_tf (strOk_ofS _) g) (strOk_ofS _)
mutual
theorem strOk_shown : ∀ d : PyData, PyData.canLay0 d = true → PyData.strOk (PyData.shown d) = true
  | .none, _ => by
    simp only [PyData.shown]
    exact strOk_ofS _
  | .bool b, _ => by
    simp only [PyData.shown]
    cases b <;> exact strOk_ofS _
  | .int i, _ => by
    simp only [PyData.shown]
    exact strOk_ofS _
  | .str z, h => by
    simp only [PyData.shown]
    exact strOk_rt (by simpa [PyData.canLay0] using h)
  | .list xs, h => by
    simp only [PyData.shown]
    exact strOk_lt (strOk_shownAll xs (by simpa [PyData.canLay0] using h))
  | .tuple xs, h => by
    simp only [PyData.shown]
    exact strOk_tt (strOk_shownAll xs (by simpa [PyData.canLay0] using h))
  | .dict _, h => by simp [PyData.canLay0] at h
theorem strOk_shownAll : ∀ xs : List PyData, PyData.canLayAll0 xs = true → ∀ t ∈ PyData.shownAll xs, PyData.strOk t = true
  | [], _, t, ht => by simp [PyData.shownAll] at ht
  | x :: xs, h, t, ht => by
    have h' : PyData.canLay0 x = true ∧ PyData.canLayAll0 xs = true := by simpa [PyData.canLayAll0] using h
    simp only [PyData.shownAll] at ht
    rcases List.mem_cons.mp ht with rfl | ht
    · exact strOk_shown x h'.1
    · exact strOk_shownAll xs h'.2 t ht
end
mutual
theorem flat_lay : ∀ d : PyData, PyData.canLay0 d = true → flat d = true
  | .none, _ => rfl
  | .bool _, _ => rfl
  | .int _, _ => rfl
  | .str _, _ => rfl
  | .list xs, h => by
    show flatAll xs = true
    exact flatAll_lay xs (by simpa [PyData.canLay0] using h)
  | .tuple xs, h => by
    show flatAll xs = true
    exact flatAll_lay xs (by simpa [PyData.canLay0] using h)
  | .dict _, h => by simp [PyData.canLay0] at h
theorem flatAll_lay : ∀ xs : List PyData, PyData.canLayAll0 xs = true → flatAll xs = true
  | [], _ => rfl
  | x :: xs, h => by
    have h' : PyData.canLay0 x = true ∧ PyData.canLayAll0 xs = true := by simpa [PyData.canLayAll0] using h
    show (flat x && flatAll xs) = true
    rw [flat_lay x h'.1, flatAll_lay xs h'.2]; rfl
end
/-- repr of plain data is a text -/
theorem oRepr_ok {n : Nat} {d : PyData} (h : Shp n d) (hn : n ≤ 60) (hw : PyData.weight d ≤ 1048576) (hi : PyData.intsShort 13 d = true) (hs : PyData.showable d = true) : oRepr [d] = some (.d (.str (PyData.shown d))) ∧ PyData.strOk (PyData.shown d) = true := by
  have hd : PyData.depth d ≤ 60 := Nat.le_trans h.2 hn
  have hl : PyData.layable0 d = true := by
    unfold PyData.layable0
    rw [h.1, decide_eq_true (show PyData.depth d ≤ 64 by omega), decide_eq_true (show PyData.weight d ≤ 2 ^ 20 by omega)]; rfl
  have h1 := PyData.shown_fits_of_layable0 (B := 13) (by decide) (by decide) hl hi
  refine ⟨?_, strOk_shown d h.1⟩
  show (if (flat d && d.showable && !d.hasDict && decide (d.shown.length ≤ sizeLine) && decide (d.depth ≤ 60)) = true then some (OV.d (PyData.str d.shown)) else none) = _
  rw [flat_lay d h.1, hs, PyData.hasDict_of_canLay d h.1, decide_eq_true h1, decide_eq_true hd]
  rfl
theorem oNe_same {z : Str} (h : PyData.strOk z = true) : oNe (.str z) (.str z) = some (.d (.bool false)) := by
  rw [oNe_s h h]
  simp
end PL

/-! the defs as pure functions (printed by gen2.py) -/
namespace K17
open PySem PySem.Spec PyProof.Rows L2 LamX PL

def top (i : Nat) : Stmt := PySem.Challenge.pw_onebase_k17_whole_trees_there_and_back.main.body.getD i (.Pass ⟨0, 0, 0, 0⟩)
structure Ad where
  LinkError : Addr
  BadCells : Addr
  BadFile : Addr
  BadTree : Addr
  Reading : Addr
  f_is_number : Addr
  d_is_number : FuncData
  f_are_cells : Addr
  d_are_cells : FuncData
  f_is_tree : Addr
  d_is_tree : FuncData
  f_cells_in : Addr
  d_cells_in : FuncData
  f_tree_cells : Addr
  d_tree_cells : FuncData
  f_Reading___init__ : Addr
  d_Reading___init__ : FuncData
  f_Reading_is_whole : Addr
  d_Reading_is_whole : FuncData
  f_Reading_takes_digit : Addr
  d_Reading_takes_digit : FuncData
  f_Reading_takes_letter : Addr
  d_Reading_takes_letter : FuncData
  f_Reading_takes : Addr
  d_Reading_takes : FuncData
  f_tree_of : Addr
  d_tree_of : FuncData
  f_law_begun : Addr
  d_law_begun : FuncData
  f_law_mixed : Addr
  d_law_mixed : FuncData
  f_law_take : Addr
  d_law_take : FuncData
  f_law_pick : Addr
  d_law_pick : FuncData
  f_law_caught : Addr
  d_law_caught : FuncData
  f_law_is_number : Addr
  d_law_is_number : FuncData
  f_law_strange : Addr
  d_law_strange : FuncData
  f_law_changed : Addr
  d_law_changed : FuncData
  f_law_tree_cells : Addr
  d_law_tree_cells : FuncData
  f_law_is_tree : Addr
  d_law_is_tree : FuncData
  f_law_leaf : Addr
  d_law_leaf : FuncData
  f_law_tree : Addr
  d_law_tree : FuncData
  f_law : Addr
  d_law : FuncData
  i_BadFile : Addr
  di_BadFile : FuncData
  a_PLAIN : Addr
  cl_law : Addr
  pt_law : Addr
def tb_PLAIN : List (Int × PyData) := [(29, .none), (30, (.bool false)), (31, (.bool true)), (32, (.str ""))]
def s_is_number : Stmt := top 7
theorem sc_is_number : FnScope ["thing", "low", "end"] ["thing", "low", "end"] (defScope s_is_number) := ⟨rfl, rfl, rfl, by decide +kernel, rfl, by decide +kernel, by decide +kernel⟩
def s_are_cells : Stmt := top 9
theorem sc_are_cells : FnScope ["thing", "cell"] ["thing"] (defScope s_are_cells) := ⟨rfl, rfl, rfl, by decide +kernel, rfl, by decide +kernel, by decide +kernel⟩
def s_is_tree : Stmt := top 16
theorem sc_is_tree : FnScope ["thing", "deep", "part", "letter"] ["thing", "deep"] (defScope s_is_tree) := ⟨rfl, rfl, rfl, by decide +kernel, rfl, by decide +kernel, by decide +kernel⟩
def s_cells_in : Stmt := top 17
theorem sc_cells_in : FnScope ["tree", "letters", "digits", "part", "cell", "letter"] ["tree"] (defScope s_cells_in) := ⟨rfl, rfl, rfl, by decide +kernel, rfl, by decide +kernel, by decide +kernel⟩
def s_tree_cells : Stmt := top 18
theorem sc_tree_cells : FnScope ["tree"] ["tree"] (defScope s_tree_cells) := ⟨rfl, rfl, rfl, by decide +kernel, rfl, by decide +kernel, by decide +kernel⟩
def s_Reading___init__ : Stmt := inClass (top 19) 0
theorem sc_Reading___init__ : FnScope ["self"] ["self"] (defScope s_Reading___init__) := ⟨rfl, rfl, rfl, by decide +kernel, rfl, by decide +kernel, by decide +kernel⟩
def s_Reading_is_whole : Stmt := inClass (top 19) 1
theorem sc_Reading_is_whole : FnScope ["self"] ["self"] (defScope s_Reading_is_whole) := ⟨rfl, rfl, rfl, by decide +kernel, rfl, by decide +kernel, by decide +kernel⟩
def s_Reading_takes_digit : Stmt := inClass (top 19) 4
theorem sc_Reading_takes_digit : FnScope ["self", "cell", "number", "digit"] ["self", "cell"] (defScope s_Reading_takes_digit) := ⟨rfl, rfl, rfl, by decide +kernel, rfl, by decide +kernel, by decide +kernel⟩
def s_Reading_takes_letter : Stmt := inClass (top 19) 3
theorem sc_Reading_takes_letter : FnScope ["self", "cell", "letters"] ["self", "cell"] (defScope s_Reading_takes_letter) := ⟨rfl, rfl, rfl, by decide +kernel, rfl, by decide +kernel, by decide +kernel⟩
def s_Reading_takes : Stmt := inClass (top 19) 2
theorem sc_Reading_takes : FnScope ["self", "cell", "done"] ["self", "cell"] (defScope s_Reading_takes) := ⟨rfl, rfl, rfl, by decide +kernel, rfl, by decide +kernel, by decide +kernel⟩
def s_tree_of : Stmt := top 20
theorem sc_tree_of : FnScope ["cells", "reading", "at", "cell"] ["cells"] (defScope s_tree_of) := ⟨rfl, rfl, rfl, by decide +kernel, rfl, by decide +kernel, by decide +kernel⟩
def s_law_begun : Stmt := top 22
theorem sc_law_begun : FnScope ["_law_script", "_law_wide", "_law_grain"] ["_law_script"] (defScope s_law_begun) := ⟨rfl, rfl, rfl, by decide +kernel, rfl, by decide +kernel, by decide +kernel⟩
def s_law_mixed : Stmt := top 23
theorem sc_law_mixed : FnScope ["_law_draw", "_law_turn", "_law_found", "_law_prime", "_law_blend", "_law_grain"] ["_law_draw"] (defScope s_law_mixed) := ⟨rfl, rfl, rfl, by decide +kernel, rfl, by decide +kernel, by decide +kernel⟩
def s_law_take : Stmt := top 24
theorem sc_law_take : FnScope ["_law_draw", "_law_many", "_law_found"] ["_law_draw", "_law_many"] (defScope s_law_take) := ⟨rfl, rfl, rfl, by decide +kernel, rfl, by decide +kernel, by decide +kernel⟩
def s_law_pick : Stmt := top 25
theorem sc_law_pick : FnScope ["_law_draw", "_law_some"] ["_law_draw", "_law_some"] (defScope s_law_pick) := ⟨rfl, rfl, rfl, by decide +kernel, rfl, by decide +kernel, by decide +kernel⟩
def s_law_caught : Stmt := top 26
theorem sc_law_caught : FnScope ["_law_act", "_law_found", "_law_raised"] ["_law_act"] (defScope s_law_caught) := ⟨rfl, rfl, rfl, by decide +kernel, rfl, by decide +kernel, by decide +kernel⟩
def s_law_is_number : Stmt := top 27
theorem sc_law_is_number : FnScope ["_law_thing", "_law_low", "_law_end"] ["_law_thing", "_law_low", "_law_end"] (defScope s_law_is_number) := ⟨rfl, rfl, rfl, by decide +kernel, rfl, by decide +kernel, by decide +kernel⟩
def s_law_strange : Stmt := top 28
theorem sc_law_strange : FnScope ["_law_draw", "_law_some"] ["_law_draw"] (defScope s_law_strange) := ⟨rfl, rfl, rfl, by decide +kernel, rfl, by decide +kernel, by decide +kernel⟩
def s_law_changed : Stmt := top 29
theorem sc_law_changed : FnScope ["_law_draw", "_law_tree_here", "_law_at", "_law_deed"] ["_law_draw", "_law_tree_here"] (defScope s_law_changed) := ⟨rfl, rfl, rfl, by decide +kernel, rfl, by decide +kernel, by decide +kernel⟩
def s_law_tree_cells : Stmt := top 30
theorem sc_law_tree_cells : FnScope ["_law_tree_here", "_law_cells", "_law_part", "_law_letters", "_law_high", "_law_sign"] ["_law_tree_here"] (defScope s_law_tree_cells) := ⟨rfl, rfl, rfl, by decide +kernel, rfl, by decide +kernel, by decide +kernel⟩
def s_law_is_tree : Stmt := top 31
theorem sc_law_is_tree : FnScope ["_law_thing", "_law_deep", "_law_part", "_law_sign"] ["_law_thing", "_law_deep"] (defScope s_law_is_tree) := ⟨rfl, rfl, rfl, by decide +kernel, rfl, by decide +kernel, by decide +kernel⟩
def s_law_leaf : Stmt := top 32
theorem sc_law_leaf : FnScope ["_law_draw", "_law_kind", "_law_k"] ["_law_draw"] (defScope s_law_leaf) := ⟨rfl, rfl, rfl, by decide +kernel, rfl, by decide +kernel, by decide +kernel⟩
def s_law_tree : Stmt := top 33
theorem sc_law_tree : FnScope ["_law_draw", "_law_deep", "_law_k"] ["_law_draw", "_law_deep"] (defScope s_law_tree) := ⟨rfl, rfl, rfl, by decide +kernel, rfl, by decide +kernel, by decide +kernel⟩
def s_law : Stmt := top 34
theorem sc_law : FnScope ["_law_script", "_law_draw", "_law_known", "_law_turn", "_law_kind", "_law_tree_here", "_law_wrap", "_law_near", "_law_told", "_law_cells", "_law_other", "_law_raised"] ["_law_script"] (defScope s_law) := ⟨rfl, rfl, rfl, by decide +kernel, rfl, by decide +kernel, by decide +kernel⟩
def si_BadFile : Stmt := inClass (top 3) 0
theorem ss_BadFile : SupS ["self", "at"] (defScope si_BadFile) := ⟨rfl, rfl, rfl, by decide +kernel, by decide +kernel, rfl, rfl, (only_of (by decide +kernel)).1, (only_of (by decide +kernel)).2⟩
def q_law : Str := (envOfC "law" (defScope s_law) 0 0 .none).qual ++ "<lambda>"
structure Gs (P : Program) (w : World) (K : PySem.W.Frag) (mg : Str → Option Value) (base : Heap) (T : List (Addr × Str)) (c : Ad) : Prop where
  m_len : mg "len" = none
  m_abs : mg "abs" = none
  m_all : mg "all" = none
  m_min : mg "min" = none
  m_int : mg "int" = none
  m_tuple : mg "tuple" = none
  m_list : mg "list" = none
  m_repr : mg "repr" = none
  m_isinstance : mg "isinstance" = none
  m_range : mg "range" = none
  m_str : mg "str" = none
  m_bool : mg "bool" = none
  m_enumerate : mg "enumerate" = none
  g_LinkError : mg "LinkError" = some (.ref c.LinkError)
  x_LinkError : PySem.W.excIn K c.LinkError [.type "ValueError", .type "Exception", .type "BaseException", .type "object"] "ValueError.__new__" = true
  k_LinkError : PySem.W.keepIn K (.ref c.LinkError) = true
  s_LinkError : PySem.W.subIn K (.ref c.LinkError) (.type "BaseException") = some true
  t_LinkError : PySem.W.typeIn K (.ref c.LinkError) = some (.type "type")
  g_BadCells : mg "BadCells" = some (.ref c.BadCells)
  x_BadCells : PySem.W.excIn K c.BadCells [.type "ValueError", .type "Exception", .type "BaseException", .type "object"] "ValueError.__new__" = true
  k_BadCells : PySem.W.keepIn K (.ref c.BadCells) = true
  s_BadCells : PySem.W.subIn K (.ref c.BadCells) (.type "BaseException") = some true
  t_BadCells : PySem.W.typeIn K (.ref c.BadCells) = some (.type "type")
  g_BadFile : mg "BadFile" = some (.ref c.BadFile)
  k_BadFile : PySem.W.keepIn K (.ref c.BadFile) = true
  s_BadFile : PySem.W.subIn K (.ref c.BadFile) (.type "BaseException") = some true
  t_BadFile : PySem.W.typeIn K (.ref c.BadFile) = some (.type "type")
  g_BadTree : mg "BadTree" = some (.ref c.BadTree)
  x_BadTree : PySem.W.excIn K c.BadTree [.type "ValueError", .type "Exception", .type "BaseException", .type "object"] "ValueError.__new__" = true
  k_BadTree : PySem.W.keepIn K (.ref c.BadTree) = true
  s_BadTree : PySem.W.subIn K (.ref c.BadTree) (.type "BaseException") = some true
  t_BadTree : PySem.W.typeIn K (.ref c.BadTree) = some (.type "type")
  excs : ∀ D ∈ [c.BadCells, c.BadFile, c.BadTree], ExcC K D
  xi_BadFile : XI P w K mg base c.BadFile c.i_BadFile c.di_BadFile ["self", "at"] [("at", 1)]
  g_Reading : mg "Reading" = some (.ref c.Reading)
  cls_Reading : Cls K c.Reading
  mk_Reading : Mk K c.Reading c.f_Reading___init__
  na_Reading_digits : NoAttr K c.Reading "digits"
  na_Reading_letters : NoAttr K c.Reading "letters"
  na_Reading_stack : NoAttr K c.Reading "stack"
  n_LETTERS : CnG K mg "LETTERS" (.str "abcdefghijklmnopqrstuvwxyz")
  n_MOST_DEEP : CnG K mg "MOST_DEEP" (.int 12)
  n_MOST_LETTERS : CnG K mg "MOST_LETTERS" (.int 8)
  n_MOST_DIGITS : CnG K mg "MOST_DIGITS" (.int 3)
  n_MOST_NUMBER : CnG K mg "MOST_NUMBER" (.int 32767)
  g_PLAIN : mg "PLAIN" = some (.ref c.a_PLAIN)
  i_PLAIN : CInt K c.a_PLAIN tb_PLAIN
  F_is_number : Fun K "is_number" "is_number" s_is_number c.f_is_number c.d_is_number
  g_is_number : mg "is_number" = some (.ref c.f_is_number)
  F_are_cells : Fun K "are_cells" "are_cells" s_are_cells c.f_are_cells c.d_are_cells
  g_are_cells : mg "are_cells" = some (.ref c.f_are_cells)
  F_is_tree : Fun K "is_tree" "is_tree" s_is_tree c.f_is_tree c.d_is_tree
  g_is_tree : mg "is_tree" = some (.ref c.f_is_tree)
  F_cells_in : Fun K "cells_in" "cells_in" s_cells_in c.f_cells_in c.d_cells_in
  g_cells_in : mg "cells_in" = some (.ref c.f_cells_in)
  F_tree_cells : Fun K "tree_cells" "tree_cells" s_tree_cells c.f_tree_cells c.d_tree_cells
  g_tree_cells : mg "tree_cells" = some (.ref c.f_tree_cells)
  F_Reading___init__ : Fun K "__init__" "Reading.__init__" s_Reading___init__ c.f_Reading___init__ c.d_Reading___init__
  me_Reading___init__ : Meth K c.Reading "__init__" c.f_Reading___init__
  F_Reading_is_whole : Fun K "is_whole" "Reading.is_whole" s_Reading_is_whole c.f_Reading_is_whole c.d_Reading_is_whole
  me_Reading_is_whole : Meth K c.Reading "is_whole" c.f_Reading_is_whole
  F_Reading_takes_digit : Fun K "takes_digit" "Reading.takes_digit" s_Reading_takes_digit c.f_Reading_takes_digit c.d_Reading_takes_digit
  me_Reading_takes_digit : Meth K c.Reading "takes_digit" c.f_Reading_takes_digit
  F_Reading_takes_letter : Fun K "takes_letter" "Reading.takes_letter" s_Reading_takes_letter c.f_Reading_takes_letter c.d_Reading_takes_letter
  me_Reading_takes_letter : Meth K c.Reading "takes_letter" c.f_Reading_takes_letter
  F_Reading_takes : Fun K "takes" "Reading.takes" s_Reading_takes c.f_Reading_takes c.d_Reading_takes
  me_Reading_takes : Meth K c.Reading "takes" c.f_Reading_takes
  F_tree_of : Fun K "tree_of" "tree_of" s_tree_of c.f_tree_of c.d_tree_of
  g_tree_of : mg "tree_of" = some (.ref c.f_tree_of)
  F_law_begun : Fun K "_law_begun" "_law_begun" s_law_begun c.f_law_begun c.d_law_begun
  g_law_begun : mg "_law_begun" = some (.ref c.f_law_begun)
  F_law_mixed : Fun K "_law_mixed" "_law_mixed" s_law_mixed c.f_law_mixed c.d_law_mixed
  g_law_mixed : mg "_law_mixed" = some (.ref c.f_law_mixed)
  F_law_take : Fun K "_law_take" "_law_take" s_law_take c.f_law_take c.d_law_take
  g_law_take : mg "_law_take" = some (.ref c.f_law_take)
  F_law_pick : Fun K "_law_pick" "_law_pick" s_law_pick c.f_law_pick c.d_law_pick
  g_law_pick : mg "_law_pick" = some (.ref c.f_law_pick)
  F_law_caught : Fun K "_law_caught" "_law_caught" s_law_caught c.f_law_caught c.d_law_caught
  g_law_caught : mg "_law_caught" = some (.ref c.f_law_caught)
  F_law_is_number : Fun K "_law_is_number" "_law_is_number" s_law_is_number c.f_law_is_number c.d_law_is_number
  g_law_is_number : mg "_law_is_number" = some (.ref c.f_law_is_number)
  F_law_strange : Fun K "_law_strange" "_law_strange" s_law_strange c.f_law_strange c.d_law_strange
  g_law_strange : mg "_law_strange" = some (.ref c.f_law_strange)
  F_law_changed : Fun K "_law_changed" "_law_changed" s_law_changed c.f_law_changed c.d_law_changed
  g_law_changed : mg "_law_changed" = some (.ref c.f_law_changed)
  F_law_tree_cells : Fun K "_law_tree_cells" "_law_tree_cells" s_law_tree_cells c.f_law_tree_cells c.d_law_tree_cells
  g_law_tree_cells : mg "_law_tree_cells" = some (.ref c.f_law_tree_cells)
  F_law_is_tree : Fun K "_law_is_tree" "_law_is_tree" s_law_is_tree c.f_law_is_tree c.d_law_is_tree
  g_law_is_tree : mg "_law_is_tree" = some (.ref c.f_law_is_tree)
  F_law_leaf : Fun K "_law_leaf" "_law_leaf" s_law_leaf c.f_law_leaf c.d_law_leaf
  g_law_leaf : mg "_law_leaf" = some (.ref c.f_law_leaf)
  F_law_tree : Fun K "_law_tree" "_law_tree" s_law_tree c.f_law_tree c.d_law_tree
  g_law_tree : mg "_law_tree" = some (.ref c.f_law_tree)
  F_law : FunC K "law" "law" s_law c.f_law c.d_law c.cl_law
  g_law : mg "law" = some (.ref c.f_law)
  tb_law : TabB base mg c.cl_law c.pt_law
  hm_law : (c.pt_law, q_law) ∈ T
  hu_law : ∀ p ∈ T, p.1 = c.pt_law → p.2 = q_law
section
variable {P : Program} {w : World} {K : PySem.W.Frag} {mg : Str → Option Value} {base : Heap} {c : Ad} {T : List (Addr × Str)}
theorem def_none {k : Nat} {f : Addr} {fd : FuncData} {ps : List Str} : DefOk P w K T mg base k f fd ps (fun _ => none) := ⟨fun vs H Q E h => h.1, fun A outer s H args us vs Q E hr e0 hb r h => by
  obtain ⟨_, Z, R, os, r, os', rel, e, q⟩ := h
  cases e⟩
theorem Gs.r_LinkError (G : Gs P w K mg base T c) {X : Cx} (h : X.K = K := by rfl) : Raises X (.ref c.LinkError) := by
  subst h
  exact raises_own G.s_LinkError G.t_LinkError
theorem Gs.r_BadCells (G : Gs P w K mg base T c) {X : Cx} (h : X.K = K := by rfl) : Raises X (.ref c.BadCells) := by
  subst h
  exact raises_own G.s_BadCells G.t_BadCells
theorem Gs.r_BadFile (G : Gs P w K mg base T c) {X : Cx} (h : X.K = K := by rfl) : Raises X (.ref c.BadFile) := by
  subst h
  exact raises_own G.s_BadFile G.t_BadFile
theorem Gs.r_BadTree (G : Gs P w K mg base T c) {X : Cx} (h : X.K = K := by rfl) : Raises X (.ref c.BadTree) := by
  subst h
  exact raises_own G.s_BadTree G.t_BadTree
theorem Gs.xa_at (G : Gs P w K mg base T c) : ∀ C ∈ [c.BadFile], XfC K C ∧ PySem.W.findIn K (.ref C) "at" = some none := by
  intro C hC
  simp only [List.mem_cons, List.not_mem_nil, or_false] at hC
  rcases hC with rfl
  · have h := G.excs c.BadFile (by simp)
    exact ⟨⟨h.hg, h.hk, h.hs, h.hd⟩, G.xi_BadFile.no ("at", 1) (by simp)⟩
theorem Gs.k_is_number (G : Gs P w K mg base T c) : PySem.W.keepIn K (.ref c.f_is_number) = true := G.F_is_number.kp
theorem Gs.b_is_number (G : Gs P w K mg base T c) : Binds K c.d_is_number ["thing", "low", "end"] [] := G.F_is_number.binds fun _ _ _ _ _ _ us hl => match us, hl with | [_, _, _], _ => rfl
theorem Gs.k_are_cells (G : Gs P w K mg base T c) : PySem.W.keepIn K (.ref c.f_are_cells) = true := G.F_are_cells.kp
theorem Gs.b_are_cells (G : Gs P w K mg base T c) : Binds K c.d_are_cells ["thing"] [] := G.F_are_cells.binds fun _ _ _ _ _ _ us hl => match us, hl with | [_], _ => rfl
theorem Gs.k_is_tree (G : Gs P w K mg base T c) : PySem.W.keepIn K (.ref c.f_is_tree) = true := G.F_is_tree.kp
theorem Gs.b_is_tree (G : Gs P w K mg base T c) : Binds K c.d_is_tree ["thing", "deep"] [] := G.F_is_tree.binds fun _ _ _ _ _ _ us hl => match us, hl with | [_, _], _ => rfl
theorem Gs.k_cells_in (G : Gs P w K mg base T c) : PySem.W.keepIn K (.ref c.f_cells_in) = true := G.F_cells_in.kp
theorem Gs.b_cells_in (G : Gs P w K mg base T c) : Binds K c.d_cells_in ["tree"] [] := G.F_cells_in.binds fun _ _ _ _ _ _ us hl => match us, hl with | [_], _ => rfl
theorem Gs.k_tree_cells (G : Gs P w K mg base T c) : PySem.W.keepIn K (.ref c.f_tree_cells) = true := G.F_tree_cells.kp
theorem Gs.b_tree_cells (G : Gs P w K mg base T c) : Binds K c.d_tree_cells ["tree"] [] := G.F_tree_cells.binds fun _ _ _ _ _ _ us hl => match us, hl with | [_], _ => rfl
theorem Gs.k_Reading___init__ (G : Gs P w K mg base T c) : PySem.W.keepIn K (.ref c.f_Reading___init__) = true := G.F_Reading___init__.kp
theorem Gs.b_Reading___init__ (G : Gs P w K mg base T c) : Binds K c.d_Reading___init__ ["self"] [] := G.F_Reading___init__.binds fun _ _ _ _ _ _ us hl => match us, hl with | [_], _ => rfl
theorem Gs.k_Reading_is_whole (G : Gs P w K mg base T c) : PySem.W.keepIn K (.ref c.f_Reading_is_whole) = true := G.F_Reading_is_whole.kp
theorem Gs.b_Reading_is_whole (G : Gs P w K mg base T c) : Binds K c.d_Reading_is_whole ["self"] [] := G.F_Reading_is_whole.binds fun _ _ _ _ _ _ us hl => match us, hl with | [_], _ => rfl
theorem Gs.k_Reading_takes_digit (G : Gs P w K mg base T c) : PySem.W.keepIn K (.ref c.f_Reading_takes_digit) = true := G.F_Reading_takes_digit.kp
theorem Gs.b_Reading_takes_digit (G : Gs P w K mg base T c) : Binds K c.d_Reading_takes_digit ["self", "cell"] [] := G.F_Reading_takes_digit.binds fun _ _ _ _ _ _ us hl => match us, hl with | [_, _], _ => rfl
theorem Gs.k_Reading_takes_letter (G : Gs P w K mg base T c) : PySem.W.keepIn K (.ref c.f_Reading_takes_letter) = true := G.F_Reading_takes_letter.kp
theorem Gs.b_Reading_takes_letter (G : Gs P w K mg base T c) : Binds K c.d_Reading_takes_letter ["self", "cell"] [] := G.F_Reading_takes_letter.binds fun _ _ _ _ _ _ us hl => match us, hl with | [_, _], _ => rfl
theorem Gs.k_Reading_takes (G : Gs P w K mg base T c) : PySem.W.keepIn K (.ref c.f_Reading_takes) = true := G.F_Reading_takes.kp
theorem Gs.b_Reading_takes (G : Gs P w K mg base T c) : Binds K c.d_Reading_takes ["self", "cell"] [] := G.F_Reading_takes.binds fun _ _ _ _ _ _ us hl => match us, hl with | [_, _], _ => rfl
theorem Gs.k_tree_of (G : Gs P w K mg base T c) : PySem.W.keepIn K (.ref c.f_tree_of) = true := G.F_tree_of.kp
theorem Gs.b_tree_of (G : Gs P w K mg base T c) : Binds K c.d_tree_of ["cells"] [] := G.F_tree_of.binds fun _ _ _ _ _ _ us hl => match us, hl with | [_], _ => rfl
theorem Gs.k_law_begun (G : Gs P w K mg base T c) : PySem.W.keepIn K (.ref c.f_law_begun) = true := G.F_law_begun.kp
theorem Gs.b_law_begun (G : Gs P w K mg base T c) : Binds K c.d_law_begun ["_law_script"] [] := G.F_law_begun.binds fun _ _ _ _ _ _ us hl => match us, hl with | [_], _ => rfl
theorem Gs.k_law_mixed (G : Gs P w K mg base T c) : PySem.W.keepIn K (.ref c.f_law_mixed) = true := G.F_law_mixed.kp
theorem Gs.b_law_mixed (G : Gs P w K mg base T c) : Binds K c.d_law_mixed ["_law_draw"] [] := G.F_law_mixed.binds fun _ _ _ _ _ _ us hl => match us, hl with | [_], _ => rfl
theorem Gs.k_law_take (G : Gs P w K mg base T c) : PySem.W.keepIn K (.ref c.f_law_take) = true := G.F_law_take.kp
theorem Gs.b_law_take (G : Gs P w K mg base T c) : Binds K c.d_law_take ["_law_draw", "_law_many"] [] := G.F_law_take.binds fun _ _ _ _ _ _ us hl => match us, hl with | [_, _], _ => rfl
theorem Gs.k_law_pick (G : Gs P w K mg base T c) : PySem.W.keepIn K (.ref c.f_law_pick) = true := G.F_law_pick.kp
theorem Gs.b_law_pick (G : Gs P w K mg base T c) : Binds K c.d_law_pick ["_law_draw", "_law_some"] [] := G.F_law_pick.binds fun _ _ _ _ _ _ us hl => match us, hl with | [_, _], _ => rfl
theorem Gs.k_law_caught (G : Gs P w K mg base T c) : PySem.W.keepIn K (.ref c.f_law_caught) = true := G.F_law_caught.kp
theorem Gs.b_law_caught (G : Gs P w K mg base T c) : Binds K c.d_law_caught ["_law_act"] [] := G.F_law_caught.binds fun _ _ _ _ _ _ us hl => match us, hl with | [_], _ => rfl
theorem Gs.k_law_is_number (G : Gs P w K mg base T c) : PySem.W.keepIn K (.ref c.f_law_is_number) = true := G.F_law_is_number.kp
theorem Gs.b_law_is_number (G : Gs P w K mg base T c) : Binds K c.d_law_is_number ["_law_thing", "_law_low", "_law_end"] [] := G.F_law_is_number.binds fun _ _ _ _ _ _ us hl => match us, hl with | [_, _, _], _ => rfl
theorem Gs.k_law_strange (G : Gs P w K mg base T c) : PySem.W.keepIn K (.ref c.f_law_strange) = true := G.F_law_strange.kp
theorem Gs.b_law_strange (G : Gs P w K mg base T c) : Binds K c.d_law_strange ["_law_draw"] [] := G.F_law_strange.binds fun _ _ _ _ _ _ us hl => match us, hl with | [_], _ => rfl
theorem Gs.k_law_changed (G : Gs P w K mg base T c) : PySem.W.keepIn K (.ref c.f_law_changed) = true := G.F_law_changed.kp
theorem Gs.b_law_changed (G : Gs P w K mg base T c) : Binds K c.d_law_changed ["_law_draw", "_law_tree_here"] [] := G.F_law_changed.binds fun _ _ _ _ _ _ us hl => match us, hl with | [_, _], _ => rfl
theorem Gs.k_law_tree_cells (G : Gs P w K mg base T c) : PySem.W.keepIn K (.ref c.f_law_tree_cells) = true := G.F_law_tree_cells.kp
theorem Gs.b_law_tree_cells (G : Gs P w K mg base T c) : Binds K c.d_law_tree_cells ["_law_tree_here"] [] := G.F_law_tree_cells.binds fun _ _ _ _ _ _ us hl => match us, hl with | [_], _ => rfl
theorem Gs.k_law_is_tree (G : Gs P w K mg base T c) : PySem.W.keepIn K (.ref c.f_law_is_tree) = true := G.F_law_is_tree.kp
theorem Gs.b_law_is_tree (G : Gs P w K mg base T c) : Binds K c.d_law_is_tree ["_law_thing", "_law_deep"] [] := G.F_law_is_tree.binds fun _ _ _ _ _ _ us hl => match us, hl with | [_, _], _ => rfl
theorem Gs.k_law_leaf (G : Gs P w K mg base T c) : PySem.W.keepIn K (.ref c.f_law_leaf) = true := G.F_law_leaf.kp
theorem Gs.b_law_leaf (G : Gs P w K mg base T c) : Binds K c.d_law_leaf ["_law_draw"] [] := G.F_law_leaf.binds fun _ _ _ _ _ _ us hl => match us, hl with | [_], _ => rfl
theorem Gs.k_law_tree (G : Gs P w K mg base T c) : PySem.W.keepIn K (.ref c.f_law_tree) = true := G.F_law_tree.kp
theorem Gs.b_law_tree (G : Gs P w K mg base T c) : Binds K c.d_law_tree ["_law_draw", "_law_deep"] [] := G.F_law_tree.binds fun _ _ _ _ _ _ us hl => match us, hl with | [_, _], _ => rfl
theorem Gs.k_law (G : Gs P w K mg base T c) : PySem.W.keepIn K (.ref c.f_law) = true := G.F_law.kp
theorem Gs.b_law (G : Gs P w K mg base T c) : Binds K c.d_law ["_law_script"] [] := G.F_law.fn.binds fun _ _ _ _ _ _ us hl => match us, hl with | [_], _ => rfl
noncomputable def bd_is_number (K : PySem.W.Frag) (c : Ad) : SM :=
    (retS (andV (isiV "int" (rdV 0)) (andV (notV (toV (isiV "bool" (rdV 0)))) (chain (rdV 1) (rdV 0) (rdV 2) oLe oLt))))
noncomputable def g_is_number (K : PySem.W.Frag) (c : Ad) : DF := runF 3 3 [0, 1, 2] (bd_is_number K c)
theorem ok_is_number (G : Gs P w K mg base T c) : DefOk P w K T mg base 1 c.f_is_number c.d_is_number ["thing", "low", "end"] (g_is_number K c) := def_ok (N := ["thing", "low", "end"]) G.F_is_number sc_is_number (by decide) fun cdv A outer s H E hr =>
    (svs_one (sv_ret (ev_and (ev_isi (k := 0) rfl G.m_isinstance (evv_var (i := 0) rfl (by first | exact Or.inl rfl | exact Or.inr (Or.inl rfl) | exact Or.inr (Or.inr rfl))) (pe_bltn (v := .ty "int") (u := .type "int") rfl G.m_int (by decide +kernel) rfl)) (ev_and (ev_not (evv_of (ev_isi (k := 0) rfl G.m_isinstance (evv_var (i := 0) rfl (by first | exact Or.inl rfl | exact Or.inr (Or.inl rfl) | exact Or.inr (Or.inr rfl))) (pe_bltn (v := .ty "bool") (u := .type "bool") rfl G.m_bool (by decide +kernel) rfl)))) (ev_one (ev_chain op_le opg_le op_lt opg_lt (evv_var (i := 1) rfl (by first | exact Or.inl rfl | exact Or.inr (Or.inl rfl) | exact Or.inr (Or.inr rfl))) (evv_var (i := 0) rfl (by first | exact Or.inl rfl | exact Or.inr (Or.inl rfl) | exact Or.inr (Or.inr rfl))) (evv_var (i := 2) rfl (by first | exact Or.inl rfl | exact Or.inr (Or.inl rfl) | exact Or.inr (Or.inr rfl)))))))))
noncomputable def ce_are_cells_1 (K : PySem.W.Frag) (c : Ad) : M OV :=
    (callF 3 (g_is_number K c) (argsCons (rdV 1) (argsCons (toV (cst (.int 0))) (argsCons (toV (cst (.int 64))) argsNil))))
noncomputable def bd_are_cells (K : PySem.W.Frag) (c : Ad) : SM :=
    (retS (andV (isiT ["tuple", "list"] (rdV 0)) (callN (argsCons (toV (compE false (itE (rdZ 0)) (gN 1) tYesM (ce_are_cells_1 K c) [1])) argsNil) oAll)))
noncomputable def g_are_cells (K : PySem.W.Frag) (c : Ad) : DF := runF 1 2 [0] (bd_are_cells K c)
theorem ok_are_cells (G : Gs P w K mg base T c) : DefOk P w K T mg base 2 c.f_are_cells c.d_are_cells ["thing"] (g_are_cells K c) := def_ok (N := ["thing", "cell"]) G.F_are_cells sc_are_cells (by decide) fun cdv A outer s H E hr =>
    (svs_one (sv_ret (ev_and (ev_isiT rfl G.m_isinstance (evv_var (i := 0) rfl (by first | exact Or.inl rfl | exact Or.inr (Or.inl rfl) | exact Or.inr (Or.inr rfl))) (pe_bltn (v := .ty "tuple") (u := .type "tuple") rfl G.m_tuple (by decide +kernel) rfl) (pe_bltn (v := .ty "list") (u := .type "list") rfl G.m_list (by decide +kernel) rfl)) (ev_one (ev_callB (cr_all rfl) cg_all rfl G.m_all PyProof.Rows.boot_all (eva_cons (evv_of (ev_comp (own := false) (ownN := [("cell", 1)]) rfl sc_are_cells.nd (evi_seq (ev_var (i := 0) rfl (by first | exact Or.inl rfl | exact Or.inr (Or.inl rfl) | exact Or.inr (Or.inr rfl)))) (blkOk_by rfl) (fun _ _ _ _ _ => (gv_name (i := 1) sc_are_cells.nd rfl (by first | exact Or.inl rfl | exact Or.inr rfl) (by first | exact Or.inl rfl | exact Or.inr rfl))) (fun _ _ _ _ _ => evts_nil) (fun _ _ _ _ _ => (ev_call (ps := ["thing", "low", "end"]) ((ok_is_number G).mono (by decide)) hr rfl G.g_is_number G.k_is_number G.b_is_number (eva_cons (evv_var (i := 1) rfl (by first | exact Or.inl rfl | exact Or.inr (Or.inl rfl) | exact Or.inr (Or.inr rfl))) (eva_cons (evv_of ev_int) (eva_cons (evv_of ev_int) eva_nil))))))) eva_nil))))))
noncomputable def ce_is_tree_1 (K : PySem.W.Frag) (c : Ad) (gs : DF) : M OV :=
    (callF 2 gs (argsCons (rdV 2) (argsCons (toV (bin (rdV 1) (toV (cst (.int 1))) oSub)) argsNil)))
noncomputable def ce_is_tree_2 (K : PySem.W.Frag) (c : Ad) (gs : DF) : M OV :=
    (bin (rdV 3) (toV (cst (.str "abcdefghijklmnopqrstuvwxyz"))) oInS)
noncomputable def bd_is_tree (K : PySem.W.Frag) (c : Ad) (gs : DF) : SM :=
    (seqS (ifS (orT (asB (bin (rdV 0) (toV (cst .none)) oIsN)) (tstV (toV (isiV "bool" (rdV 0))))) (retS (cst (.bool true))) skipS)
    (seqS (ifS (tstV (toV (isiV "tuple" (rdV 0)))) (retS (andV (bin (rdV 1) (toV (cst (.int 0))) oGt) (callN (argsCons (toV (compE false (itE (rdZ 0)) (gN 2) tYesM (ce_is_tree_1 K c gs) [2])) argsNil) oAll))) skipS)
    (seqS (ifS (tstV (toV (isiV "str" (rdV 0)))) (retS (andV (bin (toV (callN (argsCons (rdV 0) argsNil) oLen)) (toV (cst (.int 8))) oLe) (callN (argsCons (toV (compE false (itS (rdZ 0)) (gN 3) tYesM (ce_is_tree_2 K c gs) [3])) argsNil) oAll))) skipS)
    (retS (callF 3 (g_is_number K c) (argsCons (rdV 0) (argsCons (toV (cst (.int 0))) (argsCons (toV (bin (toV (cst (.int 32767))) (toV (cst (.int 1))) (oAdd false))) argsNil))))))))
noncomputable def g_is_tree (K : PySem.W.Frag) (c : Ad) : Nat → DF
  | 0 => fun _ => none
  | n + 1 => runF 2 4 [0, 1] (bd_is_tree K c (g_is_tree K c n))
theorem ok_is_tree (G : Gs P w K mg base T c) : ∀ n, DefOk P w K T mg base (1 + n) c.f_is_tree c.d_is_tree ["thing", "deep"] (g_is_tree K c n)
  | 0 => def_none
  | n + 1 => def_ok (N := ["thing", "deep", "part", "letter"]) G.F_is_tree sc_is_tree (by decide) fun cdv A outer s H E hr =>
    have hs : DefOk P w K T mg base (1 + n) c.f_is_tree c.d_is_tree ["thing", "deep"] (g_is_tree K c n) := ok_is_tree G n
    (svs_cons (sv_if (evt_w (evw_or (evt_cmp op_isN opg_isN (evv_var (i := 0) rfl (by first | exact Or.inl rfl | exact Or.inr (Or.inl rfl) | exact Or.inr (Or.inr rfl))) (evv_of ev_non)) (evw_or1 (evt_val (evv_of (ev_isi (k := 0) rfl G.m_isinstance (evv_var (i := 0) rfl (by first | exact Or.inl rfl | exact Or.inr (Or.inl rfl) | exact Or.inr (Or.inr rfl))) (pe_bltn (v := .ty "bool") (u := .type "bool") rfl G.m_bool (by decide +kernel) rfl))))))) (svs_one (sv_ret ev_bl)) svs_nil)
    (svs_cons (sv_if (evt_val (evv_of (ev_isi (k := 0) rfl G.m_isinstance (evv_var (i := 0) rfl (by first | exact Or.inl rfl | exact Or.inr (Or.inl rfl) | exact Or.inr (Or.inr rfl))) (pe_bltn (v := .ty "tuple") (u := .type "tuple") rfl G.m_tuple (by decide +kernel) rfl)))) (svs_one (sv_ret (ev_and (ev_cmp op_gt opg_gt (evv_var (i := 1) rfl (by first | exact Or.inl rfl | exact Or.inr (Or.inl rfl) | exact Or.inr (Or.inr rfl))) (evv_of ev_int)) (ev_one (ev_callB (cr_all rfl) cg_all rfl G.m_all PyProof.Rows.boot_all (eva_cons (evv_of (ev_comp (own := false) (ownN := [("part", 2)]) rfl sc_is_tree.nd (evi_seq (ev_var (i := 0) rfl (by first | exact Or.inl rfl | exact Or.inr (Or.inl rfl) | exact Or.inr (Or.inr rfl)))) (blkOk_by rfl) (fun _ _ _ _ _ => (gv_name (i := 2) sc_is_tree.nd rfl (by first | exact Or.inl rfl | exact Or.inr rfl) (by first | exact Or.inl rfl | exact Or.inr rfl))) (fun _ _ _ _ _ => evts_nil) (fun _ _ _ _ _ => (ev_call (ps := ["thing", "deep"]) hs hr rfl G.g_is_tree G.k_is_tree G.b_is_tree (eva_cons (evv_var (i := 2) rfl (by first | exact Or.inl rfl | exact Or.inr (Or.inl rfl) | exact Or.inr (Or.inr rfl))) (eva_cons (evv_of (ev_op op_sub opg_sub (evv_var (i := 1) rfl (by first | exact Or.inl rfl | exact Or.inr (Or.inl rfl) | exact Or.inr (Or.inr rfl))) (evv_of ev_int))) eva_nil)))))) eva_nil)))))) svs_nil)
    (svs_cons (sv_if (evt_val (evv_of (ev_isi (k := 0) rfl G.m_isinstance (evv_var (i := 0) rfl (by first | exact Or.inl rfl | exact Or.inr (Or.inl rfl) | exact Or.inr (Or.inr rfl))) (pe_bltn (v := .ty "str") (u := .type "str") rfl G.m_str (by decide +kernel) rfl)))) (svs_one (sv_ret (ev_and (ev_cmp op_le opg_le (evv_of (ev_callB call_lenA cg_len rfl G.m_len PySem.boot_len (eva_cons (evv_var (i := 0) rfl (by first | exact Or.inl rfl | exact Or.inr (Or.inl rfl) | exact Or.inr (Or.inr rfl))) eva_nil))) (evv_of (ev_con rfl G.n_MOST_LETTERS))) (ev_one (ev_callB (cr_all rfl) cg_all rfl G.m_all PyProof.Rows.boot_all (eva_cons (evv_of (ev_comp (own := false) (ownN := [("letter", 3)]) rfl sc_is_tree.nd (evi_str (ev_var (i := 0) rfl (by first | exact Or.inl rfl | exact Or.inr (Or.inl rfl) | exact Or.inr (Or.inr rfl)))) (blkOk_by rfl) (fun _ _ _ _ _ => (gv_name (i := 3) sc_is_tree.nd rfl (by first | exact Or.inl rfl | exact Or.inr rfl) (by first | exact Or.inl rfl | exact Or.inr rfl))) (fun _ _ _ _ _ => evts_nil) (fun _ _ _ _ _ => (ev_cmp op_inS opg_inS (evv_var (i := 3) rfl (by first | exact Or.inl rfl | exact Or.inr (Or.inl rfl) | exact Or.inr (Or.inr rfl))) (evv_of (ev_con rfl G.n_LETTERS)) (by with_unfolding_all rfl))))) eva_nil)))))) svs_nil)
    (svs_one (sv_ret (ev_call (ps := ["thing", "low", "end"]) ((ok_is_number G).mono (Nat.le_trans (by decide) (Nat.le_add_right 1 n))) hr rfl G.g_is_number G.k_is_number G.b_is_number (eva_cons (evv_var (i := 0) rfl (by first | exact Or.inl rfl | exact Or.inr (Or.inl rfl) | exact Or.inr (Or.inr rfl))) (eva_cons (evv_of ev_int) (eva_cons (evv_of (ev_op op_addA (opg_addA (own := false)) (evv_of (ev_con rfl G.n_MOST_NUMBER)) (evv_of ev_int))) eva_nil)))))))))
noncomputable def ce_cells_in_1 (K : PySem.W.Frag) (c : Ad) (gs : DF) : M OV :=
    (rdZ 4)
noncomputable def cj_cells_in_1 (K : PySem.W.Frag) (c : Ad) (gs : DF) : M (List PyData) :=
    (itE (callF 1 gs (argsCons (rdV 3) argsNil)))
noncomputable def ce_cells_in_2 (K : PySem.W.Frag) (c : Ad) (gs : DF) : M OV :=
    (bin (toV (methN "str" (toV (cst (.str "abcdefghijklmnopqrstuvwxyz"))) (argsCons (rdV 5) argsNil) oSidx)) (toV (cst (.int 1))) (oAdd false))
noncomputable def wt_cells_in_1 (K : PySem.W.Frag) (c : Ad) (gs : DF) : M Bool :=
    (asB (bin (rdV 0) (toV (cst (.int 32))) oGe))
noncomputable def lb_cells_in_1 (K : PySem.W.Frag) (c : Ad) (gs : DF) : SM :=
    (seqS (setS 0 (bin (rdV 0) (toV (cst (.int 32))) oFdiv))
    (setS 2 (bin (toV (mkLst false (argsCons (toV (bin (toV (bin (rdV 0) (toV (cst (.int 32))) oMod)) (toV (cst (.int 32))) (oAdd false))) argsNil))) (rdV 2) (oAdd false))))
noncomputable def bd_cells_in (K : PySem.W.Frag) (c : Ad) (gs : DF) : SM :=
    (seqS (ifS (asB (bin (rdV 0) (toV (cst .none)) oIsN)) (retS (mkLst false (argsCons (toV (cst (.int 29))) argsNil))) skipS)
    (seqS (ifS (tstV (toV (isiV "bool" (rdV 0)))) (retS (mkLst false (argsCons (toV (ifE (tstV (rdV 0)) (cst (.int 31)) (cst (.int 30)))) argsNil))) skipS)
    (seqS (ifS (tstV (toV (isiV "tuple" (rdV 0)))) (retS (bin (toV (bin (toV (mkLst false (argsCons (toV (cst (.int 27))) argsNil))) (toV (compE2 false (itE (rdZ 0)) (gN 3) tYesM (cj_cells_in_1 K c gs) (gN 4) tYesM (ce_cells_in_1 K c gs) [3, 4] [4])) (oAdd false))) (toV (mkLst false (argsCons (toV (cst (.int 28))) argsNil))) (oAdd false))) skipS)
    (seqS (ifS (asB (bin (rdV 0) (toV (cst (.str ""))) oEq)) (retS (mkLst false (argsCons (toV (cst (.int 32))) argsNil))) skipS)
    (seqS (ifS (tstV (toV (isiV "str" (rdV 0)))) (seqS (setS 1 (compE false (itS (rdZ 0)) (gN 5) tYesM (ce_cells_in_2 K c gs) [5]))
    (retS (bin (toV (slA false (rdV 1) noPart (part (toV (negV (toV (cst (.int 1)))))))) (toV (mkLst false (argsCons (toV (bin (toV (bin (rdV 1) (toV (negV (toV (cst (.int 1))))) oIx)) (toV (cst (.int 32))) (oAdd false))) argsNil))) (oAdd false)))) skipS)
    (seqS (setS 2 (mkLst false (argsCons (toV (bin (rdV 0) (toV (cst (.int 32))) oMod)) argsNil)))
    (seqS (whileS (wt_cells_in_1 K c gs) (lb_cells_in_1 K c gs))
    (retS (bin (toV (mkLst false (argsCons (toV (cst (.int 59))) argsNil))) (rdV 2) (oAdd false))))))))))
noncomputable def g_cells_in (K : PySem.W.Frag) (c : Ad) : Nat → DF
  | 0 => fun _ => none
  | n + 1 => runF 1 6 [] (bd_cells_in K c (g_cells_in K c n))
theorem ok_cells_in (G : Gs P w K mg base T c) : ∀ n, DefOk P w K T mg base (0 + n) c.f_cells_in c.d_cells_in ["tree"] (g_cells_in K c n)
  | 0 => def_none
  | n + 1 => def_ok (N := ["tree", "letters", "digits", "part", "cell", "letter"]) G.F_cells_in sc_cells_in (by decide) fun cdv A outer s H E hr =>
    have hs : DefOk P w K T mg base (0 + n) c.f_cells_in c.d_cells_in ["tree"] (g_cells_in K c n) := ok_cells_in G n
    (svs_cons (sv_if (evt_cmp op_isN opg_isN (evv_var (i := 0) rfl (by first | exact Or.inl rfl | exact Or.inr (Or.inl rfl) | exact Or.inr (Or.inr rfl))) (evv_of ev_non)) (svs_one (sv_ret (ev_lst (own := false) (eva_cons (evv_of ev_int) eva_nil)))) svs_nil)
    (svs_cons (sv_if (evt_val (evv_of (ev_isi (k := 0) rfl G.m_isinstance (evv_var (i := 0) rfl (by first | exact Or.inl rfl | exact Or.inr (Or.inl rfl) | exact Or.inr (Or.inr rfl))) (pe_bltn (v := .ty "bool") (u := .type "bool") rfl G.m_bool (by decide +kernel) rfl)))) (svs_one (sv_ret (ev_lst (own := false) (eva_cons (evv_of (ev_if (evt_val (evv_var (i := 0) rfl (by first | exact Or.inl rfl | exact Or.inr (Or.inl rfl) | exact Or.inr (Or.inr rfl)))) ev_int ev_int)) eva_nil)))) svs_nil)
    (svs_cons (sv_if (evt_val (evv_of (ev_isi (k := 0) rfl G.m_isinstance (evv_var (i := 0) rfl (by first | exact Or.inl rfl | exact Or.inr (Or.inl rfl) | exact Or.inr (Or.inr rfl))) (pe_bltn (v := .ty "tuple") (u := .type "tuple") rfl G.m_tuple (by decide +kernel) rfl)))) (svs_one (sv_ret (ev_op op_addA (opg_addA (own := false)) (evv_of (ev_op op_addA (opg_addA (own := false)) (evv_of (ev_lst (own := false) (eva_cons (evv_of ev_int) eva_nil))) (evv_of (ev_comp2 (own := false) (ownN := [("part", 3), ("cell", 4)]) (vs1 := [4]) rfl sc_cells_in.nd (evi_seq (ev_var (i := 0) rfl (by first | exact Or.inl rfl | exact Or.inr (Or.inl rfl) | exact Or.inr (Or.inr rfl)))) (blkOk_by rfl) (fun _ _ _ _ _ => (gv_name (i := 3) sc_cells_in.nd rfl (by first | exact Or.inl rfl | exact Or.inr rfl) (by first | exact Or.inl rfl | exact Or.inr rfl))) (fun _ _ _ _ _ => evts_nil) (fun _ _ _ _ _ => (evi_seq (ev_call (ps := ["tree"]) hs hr rfl G.g_cells_in G.k_cells_in G.b_cells_in (eva_cons (evv_var (i := 3) rfl (by first | exact Or.inl rfl | exact Or.inr (Or.inl rfl) | exact Or.inr (Or.inr rfl))) eva_nil)))) (fun _ _ _ _ _ => (gv_name (i := 4) sc_cells_in.nd rfl (by first | exact Or.inl rfl | exact Or.inr rfl) (by first | exact Or.inl rfl | exact Or.inr rfl))) (fun _ _ _ _ _ => evts_nil) (fun _ _ _ _ _ => (ev_var (i := 4) rfl (by first | exact Or.inl rfl | exact Or.inr (Or.inl rfl) | exact Or.inr (Or.inr rfl)))))))) (evv_of (ev_lst (own := false) (eva_cons (evv_of ev_int) eva_nil)))))) svs_nil)
    (svs_cons (sv_if (evt_cmp (op_eqD (u64 hr)) opg_eq (evv_var (i := 0) rfl (by first | exact Or.inl rfl | exact Or.inr (Or.inl rfl) | exact Or.inr (Or.inr rfl))) (evv_of ev_str)) (svs_one (sv_ret (ev_lst (own := false) (eva_cons (evv_of ev_int) eva_nil)))) svs_nil)
    (svs_cons (sv_if (evt_val (evv_of (ev_isi (k := 0) rfl G.m_isinstance (evv_var (i := 0) rfl (by first | exact Or.inl rfl | exact Or.inr (Or.inl rfl) | exact Or.inr (Or.inr rfl))) (pe_bltn (v := .ty "str") (u := .type "str") rfl G.m_str (by decide +kernel) rfl)))) (svs_cons (sv_setC (i := 1) (own := false) (ownN := [("letter", 5)]) rfl sc_cells_in.nd rfl rfl (sw_true rfl rfl rfl rfl) (evi_str (ev_var (i := 0) rfl (by first | exact Or.inl rfl | exact Or.inr (Or.inl rfl) | exact Or.inr (Or.inr rfl)))) (blkOk_by rfl) (fun _ _ _ _ _ => (gv_name (i := 5) sc_cells_in.nd rfl (by first | exact Or.inl rfl | exact Or.inr rfl) (by first | exact Or.inl rfl | exact Or.inr rfl))) (fun _ _ _ _ _ => evts_nil) (fun _ _ _ _ _ => (ev_op op_addA (opg_addA (own := false)) (evv_of (ev_meth PySem.F.plainAttrs_str PySem.F.slot_str_index PySem.F.type_str_index mt_sindex mg_sidx (evv_of (ev_con rfl G.n_LETTERS)) (eva_cons (evv_var (i := 5) rfl (by first | exact Or.inl rfl | exact Or.inr (Or.inl rfl) | exact Or.inr (Or.inr rfl))) eva_nil))) (evv_of ev_int))))
    (svs_one (sv_ret (ev_op op_addA (opg_addA (own := false)) (evv_of (ev_slice (own := false) (evv_var (i := 1) rfl (by first | exact Or.inl rfl | exact Or.inr (Or.inl rfl) | exact Or.inr (Or.inr rfl))) evo_none (evo_some (evv_of (ev_neg (evv_of ev_int)))))) (evv_of (ev_lst (own := false) (eva_cons (evv_of (ev_op op_addA (opg_addA (own := false)) (evv_of (ev_ix ix_any opg_ix (evv_var (i := 1) rfl (by first | exact Or.inl rfl | exact Or.inr (Or.inl rfl) | exact Or.inr (Or.inr rfl))) (evv_of (ev_neg (evv_of ev_int))))) (evv_of ev_int))) eva_nil))))))) svs_nil)
    (svs_cons (sv_set (i := 2) sc_cells_in.nd rfl (by first | exact Or.inl rfl | exact Or.inr rfl) (ev_lst (own := false) (eva_cons (evv_of (ev_op op_mod opg_mod (evv_var (i := 0) rfl (by first | exact Or.inl rfl | exact Or.inr (Or.inl rfl) | exact Or.inr (Or.inr rfl))) (evv_of ev_int))) eva_nil)))
    (svs_cons (sv_while (passes_of rfl) (evt_cmp op_ge opg_ge (evv_var (i := 0) rfl (by first | exact Or.inl rfl | exact Or.inr (Or.inl rfl) | exact Or.inr (Or.inr rfl))) (evv_of ev_int)) (svs_cons (sv_set (i := 0) sc_cells_in.nd rfl (by first | exact Or.inl rfl | exact Or.inr rfl) (ev_op op_fdiv opg_fdiv (evv_var (i := 0) rfl (by first | exact Or.inl rfl | exact Or.inr (Or.inl rfl) | exact Or.inr (Or.inr rfl))) (evv_of ev_int)))
    (svs_one (sv_set (i := 2) sc_cells_in.nd rfl (by first | exact Or.inl rfl | exact Or.inr rfl) (ev_op op_addA (opg_addA (own := false)) (evv_of (ev_lst (own := false) (eva_cons (evv_of (ev_op op_addA (opg_addA (own := false)) (evv_of (ev_op op_mod opg_mod (evv_var (i := 0) rfl (by first | exact Or.inl rfl | exact Or.inr (Or.inl rfl) | exact Or.inr (Or.inr rfl))) (evv_of ev_int))) (evv_of ev_int))) eva_nil))) (evv_var (i := 2) rfl (by first | exact Or.inl rfl | exact Or.inr (Or.inl rfl) | exact Or.inr (Or.inr rfl))))))))
    (svs_one (sv_ret (ev_op op_addA (opg_addA (own := false)) (evv_of (ev_lst (own := false) (eva_cons (evv_of ev_int) eva_nil))) (evv_var (i := 2) rfl (by first | exact Or.inl rfl | exact Or.inr (Or.inl rfl) | exact Or.inr (Or.inr rfl)))))))))))))
noncomputable def bd_tree_cells (K : PySem.W.Frag) (c : Ad) : SM :=
    (seqS (ifS (notT (tstV (toV (callF 2 (g_is_tree K c 40) (argsCons (rdV 0) (argsCons (toV (cst (.int 12))) argsNil)))))) (raiseS c.BadTree) skipS)
    (retS (callN (argsCons (toV (callF 1 (g_cells_in K c 40) (argsCons (rdV 0) argsNil))) argsNil) oTuple)))
noncomputable def g_tree_cells (K : PySem.W.Frag) (c : Ad) : DF := runF 1 1 [0] (bd_tree_cells K c)
theorem ok_tree_cells (G : Gs P w K mg base T c) : DefOk P w K T mg base 42 c.f_tree_cells c.d_tree_cells ["tree"] (g_tree_cells K c) := def_ok (N := ["tree"]) G.F_tree_cells sc_tree_cells (by decide) fun cdv A outer s H E hr =>
    (svs_cons (sv_if (evt_not (evt_val (evv_of (ev_call (ps := ["thing", "deep"]) ((ok_is_tree G 40).mono (by decide)) hr rfl G.g_is_tree G.k_is_tree G.b_is_tree (eva_cons (evv_var (i := 0) rfl (by first | exact Or.inl rfl | exact Or.inr (Or.inl rfl) | exact Or.inr (Or.inr rfl))) (eva_cons (evv_of (ev_con rfl G.n_MOST_DEEP)) eva_nil)))))) (svs_one (sv_raise rfl (pmk_own PySem.F.excBase_ValueError G.x_BadTree G.g_BadTree G.k_BadTree G.r_BadTree rfl))) svs_nil)
    (svs_one (sv_ret (ev_callTy call_tupleA cg_tuple rfl G.m_tuple PySem.Pv.boot_tuple (eva_cons (evv_of (ev_call (ps := ["tree"]) ((ok_cells_in G 40).mono (by decide)) hr rfl G.g_cells_in G.k_cells_in G.b_cells_in (eva_cons (evv_var (i := 0) rfl (by first | exact Or.inl rfl | exact Or.inr (Or.inl rfl) | exact Or.inr (Or.inr rfl))) eva_nil))) eva_nil)))))
noncomputable def bd_Reading___init__ (K : PySem.W.Frag) (c : Ad) : SM :=
    (seqS (setF 0 c.Reading "stack" (lst1 (mkLst true argsNil)))
    (seqS (setF 0 c.Reading "letters" (cst .none))
    (setF 0 c.Reading "digits" (cst .none))))
noncomputable def g_Reading___init__ (K : PySem.W.Frag) (c : Ad) : DF := runF 1 1 [0] (bd_Reading___init__ K c)
theorem ok_Reading___init__ (G : Gs P w K mg base T c) : DefOk P w K T mg base 1 c.f_Reading___init__ c.d_Reading___init__ ["self"] (g_Reading___init__ K c) := def_ok (N := ["self"]) G.F_Reading___init__ sc_Reading___init__ (by decide) fun cdv A outer s H E hr =>
    (svs_cons (sv_setF (i := 0) rfl (by first | exact Or.inl rfl | exact Or.inr (Or.inl rfl) | exact Or.inr (Or.inr rfl)) G.cls_Reading G.na_Reading_stack (ev_lst1 (ev_lst (own := true) eva_nil)))
    (svs_cons (sv_setF (i := 0) rfl (by first | exact Or.inl rfl | exact Or.inr (Or.inl rfl) | exact Or.inr (Or.inr rfl)) G.cls_Reading G.na_Reading_letters ev_non)
    (svs_one (sv_setF (i := 0) rfl (by first | exact Or.inl rfl | exact Or.inr (Or.inl rfl) | exact Or.inr (Or.inr rfl)) G.cls_Reading G.na_Reading_digits ev_non))))
noncomputable def bd_Reading_is_whole (K : PySem.W.Frag) (c : Ad) : SM :=
    (retS (andV (peek 0 (bin (toV (callN (argsCons (toV (getF 0 c.Reading "stack")) argsNil) oLen)) (toV (cst (.int 1))) oEq)) (andV (peek 0 (bin (toV (bin (toV (getF 0 c.Reading "stack")) (toV (cst (.int 0))) oIx)) (toV (mkLst false argsNil)) oNe)) (andV (bin (toV (getF 0 c.Reading "letters")) (toV (cst .none)) oIsN) (bin (toV (getF 0 c.Reading "digits")) (toV (cst .none)) oIsN)))))
noncomputable def g_Reading_is_whole (K : PySem.W.Frag) (c : Ad) : DF := runF 1 1 [0] (bd_Reading_is_whole K c)
theorem ok_Reading_is_whole (G : Gs P w K mg base T c) : DefOk P w K T mg base 1 c.f_Reading_is_whole c.d_Reading_is_whole ["self"] (g_Reading_is_whole K c) := def_ok (N := ["self"]) G.F_Reading_is_whole sc_Reading_is_whole (by decide) fun cdv A outer s H E hr =>
    (svs_one (sv_ret (ev_and (ev_peek (i := 0) (ev_cmp (op_eqD (u64 hr)) opg_eq (evv_of (ev_callB call_lenA cg_len rfl G.m_len PySem.boot_len (eva_cons (evv_of (ev_getF (i := 0) rfl (by first | exact Or.inl rfl | exact Or.inr (Or.inl rfl) | exact Or.inr (Or.inr rfl)) G.cls_Reading G.na_Reading_stack)) eva_nil))) (evv_of ev_int))) (ev_and (ev_peek (i := 0) (ev_cmp (op_neD (u64 hr)) opg_ne (evv_of (ev_ix ix_any opg_ix (evv_of (ev_getF (i := 0) rfl (by first | exact Or.inl rfl | exact Or.inr (Or.inl rfl) | exact Or.inr (Or.inr rfl)) G.cls_Reading G.na_Reading_stack)) (evv_of ev_int))) (evv_of (ev_lst (own := false) eva_nil)))) (ev_and (ev_cmp op_isN opg_isN (evv_of (ev_getF (i := 0) rfl (by first | exact Or.inl rfl | exact Or.inr (Or.inl rfl) | exact Or.inr (Or.inr rfl)) G.cls_Reading G.na_Reading_letters)) (evv_of ev_non)) (ev_one (ev_cmp op_isN opg_isN (evv_of (ev_getF (i := 0) rfl (by first | exact Or.inl rfl | exact Or.inr (Or.inl rfl) | exact Or.inr (Or.inr rfl)) G.cls_Reading G.na_Reading_digits)) (evv_of ev_non))))))))
noncomputable def lb_Reading_takes_digit_1 (K : PySem.W.Frag) (c : Ad) : SM :=
    (setS 2 (bin (toV (bin (rdV 2) (toV (cst (.int 32))) (oMulA false))) (rdV 3) (oAdd false)))
noncomputable def bd_Reading_takes_digit (K : PySem.W.Frag) (c : Ad) : SM :=
    (seqS (ifS (asB (bin (rdV 1) (toV (cst (.int 32))) oGe)) (seqS (ifS (orT (asB (bin (toV (bin (toV (callN (argsCons (toV (getF 0 c.Reading "digits")) argsNil) oLen)) (toV (cst (.int 1))) (oAdd false))) (toV (cst (.int 3))) oGe)) (andT (asB (bin (toV (getF 0 c.Reading "digits")) (toV (mkLst false argsNil)) oEq)) (asB (bin (rdV 1) (toV (cst (.int 32))) oEq)))) (retS (cst (.bool false))) skipS)
    (seqS (setF 0 c.Reading "digits" (bin (toV (getF 0 c.Reading "digits")) (toV (mkLst false (argsCons (toV (bin (rdV 1) (toV (cst (.int 32))) oSub)) argsNil))) (oAdd false)))
    (retS (cst (.bool true))))) skipS)
    (seqS (setS 2 (cst (.int 0)))
    (seqS (forS (itE (bin (toV (getF 0 c.Reading "digits")) (toV (mkLst false (argsCons (toV (rdZ 1)) argsNil))) (oAdd false))) (gN 3) (lb_Reading_takes_digit_1 K c))
    (seqS (exprS (apF 0 c.Reading "stack" (rdZ 2)))
    (seqS (setF 0 c.Reading "digits" (cst .none))
    (retS (cst (.bool true))))))))
noncomputable def g_Reading_takes_digit (K : PySem.W.Frag) (c : Ad) : DF := runF 2 4 [0, 1] (bd_Reading_takes_digit K c)
theorem ok_Reading_takes_digit (G : Gs P w K mg base T c) : DefOk P w K T mg base 1 c.f_Reading_takes_digit c.d_Reading_takes_digit ["self", "cell"] (g_Reading_takes_digit K c) := def_ok (N := ["self", "cell", "number", "digit"]) G.F_Reading_takes_digit sc_Reading_takes_digit (by decide) fun cdv A outer s H E hr =>
    (svs_cons (sv_if (evt_cmp op_ge opg_ge (evv_var (i := 1) rfl (by first | exact Or.inl rfl | exact Or.inr (Or.inl rfl) | exact Or.inr (Or.inr rfl))) (evv_of ev_int)) (svs_cons (sv_if (evt_w (evw_or (evt_cmp op_ge opg_ge (evv_of (ev_op op_addA (opg_addA (own := false)) (evv_of (ev_callB call_lenA cg_len rfl G.m_len PySem.boot_len (eva_cons (evv_of (ev_getF (i := 0) rfl (by first | exact Or.inl rfl | exact Or.inr (Or.inl rfl) | exact Or.inr (Or.inr rfl)) G.cls_Reading G.na_Reading_digits)) eva_nil))) (evv_of ev_int))) (evv_of (ev_con rfl G.n_MOST_DIGITS))) (evw_or1 (evt_w (evw_and (evt_cmp (op_eqD (u64 hr)) opg_eq (evv_of (ev_getF (i := 0) rfl (by first | exact Or.inl rfl | exact Or.inr (Or.inl rfl) | exact Or.inr (Or.inr rfl)) G.cls_Reading G.na_Reading_digits)) (evv_of (ev_lst (own := false) eva_nil))) (evw_and1 (evt_cmp (op_eqD (u64 hr)) opg_eq (evv_var (i := 1) rfl (by first | exact Or.inl rfl | exact Or.inr (Or.inl rfl) | exact Or.inr (Or.inr rfl))) (evv_of ev_int)))))))) (svs_one (sv_ret ev_bl)) svs_nil)
    (svs_cons (sv_setF (i := 0) rfl (by first | exact Or.inl rfl | exact Or.inr (Or.inl rfl) | exact Or.inr (Or.inr rfl)) G.cls_Reading G.na_Reading_digits (ev_op op_addA (opg_addA (own := false)) (evv_of (ev_getF (i := 0) rfl (by first | exact Or.inl rfl | exact Or.inr (Or.inl rfl) | exact Or.inr (Or.inr rfl)) G.cls_Reading G.na_Reading_digits)) (evv_of (ev_lst (own := false) (eva_cons (evv_of (ev_op op_sub opg_sub (evv_var (i := 1) rfl (by first | exact Or.inl rfl | exact Or.inr (Or.inl rfl) | exact Or.inr (Or.inr rfl))) (evv_of ev_int))) eva_nil)))))
    (svs_one (sv_ret ev_bl)))) svs_nil)
    (svs_cons (sv_set (i := 2) sc_Reading_takes_digit.nd rfl (by first | exact Or.inl rfl | exact Or.inr rfl) ev_int)
    (svs_cons (sv_for (passes_of rfl) rfl (evi_seq (ev_op op_addA (opg_addA (own := false)) (evv_of (ev_getF (i := 0) rfl (by first | exact Or.inl rfl | exact Or.inr (Or.inl rfl) | exact Or.inr (Or.inr rfl)) G.cls_Reading G.na_Reading_digits)) (evv_of (ev_lst (own := false) (eva_cons (evv_of (ev_var (i := 1) rfl (by first | exact Or.inl rfl | exact Or.inr (Or.inl rfl) | exact Or.inr (Or.inr rfl)))) eva_nil))))) (gv_name (i := 3) sc_Reading_takes_digit.nd rfl (by first | exact Or.inl rfl | exact Or.inr rfl) (by first | exact Or.inl rfl | exact Or.inr rfl)) (svs_one (sv_set (i := 2) sc_Reading_takes_digit.nd rfl (by first | exact Or.inl rfl | exact Or.inr rfl) (ev_op op_addA (opg_addA (own := false)) (evv_of (ev_op op_mulA (opg_mulA (own := false)) (evv_var (i := 2) rfl (by first | exact Or.inl rfl | exact Or.inr (Or.inl rfl) | exact Or.inr (Or.inr rfl))) (evv_of ev_int))) (evv_var (i := 3) rfl (by first | exact Or.inl rfl | exact Or.inr (Or.inl rfl) | exact Or.inr (Or.inr rfl)))))))
    (svs_cons (sv_expr (ev_apF (i := 0) rfl (by first | exact Or.inl rfl | exact Or.inr (Or.inl rfl) | exact Or.inr (Or.inr rfl)) G.cls_Reading G.na_Reading_stack (ev_var (i := 2) rfl (by first | exact Or.inl rfl | exact Or.inr (Or.inl rfl) | exact Or.inr (Or.inr rfl)))))
    (svs_cons (sv_setF (i := 0) rfl (by first | exact Or.inl rfl | exact Or.inr (Or.inl rfl) | exact Or.inr (Or.inr rfl)) G.cls_Reading G.na_Reading_digits ev_non)
    (svs_one (sv_ret ev_bl)))))))
noncomputable def bd_Reading_takes_letter (K : PySem.W.Frag) (c : Ad) : SM :=
    (seqS (setS 2 (ifE (asB (bin (toV (getF 0 c.Reading "letters")) (toV (cst .none)) oIsN)) (cst (.str "")) (getF 0 c.Reading "letters")))
    (seqS (ifS (andT (asB (chain (toV (cst (.int 1))) (rdV 1) (toV (cst (.int 26))) oLe oLe)) (asB (bin (toV (bin (toV (callN (argsCons (rdV 2) argsNil) oLen)) (toV (cst (.int 1))) (oAdd false))) (toV (cst (.int 8))) oLt))) (seqS (setF 0 c.Reading "letters" (bin (rdV 2) (toV (bin (toV (cst (.str "abcdefghijklmnopqrstuvwxyz"))) (toV (bin (rdV 1) (toV (cst (.int 1))) oSub)) oIx)) (oAdd false)))
    (retS (cst (.bool true)))) skipS)
    (seqS (ifS (asB (chain (toV (cst (.int 33))) (rdV 1) (toV (cst (.int 58))) oLe oLe)) (seqS (exprS (apF 0 c.Reading "stack" (bin (rdV 2) (toV (bin (toV (cst (.str "abcdefghijklmnopqrstuvwxyz"))) (toV (bin (rdV 1) (toV (cst (.int 33))) oSub)) oIx)) (oAdd false))))
    (seqS (setF 0 c.Reading "letters" (cst .none))
    (retS (cst (.bool true))))) skipS)
    (retS (cst (.bool false))))))
noncomputable def g_Reading_takes_letter (K : PySem.W.Frag) (c : Ad) : DF := runF 2 3 [0, 1] (bd_Reading_takes_letter K c)
theorem ok_Reading_takes_letter (G : Gs P w K mg base T c) : DefOk P w K T mg base 1 c.f_Reading_takes_letter c.d_Reading_takes_letter ["self", "cell"] (g_Reading_takes_letter K c) := def_ok (N := ["self", "cell", "letters"]) G.F_Reading_takes_letter sc_Reading_takes_letter (by decide) fun cdv A outer s H E hr =>
    (svs_cons (sv_set (i := 2) sc_Reading_takes_letter.nd rfl (by first | exact Or.inl rfl | exact Or.inr rfl) (ev_if (evt_cmp op_isN opg_isN (evv_of (ev_getF (i := 0) rfl (by first | exact Or.inl rfl | exact Or.inr (Or.inl rfl) | exact Or.inr (Or.inr rfl)) G.cls_Reading G.na_Reading_letters)) (evv_of ev_non)) ev_str (ev_getF (i := 0) rfl (by first | exact Or.inl rfl | exact Or.inr (Or.inl rfl) | exact Or.inr (Or.inr rfl)) G.cls_Reading G.na_Reading_letters)))
    (svs_cons (sv_if (evt_w (evw_and (evt_chain op_le opg_le op_le opg_le (evv_of ev_int) (evv_var (i := 1) rfl (by first | exact Or.inl rfl | exact Or.inr (Or.inl rfl) | exact Or.inr (Or.inr rfl))) (evv_of ev_int)) (evw_and1 (evt_cmp op_lt opg_lt (evv_of (ev_op op_addA (opg_addA (own := false)) (evv_of (ev_callB call_lenA cg_len rfl G.m_len PySem.boot_len (eva_cons (evv_var (i := 2) rfl (by first | exact Or.inl rfl | exact Or.inr (Or.inl rfl) | exact Or.inr (Or.inr rfl))) eva_nil))) (evv_of ev_int))) (evv_of (ev_con rfl G.n_MOST_LETTERS)))))) (svs_cons (sv_setF (i := 0) rfl (by first | exact Or.inl rfl | exact Or.inr (Or.inl rfl) | exact Or.inr (Or.inr rfl)) G.cls_Reading G.na_Reading_letters (ev_op op_addA (opg_addA (own := false)) (evv_var (i := 2) rfl (by first | exact Or.inl rfl | exact Or.inr (Or.inl rfl) | exact Or.inr (Or.inr rfl))) (evv_of (ev_ix ix_any opg_ix (evv_of (ev_con rfl G.n_LETTERS)) (evv_of (ev_op op_sub opg_sub (evv_var (i := 1) rfl (by first | exact Or.inl rfl | exact Or.inr (Or.inl rfl) | exact Or.inr (Or.inr rfl))) (evv_of ev_int)))))))
    (svs_one (sv_ret ev_bl))) svs_nil)
    (svs_cons (sv_if (evt_chain op_le opg_le op_le opg_le (evv_of ev_int) (evv_var (i := 1) rfl (by first | exact Or.inl rfl | exact Or.inr (Or.inl rfl) | exact Or.inr (Or.inr rfl))) (evv_of ev_int)) (svs_cons (sv_expr (ev_apF (i := 0) rfl (by first | exact Or.inl rfl | exact Or.inr (Or.inl rfl) | exact Or.inr (Or.inr rfl)) G.cls_Reading G.na_Reading_stack (ev_op op_addA (opg_addA (own := false)) (evv_var (i := 2) rfl (by first | exact Or.inl rfl | exact Or.inr (Or.inl rfl) | exact Or.inr (Or.inr rfl))) (evv_of (ev_ix ix_any opg_ix (evv_of (ev_con rfl G.n_LETTERS)) (evv_of (ev_op op_sub opg_sub (evv_var (i := 1) rfl (by first | exact Or.inl rfl | exact Or.inr (Or.inl rfl) | exact Or.inr (Or.inr rfl))) (evv_of ev_int))))))))
    (svs_cons (sv_setF (i := 0) rfl (by first | exact Or.inl rfl | exact Or.inr (Or.inl rfl) | exact Or.inr (Or.inr rfl)) G.cls_Reading G.na_Reading_letters ev_non)
    (svs_one (sv_ret ev_bl)))) svs_nil)
    (svs_one (sv_ret ev_bl)))))
noncomputable def bd_Reading_takes (K : PySem.W.Frag) (c : Ad) : SM :=
    (seqS (ifS (asB (bin (toV (getF 0 c.Reading "digits")) (toV (cst .none)) oNotN)) (retS (mcallF 2 0 c.Reading "takes_digit" (g_Reading_takes_digit K c) (argsCons (rdV 1) argsNil))) skipS)
    (seqS (ifS (orT (asB (bin (toV (getF 0 c.Reading "letters")) (toV (cst .none)) oNotN)) (orT (asB (chain (toV (cst (.int 1))) (rdV 1) (toV (cst (.int 26))) oLe oLe)) (asB (chain (toV (cst (.int 33))) (rdV 1) (toV (cst (.int 58))) oLe oLe)))) (retS (andV (notV (toV (mcallF 1 0 c.Reading "is_whole" (g_Reading_is_whole K c) argsNil))) (mcallF 2 0 c.Reading "takes_letter" (g_Reading_takes_letter K c) (argsCons (rdV 1) argsNil)))) skipS)
    (seqS (ifS (tstV (toV (mcallF 1 0 c.Reading "is_whole" (g_Reading_is_whole K c) argsNil))) (retS (cst (.bool false))) skipS)
    (seqS (ifS (asB (cinM tb_PLAIN false (rdV 1))) (exprS (apF 0 c.Reading "stack" (cixM tb_PLAIN (rdV 1)))) (ifS (asB (bin (rdV 1) (toV (cst (.int 59))) oEq)) (setF 0 c.Reading "digits" (mkLst false argsNil)) (ifS (andT (asB (bin (rdV 1) (toV (cst (.int 27))) oEq)) (peekT 0 (asB (bin (toV (callN (argsCons (toV (getF 0 c.Reading "stack")) argsNil) oLen)) (toV (cst (.int 12))) oLe)))) (exprS (apO 0 c.Reading "stack" (mkLst true argsNil))) (ifS (andT (asB (bin (rdV 1) (toV (cst (.int 28))) oEq)) (peekT 0 (asB (bin (toV (callN (argsCons (toV (getF 0 c.Reading "stack")) argsNil) oLen)) (toV (cst (.int 1))) oGt)))) (seqS (setS 2 (callN (argsCons (toV (frzM (popF 0 c.Reading "stack"))) argsNil) oTuple))
    (exprS (apF 0 c.Reading "stack" (rdZ 2)))) (retS (cst (.bool false)))))))
    (retS (cst (.bool true)))))))
noncomputable def g_Reading_takes (K : PySem.W.Frag) (c : Ad) : DF := runF 2 3 [0, 1] (bd_Reading_takes K c)
theorem ok_Reading_takes (G : Gs P w K mg base T c) : DefOk P w K T mg base 2 c.f_Reading_takes c.d_Reading_takes ["self", "cell"] (g_Reading_takes K c) := def_ok (N := ["self", "cell", "done"]) G.F_Reading_takes sc_Reading_takes (by decide) fun cdv A outer s H E hr =>
    (svs_cons (sv_if (evt_cmp op_notN opg_notN (evv_of (ev_getF (i := 0) rfl (by first | exact Or.inl rfl | exact Or.inr (Or.inl rfl) | exact Or.inr (Or.inr rfl)) G.cls_Reading G.na_Reading_digits)) (evv_of ev_non)) (svs_one (sv_ret (ev_mcall (i := 0) (ps := ["self", "cell"]) rfl (by first | exact Or.inl rfl | exact Or.inr (Or.inl rfl) | exact Or.inr (Or.inr rfl)) G.cls_Reading G.me_Reading_takes_digit ((ok_Reading_takes_digit G).mono (by decide)) hr G.b_Reading_takes_digit (eva_cons (evv_var (i := 1) rfl (by first | exact Or.inl rfl | exact Or.inr (Or.inl rfl) | exact Or.inr (Or.inr rfl))) eva_nil)))) svs_nil)
    (svs_cons (sv_if (evt_w (evw_or (evt_cmp op_notN opg_notN (evv_of (ev_getF (i := 0) rfl (by first | exact Or.inl rfl | exact Or.inr (Or.inl rfl) | exact Or.inr (Or.inr rfl)) G.cls_Reading G.na_Reading_letters)) (evv_of ev_non)) (evw_or (evt_chain op_le opg_le op_le opg_le (evv_of ev_int) (evv_var (i := 1) rfl (by first | exact Or.inl rfl | exact Or.inr (Or.inl rfl) | exact Or.inr (Or.inr rfl))) (evv_of ev_int)) (evw_or1 (evt_chain op_le opg_le op_le opg_le (evv_of ev_int) (evv_var (i := 1) rfl (by first | exact Or.inl rfl | exact Or.inr (Or.inl rfl) | exact Or.inr (Or.inr rfl))) (evv_of ev_int)))))) (svs_one (sv_ret (ev_and (ev_not (evv_of (ev_mcall0 (i := 0) (ps := ["self"]) rfl (by first | exact Or.inl rfl | exact Or.inr (Or.inl rfl) | exact Or.inr (Or.inr rfl)) G.cls_Reading G.me_Reading_is_whole ((ok_Reading_is_whole G).mono (by decide)) hr G.b_Reading_is_whole))) (ev_one (ev_mcall (i := 0) (ps := ["self", "cell"]) rfl (by first | exact Or.inl rfl | exact Or.inr (Or.inl rfl) | exact Or.inr (Or.inr rfl)) G.cls_Reading G.me_Reading_takes_letter ((ok_Reading_takes_letter G).mono (by decide)) hr G.b_Reading_takes_letter (eva_cons (evv_var (i := 1) rfl (by first | exact Or.inl rfl | exact Or.inr (Or.inl rfl) | exact Or.inr (Or.inr rfl))) eva_nil)))))) svs_nil)
    (svs_cons (sv_if (evt_val (evv_of (ev_mcall0 (i := 0) (ps := ["self"]) rfl (by first | exact Or.inl rfl | exact Or.inr (Or.inl rfl) | exact Or.inr (Or.inr rfl)) G.cls_Reading G.me_Reading_is_whole ((ok_Reading_is_whole G).mono (by decide)) hr G.b_Reading_is_whole))) (svs_one (sv_ret ev_bl)) svs_nil)
    (svs_cons (sv_if (evt_cin G.i_PLAIN rfl G.g_PLAIN (evv_var (i := 1) rfl (by first | exact Or.inl rfl | exact Or.inr (Or.inl rfl) | exact Or.inr (Or.inr rfl)))) (svs_one (sv_expr (ev_apF (i := 0) rfl (by first | exact Or.inl rfl | exact Or.inr (Or.inl rfl) | exact Or.inr (Or.inr rfl)) G.cls_Reading G.na_Reading_stack (ev_cix G.i_PLAIN rfl G.g_PLAIN (evv_var (i := 1) rfl (by first | exact Or.inl rfl | exact Or.inr (Or.inl rfl) | exact Or.inr (Or.inr rfl))))))) (svs_one (sv_if (evt_cmp (op_eqD (u64 hr)) opg_eq (evv_var (i := 1) rfl (by first | exact Or.inl rfl | exact Or.inr (Or.inl rfl) | exact Or.inr (Or.inr rfl))) (evv_of ev_int)) (svs_one (sv_setF (i := 0) rfl (by first | exact Or.inl rfl | exact Or.inr (Or.inl rfl) | exact Or.inr (Or.inr rfl)) G.cls_Reading G.na_Reading_digits (ev_lst (own := false) eva_nil))) (svs_one (sv_if (evt_w (evw_and (evt_cmp (op_eqD (u64 hr)) opg_eq (evv_var (i := 1) rfl (by first | exact Or.inl rfl | exact Or.inr (Or.inl rfl) | exact Or.inr (Or.inr rfl))) (evv_of ev_int)) (evw_and1 (evt_peek (i := 0) (evt_cmp op_le opg_le (evv_of (ev_callB call_lenA cg_len rfl G.m_len PySem.boot_len (eva_cons (evv_of (ev_getF (i := 0) rfl (by first | exact Or.inl rfl | exact Or.inr (Or.inl rfl) | exact Or.inr (Or.inr rfl)) G.cls_Reading G.na_Reading_stack)) eva_nil))) (evv_of (ev_con rfl G.n_MOST_DEEP))))))) (svs_one (sv_expr (ev_apO (i := 0) rfl (by first | exact Or.inl rfl | exact Or.inr (Or.inl rfl) | exact Or.inr (Or.inr rfl)) G.cls_Reading G.na_Reading_stack (ev_lst (own := true) eva_nil)))) (svs_one (sv_if (evt_w (evw_and (evt_cmp (op_eqD (u64 hr)) opg_eq (evv_var (i := 1) rfl (by first | exact Or.inl rfl | exact Or.inr (Or.inl rfl) | exact Or.inr (Or.inr rfl))) (evv_of ev_int)) (evw_and1 (evt_peek (i := 0) (evt_cmp op_gt opg_gt (evv_of (ev_callB call_lenA cg_len rfl G.m_len PySem.boot_len (eva_cons (evv_of (ev_getF (i := 0) rfl (by first | exact Or.inl rfl | exact Or.inr (Or.inl rfl) | exact Or.inr (Or.inr rfl)) G.cls_Reading G.na_Reading_stack)) eva_nil))) (evv_of ev_int)))))) (svs_cons (sv_set (i := 2) sc_Reading_takes.nd rfl (by first | exact Or.inl rfl | exact Or.inr rfl) (ev_callTy call_tupleA cg_tuple rfl G.m_tuple PySem.Pv.boot_tuple (eva_cons (evv_of (ev_frzM (ev_popF (i := 0) rfl (by first | exact Or.inl rfl | exact Or.inr (Or.inl rfl) | exact Or.inr (Or.inr rfl)) G.cls_Reading G.na_Reading_stack))) eva_nil)))
    (svs_one (sv_expr (ev_apF (i := 0) rfl (by first | exact Or.inl rfl | exact Or.inr (Or.inl rfl) | exact Or.inr (Or.inr rfl)) G.cls_Reading G.na_Reading_stack (ev_var (i := 2) rfl (by first | exact Or.inl rfl | exact Or.inr (Or.inl rfl) | exact Or.inr (Or.inr rfl))))))) (svs_one (sv_ret ev_bl)))))))))
    (svs_one (sv_ret ev_bl))))))
noncomputable def lb_tree_of_1 (K : PySem.W.Frag) (c : Ad) : SM :=
    (ifS (notT (tstV (toV (mcallF 2 1 c.Reading "takes" (g_Reading_takes K c) (argsCons (rdV 3) argsNil))))) (raiseA c.BadFile 1 [("at", 1)] (argsCons (toV (rdZ 2)) argsNil)) skipS)
noncomputable def bd_tree_of (K : PySem.W.Frag) (c : Ad) : SM :=
    (seqS (ifS (notT (tstV (toV (callF 1 (g_are_cells K c) (argsCons (rdV 0) argsNil))))) (raiseS c.BadCells) skipS)
    (seqS (setS 1 (newF c.Reading (g_Reading___init__ K c)))
    (seqS (forS (enumE (argsCons (toV (rdZ 0)) argsNil)) (gTupD 2 (gConsD (gN 2) (gConsD (gN 3) gNilD))) (lb_tree_of_1 K c))
    (seqS (ifS (notT (tstV (toV (mcallF 1 1 c.Reading "is_whole" (g_Reading_is_whole K c) argsNil)))) (raiseA c.BadFile 1 [("at", 1)] (argsCons (toV (callN (argsCons (rdV 0) argsNil) oLen)) argsNil)) skipS)
    (seqS (frzW 1) (retS (bin (toV (bin (toV (getF 1 c.Reading "stack")) (toV (cst (.int 0))) oIx)) (toV (cst (.int 0))) oIx)))))))
noncomputable def g_tree_of (K : PySem.W.Frag) (c : Ad) : DF := runF 1 4 [0] (bd_tree_of K c)
theorem ok_tree_of (G : Gs P w K mg base T c) : DefOk P w K T mg base 3 c.f_tree_of c.d_tree_of ["cells"] (g_tree_of K c) := def_ok (N := ["cells", "reading", "at", "cell"]) G.F_tree_of sc_tree_of (by decide) fun cdv A outer s H E hr =>
    (svs_cons (sv_if (evt_not (evt_val (evv_of (ev_call (ps := ["thing"]) ((ok_are_cells G).mono (by decide)) hr rfl G.g_are_cells G.k_are_cells G.b_are_cells (eva_cons (evv_var (i := 0) rfl (by first | exact Or.inl rfl | exact Or.inr (Or.inl rfl) | exact Or.inr (Or.inr rfl))) eva_nil))))) (svs_one (sv_raise rfl (pmk_own PySem.F.excBase_ValueError G.x_BadCells G.g_BadCells G.k_BadCells G.r_BadCells rfl))) svs_nil)
    (svs_cons (sv_set (i := 1) sc_tree_of.nd rfl (by first | exact Or.inl rfl | exact Or.inr rfl) (ev_new0 G.mk_Reading ((ok_Reading___init__ G).mono (by decide)) hr rfl G.g_Reading G.b_Reading___init__ passesF))
    (svs_cons (sv_for (passes_of rfl) rfl (evi_enum rfl G.m_enumerate (eva_cons (evv_of (ev_var (i := 0) rfl (by first | exact Or.inl rfl | exact Or.inr (Or.inl rfl) | exact Or.inr (Or.inr rfl)))) eva_nil)) (gv_tup rfl (gvs_cons (gv_name (i := 2) sc_tree_of.nd rfl (by first | exact Or.inl rfl | exact Or.inr rfl) (by first | exact Or.inl rfl | exact Or.inr rfl)) (gvs_cons (gv_name (i := 3) sc_tree_of.nd rfl (by first | exact Or.inl rfl | exact Or.inr rfl) (by first | exact Or.inl rfl | exact Or.inr rfl)) gvs_nil))) (svs_one (sv_if (evt_not (evt_val (evv_of (ev_mcall (i := 1) (ps := ["self", "cell"]) rfl (by first | exact Or.inl rfl | exact Or.inr (Or.inl rfl) | exact Or.inr (Or.inr rfl)) G.cls_Reading G.me_Reading_takes ((ok_Reading_takes G).mono (by decide)) hr G.b_Reading_takes (eva_cons (evv_var (i := 3) rfl (by first | exact Or.inl rfl | exact Or.inr (Or.inl rfl) | exact Or.inr (Or.inr rfl))) eva_nil))))) (svs_one (sv_raiseA (N := ["self", "at"]) (L := [("at", 1)]) rfl G.xi_BadFile.ox G.xi_BadFile.no (by simp) (by simp) (by decide) G.xi_BadFile.ini G.xi_BadFile.tyI G.xi_BadFile.fn (hr.mono (by decide)) G.xi_BadFile.bi passesF rfl G.g_BadFile (eva_cons (evv_of (ev_var (i := 2) rfl (by first | exact Or.inl rfl | exact Or.inr (Or.inl rfl) | exact Or.inr (Or.inr rfl)))) eva_nil))) svs_nil)))
    (svs_cons (sv_if (evt_not (evt_val (evv_of (ev_mcall0 (i := 1) (ps := ["self"]) rfl (by first | exact Or.inl rfl | exact Or.inr (Or.inl rfl) | exact Or.inr (Or.inr rfl)) G.cls_Reading G.me_Reading_is_whole ((ok_Reading_is_whole G).mono (by decide)) hr G.b_Reading_is_whole)))) (svs_one (sv_raiseA (N := ["self", "at"]) (L := [("at", 1)]) rfl G.xi_BadFile.ox G.xi_BadFile.no (by simp) (by simp) (by decide) G.xi_BadFile.ini G.xi_BadFile.tyI G.xi_BadFile.fn (hr.mono (by decide)) G.xi_BadFile.bi passesF rfl G.g_BadFile (eva_cons (evv_of (ev_callB call_lenA cg_len rfl G.m_len PySem.boot_len (eva_cons (evv_var (i := 0) rfl (by first | exact Or.inl rfl | exact Or.inr (Or.inl rfl) | exact Or.inr (Or.inr rfl))) eva_nil))) eva_nil))) svs_nil)
    (svs_frzW (i := 1) (svs_one (sv_ret (ev_ix ix_any opg_ix (evv_of (ev_ix ix_any opg_ix (evv_of (ev_getF (i := 1) rfl (by first | exact Or.inl rfl | exact Or.inr (Or.inl rfl) | exact Or.inr (Or.inr rfl)) G.cls_Reading G.na_Reading_stack)) (evv_of ev_int))) (evv_of ev_int)))))))))
noncomputable def ce_law_begun_1 (K : PySem.W.Frag) (c : Ad) : M OV :=
    (bin (toV (callN (argsCons (rdV 2) argsNil) oAbs)) (toV (bin (toV (cst (.int 10))) (toV (cst (.int 18))) oPow)) oSub)
noncomputable def ci_law_begun_1 (K : PySem.W.Frag) (c : Ad) : M Bool :=
    (asB (bin (toV (callN (argsCons (rdV 2) argsNil) oAbs)) (toV (bin (toV (cst (.int 10))) (toV (cst (.int 18))) oPow)) oGe))
noncomputable def ce_law_begun_2 (K : PySem.W.Frag) (c : Ad) : M OV :=
    (bin (toV (callN (argsCons (toV (callN (argsCons (rdV 2) argsNil) oAbs)) argsNil) oInt1)) (toV (cst (.int 2147483629))) oMod)
noncomputable def bd_law_begun (K : PySem.W.Frag) (c : Ad) : SM :=
    (seqS (setS 1 (compE true (itScr (rdZ 0)) (gN 2) (ci_law_begun_1 K c) (ce_law_begun_1 K c) [2]))
    (retS (dispM ["wide", "cells", "rest", "turn"] (osCons (mvS 1) (osCons (compE false (itScr (rdZ 0)) (gN 2) tYesM (ce_law_begun_2 K c) [2]) (osCons (cst (.int 0)) (osCons (cst (.int 0)) osNil)))))))
noncomputable def g_law_begun (K : PySem.W.Frag) (c : Ad) : DF := runF 1 3 [0] (bd_law_begun K c)
theorem ok_law_begun (G : Gs P w K mg base T c) : DefOk P w K T mg base 1 c.f_law_begun c.d_law_begun ["_law_script"] (g_law_begun K c) := def_ok (N := ["_law_script", "_law_wide", "_law_grain"]) G.F_law_begun sc_law_begun (by decide) fun cdv A outer s H E hr =>
    (svs_cons (sv_setC (i := 1) (own := true) (ownN := [("_law_grain", 2)]) rfl sc_law_begun.nd rfl rfl (sw_true rfl rfl rfl rfl) (evi_scr (ev_var (i := 0) rfl (by first | exact Or.inl rfl | exact Or.inr (Or.inl rfl) | exact Or.inr (Or.inr rfl)))) (blkOk_by rfl) (fun _ _ _ _ _ => (gv_name (i := 2) sc_law_begun.nd rfl (by first | exact Or.inl rfl | exact Or.inr rfl) (by first | exact Or.inl rfl | exact Or.inr rfl))) (fun _ _ _ _ _ => (evts_one (evt_cmp op_ge opg_ge (evv_of (ev_callB call_absA cg_abs rfl G.m_abs PyProof.Rows.boot_abs (eva_cons (evv_var (i := 2) rfl (by first | exact Or.inl rfl | exact Or.inr (Or.inl rfl) | exact Or.inr (Or.inr rfl))) eva_nil))) (evv_of (ev_op op_pow opg_pow (evv_of ev_int) (evv_of ev_int)))))) (fun _ _ _ _ _ => (ev_op op_sub opg_sub (evv_of (ev_callB call_absA cg_abs rfl G.m_abs PyProof.Rows.boot_abs (eva_cons (evv_var (i := 2) rfl (by first | exact Or.inl rfl | exact Or.inr (Or.inl rfl) | exact Or.inr (Or.inr rfl))) eva_nil))) (evv_of (ev_op op_pow opg_pow (evv_of ev_int) (evv_of ev_int))))))
    (svs_one (sv_ret (ev_disp (evd_cons (ev_move (i := 1) rfl (by first | exact Or.inl rfl | exact Or.inr (Or.inl rfl) | exact Or.inr (Or.inr rfl))) (evd_cons (ev_comp (own := false) (ownN := [("_law_grain", 2)]) rfl sc_law_begun.nd (evi_scr (ev_var (i := 0) rfl (by first | exact Or.inl rfl | exact Or.inr (Or.inl rfl) | exact Or.inr (Or.inr rfl)))) (blkOk_by rfl) (fun _ _ _ _ _ => (gv_name (i := 2) sc_law_begun.nd rfl (by first | exact Or.inl rfl | exact Or.inr rfl) (by first | exact Or.inl rfl | exact Or.inr rfl))) (fun _ _ _ _ _ => evts_nil) (fun _ _ _ _ _ => (ev_op op_mod opg_mod (evv_of (ev_callTy call_int1A cg_int1 rfl G.m_int PySem.Pv.boot_int (eva_cons (evv_of (ev_callB call_absA cg_abs rfl G.m_abs PyProof.Rows.boot_abs (eva_cons (evv_var (i := 2) rfl (by first | exact Or.inl rfl | exact Or.inr (Or.inl rfl) | exact Or.inr (Or.inr rfl))) eva_nil))) eva_nil))) (evv_of ev_int)))) (evd_cons ev_int (evd_cons ev_int evd_nil))))))))
noncomputable def lb_law_mixed_1 (K : PySem.W.Frag) (c : Ad) : SM :=
    (setS 4 (bin (toV (callN (argsCons (toV (bin (toV (bin (toV (bin (rdV 4) (toV (cst (.int 69621))) (oMulA false))) (rdV 5) (oAdd false))) (rdV 1) (oAdd false))) argsNil) oInt1)) (rdV 3) oMod))
noncomputable def lb_law_mixed_2 (K : PySem.W.Frag) (c : Ad) : SM :=
    (seqS (setS 4 (bin (toV (bin (toV (cst (.int 48271))) (rdV 1) (oMulA false))) (toV (bin (rdV 3) (toV (cst (.int 37))) oFdiv)) (oAdd false)))
    (seqS (forS (itE (dgetS 0 "cells")) (gN 5) (lb_law_mixed_1 K c))
    (setS 2 (bin (toV (bin (rdV 2) (toV (cst (.int 2147483647))) (oMulA false))) (toV (bin (toV (callN (argsCons (toV (bin (rdV 4) (toV (cst (.int 5))) oPow)) argsNil) oInt1)) (rdV 3) oMod)) (oAdd false)))))
noncomputable def bd_law_mixed (K : PySem.W.Frag) (c : Ad) : SM :=
    (seqS (parS [1, 2] (osCons (bin (toV (dgetS 0 "turn")) (toV (cst (.int 1))) (oAdd false)) (osCons (cst (.int 0)) osNil)))
    (seqS (dputS 0 "turn" (rdZ 1))
    (seqS (forS (itE (mkLst false (argsCons (toV (cst (.int 2147483647))) (argsCons (toV (cst (.int 2147483629))) (argsCons (toV (cst (.int 2147483587))) (argsCons (toV (cst (.int 2147483579))) argsNil)))))) (gN 3) (lb_law_mixed_2 K c))
    (retS (rdZ 2)))))
noncomputable def g_law_mixed (K : PySem.W.Frag) (c : Ad) : DF := runF 1 6 [0] (bd_law_mixed K c)
theorem ok_law_mixed (G : Gs P w K mg base T c) : DefOk P w K T mg base 1 c.f_law_mixed c.d_law_mixed ["_law_draw"] (g_law_mixed K c) := def_ok (N := ["_law_draw", "_law_turn", "_law_found", "_law_prime", "_law_blend", "_law_grain"]) G.F_law_mixed sc_law_mixed (by decide) fun cdv A outer s H E hr =>
    (svs_cons (sv_par rfl sc_law_mixed.nd (.cons (i := 1) rfl (by first | exact Or.inl rfl | exact Or.inr rfl) (by first | exact Or.inl rfl | exact Or.inr rfl) (.cons (i := 2) rfl (by first | exact Or.inl rfl | exact Or.inr rfl) (by first | exact Or.inl rfl | exact Or.inr rfl) .nil)) (evl_cons (ev_op op_addA (opg_addA (own := false)) (evv_of (ev_dget (i := 0) (u1 hr) rfl (by first | exact Or.inl rfl | exact Or.inr (Or.inl rfl) | exact Or.inr (Or.inr rfl)))) (evv_of ev_int)) (evl_cons ev_int evl_nil)))
    (svs_cons (sv_dput (i := 0) (u1 hr) rfl (by first | exact Or.inl rfl | exact Or.inr (Or.inl rfl) | exact Or.inr (Or.inr rfl)) (ev_var (i := 1) rfl (by first | exact Or.inl rfl | exact Or.inr (Or.inl rfl) | exact Or.inr (Or.inr rfl))))
    (svs_cons (sv_for (passes_of rfl) rfl (evi_seq (ev_lst (own := false) (eva_cons (evv_of ev_int) (eva_cons (evv_of ev_int) (eva_cons (evv_of ev_int) (eva_cons (evv_of ev_int) eva_nil)))))) (gv_name (i := 3) sc_law_mixed.nd rfl (by first | exact Or.inl rfl | exact Or.inr rfl) (by first | exact Or.inl rfl | exact Or.inr rfl)) (svs_cons (sv_set (i := 4) sc_law_mixed.nd rfl (by first | exact Or.inl rfl | exact Or.inr rfl) (ev_op op_addA (opg_addA (own := false)) (evv_of (ev_op op_mulA (opg_mulA (own := false)) (evv_of ev_int) (evv_var (i := 1) rfl (by first | exact Or.inl rfl | exact Or.inr (Or.inl rfl) | exact Or.inr (Or.inr rfl))))) (evv_of (ev_op op_fdiv opg_fdiv (evv_var (i := 3) rfl (by first | exact Or.inl rfl | exact Or.inr (Or.inl rfl) | exact Or.inr (Or.inr rfl))) (evv_of ev_int)))))
    (svs_cons (sv_for (passes_of rfl) rfl (evi_seq (ev_dget (i := 0) (u1 hr) rfl (by first | exact Or.inl rfl | exact Or.inr (Or.inl rfl) | exact Or.inr (Or.inr rfl)))) (gv_name (i := 5) sc_law_mixed.nd rfl (by first | exact Or.inl rfl | exact Or.inr rfl) (by first | exact Or.inl rfl | exact Or.inr rfl)) (svs_one (sv_set (i := 4) sc_law_mixed.nd rfl (by first | exact Or.inl rfl | exact Or.inr rfl) (ev_op op_mod opg_mod (evv_of (ev_callTy call_int1A cg_int1 rfl G.m_int PySem.Pv.boot_int (eva_cons (evv_of (ev_op op_addA (opg_addA (own := false)) (evv_of (ev_op op_addA (opg_addA (own := false)) (evv_of (ev_op op_mulA (opg_mulA (own := false)) (evv_var (i := 4) rfl (by first | exact Or.inl rfl | exact Or.inr (Or.inl rfl) | exact Or.inr (Or.inr rfl))) (evv_of ev_int))) (evv_var (i := 5) rfl (by first | exact Or.inl rfl | exact Or.inr (Or.inl rfl) | exact Or.inr (Or.inr rfl))))) (evv_var (i := 1) rfl (by first | exact Or.inl rfl | exact Or.inr (Or.inl rfl) | exact Or.inr (Or.inr rfl))))) eva_nil))) (evv_var (i := 3) rfl (by first | exact Or.inl rfl | exact Or.inr (Or.inl rfl) | exact Or.inr (Or.inr rfl)))))))
    (svs_one (sv_set (i := 2) sc_law_mixed.nd rfl (by first | exact Or.inl rfl | exact Or.inr rfl) (ev_op op_addA (opg_addA (own := false)) (evv_of (ev_op op_mulA (opg_mulA (own := false)) (evv_var (i := 2) rfl (by first | exact Or.inl rfl | exact Or.inr (Or.inl rfl) | exact Or.inr (Or.inr rfl))) (evv_of ev_int))) (evv_of (ev_op op_mod opg_mod (evv_of (ev_callTy call_int1A cg_int1 rfl G.m_int PySem.Pv.boot_int (eva_cons (evv_of (ev_op op_pow opg_pow (evv_var (i := 4) rfl (by first | exact Or.inl rfl | exact Or.inr (Or.inl rfl) | exact Or.inr (Or.inr rfl))) (evv_of ev_int))) eva_nil))) (evv_var (i := 3) rfl (by first | exact Or.inl rfl | exact Or.inr (Or.inl rfl) | exact Or.inr (Or.inr rfl)))))))))))
    (svs_one (sv_ret (ev_var (i := 2) rfl (by first | exact Or.inl rfl | exact Or.inr (Or.inl rfl) | exact Or.inr (Or.inr rfl))))))))
noncomputable def bd_law_take (K : PySem.W.Frag) (c : Ad) : SM :=
    (seqS (ifS (asB (bin (toV (dgetS 0 "rest")) (toV (cst (.int 0))) oEq)) (dputS 0 "rest" (ifE (dfull 0 "wide") (dpop0 0 "wide") (callF 1 (g_law_mixed K c) (argsCons (rdV 0) argsNil)))) skipS)
    (seqS (setS 2 (bin (toV (callN (argsCons (toV (dgetS 0 "rest")) argsNil) oInt1)) (rdV 1) oMod))
    (seqS (dputS 0 "rest" (bin (toV (dgetS 0 "rest")) (rdV 1) oFdiv))
    (retS (rdZ 2)))))
noncomputable def g_law_take (K : PySem.W.Frag) (c : Ad) : DF := runF 2 3 [0, 1] (bd_law_take K c)
theorem ok_law_take (G : Gs P w K mg base T c) : DefOk P w K T mg base 2 c.f_law_take c.d_law_take ["_law_draw", "_law_many"] (g_law_take K c) := def_ok (N := ["_law_draw", "_law_many", "_law_found"]) G.F_law_take sc_law_take (by decide) fun cdv A outer s H E hr =>
    (svs_cons (sv_if (evt_cmp (op_eqD (u64 hr)) opg_eq (evv_of (ev_dget (i := 0) (u1 hr) rfl (by first | exact Or.inl rfl | exact Or.inr (Or.inl rfl) | exact Or.inr (Or.inr rfl)))) (evv_of ev_int)) (svs_one (sv_dput (i := 0) (u1 hr) rfl (by first | exact Or.inl rfl | exact Or.inr (Or.inl rfl) | exact Or.inr (Or.inr rfl)) (ev_if (evt_dfull (i := 0) (u64 hr) rfl (by first | exact Or.inl rfl | exact Or.inr (Or.inl rfl) | exact Or.inr (Or.inr rfl))) (ev_dpop0 (i := 0) (u1 hr) rfl (by first | exact Or.inl rfl | exact Or.inr (Or.inl rfl) | exact Or.inr (Or.inr rfl))) (ev_call (ps := ["_law_draw"]) ((ok_law_mixed G).mono (by decide)) hr rfl G.g_law_mixed G.k_law_mixed G.b_law_mixed (eva_cons (evv_var (i := 0) rfl (by first | exact Or.inl rfl | exact Or.inr (Or.inl rfl) | exact Or.inr (Or.inr rfl))) eva_nil))))) svs_nil)
    (svs_cons (sv_set (i := 2) sc_law_take.nd rfl (by first | exact Or.inl rfl | exact Or.inr rfl) (ev_op op_mod opg_mod (evv_of (ev_callTy call_int1A cg_int1 rfl G.m_int PySem.Pv.boot_int (eva_cons (evv_of (ev_dget (i := 0) (u1 hr) rfl (by first | exact Or.inl rfl | exact Or.inr (Or.inl rfl) | exact Or.inr (Or.inr rfl)))) eva_nil))) (evv_var (i := 1) rfl (by first | exact Or.inl rfl | exact Or.inr (Or.inl rfl) | exact Or.inr (Or.inr rfl)))))
    (svs_cons (sv_dput (i := 0) (u1 hr) rfl (by first | exact Or.inl rfl | exact Or.inr (Or.inl rfl) | exact Or.inr (Or.inr rfl)) (ev_op op_fdiv opg_fdiv (evv_of (ev_dget (i := 0) (u1 hr) rfl (by first | exact Or.inl rfl | exact Or.inr (Or.inl rfl) | exact Or.inr (Or.inr rfl)))) (evv_var (i := 1) rfl (by first | exact Or.inl rfl | exact Or.inr (Or.inl rfl) | exact Or.inr (Or.inr rfl)))))
    (svs_one (sv_ret (ev_var (i := 2) rfl (by first | exact Or.inl rfl | exact Or.inr (Or.inl rfl) | exact Or.inr (Or.inr rfl))))))))
noncomputable def bd_law_pick (K : PySem.W.Frag) (c : Ad) : SM :=
    (retS (bin (rdV 1) (toV (callF 2 (g_law_take K c) (argsCons (rdV 0) (argsCons (toV (callN (argsCons (rdV 1) argsNil) oLen)) argsNil)))) oIx))
noncomputable def g_law_pick (K : PySem.W.Frag) (c : Ad) : DF := runF 2 2 [0, 1] (bd_law_pick K c)
theorem ok_law_pick (G : Gs P w K mg base T c) : DefOk P w K T mg base 3 c.f_law_pick c.d_law_pick ["_law_draw", "_law_some"] (g_law_pick K c) := def_ok (N := ["_law_draw", "_law_some"]) G.F_law_pick sc_law_pick (by decide) fun cdv A outer s H E hr =>
    (svs_one (sv_ret (ev_ix ix_any opg_ix (evv_var (i := 1) rfl (by first | exact Or.inl rfl | exact Or.inr (Or.inl rfl) | exact Or.inr (Or.inr rfl))) (evv_of (ev_call (ps := ["_law_draw", "_law_many"]) ((ok_law_take G).mono (by decide)) hr rfl G.g_law_take G.k_law_take G.b_law_take (eva_cons (evv_var (i := 0) rfl (by first | exact Or.inl rfl | exact Or.inr (Or.inl rfl) | exact Or.inr (Or.inr rfl))) (eva_cons (evv_of (ev_callB call_lenA cg_len rfl G.m_len PySem.boot_len (eva_cons (evv_var (i := 1) rfl (by first | exact Or.inl rfl | exact Or.inr (Or.inl rfl) | exact Or.inr (Or.inr rfl))) eva_nil))) eva_nil)))))))
noncomputable def bd_law_is_number (K : PySem.W.Frag) (c : Ad) : SM :=
    (retS (andV (isiV "int" (rdV 0)) (andV (notV (toV (isiV "bool" (rdV 0)))) (chain (rdV 1) (rdV 0) (rdV 2) oLe oLt))))
noncomputable def g_law_is_number (K : PySem.W.Frag) (c : Ad) : DF := runF 3 3 [0, 1, 2] (bd_law_is_number K c)
theorem ok_law_is_number (G : Gs P w K mg base T c) : DefOk P w K T mg base 1 c.f_law_is_number c.d_law_is_number ["_law_thing", "_law_low", "_law_end"] (g_law_is_number K c) := def_ok (N := ["_law_thing", "_law_low", "_law_end"]) G.F_law_is_number sc_law_is_number (by decide) fun cdv A outer s H E hr =>
    (svs_one (sv_ret (ev_and (ev_isi (k := 0) rfl G.m_isinstance (evv_var (i := 0) rfl (by first | exact Or.inl rfl | exact Or.inr (Or.inl rfl) | exact Or.inr (Or.inr rfl))) (pe_bltn (v := .ty "int") (u := .type "int") rfl G.m_int (by decide +kernel) rfl)) (ev_and (ev_not (evv_of (ev_isi (k := 0) rfl G.m_isinstance (evv_var (i := 0) rfl (by first | exact Or.inl rfl | exact Or.inr (Or.inl rfl) | exact Or.inr (Or.inr rfl))) (pe_bltn (v := .ty "bool") (u := .type "bool") rfl G.m_bool (by decide +kernel) rfl)))) (ev_one (ev_chain op_le opg_le op_lt opg_lt (evv_var (i := 1) rfl (by first | exact Or.inl rfl | exact Or.inr (Or.inl rfl) | exact Or.inr (Or.inr rfl))) (evv_var (i := 0) rfl (by first | exact Or.inl rfl | exact Or.inr (Or.inl rfl) | exact Or.inr (Or.inr rfl))) (evv_var (i := 2) rfl (by first | exact Or.inl rfl | exact Or.inr (Or.inl rfl) | exact Or.inr (Or.inr rfl)))))))))
noncomputable def bd_law_strange (K : PySem.W.Frag) (c : Ad) : SM :=
    (seqS (setS 1 (mkLst false (argsCons (toV (cst .none)) (argsCons (toV (cst (.bool true))) (argsCons (toV (cst (.bool false))) (argsCons (toV (cst (.int 0))) (argsCons (toV (cst (.int 1))) (argsCons (toV (cst (.int 2))) (argsCons (toV (cst (.int 5))) (argsCons (toV (cst (.int 13))) (argsCons (toV (cst (.int 20))) (argsCons (toV (cst (.int 21))) (argsCons (toV (cst (.int 39))) (argsCons (toV (cst (.int 40))) (argsCons (toV (cst (.int 62))) (argsCons (toV (cst (.int 63))) (argsCons (toV (cst (.int 64))) (argsCons (toV (negV (toV (cst (.int 1))))) (argsCons (toV (cst (.str ""))) (argsCons (toV (cst (.str "a"))) (argsCons (toV (cst (.str "set"))) (argsCons (toV (cst (.str "row"))) (argsCons (toV (cst (.str "name"))) (argsCons (toV (cst (.str "near"))) (argsCons (toV (cst (.str "branch"))) (argsCons (toV (cst (.str "goto"))) (argsCons (toV (cst (.str "load"))) (argsCons (toV (cst (.str "take"))) argsNil))))))))))))))))))))))))))))
    (retS (callF 2 (g_law_pick K c) (argsCons (rdV 0) (argsCons (toV (bin (rdV 1) (toV (mkLst false (argsCons (toV (cst (.str "own"))) (argsCons (toV (cst (.str "open"))) (argsCons (toV (cst (.str "weak"))) (argsCons (toV (cst (.str "strong"))) (argsCons (toV (cst (.str "code"))) (argsCons (toV (cst (.str "data"))) (argsCons (toV (cst (.str "object"))) (argsCons (toV (mkTup argsNil)) (argsCons (toV (mkTup (argsCons (toV (cst (.int 0))) argsNil))) (argsCons (toV (mkTup (argsCons (toV (cst (.int 1))) (argsCons (toV (cst (.int 2))) argsNil)))) (argsCons (toV (mkTup (argsCons (toV (cst (.str "row"))) (argsCons (toV (cst (.int 0))) argsNil)))) (argsCons (toV (mkTup (argsCons (toV (cst (.str "name"))) (argsCons (toV (cst (.str "a"))) argsNil)))) (argsCons (toV (mkLst false argsNil)) (argsCons (toV (mkLst false (argsCons (toV (cst (.str "a"))) argsNil))) (argsCons (toV (cst (.str "abcdefghi"))) (argsCons (toV (cst (.int 32767))) (argsCons (toV (cst (.int 32768))) argsNil))))))))))))))))))) (oAdd false))) argsNil)))))
noncomputable def g_law_strange (K : PySem.W.Frag) (c : Ad) : DF := runF 1 2 [0] (bd_law_strange K c)
theorem ok_law_strange (G : Gs P w K mg base T c) : DefOk P w K T mg base 4 c.f_law_strange c.d_law_strange ["_law_draw"] (g_law_strange K c) := def_ok (N := ["_law_draw", "_law_some"]) G.F_law_strange sc_law_strange (by decide) fun cdv A outer s H E hr =>
    (svs_cons (sv_set (i := 1) sc_law_strange.nd rfl (by first | exact Or.inl rfl | exact Or.inr rfl) (ev_lst (own := false) (eva_cons (evv_of ev_non) (eva_cons (evv_of ev_bl) (eva_cons (evv_of ev_bl) (eva_cons (evv_of ev_int) (eva_cons (evv_of ev_int) (eva_cons (evv_of ev_int) (eva_cons (evv_of ev_int) (eva_cons (evv_of ev_int) (eva_cons (evv_of ev_int) (eva_cons (evv_of ev_int) (eva_cons (evv_of ev_int) (eva_cons (evv_of ev_int) (eva_cons (evv_of ev_int) (eva_cons (evv_of ev_int) (eva_cons (evv_of ev_int) (eva_cons (evv_of (ev_neg (evv_of ev_int))) (eva_cons (evv_of ev_str) (eva_cons (evv_of ev_str) (eva_cons (evv_of ev_str) (eva_cons (evv_of ev_str) (eva_cons (evv_of ev_str) (eva_cons (evv_of ev_str) (eva_cons (evv_of ev_str) (eva_cons (evv_of ev_str) (eva_cons (evv_of ev_str) (eva_cons (evv_of ev_str) eva_nil))))))))))))))))))))))))))))
    (svs_one (sv_ret (ev_call (ps := ["_law_draw", "_law_some"]) ((ok_law_pick G).mono (by decide)) hr rfl G.g_law_pick G.k_law_pick G.b_law_pick (eva_cons (evv_var (i := 0) rfl (by first | exact Or.inl rfl | exact Or.inr (Or.inl rfl) | exact Or.inr (Or.inr rfl))) (eva_cons (evv_of (ev_op op_addA (opg_addA (own := false)) (evv_var (i := 1) rfl (by first | exact Or.inl rfl | exact Or.inr (Or.inl rfl) | exact Or.inr (Or.inr rfl))) (evv_of (ev_lst (own := false) (eva_cons (evv_of ev_str) (eva_cons (evv_of ev_str) (eva_cons (evv_of ev_str) (eva_cons (evv_of ev_str) (eva_cons (evv_of ev_str) (eva_cons (evv_of ev_str) (eva_cons (evv_of ev_str) (eva_cons (evv_of (ev_tup eva_nil)) (eva_cons (evv_of (ev_tup (eva_cons (evv_of ev_int) eva_nil))) (eva_cons (evv_of (ev_tup (eva_cons (evv_of ev_int) (eva_cons (evv_of ev_int) eva_nil)))) (eva_cons (evv_of (ev_tup (eva_cons (evv_of ev_str) (eva_cons (evv_of ev_int) eva_nil)))) (eva_cons (evv_of (ev_tup (eva_cons (evv_of ev_str) (eva_cons (evv_of ev_str) eva_nil)))) (eva_cons (evv_of (ev_lst (own := false) eva_nil)) (eva_cons (evv_of (ev_lst (own := false) (eva_cons (evv_of ev_str) eva_nil))) (eva_cons (evv_of ev_str) (eva_cons (evv_of ev_int) (eva_cons (evv_of ev_int) eva_nil))))))))))))))))))))) eva_nil))))))
noncomputable def bd_law_changed (K : PySem.W.Frag) (c : Ad) (gs : DF) : SM :=
    (seqS (ifS (orT (notT (tstV (toV (isiV "tuple" (rdV 1))))) (orT (asB (bin (rdV 1) (toV (mkTup argsNil)) oEq)) (asB (bin (toV (callF 2 (g_law_take K c) (argsCons (rdV 0) (argsCons (toV (cst (.int 7))) argsNil)))) (toV (cst (.int 0))) oEq)))) (retS (ifE (andT (tstV (toV (isiV "tuple" (rdV 1)))) (asB (bin (toV (callF 2 (g_law_take K c) (argsCons (rdV 0) (argsCons (toV (cst (.int 6))) argsNil)))) (toV (cst (.int 0))) oEq))) (callN (argsCons (rdV 1) argsNil) (oList false)) (callF 1 (g_law_strange K c) (argsCons (rdV 0) argsNil)))) skipS)
    (seqS (parS [2, 3] (osCons (callF 2 (g_law_take K c) (argsCons (rdV 0) (argsCons (toV (callN (argsCons (rdV 1) argsNil) oLen)) argsNil))) (osCons (callF 2 (g_law_take K c) (argsCons (rdV 0) (argsCons (toV (cst (.int 9))) argsNil))) osNil)))
    (seqS (ifS (asB (bin (rdV 3) (toV (cst (.int 0))) oEq)) (retS (bin (toV (slA false (rdV 1) noPart (part (rdV 2)))) (toV (slA false (rdV 1) (part (toV (bin (rdV 2) (toV (cst (.int 1))) (oAdd false)))) noPart)) (oAdd false))) skipS)
    (seqS (ifS (asB (bin (rdV 3) (toV (cst (.int 1))) oEq)) (retS (bin (toV (bin (toV (slA false (rdV 1) noPart (part (rdV 2)))) (toV (mkTup (argsCons (toV (bin (rdV 1) (rdV 2) oIx)) argsNil))) (oAdd false))) (toV (slA false (rdV 1) (part (rdV 2)) noPart)) (oAdd false))) skipS)
    (retS (bin (toV (bin (toV (slA false (rdV 1) noPart (part (rdV 2)))) (toV (mkTup (argsCons (toV (callF 2 gs (argsCons (rdV 0) (argsCons (toV (bin (rdV 1) (rdV 2) oIx)) argsNil)))) argsNil))) (oAdd false))) (toV (slA false (rdV 1) (part (toV (bin (rdV 2) (toV (cst (.int 1))) (oAdd false)))) noPart)) (oAdd false)))))))
noncomputable def g_law_changed (K : PySem.W.Frag) (c : Ad) : Nat → DF
  | 0 => fun _ => none
  | n + 1 => runF 2 4 [0, 1] (bd_law_changed K c (g_law_changed K c n))
theorem ok_law_changed (G : Gs P w K mg base T c) : ∀ n, DefOk P w K T mg base (4 + n) c.f_law_changed c.d_law_changed ["_law_draw", "_law_tree_here"] (g_law_changed K c n)
  | 0 => def_none
  | n + 1 => def_ok (N := ["_law_draw", "_law_tree_here", "_law_at", "_law_deed"]) G.F_law_changed sc_law_changed (by decide) fun cdv A outer s H E hr =>
    have hs : DefOk P w K T mg base (4 + n) c.f_law_changed c.d_law_changed ["_law_draw", "_law_tree_here"] (g_law_changed K c n) := ok_law_changed G n
    (svs_cons (sv_if (evt_w (evw_or (evt_not (evt_val (evv_of (ev_isi (k := 0) rfl G.m_isinstance (evv_var (i := 1) rfl (by first | exact Or.inl rfl | exact Or.inr (Or.inl rfl) | exact Or.inr (Or.inr rfl))) (pe_bltn (v := .ty "tuple") (u := .type "tuple") rfl G.m_tuple (by decide +kernel) rfl))))) (evw_or (evt_cmp (op_eqD (u64 hr)) opg_eq (evv_var (i := 1) rfl (by first | exact Or.inl rfl | exact Or.inr (Or.inl rfl) | exact Or.inr (Or.inr rfl))) (evv_of (ev_tup eva_nil))) (evw_or1 (evt_cmp (op_eqD (u64 hr)) opg_eq (evv_of (ev_call (ps := ["_law_draw", "_law_many"]) ((ok_law_take G).mono (Nat.le_trans (by decide) (Nat.le_add_right 4 n))) hr rfl G.g_law_take G.k_law_take G.b_law_take (eva_cons (evv_var (i := 0) rfl (by first | exact Or.inl rfl | exact Or.inr (Or.inl rfl) | exact Or.inr (Or.inr rfl))) (eva_cons (evv_of ev_int) eva_nil)))) (evv_of ev_int)))))) (svs_one (sv_ret (ev_if (evt_w (evw_and (evt_val (evv_of (ev_isi (k := 0) rfl G.m_isinstance (evv_var (i := 1) rfl (by first | exact Or.inl rfl | exact Or.inr (Or.inl rfl) | exact Or.inr (Or.inr rfl))) (pe_bltn (v := .ty "tuple") (u := .type "tuple") rfl G.m_tuple (by decide +kernel) rfl)))) (evw_and1 (evt_cmp (op_eqD (u64 hr)) opg_eq (evv_of (ev_call (ps := ["_law_draw", "_law_many"]) ((ok_law_take G).mono (Nat.le_trans (by decide) (Nat.le_add_right 4 n))) hr rfl G.g_law_take G.k_law_take G.b_law_take (eva_cons (evv_var (i := 0) rfl (by first | exact Or.inl rfl | exact Or.inr (Or.inl rfl) | exact Or.inr (Or.inr rfl))) (eva_cons (evv_of ev_int) eva_nil)))) (evv_of ev_int))))) (ev_callTy call_listA (cg_list (own := false)) rfl G.m_list PySem.Pv.boot_list (eva_cons (evv_var (i := 1) rfl (by first | exact Or.inl rfl | exact Or.inr (Or.inl rfl) | exact Or.inr (Or.inr rfl))) eva_nil)) (ev_call (ps := ["_law_draw"]) ((ok_law_strange G).mono (Nat.le_trans (by decide) (Nat.le_add_right 4 n))) hr rfl G.g_law_strange G.k_law_strange G.b_law_strange (eva_cons (evv_var (i := 0) rfl (by first | exact Or.inl rfl | exact Or.inr (Or.inl rfl) | exact Or.inr (Or.inr rfl))) eva_nil))))) svs_nil)
    (svs_cons (sv_par rfl sc_law_changed.nd (.cons (i := 2) rfl (by first | exact Or.inl rfl | exact Or.inr rfl) (by first | exact Or.inl rfl | exact Or.inr rfl) (.cons (i := 3) rfl (by first | exact Or.inl rfl | exact Or.inr rfl) (by first | exact Or.inl rfl | exact Or.inr rfl) .nil)) (evl_cons (ev_call (ps := ["_law_draw", "_law_many"]) ((ok_law_take G).mono (Nat.le_trans (by decide) (Nat.le_add_right 4 n))) hr rfl G.g_law_take G.k_law_take G.b_law_take (eva_cons (evv_var (i := 0) rfl (by first | exact Or.inl rfl | exact Or.inr (Or.inl rfl) | exact Or.inr (Or.inr rfl))) (eva_cons (evv_of (ev_callB call_lenA cg_len rfl G.m_len PySem.boot_len (eva_cons (evv_var (i := 1) rfl (by first | exact Or.inl rfl | exact Or.inr (Or.inl rfl) | exact Or.inr (Or.inr rfl))) eva_nil))) eva_nil))) (evl_cons (ev_call (ps := ["_law_draw", "_law_many"]) ((ok_law_take G).mono (Nat.le_trans (by decide) (Nat.le_add_right 4 n))) hr rfl G.g_law_take G.k_law_take G.b_law_take (eva_cons (evv_var (i := 0) rfl (by first | exact Or.inl rfl | exact Or.inr (Or.inl rfl) | exact Or.inr (Or.inr rfl))) (eva_cons (evv_of ev_int) eva_nil))) evl_nil)))
    (svs_cons (sv_if (evt_cmp (op_eqD (u64 hr)) opg_eq (evv_var (i := 3) rfl (by first | exact Or.inl rfl | exact Or.inr (Or.inl rfl) | exact Or.inr (Or.inr rfl))) (evv_of ev_int)) (svs_one (sv_ret (ev_op op_addA (opg_addA (own := false)) (evv_of (ev_slice (own := false) (evv_var (i := 1) rfl (by first | exact Or.inl rfl | exact Or.inr (Or.inl rfl) | exact Or.inr (Or.inr rfl))) evo_none (evo_some (evv_var (i := 2) rfl (by first | exact Or.inl rfl | exact Or.inr (Or.inl rfl) | exact Or.inr (Or.inr rfl)))))) (evv_of (ev_slice (own := false) (evv_var (i := 1) rfl (by first | exact Or.inl rfl | exact Or.inr (Or.inl rfl) | exact Or.inr (Or.inr rfl))) (evo_some (evv_of (ev_op op_addA (opg_addA (own := false)) (evv_var (i := 2) rfl (by first | exact Or.inl rfl | exact Or.inr (Or.inl rfl) | exact Or.inr (Or.inr rfl))) (evv_of ev_int)))) evo_none))))) svs_nil)
    (svs_cons (sv_if (evt_cmp (op_eqD (u64 hr)) opg_eq (evv_var (i := 3) rfl (by first | exact Or.inl rfl | exact Or.inr (Or.inl rfl) | exact Or.inr (Or.inr rfl))) (evv_of ev_int)) (svs_one (sv_ret (ev_op op_addA (opg_addA (own := false)) (evv_of (ev_op op_addA (opg_addA (own := false)) (evv_of (ev_slice (own := false) (evv_var (i := 1) rfl (by first | exact Or.inl rfl | exact Or.inr (Or.inl rfl) | exact Or.inr (Or.inr rfl))) evo_none (evo_some (evv_var (i := 2) rfl (by first | exact Or.inl rfl | exact Or.inr (Or.inl rfl) | exact Or.inr (Or.inr rfl)))))) (evv_of (ev_tup (eva_cons (evv_of (ev_ix ix_any opg_ix (evv_var (i := 1) rfl (by first | exact Or.inl rfl | exact Or.inr (Or.inl rfl) | exact Or.inr (Or.inr rfl))) (evv_var (i := 2) rfl (by first | exact Or.inl rfl | exact Or.inr (Or.inl rfl) | exact Or.inr (Or.inr rfl))))) eva_nil))))) (evv_of (ev_slice (own := false) (evv_var (i := 1) rfl (by first | exact Or.inl rfl | exact Or.inr (Or.inl rfl) | exact Or.inr (Or.inr rfl))) (evo_some (evv_var (i := 2) rfl (by first | exact Or.inl rfl | exact Or.inr (Or.inl rfl) | exact Or.inr (Or.inr rfl)))) evo_none))))) svs_nil)
    (svs_one (sv_ret (ev_op op_addA (opg_addA (own := false)) (evv_of (ev_op op_addA (opg_addA (own := false)) (evv_of (ev_slice (own := false) (evv_var (i := 1) rfl (by first | exact Or.inl rfl | exact Or.inr (Or.inl rfl) | exact Or.inr (Or.inr rfl))) evo_none (evo_some (evv_var (i := 2) rfl (by first | exact Or.inl rfl | exact Or.inr (Or.inl rfl) | exact Or.inr (Or.inr rfl)))))) (evv_of (ev_tup (eva_cons (evv_of (ev_call (ps := ["_law_draw", "_law_tree_here"]) hs hr rfl G.g_law_changed G.k_law_changed G.b_law_changed (eva_cons (evv_var (i := 0) rfl (by first | exact Or.inl rfl | exact Or.inr (Or.inl rfl) | exact Or.inr (Or.inr rfl))) (eva_cons (evv_of (ev_ix ix_any opg_ix (evv_var (i := 1) rfl (by first | exact Or.inl rfl | exact Or.inr (Or.inl rfl) | exact Or.inr (Or.inr rfl))) (evv_var (i := 2) rfl (by first | exact Or.inl rfl | exact Or.inr (Or.inl rfl) | exact Or.inr (Or.inr rfl))))) eva_nil)))) eva_nil))))) (evv_of (ev_slice (own := false) (evv_var (i := 1) rfl (by first | exact Or.inl rfl | exact Or.inr (Or.inl rfl) | exact Or.inr (Or.inr rfl))) (evo_some (evv_of (ev_op op_addA (opg_addA (own := false)) (evv_var (i := 2) rfl (by first | exact Or.inl rfl | exact Or.inr (Or.inl rfl) | exact Or.inr (Or.inr rfl))) (evv_of ev_int)))) evo_none)))))))))
noncomputable def lb_law_tree_cells_1 (K : PySem.W.Frag) (c : Ad) (gs : DF) : SM :=
    (setS 1 (bin (rdV 1) (toV (callF 1 gs (argsCons (rdV 2) argsNil))) (oAdd false)))
noncomputable def ce_law_tree_cells_1 (K : PySem.W.Frag) (c : Ad) (gs : DF) : M OV :=
    (methN "str" (toV (cst (.str " abcdefghijklmnopqrstuvwxyz"))) (argsCons (rdV 5) argsNil) oSidx)
noncomputable def bd_law_tree_cells (K : PySem.W.Frag) (c : Ad) (gs : DF) : SM :=
    (seqS (ifS (orT (asB (bin (rdV 0) (toV (cst .none)) oIsN)) (orT (asB (bin (rdV 0) (toV (cst (.bool true))) oIsB)) (asB (bin (rdV 0) (toV (cst (.bool false))) oIsB)))) (retS (mkLst false (argsCons (toV (ifE (asB (bin (rdV 0) (toV (cst .none)) oIsN)) (cst (.int 29)) (ifE (tstV (rdV 0)) (cst (.int 31)) (cst (.int 30))))) argsNil))) skipS)
    (seqS (ifS (tstV (toV (isiV "tuple" (rdV 0)))) (seqS (setS 1 (mkLst false (argsCons (toV (cst (.int 27))) argsNil)))
    (seqS (forS (itE (rdZ 0)) (gN 2) (lb_law_tree_cells_1 K c gs))
    (retS (bin (rdV 1) (toV (mkLst false (argsCons (toV (cst (.int 28))) argsNil))) (oAdd false))))) skipS)
    (seqS (ifS (tstV (toV (isiV "str" (rdV 0)))) (seqS (setS 3 (compE false (itS (rdZ 0)) (gN 5) tYesM (ce_law_tree_cells_1 K c gs) [5]))
    (retS (ifE (asB (bin (rdV 0) (toV (cst (.str ""))) oNe)) (bin (toV (slA false (rdV 3) noPart (part (toV (negV (toV (cst (.int 1)))))))) (toV (mkLst false (argsCons (toV (bin (toV (bin (rdV 3) (toV (negV (toV (cst (.int 1))))) oIx)) (toV (cst (.int 32))) (oAdd false))) argsNil))) (oAdd false)) (mkLst false (argsCons (toV (cst (.int 32))) argsNil))))) skipS)
    (seqS (setS 4 (ifE (asB (bin (rdV 0) (toV (cst (.int 1024))) oGe)) (mkLst false (argsCons (toV (bin (toV (bin (rdV 0) (toV (cst (.int 1024))) oFdiv)) (toV (cst (.int 32))) (oAdd false))) (argsCons (toV (bin (toV (bin (toV (bin (rdV 0) (toV (cst (.int 32))) oFdiv)) (toV (cst (.int 32))) oMod)) (toV (cst (.int 32))) (oAdd false))) argsNil))) (ifE (asB (bin (rdV 0) (toV (cst (.int 32))) oGe)) (mkLst false (argsCons (toV (bin (toV (bin (rdV 0) (toV (cst (.int 32))) oFdiv)) (toV (cst (.int 32))) (oAdd false))) argsNil)) (mkLst false argsNil))))
    (retS (bin (toV (bin (toV (mkLst false (argsCons (toV (cst (.int 59))) argsNil))) (rdV 4) (oAdd false))) (toV (mkLst false (argsCons (toV (bin (toV (callN (argsCons (rdV 0) argsNil) oInt1)) (toV (cst (.int 32))) oMod)) argsNil))) (oAdd false)))))))
noncomputable def g_law_tree_cells (K : PySem.W.Frag) (c : Ad) : Nat → DF
  | 0 => fun _ => none
  | n + 1 => runF 1 6 [0] (bd_law_tree_cells K c (g_law_tree_cells K c n))
theorem ok_law_tree_cells (G : Gs P w K mg base T c) : ∀ n, DefOk P w K T mg base (0 + n) c.f_law_tree_cells c.d_law_tree_cells ["_law_tree_here"] (g_law_tree_cells K c n)
  | 0 => def_none
  | n + 1 => def_ok (N := ["_law_tree_here", "_law_cells", "_law_part", "_law_letters", "_law_high", "_law_sign"]) G.F_law_tree_cells sc_law_tree_cells (by decide) fun cdv A outer s H E hr =>
    have hs : DefOk P w K T mg base (0 + n) c.f_law_tree_cells c.d_law_tree_cells ["_law_tree_here"] (g_law_tree_cells K c n) := ok_law_tree_cells G n
    (svs_cons (sv_if (evt_w (evw_or (evt_cmp op_isN opg_isN (evv_var (i := 0) rfl (by first | exact Or.inl rfl | exact Or.inr (Or.inl rfl) | exact Or.inr (Or.inr rfl))) (evv_of ev_non)) (evw_or (evt_cmp op_isBA opg_isB (evv_var (i := 0) rfl (by first | exact Or.inl rfl | exact Or.inr (Or.inl rfl) | exact Or.inr (Or.inr rfl))) (evv_of ev_bl)) (evw_or1 (evt_cmp op_isBA opg_isB (evv_var (i := 0) rfl (by first | exact Or.inl rfl | exact Or.inr (Or.inl rfl) | exact Or.inr (Or.inr rfl))) (evv_of ev_bl)))))) (svs_one (sv_ret (ev_lst (own := false) (eva_cons (evv_of (ev_if (evt_cmp op_isN opg_isN (evv_var (i := 0) rfl (by first | exact Or.inl rfl | exact Or.inr (Or.inl rfl) | exact Or.inr (Or.inr rfl))) (evv_of ev_non)) ev_int (ev_if (evt_val (evv_var (i := 0) rfl (by first | exact Or.inl rfl | exact Or.inr (Or.inl rfl) | exact Or.inr (Or.inr rfl)))) ev_int ev_int))) eva_nil)))) svs_nil)
    (svs_cons (sv_if (evt_val (evv_of (ev_isi (k := 0) rfl G.m_isinstance (evv_var (i := 0) rfl (by first | exact Or.inl rfl | exact Or.inr (Or.inl rfl) | exact Or.inr (Or.inr rfl))) (pe_bltn (v := .ty "tuple") (u := .type "tuple") rfl G.m_tuple (by decide +kernel) rfl)))) (svs_cons (sv_set (i := 1) sc_law_tree_cells.nd rfl (by first | exact Or.inl rfl | exact Or.inr rfl) (ev_lst (own := false) (eva_cons (evv_of ev_int) eva_nil)))
    (svs_cons (sv_for (passes_of rfl) rfl (evi_seq (ev_var (i := 0) rfl (by first | exact Or.inl rfl | exact Or.inr (Or.inl rfl) | exact Or.inr (Or.inr rfl)))) (gv_name (i := 2) sc_law_tree_cells.nd rfl (by first | exact Or.inl rfl | exact Or.inr rfl) (by first | exact Or.inl rfl | exact Or.inr rfl)) (svs_one (sv_set (i := 1) sc_law_tree_cells.nd rfl (by first | exact Or.inl rfl | exact Or.inr rfl) (ev_op op_addA (opg_addA (own := false)) (evv_var (i := 1) rfl (by first | exact Or.inl rfl | exact Or.inr (Or.inl rfl) | exact Or.inr (Or.inr rfl))) (evv_of (ev_call (ps := ["_law_tree_here"]) hs hr rfl G.g_law_tree_cells G.k_law_tree_cells G.b_law_tree_cells (eva_cons (evv_var (i := 2) rfl (by first | exact Or.inl rfl | exact Or.inr (Or.inl rfl) | exact Or.inr (Or.inr rfl))) eva_nil)))))))
    (svs_one (sv_ret (ev_op op_addA (opg_addA (own := false)) (evv_var (i := 1) rfl (by first | exact Or.inl rfl | exact Or.inr (Or.inl rfl) | exact Or.inr (Or.inr rfl))) (evv_of (ev_lst (own := false) (eva_cons (evv_of ev_int) eva_nil)))))))) svs_nil)
    (svs_cons (sv_if (evt_val (evv_of (ev_isi (k := 0) rfl G.m_isinstance (evv_var (i := 0) rfl (by first | exact Or.inl rfl | exact Or.inr (Or.inl rfl) | exact Or.inr (Or.inr rfl))) (pe_bltn (v := .ty "str") (u := .type "str") rfl G.m_str (by decide +kernel) rfl)))) (svs_cons (sv_setC (i := 3) (own := false) (ownN := [("_law_sign", 5)]) rfl sc_law_tree_cells.nd rfl rfl (sw_true rfl rfl rfl rfl) (evi_str (ev_var (i := 0) rfl (by first | exact Or.inl rfl | exact Or.inr (Or.inl rfl) | exact Or.inr (Or.inr rfl)))) (blkOk_by rfl) (fun _ _ _ _ _ => (gv_name (i := 5) sc_law_tree_cells.nd rfl (by first | exact Or.inl rfl | exact Or.inr rfl) (by first | exact Or.inl rfl | exact Or.inr rfl))) (fun _ _ _ _ _ => evts_nil) (fun _ _ _ _ _ => (ev_meth PySem.F.plainAttrs_str PySem.F.slot_str_index PySem.F.type_str_index mt_sindex mg_sidx (evv_of ev_str) (eva_cons (evv_var (i := 5) rfl (by first | exact Or.inl rfl | exact Or.inr (Or.inl rfl) | exact Or.inr (Or.inr rfl))) eva_nil))))
    (svs_one (sv_ret (ev_if (evt_cmp (op_neD (u64 hr)) opg_ne (evv_var (i := 0) rfl (by first | exact Or.inl rfl | exact Or.inr (Or.inl rfl) | exact Or.inr (Or.inr rfl))) (evv_of ev_str)) (ev_op op_addA (opg_addA (own := false)) (evv_of (ev_slice (own := false) (evv_var (i := 3) rfl (by first | exact Or.inl rfl | exact Or.inr (Or.inl rfl) | exact Or.inr (Or.inr rfl))) evo_none (evo_some (evv_of (ev_neg (evv_of ev_int)))))) (evv_of (ev_lst (own := false) (eva_cons (evv_of (ev_op op_addA (opg_addA (own := false)) (evv_of (ev_ix ix_any opg_ix (evv_var (i := 3) rfl (by first | exact Or.inl rfl | exact Or.inr (Or.inl rfl) | exact Or.inr (Or.inr rfl))) (evv_of (ev_neg (evv_of ev_int))))) (evv_of ev_int))) eva_nil)))) (ev_lst (own := false) (eva_cons (evv_of ev_int) eva_nil)))))) svs_nil)
    (svs_cons (sv_set (i := 4) sc_law_tree_cells.nd rfl (by first | exact Or.inl rfl | exact Or.inr rfl) (ev_if (evt_cmp op_ge opg_ge (evv_var (i := 0) rfl (by first | exact Or.inl rfl | exact Or.inr (Or.inl rfl) | exact Or.inr (Or.inr rfl))) (evv_of ev_int)) (ev_lst (own := false) (eva_cons (evv_of (ev_op op_addA (opg_addA (own := false)) (evv_of (ev_op op_fdiv opg_fdiv (evv_var (i := 0) rfl (by first | exact Or.inl rfl | exact Or.inr (Or.inl rfl) | exact Or.inr (Or.inr rfl))) (evv_of ev_int))) (evv_of ev_int))) (eva_cons (evv_of (ev_op op_addA (opg_addA (own := false)) (evv_of (ev_op op_mod opg_mod (evv_of (ev_op op_fdiv opg_fdiv (evv_var (i := 0) rfl (by first | exact Or.inl rfl | exact Or.inr (Or.inl rfl) | exact Or.inr (Or.inr rfl))) (evv_of ev_int))) (evv_of ev_int))) (evv_of ev_int))) eva_nil))) (ev_if (evt_cmp op_ge opg_ge (evv_var (i := 0) rfl (by first | exact Or.inl rfl | exact Or.inr (Or.inl rfl) | exact Or.inr (Or.inr rfl))) (evv_of ev_int)) (ev_lst (own := false) (eva_cons (evv_of (ev_op op_addA (opg_addA (own := false)) (evv_of (ev_op op_fdiv opg_fdiv (evv_var (i := 0) rfl (by first | exact Or.inl rfl | exact Or.inr (Or.inl rfl) | exact Or.inr (Or.inr rfl))) (evv_of ev_int))) (evv_of ev_int))) eva_nil)) (ev_lst (own := false) eva_nil))))
    (svs_one (sv_ret (ev_op op_addA (opg_addA (own := false)) (evv_of (ev_op op_addA (opg_addA (own := false)) (evv_of (ev_lst (own := false) (eva_cons (evv_of ev_int) eva_nil))) (evv_var (i := 4) rfl (by first | exact Or.inl rfl | exact Or.inr (Or.inl rfl) | exact Or.inr (Or.inr rfl))))) (evv_of (ev_lst (own := false) (eva_cons (evv_of (ev_op op_mod opg_mod (evv_of (ev_callTy call_int1A cg_int1 rfl G.m_int PySem.Pv.boot_int (eva_cons (evv_var (i := 0) rfl (by first | exact Or.inl rfl | exact Or.inr (Or.inl rfl) | exact Or.inr (Or.inr rfl))) eva_nil))) (evv_of ev_int))) eva_nil))))))))))
noncomputable def ce_law_is_tree_1 (K : PySem.W.Frag) (c : Ad) (gs : DF) : M OV :=
    (rdZ 2)
noncomputable def ci_law_is_tree_1 (K : PySem.W.Frag) (c : Ad) (gs : DF) : M Bool :=
    (notT (tstV (toV (callF 2 gs (argsCons (rdV 2) (argsCons (toV (bin (rdV 1) (toV (cst (.int 1))) oSub)) argsNil))))))
noncomputable def ce_law_is_tree_2 (K : PySem.W.Frag) (c : Ad) (gs : DF) : M OV :=
    (rdZ 3)
noncomputable def ci_law_is_tree_2 (K : PySem.W.Frag) (c : Ad) (gs : DF) : M Bool :=
    (asB (bin (rdV 3) (toV (cst (.str "abcdefghijklmnopqrstuvwxyz"))) oNotInS))
noncomputable def bd_law_is_tree (K : PySem.W.Frag) (c : Ad) (gs : DF) : SM :=
    (seqS (ifS (tstV (toV (isiV "tuple" (rdV 0)))) (retS (andV (bin (rdV 1) (toV (cst (.int 0))) oGt) (bin (toV (compE false (itE (rdZ 0)) (gN 2) (ci_law_is_tree_1 K c gs) (ce_law_is_tree_1 K c gs) [2])) (toV (mkLst false argsNil)) oEq))) skipS)
    (seqS (ifS (tstV (toV (isiV "str" (rdV 0)))) (retS (andV (bin (toV (callN (argsCons (rdV 0) argsNil) oLen)) (toV (cst (.int 8))) oLe) (bin (toV (compE false (itS (rdZ 0)) (gN 3) (ci_law_is_tree_2 K c gs) (ce_law_is_tree_2 K c gs) [3])) (toV (mkLst false argsNil)) oEq))) skipS)
    (retS (orV (bin (rdV 0) (toV (cst .none)) oIsN) (orV (bin (rdV 0) (toV (cst (.bool true))) oIsB) (orV (bin (rdV 0) (toV (cst (.bool false))) oIsB) (callF 3 (g_law_is_number K c) (argsCons (rdV 0) (argsCons (toV (cst (.int 0))) (argsCons (toV (cst (.int 32768))) argsNil))))))))))
noncomputable def g_law_is_tree (K : PySem.W.Frag) (c : Ad) : Nat → DF
  | 0 => fun _ => none
  | n + 1 => runF 2 4 [0, 1] (bd_law_is_tree K c (g_law_is_tree K c n))
theorem ok_law_is_tree (G : Gs P w K mg base T c) : ∀ n, DefOk P w K T mg base (1 + n) c.f_law_is_tree c.d_law_is_tree ["_law_thing", "_law_deep"] (g_law_is_tree K c n)
  | 0 => def_none
  | n + 1 => def_ok (N := ["_law_thing", "_law_deep", "_law_part", "_law_sign"]) G.F_law_is_tree sc_law_is_tree (by decide) fun cdv A outer s H E hr =>
    have hs : DefOk P w K T mg base (1 + n) c.f_law_is_tree c.d_law_is_tree ["_law_thing", "_law_deep"] (g_law_is_tree K c n) := ok_law_is_tree G n
    (svs_cons (sv_if (evt_val (evv_of (ev_isi (k := 0) rfl G.m_isinstance (evv_var (i := 0) rfl (by first | exact Or.inl rfl | exact Or.inr (Or.inl rfl) | exact Or.inr (Or.inr rfl))) (pe_bltn (v := .ty "tuple") (u := .type "tuple") rfl G.m_tuple (by decide +kernel) rfl)))) (svs_one (sv_ret (ev_and (ev_cmp op_gt opg_gt (evv_var (i := 1) rfl (by first | exact Or.inl rfl | exact Or.inr (Or.inl rfl) | exact Or.inr (Or.inr rfl))) (evv_of ev_int)) (ev_one (ev_cmp (op_eqD (u64 hr)) opg_eq (evv_of (ev_comp (own := false) (ownN := [("_law_part", 2)]) rfl sc_law_is_tree.nd (evi_seq (ev_var (i := 0) rfl (by first | exact Or.inl rfl | exact Or.inr (Or.inl rfl) | exact Or.inr (Or.inr rfl)))) (blkOk_by rfl) (fun _ _ _ _ _ => (gv_name (i := 2) sc_law_is_tree.nd rfl (by first | exact Or.inl rfl | exact Or.inr rfl) (by first | exact Or.inl rfl | exact Or.inr rfl))) (fun _ _ _ _ _ => (evts_one (evt_not (evt_val (evv_of (ev_call (ps := ["_law_thing", "_law_deep"]) hs hr rfl G.g_law_is_tree G.k_law_is_tree G.b_law_is_tree (eva_cons (evv_var (i := 2) rfl (by first | exact Or.inl rfl | exact Or.inr (Or.inl rfl) | exact Or.inr (Or.inr rfl))) (eva_cons (evv_of (ev_op op_sub opg_sub (evv_var (i := 1) rfl (by first | exact Or.inl rfl | exact Or.inr (Or.inl rfl) | exact Or.inr (Or.inr rfl))) (evv_of ev_int))) eva_nil)))))))) (fun _ _ _ _ _ => (ev_var (i := 2) rfl (by first | exact Or.inl rfl | exact Or.inr (Or.inl rfl) | exact Or.inr (Or.inr rfl)))))) (evv_of (ev_lst (own := false) eva_nil))))))) svs_nil)
    (svs_cons (sv_if (evt_val (evv_of (ev_isi (k := 0) rfl G.m_isinstance (evv_var (i := 0) rfl (by first | exact Or.inl rfl | exact Or.inr (Or.inl rfl) | exact Or.inr (Or.inr rfl))) (pe_bltn (v := .ty "str") (u := .type "str") rfl G.m_str (by decide +kernel) rfl)))) (svs_one (sv_ret (ev_and (ev_cmp op_le opg_le (evv_of (ev_callB call_lenA cg_len rfl G.m_len PySem.boot_len (eva_cons (evv_var (i := 0) rfl (by first | exact Or.inl rfl | exact Or.inr (Or.inl rfl) | exact Or.inr (Or.inr rfl))) eva_nil))) (evv_of ev_int)) (ev_one (ev_cmp (op_eqD (u64 hr)) opg_eq (evv_of (ev_comp (own := false) (ownN := [("_law_sign", 3)]) rfl sc_law_is_tree.nd (evi_str (ev_var (i := 0) rfl (by first | exact Or.inl rfl | exact Or.inr (Or.inl rfl) | exact Or.inr (Or.inr rfl)))) (blkOk_by rfl) (fun _ _ _ _ _ => (gv_name (i := 3) sc_law_is_tree.nd rfl (by first | exact Or.inl rfl | exact Or.inr rfl) (by first | exact Or.inl rfl | exact Or.inr rfl))) (fun _ _ _ _ _ => (evts_one (evt_cmp op_notInS opg_notInS (evv_var (i := 3) rfl (by first | exact Or.inl rfl | exact Or.inr (Or.inl rfl) | exact Or.inr (Or.inr rfl))) (evv_of ev_str) (by with_unfolding_all rfl)))) (fun _ _ _ _ _ => (ev_var (i := 3) rfl (by first | exact Or.inl rfl | exact Or.inr (Or.inl rfl) | exact Or.inr (Or.inr rfl)))))) (evv_of (ev_lst (own := false) eva_nil))))))) svs_nil)
    (svs_one (sv_ret (ev_or (ev_cmp op_isN opg_isN (evv_var (i := 0) rfl (by first | exact Or.inl rfl | exact Or.inr (Or.inl rfl) | exact Or.inr (Or.inr rfl))) (evv_of ev_non)) (ev_or (ev_cmp op_isBA opg_isB (evv_var (i := 0) rfl (by first | exact Or.inl rfl | exact Or.inr (Or.inl rfl) | exact Or.inr (Or.inr rfl))) (evv_of ev_bl)) (ev_or (ev_cmp op_isBA opg_isB (evv_var (i := 0) rfl (by first | exact Or.inl rfl | exact Or.inr (Or.inl rfl) | exact Or.inr (Or.inr rfl))) (evv_of ev_bl)) (ev_one (ev_call (ps := ["_law_thing", "_law_low", "_law_end"]) ((ok_law_is_number G).mono (Nat.le_trans (by decide) (Nat.le_add_right 1 n))) hr rfl G.g_law_is_number G.k_law_is_number G.b_law_is_number (eva_cons (evv_var (i := 0) rfl (by first | exact Or.inl rfl | exact Or.inr (Or.inl rfl) | exact Or.inr (Or.inr rfl))) (eva_cons (evv_of ev_int) (eva_cons (evv_of ev_int) eva_nil))))))))))))
noncomputable def ce_law_leaf_1 (K : PySem.W.Frag) (c : Ad) : M OV :=
    (bin (toV (cst (.str "abcdefghijklmnopqrstuvwxyz"))) (toV (callF 2 (g_law_take K c) (argsCons (rdV 0) (argsCons (toV (cst (.int 26))) argsNil)))) oIx)
noncomputable def bd_law_leaf (K : PySem.W.Frag) (c : Ad) : SM :=
    (seqS (setS 1 (callF 2 (g_law_take K c) (argsCons (rdV 0) (argsCons (toV (cst (.int 7))) argsNil))))
    (seqS (ifS (asB (bin (rdV 1) (toV (cst (.int 3))) oLt)) (retS (bin (toV (mkLst false (argsCons (toV (cst .none)) (argsCons (toV (cst (.bool true))) (argsCons (toV (cst (.bool false))) argsNil))))) (rdV 1) oIx)) skipS)
    (seqS (ifS (asB (bin (rdV 1) (toV (cst (.int 3))) oEq)) (retS (ifE (asB (bin (toV (callF 2 (g_law_take K c) (argsCons (rdV 0) (argsCons (toV (cst (.int 4))) argsNil)))) (toV (cst (.int 0))) oEq)) (cst (.str "")) (methN "str" (toV (cst (.str ""))) (argsCons (toV (compE false (rng1 (argsCons (toV (callF 2 (g_law_pick K c) (argsCons (rdV 0) (argsCons (toV (mkLst false (argsCons (toV (cst (.int 1))) (argsCons (toV (cst (.int 2))) (argsCons (toV (cst (.int 3))) (argsCons (toV (cst (.int 7))) (argsCons (toV (cst (.int 8))) argsNil))))))) argsNil)))) argsNil)) (gN 2) tYesM (ce_law_leaf_1 K c) [2])) argsNil) oJoin))) skipS)
    (retS (callF 2 (g_law_pick K c) (argsCons (rdV 0) (argsCons (toV (mkLst false (argsCons (toV (cst (.int 0))) (argsCons (toV (cst (.int 31))) (argsCons (toV (cst (.int 32))) (argsCons (toV (cst (.int 1023))) (argsCons (toV (cst (.int 1024))) (argsCons (toV (cst (.int 32767))) (argsCons (toV (callF 2 (g_law_take K c) (argsCons (rdV 0) (argsCons (toV (cst (.int 64))) argsNil)))) (argsCons (toV (callF 2 (g_law_take K c) (argsCons (rdV 0) (argsCons (toV (cst (.int 1100))) argsNil)))) (argsCons (toV (callF 2 (g_law_take K c) (argsCons (rdV 0) (argsCons (toV (cst (.int 32768))) argsNil)))) argsNil))))))))))) argsNil)))))))
noncomputable def g_law_leaf (K : PySem.W.Frag) (c : Ad) : DF := runF 1 3 [0] (bd_law_leaf K c)
theorem ok_law_leaf (G : Gs P w K mg base T c) : DefOk P w K T mg base 4 c.f_law_leaf c.d_law_leaf ["_law_draw"] (g_law_leaf K c) := def_ok (N := ["_law_draw", "_law_kind", "_law_k"]) G.F_law_leaf sc_law_leaf (by decide) fun cdv A outer s H E hr =>
    (svs_cons (sv_set (i := 1) sc_law_leaf.nd rfl (by first | exact Or.inl rfl | exact Or.inr rfl) (ev_call (ps := ["_law_draw", "_law_many"]) ((ok_law_take G).mono (by decide)) hr rfl G.g_law_take G.k_law_take G.b_law_take (eva_cons (evv_var (i := 0) rfl (by first | exact Or.inl rfl | exact Or.inr (Or.inl rfl) | exact Or.inr (Or.inr rfl))) (eva_cons (evv_of ev_int) eva_nil))))
    (svs_cons (sv_if (evt_cmp op_lt opg_lt (evv_var (i := 1) rfl (by first | exact Or.inl rfl | exact Or.inr (Or.inl rfl) | exact Or.inr (Or.inr rfl))) (evv_of ev_int)) (svs_one (sv_ret (ev_ix ix_any opg_ix (evv_of (ev_lst (own := false) (eva_cons (evv_of ev_non) (eva_cons (evv_of ev_bl) (eva_cons (evv_of ev_bl) eva_nil))))) (evv_var (i := 1) rfl (by first | exact Or.inl rfl | exact Or.inr (Or.inl rfl) | exact Or.inr (Or.inr rfl)))))) svs_nil)
    (svs_cons (sv_if (evt_cmp (op_eqD (u64 hr)) opg_eq (evv_var (i := 1) rfl (by first | exact Or.inl rfl | exact Or.inr (Or.inl rfl) | exact Or.inr (Or.inr rfl))) (evv_of ev_int)) (svs_one (sv_ret (ev_if (evt_cmp (op_eqD (u64 hr)) opg_eq (evv_of (ev_call (ps := ["_law_draw", "_law_many"]) ((ok_law_take G).mono (by decide)) hr rfl G.g_law_take G.k_law_take G.b_law_take (eva_cons (evv_var (i := 0) rfl (by first | exact Or.inl rfl | exact Or.inr (Or.inl rfl) | exact Or.inr (Or.inr rfl))) (eva_cons (evv_of ev_int) eva_nil)))) (evv_of ev_int)) ev_str (ev_meth PySem.F.plainAttrs_str PySem.F.slot_str_join PySem.F.type_str_join mt_joinA mg_join (evv_of ev_str) (eva_cons (evv_of (ev_comp (own := false) (ownN := [("_law_k", 2)]) rfl sc_law_leaf.nd (evi_rng1 rfl G.m_range (eva_cons (evv_of (ev_call (ps := ["_law_draw", "_law_some"]) ((ok_law_pick G).mono (by decide)) hr rfl G.g_law_pick G.k_law_pick G.b_law_pick (eva_cons (evv_var (i := 0) rfl (by first | exact Or.inl rfl | exact Or.inr (Or.inl rfl) | exact Or.inr (Or.inr rfl))) (eva_cons (evv_of (ev_lst (own := false) (eva_cons (evv_of ev_int) (eva_cons (evv_of ev_int) (eva_cons (evv_of ev_int) (eva_cons (evv_of ev_int) (eva_cons (evv_of ev_int) eva_nil))))))) eva_nil)))) eva_nil)) (blkOk_by rfl) (fun _ _ _ _ _ => (gv_name (i := 2) sc_law_leaf.nd rfl (by first | exact Or.inl rfl | exact Or.inr rfl) (by first | exact Or.inl rfl | exact Or.inr rfl))) (fun _ _ _ _ _ => evts_nil) (fun _ _ _ _ _ => (ev_ix ix_any opg_ix (evv_of ev_str) (evv_of (ev_call (ps := ["_law_draw", "_law_many"]) ((ok_law_take G).mono (by decide)) hr rfl G.g_law_take G.k_law_take G.b_law_take (eva_cons (evv_var (i := 0) rfl (by first | exact Or.inl rfl | exact Or.inr (Or.inl rfl) | exact Or.inr (Or.inr rfl))) (eva_cons (evv_of ev_int) eva_nil)))))))) eva_nil))))) svs_nil)
    (svs_one (sv_ret (ev_call (ps := ["_law_draw", "_law_some"]) ((ok_law_pick G).mono (by decide)) hr rfl G.g_law_pick G.k_law_pick G.b_law_pick (eva_cons (evv_var (i := 0) rfl (by first | exact Or.inl rfl | exact Or.inr (Or.inl rfl) | exact Or.inr (Or.inr rfl))) (eva_cons (evv_of (ev_lst (own := false) (eva_cons (evv_of ev_int) (eva_cons (evv_of ev_int) (eva_cons (evv_of ev_int) (eva_cons (evv_of ev_int) (eva_cons (evv_of ev_int) (eva_cons (evv_of ev_int) (eva_cons (evv_of (ev_call (ps := ["_law_draw", "_law_many"]) ((ok_law_take G).mono (by decide)) hr rfl G.g_law_take G.k_law_take G.b_law_take (eva_cons (evv_var (i := 0) rfl (by first | exact Or.inl rfl | exact Or.inr (Or.inl rfl) | exact Or.inr (Or.inr rfl))) (eva_cons (evv_of ev_int) eva_nil)))) (eva_cons (evv_of (ev_call (ps := ["_law_draw", "_law_many"]) ((ok_law_take G).mono (by decide)) hr rfl G.g_law_take G.k_law_take G.b_law_take (eva_cons (evv_var (i := 0) rfl (by first | exact Or.inl rfl | exact Or.inr (Or.inl rfl) | exact Or.inr (Or.inr rfl))) (eva_cons (evv_of ev_int) eva_nil)))) (eva_cons (evv_of (ev_call (ps := ["_law_draw", "_law_many"]) ((ok_law_take G).mono (by decide)) hr rfl G.g_law_take G.k_law_take G.b_law_take (eva_cons (evv_var (i := 0) rfl (by first | exact Or.inl rfl | exact Or.inr (Or.inl rfl) | exact Or.inr (Or.inr rfl))) (eva_cons (evv_of ev_int) eva_nil)))) eva_nil))))))))))) eva_nil))))))))
noncomputable def ce_law_tree_1 (K : PySem.W.Frag) (c : Ad) (gs : DF) : M OV :=
    (callF 2 gs (argsCons (rdV 0) (argsCons (toV (ifE (asB (bin (rdV 2) (toV (cst (.int 0))) oGt)) (callN (argsCons (toV (bin (rdV 1) (toV (cst (.int 1))) oSub)) (argsCons (toV (cst (.int 3))) argsNil)) oMin2) (bin (rdV 1) (toV (cst (.int 1))) oSub))) argsNil)))
noncomputable def bd_law_tree (K : PySem.W.Frag) (c : Ad) (gs : DF) : SM :=
    (seqS (ifS (orT (asB (bin (rdV 1) (toV (cst (.int 0))) oEq)) (asB (bin (toV (callF 2 (g_law_take K c) (argsCons (rdV 0) (argsCons (toV (cst (.int 3))) argsNil)))) (toV (cst (.int 0))) oEq))) (retS (callF 1 (g_law_leaf K c) (argsCons (rdV 0) argsNil))) skipS)
    (retS (callN (argsCons (toV (compE false (rng1 (argsCons (toV (callF 2 (g_law_pick K c) (argsCons (rdV 0) (argsCons (toV (mkLst false (argsCons (toV (cst (.int 0))) (argsCons (toV (cst (.int 1))) (argsCons (toV (cst (.int 1))) (argsCons (toV (cst (.int 2))) (argsCons (toV (cst (.int 3))) argsNil))))))) argsNil)))) argsNil)) (gN 2) tYesM (ce_law_tree_1 K c gs) [2])) argsNil) oTuple)))
noncomputable def g_law_tree (K : PySem.W.Frag) (c : Ad) : Nat → DF
  | 0 => fun _ => none
  | n + 1 => runF 2 3 [0, 1] (bd_law_tree K c (g_law_tree K c n))
theorem ok_law_tree (G : Gs P w K mg base T c) : ∀ n, DefOk P w K T mg base (4 + n) c.f_law_tree c.d_law_tree ["_law_draw", "_law_deep"] (g_law_tree K c n)
  | 0 => def_none
  | n + 1 => def_ok (N := ["_law_draw", "_law_deep", "_law_k"]) G.F_law_tree sc_law_tree (by decide) fun cdv A outer s H E hr =>
    have hs : DefOk P w K T mg base (4 + n) c.f_law_tree c.d_law_tree ["_law_draw", "_law_deep"] (g_law_tree K c n) := ok_law_tree G n
    (svs_cons (sv_if (evt_w (evw_or (evt_cmp (op_eqD (u64 hr)) opg_eq (evv_var (i := 1) rfl (by first | exact Or.inl rfl | exact Or.inr (Or.inl rfl) | exact Or.inr (Or.inr rfl))) (evv_of ev_int)) (evw_or1 (evt_cmp (op_eqD (u64 hr)) opg_eq (evv_of (ev_call (ps := ["_law_draw", "_law_many"]) ((ok_law_take G).mono (Nat.le_trans (by decide) (Nat.le_add_right 4 n))) hr rfl G.g_law_take G.k_law_take G.b_law_take (eva_cons (evv_var (i := 0) rfl (by first | exact Or.inl rfl | exact Or.inr (Or.inl rfl) | exact Or.inr (Or.inr rfl))) (eva_cons (evv_of ev_int) eva_nil)))) (evv_of ev_int))))) (svs_one (sv_ret (ev_call (ps := ["_law_draw"]) ((ok_law_leaf G).mono (Nat.le_trans (by decide) (Nat.le_add_right 4 n))) hr rfl G.g_law_leaf G.k_law_leaf G.b_law_leaf (eva_cons (evv_var (i := 0) rfl (by first | exact Or.inl rfl | exact Or.inr (Or.inl rfl) | exact Or.inr (Or.inr rfl))) eva_nil)))) svs_nil)
    (svs_one (sv_ret (ev_callTy call_tupleA cg_tuple rfl G.m_tuple PySem.Pv.boot_tuple (eva_cons (evv_of (ev_comp (own := false) (ownN := [("_law_k", 2)]) rfl sc_law_tree.nd (evi_rng1 rfl G.m_range (eva_cons (evv_of (ev_call (ps := ["_law_draw", "_law_some"]) ((ok_law_pick G).mono (Nat.le_trans (by decide) (Nat.le_add_right 4 n))) hr rfl G.g_law_pick G.k_law_pick G.b_law_pick (eva_cons (evv_var (i := 0) rfl (by first | exact Or.inl rfl | exact Or.inr (Or.inl rfl) | exact Or.inr (Or.inr rfl))) (eva_cons (evv_of (ev_lst (own := false) (eva_cons (evv_of ev_int) (eva_cons (evv_of ev_int) (eva_cons (evv_of ev_int) (eva_cons (evv_of ev_int) (eva_cons (evv_of ev_int) eva_nil))))))) eva_nil)))) eva_nil)) (blkOk_by rfl) (fun _ _ _ _ _ => (gv_name (i := 2) sc_law_tree.nd rfl (by first | exact Or.inl rfl | exact Or.inr rfl) (by first | exact Or.inl rfl | exact Or.inr rfl))) (fun _ _ _ _ _ => evts_nil) (fun _ _ _ _ _ => (ev_call (ps := ["_law_draw", "_law_deep"]) hs hr rfl G.g_law_tree G.k_law_tree G.b_law_tree (eva_cons (evv_var (i := 0) rfl (by first | exact Or.inl rfl | exact Or.inr (Or.inl rfl) | exact Or.inr (Or.inr rfl))) (eva_cons (evv_of (ev_if (evt_cmp op_gt opg_gt (evv_var (i := 2) rfl (by first | exact Or.inl rfl | exact Or.inr (Or.inl rfl) | exact Or.inr (Or.inr rfl))) (evv_of ev_int)) (ev_callB (call_min2A rfl) cg_min2 rfl G.m_min PyProof.Rows.boot_min (eva_cons (evv_of (ev_op op_sub opg_sub (evv_var (i := 1) rfl (by first | exact Or.inl rfl | exact Or.inr (Or.inl rfl) | exact Or.inr (Or.inr rfl))) (evv_of ev_int))) (eva_cons (evv_of ev_int) eva_nil))) (ev_op op_sub opg_sub (evv_var (i := 1) rfl (by first | exact Or.inl rfl | exact Or.inr (Or.inl rfl) | exact Or.inr (Or.inr rfl))) (evv_of ev_int)))) eva_nil)))))) eva_nil)))))
theorem lam_law (G : Gs P w K mg base T c) {A : Around} {outer : List Env} {s : Shared} {H : Hp} {E : XK} {k : Nat} {params : Arguments} {body : Expr} {scope : Scope} {p lpos pos : Pos} {fe : M OV}
    (hr : Room (k + 2) (cxOf (L2.CX P w) P w K mg base ["_law_script", "_law_draw", "_law_known", "_law_turn", "_law_kind", "_law_tree_here", "_law_wrap", "_law_near", "_law_told", "_law_cells", "_law_other", "_law_raised"] "law" (defScope s_law) c.f_law (.ref c.cl_law) A outer s H E).A) (L : LamS (defScope s_law) scope) (hdef : defaultsOf params (cxOf (L2.CX P w) P w K mg base ["_law_script", "_law_draw", "_law_known", "_law_turn", "_law_kind", "_law_tree_here", "_law_wrap", "_law_near", "_law_told", "_law_cells", "_law_other", "_law_raised"] "law" (defScope s_law) c.f_law (.ref c.cl_law) A outer s H E).env = ([], []))
    (hbind : ∀ (q : Str) (cl : List (Str × Addr)) (pm cv ctv : Value), bindArgs (PySem.W.kla_fn "<lambda>" q params body scope cl pm cv ctv) ⟨[], []⟩ = pure [])
    (hbody : ∀ (A' : Around) (outer' : List Env) (s' : Shared) (H' : Hp) (E' : XK) (f c' : Addr), Room k (A'.deeper (lamEnv (cxOf (L2.CX P w) P w K mg base ["_law_script", "_law_draw", "_law_known", "_law_turn", "_law_kind", "_law_tree_here", "_law_wrap", "_law_near", "_law_told", "_law_cells", "_law_other", "_law_raised"] "law" (defScope s_law) c.f_law (.ref c.cl_law) A outer s H E) scope s'.heap.objs.size f c')) → EV (lamCx (cxOf (L2.CX P w) P w K mg base ["_law_script", "_law_draw", "_law_known", "_law_turn", "_law_kind", "_law_tree_here", "_law_wrap", "_law_near", "_law_told", "_law_cells", "_law_other", "_law_raised"] "law" (defScope s_law) c.f_law (.ref c.cl_law) A outer s H E) A' outer' s' H' E' scope f c') T body fe) :
    EV (cxOf (L2.CX P w) P w K mg base ["_law_script", "_law_draw", "_law_known", "_law_turn", "_law_kind", "_law_tree_here", "_law_wrap", "_law_near", "_law_told", "_law_cells", "_law_other", "_law_raised"] "law" (defScope s_law) c.f_law (.ref c.cl_law) A outer s H E) T (.Call (.Name "_law_caught" p) [.Lambda params body scope lpos] [] pos) (caughtM K c.LinkError true fe) := by
  obtain ⟨oc, od, kV, doc, pm, an, cdv, ct, osl, e, lk, hcd⟩ := G.F_law_caught.ex
  have hb := G.b_law_caught
  rw [e] at hb lk
  exact ev_lam (Ng := ["_law_act", "_law_found", "_law_raised"]) rfl G.g_law_caught G.k_law_caught lk hcd hb sc_law_caught rfl (Or.inl rfl) (keep2_gives rfl sc_law_caught.nd rfl G.g_LinkError rfl rfl rfl rfl rfl rfl rfl rfl (fun _ _ => rfl) (fun _ _ => rfl)) G.tb_law rfl G.hm_law G.hu_law hr L hdef hbind hbody
noncomputable def lb_law_1 (K : PySem.W.Frag) (c : Ad) : SM :=
    (setS 5 (mkTup (argsCons (toV (rdZ 5)) argsNil)))
noncomputable def lb_law_2 (K : PySem.W.Frag) (c : Ad) : SM :=
    (seqS (parS [4, 5] (osCons (callF 2 (g_law_take K c) (argsCons (rdV 1) (argsCons (toV (cst (.int 5))) argsNil))) (osCons (callF 2 (g_law_tree K c 40) (argsCons (rdV 1) (argsCons (toV (callF 2 (g_law_pick K c) (argsCons (rdV 1) (argsCons (toV (mkLst false (argsCons (toV (cst (.int 1))) (argsCons (toV (cst (.int 2))) (argsCons (toV (cst (.int 3))) (argsCons (toV (cst (.int 5))) (argsCons (toV (cst (.int 12))) (argsCons (toV (cst (.int 12))) argsNil)))))))) argsNil)))) argsNil))) osNil)))
    (seqS (ifS (asB (bin (rdV 4) (toV (cst (.int 0))) oEq)) (forS (rng1 (argsCons (toV (callF 2 (g_law_pick K c) (argsCons (rdV 1) (argsCons (toV (mkLst false (argsCons (toV (cst (.int 11))) (argsCons (toV (cst (.int 12))) (argsCons (toV (cst (.int 13))) argsNil))))) argsNil)))) argsNil)) (gN 6) (lb_law_1 K c)) skipS)
    (seqS (setS 7 (ifE (asB (bin (rdV 4) (toV (cst (.int 1))) oEq)) (callF 2 (g_law_changed K c 40) (argsCons (rdV 1) (argsCons (rdV 5) argsNil))) (rdZ 5)))
    (seqS (setS 8 (caughtM K c.LinkError true (callF 1 (g_tree_cells K c) (argsCons (rdV 7) argsNil))))
    (seqS (ifS (notT (tstV (toV (callF 2 (g_law_is_tree K c 40) (argsCons (rdV 7) (argsCons (toV (cst (.int 12))) argsNil)))))) (seqS (ifS (notT (tstV (toV (isiY K [c.BadCells, c.BadFile, c.BadTree] (.ref c.BadTree) (rdV 8))))) (retS (cst (.bool false))) skipS)
    ctS) skipS)
    (seqS (setS 9 (callF 1 (g_law_tree_cells K c 40) (argsCons (rdV 7) argsNil)))
    (seqS (ifS (orT (asB (bin (rdV 8) (toV (callN (argsCons (rdV 9) argsNil) oTuple)) oNe)) (orT (asB (bin (toV (callN (argsCons (toV (callF 1 (g_tree_of K c) (argsCons (rdV 9) argsNil))) argsNil) oRepr)) (toV (callN (argsCons (rdV 7) argsNil) oRepr)) oNe)) (asB (bin (toV (callN (argsCons (toV (callF 1 (g_tree_of K c) (argsCons (toV (callN (argsCons (rdV 9) argsNil) oTuple)) argsNil))) argsNil) oRepr)) (toV (callN (argsCons (rdV 7) argsNil) oRepr)) oNe)))) (retS (cst (.bool false))) skipS)
    (seqS (exprS (mutM 2 (argsCons (toV (rdZ 9)) argsNil) oAppend))
    (seqS (setS 10 (callF 2 (g_law_pick K c) (argsCons (rdV 1) (argsCons (rdV 2) argsNil))))
    (seqS (ifS (andT (asB (bin (rdV 10) (rdV 9) oNe)) (asB (bin (rdV 10) (toV (slA false (rdV 9) noPart (part (toV (callN (argsCons (rdV 10) argsNil) oLen))))) oEq))) (retS (cst (.bool false))) skipS)
    (seqS (setS 11 (caughtM K c.LinkError true (callF 1 (g_tree_of K c) (argsCons (toV (bin (rdV 9) (rdV 10) (oAdd false))) argsNil))))
    (ifS (orT (notT (tstV (toV (isiY K [c.BadCells, c.BadFile, c.BadTree] (.ref c.BadFile) (rdV 11))))) (asB (bin (toV (attrM [c.BadFile] "at" (rdV 11))) (toV (callN (argsCons (rdV 9) argsNil) oLen)) oNe))) (retS (cst (.bool false))) skipS))))))))))))
noncomputable def bd_law (K : PySem.W.Frag) (c : Ad) : SM :=
    (seqS (setS 1 (callF 1 (g_law_begun K c) (argsCons (rdV 0) argsNil)))
    (seqS (setS 2 (mkLst true argsNil))
    (seqS (forS (rng1 (argsCons (toV (bin (toV (cst (.int 4))) (toV (callN (argsCons (toV (callN (argsCons (rdV 0) argsNil) oLenS)) (argsCons (toV (cst (.int 16))) argsNil)) oMin2)) (oAdd false))) argsNil)) (gN 3) (lb_law_2 K c))
    (retS (cst (.bool true))))))
theorem sv_law (G : Gs P w K mg base T c) {outer : List Env} {s : Shared} {H : Hp} {E : XK} (hr : Room 44 (cxOf (L2.CX P w) P w K mg base ["_law_script", "_law_draw", "_law_known", "_law_turn", "_law_kind", "_law_tree_here", "_law_wrap", "_law_near", "_law_told", "_law_cells", "_law_other", "_law_raised"] "law" (defScope s_law) c.f_law (.ref c.cl_law) callerA outer s H E).A) (hgd : (cxOf (L2.CX P w) P w K mg base ["_law_script", "_law_draw", "_law_known", "_law_turn", "_law_kind", "_law_tree_here", "_law_wrap", "_law_near", "_law_told", "_law_cells", "_law_other", "_law_raised"] "law" (defScope s_law) c.f_law (.ref c.cl_law) callerA outer s H E).A.guards = some []) :
    SVs (cxOf (L2.CX P w) P w K mg base ["_law_script", "_law_draw", "_law_known", "_law_turn", "_law_kind", "_law_tree_here", "_law_wrap", "_law_near", "_law_told", "_law_cells", "_law_other", "_law_raised"] "law" (defScope s_law) c.f_law (.ref c.cl_law) callerA outer s H E) T [0] (defBody s_law) (bd_law K c) :=
    (svs_cons (sv_set (i := 1) sc_law.nd rfl (by first | exact Or.inl rfl | exact Or.inr rfl) (ev_call (ps := ["_law_script"]) ((ok_law_begun G).mono (by decide)) hr rfl G.g_law_begun G.k_law_begun G.b_law_begun (eva_cons (evv_var (i := 0) rfl (by first | exact Or.inl rfl | exact Or.inr (Or.inl rfl) | exact Or.inr (Or.inr rfl))) eva_nil)))
    (svs_cons (sv_set (i := 2) sc_law.nd rfl (by first | exact Or.inl rfl | exact Or.inr rfl) (ev_lst (own := true) eva_nil))
    (svs_cons (sv_for (passes_of rfl) rfl (evi_rng1 rfl G.m_range (eva_cons (evv_of (ev_op op_addA (opg_addA (own := false)) (evv_of ev_int) (evv_of (ev_callB (call_min2A rfl) cg_min2 rfl G.m_min PyProof.Rows.boot_min (eva_cons (evv_of (ev_callB call_lenA cg_lenS rfl G.m_len PySem.boot_len (eva_cons (evv_var (i := 0) rfl (by first | exact Or.inl rfl | exact Or.inr (Or.inl rfl) | exact Or.inr (Or.inr rfl))) eva_nil))) (eva_cons (evv_of ev_int) eva_nil)))))) eva_nil)) (gv_name (i := 3) sc_law.nd rfl (by first | exact Or.inl rfl | exact Or.inr rfl) (by first | exact Or.inl rfl | exact Or.inr rfl)) (svs_cons (sv_par rfl sc_law.nd (.cons (i := 4) rfl (by first | exact Or.inl rfl | exact Or.inr rfl) (by first | exact Or.inl rfl | exact Or.inr rfl) (.cons (i := 5) rfl (by first | exact Or.inl rfl | exact Or.inr rfl) (by first | exact Or.inl rfl | exact Or.inr rfl) .nil)) (evl_cons (ev_call (ps := ["_law_draw", "_law_many"]) ((ok_law_take G).mono (by decide)) hr rfl G.g_law_take G.k_law_take G.b_law_take (eva_cons (evv_var (i := 1) rfl (by first | exact Or.inl rfl | exact Or.inr (Or.inl rfl) | exact Or.inr (Or.inr rfl))) (eva_cons (evv_of ev_int) eva_nil))) (evl_cons (ev_call (ps := ["_law_draw", "_law_deep"]) ((ok_law_tree G 40).mono (by decide)) hr rfl G.g_law_tree G.k_law_tree G.b_law_tree (eva_cons (evv_var (i := 1) rfl (by first | exact Or.inl rfl | exact Or.inr (Or.inl rfl) | exact Or.inr (Or.inr rfl))) (eva_cons (evv_of (ev_call (ps := ["_law_draw", "_law_some"]) ((ok_law_pick G).mono (by decide)) hr rfl G.g_law_pick G.k_law_pick G.b_law_pick (eva_cons (evv_var (i := 1) rfl (by first | exact Or.inl rfl | exact Or.inr (Or.inl rfl) | exact Or.inr (Or.inr rfl))) (eva_cons (evv_of (ev_lst (own := false) (eva_cons (evv_of ev_int) (eva_cons (evv_of ev_int) (eva_cons (evv_of ev_int) (eva_cons (evv_of ev_int) (eva_cons (evv_of ev_int) (eva_cons (evv_of ev_int) eva_nil)))))))) eva_nil)))) eva_nil))) evl_nil)))
    (svs_cons (sv_if (evt_cmp (op_eqD (u64 hr)) opg_eq (evv_var (i := 4) rfl (by first | exact Or.inl rfl | exact Or.inr (Or.inl rfl) | exact Or.inr (Or.inr rfl))) (evv_of ev_int)) (svs_one (sv_for (passes_of rfl) rfl (evi_rng1 rfl G.m_range (eva_cons (evv_of (ev_call (ps := ["_law_draw", "_law_some"]) ((ok_law_pick G).mono (by decide)) hr rfl G.g_law_pick G.k_law_pick G.b_law_pick (eva_cons (evv_var (i := 1) rfl (by first | exact Or.inl rfl | exact Or.inr (Or.inl rfl) | exact Or.inr (Or.inr rfl))) (eva_cons (evv_of (ev_lst (own := false) (eva_cons (evv_of ev_int) (eva_cons (evv_of ev_int) (eva_cons (evv_of ev_int) eva_nil))))) eva_nil)))) eva_nil)) (gv_name (i := 6) sc_law.nd rfl (by first | exact Or.inl rfl | exact Or.inr rfl) (by first | exact Or.inl rfl | exact Or.inr rfl)) (svs_one (sv_set (i := 5) sc_law.nd rfl (by first | exact Or.inl rfl | exact Or.inr rfl) (ev_tup (eva_cons (evv_of (ev_var (i := 5) rfl (by first | exact Or.inl rfl | exact Or.inr (Or.inl rfl) | exact Or.inr (Or.inr rfl)))) eva_nil)))))) svs_nil)
    (svs_cons (sv_set (i := 7) sc_law.nd rfl (by first | exact Or.inl rfl | exact Or.inr rfl) (ev_if (evt_cmp (op_eqD (u64 hr)) opg_eq (evv_var (i := 4) rfl (by first | exact Or.inl rfl | exact Or.inr (Or.inl rfl) | exact Or.inr (Or.inr rfl))) (evv_of ev_int)) (ev_call (ps := ["_law_draw", "_law_tree_here"]) ((ok_law_changed G 40).mono (by decide)) hr rfl G.g_law_changed G.k_law_changed G.b_law_changed (eva_cons (evv_var (i := 1) rfl (by first | exact Or.inl rfl | exact Or.inr (Or.inl rfl) | exact Or.inr (Or.inr rfl))) (eva_cons (evv_var (i := 5) rfl (by first | exact Or.inl rfl | exact Or.inr (Or.inl rfl) | exact Or.inr (Or.inr rfl))) eva_nil))) (ev_var (i := 5) rfl (by first | exact Or.inl rfl | exact Or.inr (Or.inl rfl) | exact Or.inr (Or.inr rfl)))))
    (svs_cons (sv_set (i := 8) sc_law.nd rfl (by first | exact Or.inl rfl | exact Or.inr rfl) (lam_law (k := 42) G (hr.mono (by decide)) (lamS_by rfl) rfl (fun _ _ _ _ _ => rfl) (fun _ _ _ _ _ _ _ hr' => (ev_call (ps := ["tree"]) ((ok_tree_cells G).mono (by decide)) hr' rfl G.g_tree_cells G.k_tree_cells G.b_tree_cells (eva_cons (evv_var (i := 7) rfl (by first | exact Or.inl rfl | exact Or.inr (Or.inl rfl) | exact Or.inr (Or.inr rfl))) eva_nil)))))
    (svs_cons (sv_if (evt_not (evt_val (evv_of (ev_call (ps := ["_law_thing", "_law_deep"]) ((ok_law_is_tree G 40).mono (by decide)) hr rfl G.g_law_is_tree G.k_law_is_tree G.b_law_is_tree (eva_cons (evv_var (i := 7) rfl (by first | exact Or.inl rfl | exact Or.inr (Or.inl rfl) | exact Or.inr (Or.inr rfl))) (eva_cons (evv_of ev_int) eva_nil)))))) (svs_cons (sv_if (evt_not (evt_val (evv_of (ev_isiY (Ds := [c.BadCells, c.BadFile, c.BadTree]) G.excs rfl G.m_isinstance (evv_var (i := 8) rfl (by first | exact Or.inl rfl | exact Or.inr (Or.inl rfl) | exact Or.inr (Or.inr rfl))) (pe_glob (v := .ref c.BadTree) rfl G.g_BadTree rfl) (.own _))))) (svs_one (sv_ret ev_bl)) svs_nil)
    (svs_one sv_continue)) svs_nil)
    (svs_cons (sv_set (i := 9) sc_law.nd rfl (by first | exact Or.inl rfl | exact Or.inr rfl) (ev_call (ps := ["_law_tree_here"]) ((ok_law_tree_cells G 40).mono (by decide)) hr rfl G.g_law_tree_cells G.k_law_tree_cells G.b_law_tree_cells (eva_cons (evv_var (i := 7) rfl (by first | exact Or.inl rfl | exact Or.inr (Or.inl rfl) | exact Or.inr (Or.inr rfl))) eva_nil)))
    (svs_cons (sv_if (evt_w (evw_or (evt_cmp (op_neD (u64 hr)) opg_ne (evv_var (i := 8) rfl (by first | exact Or.inl rfl | exact Or.inr (Or.inl rfl) | exact Or.inr (Or.inr rfl))) (evv_of (ev_callTy call_tupleA cg_tuple rfl G.m_tuple PySem.Pv.boot_tuple (eva_cons (evv_var (i := 9) rfl (by first | exact Or.inl rfl | exact Or.inr (Or.inl rfl) | exact Or.inr (Or.inr rfl))) eva_nil)))) (evw_or (evt_cmp (op_neD (u64 hr)) opg_ne (evv_of (ev_callB (call_reprD hgd (u64 hr)) cg_repr rfl G.m_repr PyProof.Rows.bootS_repr (eva_cons (evv_of (ev_call (ps := ["cells"]) ((ok_tree_of G).mono (by decide)) hr rfl G.g_tree_of G.k_tree_of G.b_tree_of (eva_cons (evv_var (i := 9) rfl (by first | exact Or.inl rfl | exact Or.inr (Or.inl rfl) | exact Or.inr (Or.inr rfl))) eva_nil))) eva_nil))) (evv_of (ev_callB (call_reprD hgd (u64 hr)) cg_repr rfl G.m_repr PyProof.Rows.bootS_repr (eva_cons (evv_var (i := 7) rfl (by first | exact Or.inl rfl | exact Or.inr (Or.inl rfl) | exact Or.inr (Or.inr rfl))) eva_nil)))) (evw_or1 (evt_cmp (op_neD (u64 hr)) opg_ne (evv_of (ev_callB (call_reprD hgd (u64 hr)) cg_repr rfl G.m_repr PyProof.Rows.bootS_repr (eva_cons (evv_of (ev_call (ps := ["cells"]) ((ok_tree_of G).mono (by decide)) hr rfl G.g_tree_of G.k_tree_of G.b_tree_of (eva_cons (evv_of (ev_callTy call_tupleA cg_tuple rfl G.m_tuple PySem.Pv.boot_tuple (eva_cons (evv_var (i := 9) rfl (by first | exact Or.inl rfl | exact Or.inr (Or.inl rfl) | exact Or.inr (Or.inr rfl))) eva_nil))) eva_nil))) eva_nil))) (evv_of (ev_callB (call_reprD hgd (u64 hr)) cg_repr rfl G.m_repr PyProof.Rows.bootS_repr (eva_cons (evv_var (i := 7) rfl (by first | exact Or.inl rfl | exact Or.inr (Or.inl rfl) | exact Or.inr (Or.inr rfl))) eva_nil)))))))) (svs_one (sv_ret ev_bl)) svs_nil)
    (svs_cons (sv_expr (ev_mut (i := 2) PySem.F.slot_list_append PySem.F.type_list_append mt_append mg_append rfl (by first | exact Or.inl rfl | exact Or.inr (Or.inl rfl) | exact Or.inr (Or.inr rfl)) (eva_cons (evv_of (ev_var (i := 9) rfl (by first | exact Or.inl rfl | exact Or.inr (Or.inl rfl) | exact Or.inr (Or.inr rfl)))) eva_nil)))
    (svs_cons (sv_set (i := 10) sc_law.nd rfl (by first | exact Or.inl rfl | exact Or.inr rfl) (ev_call (ps := ["_law_draw", "_law_some"]) ((ok_law_pick G).mono (by decide)) hr rfl G.g_law_pick G.k_law_pick G.b_law_pick (eva_cons (evv_var (i := 1) rfl (by first | exact Or.inl rfl | exact Or.inr (Or.inl rfl) | exact Or.inr (Or.inr rfl))) (eva_cons (evv_var (i := 2) rfl (by first | exact Or.inl rfl | exact Or.inr (Or.inl rfl) | exact Or.inr (Or.inr rfl))) eva_nil))))
    (svs_cons (sv_if (evt_w (evw_and (evt_cmp (op_neD (u64 hr)) opg_ne (evv_var (i := 10) rfl (by first | exact Or.inl rfl | exact Or.inr (Or.inl rfl) | exact Or.inr (Or.inr rfl))) (evv_var (i := 9) rfl (by first | exact Or.inl rfl | exact Or.inr (Or.inl rfl) | exact Or.inr (Or.inr rfl)))) (evw_and1 (evt_cmp (op_eqD (u64 hr)) opg_eq (evv_var (i := 10) rfl (by first | exact Or.inl rfl | exact Or.inr (Or.inl rfl) | exact Or.inr (Or.inr rfl))) (evv_of (ev_slice (own := false) (evv_var (i := 9) rfl (by first | exact Or.inl rfl | exact Or.inr (Or.inl rfl) | exact Or.inr (Or.inr rfl))) evo_none (evo_some (evv_of (ev_callB call_lenA cg_len rfl G.m_len PySem.boot_len (eva_cons (evv_var (i := 10) rfl (by first | exact Or.inl rfl | exact Or.inr (Or.inl rfl) | exact Or.inr (Or.inr rfl))) eva_nil)))))))))) (svs_one (sv_ret ev_bl)) svs_nil)
    (svs_cons (sv_set (i := 11) sc_law.nd rfl (by first | exact Or.inl rfl | exact Or.inr rfl) (lam_law (k := 42) G (hr.mono (by decide)) (lamS_by rfl) rfl (fun _ _ _ _ _ => rfl) (fun _ _ _ _ _ _ _ hr' => (ev_call (ps := ["cells"]) ((ok_tree_of G).mono (by decide)) hr' rfl G.g_tree_of G.k_tree_of G.b_tree_of (eva_cons (evv_of (ev_op op_addA (opg_addA (own := false)) (evv_var (i := 9) rfl (by first | exact Or.inl rfl | exact Or.inr (Or.inl rfl) | exact Or.inr (Or.inr rfl))) (evv_var (i := 10) rfl (by first | exact Or.inl rfl | exact Or.inr (Or.inl rfl) | exact Or.inr (Or.inr rfl))))) eva_nil)))))
    (svs_one (sv_if (evt_w (evw_or (evt_not (evt_val (evv_of (ev_isiY (Ds := [c.BadCells, c.BadFile, c.BadTree]) G.excs rfl G.m_isinstance (evv_var (i := 11) rfl (by first | exact Or.inl rfl | exact Or.inr (Or.inl rfl) | exact Or.inr (Or.inr rfl))) (pe_glob (v := .ref c.BadFile) rfl G.g_BadFile rfl) (.own _))))) (evw_or1 (evt_cmp (op_neD (u64 hr)) opg_ne (evv_of (ev_xattr (Gs.xa_at G) (evv_var (i := 11) rfl (by first | exact Or.inl rfl | exact Or.inr (Or.inl rfl) | exact Or.inr (Or.inr rfl))))) (evv_of (ev_callB call_lenA cg_len rfl G.m_len PySem.boot_len (eva_cons (evv_var (i := 9) rfl (by first | exact Or.inl rfl | exact Or.inr (Or.inl rfl) | exact Or.inr (Or.inr rfl))) eva_nil))))))) (svs_one (sv_ret ev_bl)) svs_nil))))))))))))))
    (svs_one (sv_ret ev_bl)))))
end
end K17

/-! the draws -/
namespace K17
open PySem PySem.Spec PyProof.Rows L2 LamX PL
variable {K : PySem.W.Frag} {c : Ad}
def iD (xs : List Int) : List PyData := xs.map .int
def drwL (w cs : List Int) (r t : Int) : List (Key × OV) := [(.inr "wide", .lst ((iD w).map .d)), (.inr "cells", .d (.list (iD cs))), (.inr "rest", .d (.int r)), (.inr "turn", .d (.int t))]
@[simp] theorem iD_len (w : List Int) : (iD w).length = w.length := by simp [iD]
@[simp] theorem iD_emp (w : List Int) : (iD w).isEmpty = w.isEmpty := by cases w <;> rfl
abbrev drw (w cs : List Int) (r t : Int) : OV := .dct (drwL w cs r t)
variable {w cs : List Int} {r t r' t' : Int}
theorem drw_as : asDct (some (some (drw w cs r t))) = some (drwL w cs r t) := rfl
@[simp] theorem get_turn : getO (drwL w cs r t) (.inr "turn") = some (.d (.int t)) := rfl
@[simp] theorem get_rest : getO (drwL w cs r t) (.inr "rest") = some (.d (.int r)) := rfl
@[simp] theorem get_cells : getO (drwL w cs r t) (.inr "cells") = some (.d (.list (iD cs))) := rfl
@[simp] theorem put_turn : putO (drwL w cs r t) (.inr "turn") (.d (.int t')) = drwL w cs r t' := rfl
@[simp] theorem put_rest : putO (drwL w cs r t) (.inr "rest") (.d (.int r')) = drwL w cs r' t := rfl
@[simp] theorem drwL_len : (drwL w cs r t).length = 4 := rfl
theorem lst_wide {S : SS} {i : Nat} (h : S[i]? = some (some (drw w cs r t))) : lstAt S i (.inr "wide") = some (drwL w cs r t, 0, iD w) := by
  unfold lstAt
  rw [h, drw_as]
  show ((ixO (drwL w cs r t) (.inr "wide")).bind fun j => _) = _
  rw [show ixO (drwL w cs r t) (.inr "wide") = some 0 from rfl]
  show (items ((iD w).map .d)).map (fun ds => (drwL w cs r t, 0, ds)) = _
  rw [items_map]
  rfl
theorem pop_wide {y : Int} : (((drwL (y :: w) cs r t).map fun x => x.fst).zip (((drwL (y :: w) cs r t).map fun x => x.snd).set 0 (.lst ((iD w).map .d)))) = drwL w cs r t := rfl
theorem iD_cons (y : Int) (w : List Int) : iD (y :: w) = .int y :: iD w := rfl
theorem cm1 {i j : Int} (h1 : -(2 ^ 64) < i) (h2 : i < 2 ^ 64) : cMul i j = true := by simp only [cMul, Bool.or_eq_true, Bool.and_eq_true, decide_eq_true_eq]; exact .inl ⟨h1, h2⟩
theorem cm2 {i j : Int} (h1 : -(2 ^ 64) < j) (h2 : j < 2 ^ 64) : cMul i j = true := by simp only [cMul, Bool.or_eq_true, Bool.and_eq_true, decide_eq_true_eq]; exact .inr ⟨h1, h2⟩
theorem mix_turn {D : OV} {tn f p bl : Int} {d : PyData} {g : Int} {g5 : Option OV} (hp : 0 < p) : ∃ S1 S2, gN 5 (.int g) [some D, some (.d (.int tn)), some (.d (.int f)), some (.d (.int p)), some (.d (.int bl)), g5] = some S1 ∧ lb_law_mixed_1 K c S1 = some (.nx, S2) ∧
    S2 = [some D, some (.d (.int tn)), some (.d (.int f)), some (.d (.int p)), some (.d (.int ((bl * 69621 + g + tn) % p))), some (.d (.int g))] := by
  refine ⟨_, _, rfl, ?_, rfl⟩
  have h1 : cMul bl 69621 = true := cm2 (by decide) (by decide)
  simp [lb_law_mixed_1, hp, h1]
theorem mix_in {D : OV} {tn f p : Int} (hp : 0 < p) (hp2 : p < 2 ^ 32) {bl : Int} {g5 : Option OV} (cs : List Int) (h0 : 0 ≤ bl) (h1 : bl < 2 ^ 60) :
    ∃ S', forL (gN 5) (lb_law_mixed_1 K c) (iD cs) [some D, some (.d (.int tn)), some (.d (.int f)), some (.d (.int p)), some (.d (.int bl)), g5] = some (.nx, S') ∧
      ∃ bl' g', 0 ≤ bl' ∧ bl' < 2 ^ 60 ∧ S' = [some D, some (.d (.int tn)), some (.d (.int f)), some (.d (.int p)), some (.d (.int bl')), g'] := by
  refine forL_inv (n := 0) (fun _ S => ∃ bl' g', 0 ≤ bl' ∧ bl' < 2 ^ 60 ∧ S = [some D, some (.d (.int tn)), some (.d (.int f)), some (.d (.int p)), some (.d (.int bl')), g']) ⟨bl, g5, h0, h1, rfl⟩ ?_
  rintro k d S hd ⟨bl', g', i0, i1, rfl⟩
  obtain ⟨g, rfl⟩ : ∃ g, d = .int g := by
    unfold iD at hd
    rw [List.getElem?_map] at hd
    cases e : cs[k]? with
    | none => rw [e] at hd; cases hd
    | some g => rw [e] at hd; cases hd; exact ⟨g, rfl⟩
  obtain ⟨S1, S2, e1, e2, e3⟩ := mix_turn (K := K) (c := c) (D := D) (tn := tn) (f := f) (bl := bl') (g := g) (g5 := g') (d := .none) hp
  refine ⟨S1, S2, e1, e2, _, _, Int.emod_nonneg _ (by omega), ?_, e3⟩
  have := Int.emod_lt_of_pos (bl' * 69621 + g + tn) hp
  omega
theorem law_mixed_ok (h0 : 0 ≤ t) (h1 : t < 2 ^ 40) : ∃ f : Int, g_law_mixed K c [drw w cs r t] = some (.ok (.d (.int f)), [drw w cs r (t + 1)]) := by
  have outer : ∃ S', forL (gN 3) (lb_law_mixed_2 K c) [.int 2147483647, .int 2147483629, .int 2147483587, .int 2147483579] [some (drw w cs r (t + 1)), some (.d (.int (t + 1))), some (.d (.int 0)), none, none, none] = some (.nx, S') ∧
      ∃ f a b e, S' = [some (drw w cs r (t + 1)), some (.d (.int (t + 1))), some (.d (.int f)), a, b, e] := by
    refine forL_inv (n := 0) (fun _ S => ∃ f a b e, S = [some (drw w cs r (t + 1)), some (.d (.int (t + 1))), some (.d (.int f)), a, b, e]) ⟨0, none, none, none, rfl⟩ ?_
    rintro k d S hd ⟨f, a, b, e, rfl⟩
    obtain ⟨p, rfl, hp, hp2⟩ : ∃ p : Int, d = .int p ∧ 0 < p ∧ p < 2 ^ 32 := by
      have := List.mem_of_getElem? hd
      simp only [List.mem_cons, List.not_mem_nil, or_false] at this
      rcases this with rfl | rfl | rfl | rfl <;> exact ⟨_, rfl, by decide, by decide⟩
    refine ⟨[some (drw w cs r (t + 1)), some (.d (.int (t + 1))), some (.d (.int f)), some (.d (.int p)), b, e], ?_⟩
    obtain ⟨S', e1, bl', g', i0, i1, e2⟩ := mix_in (K := K) (c := c) (D := drw w cs r (t + 1)) (tn := t + 1) (f := f) hp hp2 (bl := 48271 * (t + 1) + p / 37) (g5 := e) cs (by have := Int.ediv_nonneg (a := p) (b := 37) (by omega) (by decide); omega) (by have := Int.ediv_le_self (a := p) 37 (by omega); omega)
    have c1 : cMul 48271 (t + 1) = true := cm1 (by decide) (by decide)
    have c2 : cMul f 2147483647 = true := cm2 (by decide) (by decide)
    have c3 : bl'.natAbs < 18446744073709551616 := by omega
    refine ⟨[some (drw w cs r (t + 1)), some (.d (.int (t + 1))), some (.d (.int (f * 2147483647 + bl' ^ 5 % p))), some (.d (.int p)), some (.d (.int bl')), g'], by simp, ?_, _, _, _, _, rfl⟩
    simp [lb_law_mixed_2, c1, e1, e2, c2, c3, hp]
  obtain ⟨S', e1, f, a, b, e, rfl⟩ := outer
  refine ⟨f, ?_⟩
  simp [g_law_mixed, bd_law_mixed, runF, runF.lentF, runF.lentL, e1, putLs, sizeLine_eq]
/-- the draw's state: b takes are left -/
def DOk (b : Nat) (d : OV) : Prop := ∃ w cs r t, d = drw w cs r t ∧ 0 ≤ t ∧ t + b ≤ 2 ^ 39
@[simp] theorem shaped_iD : ∀ w : List Int, SeqAt.shaped (.list (iD w)) = true := fun w => by
  have h1 : ∀ w : List Int, PyData.canLayAll0 (iD w) = true ∧ PyData.depthAll (iD w) ≤ 1 := fun w => by
    induction w with
    | nil => exact ⟨rfl, by decide⟩
    | cons x w ih =>
      refine ⟨?_, ?_⟩
      · show (PyData.canLay0 (.int x) && PyData.canLayAll0 (iD w)) = true
        rw [ih.1]; rfl
      · show max (PyData.depth (.int x)) (PyData.depthAll (iD w)) ≤ 1
        exact Nat.max_le.mpr ⟨by show (PyData.depth (.int x)) ≤ 1; simp [PyData.depth], ih.2⟩
  unfold SeqAt.shaped
  rw [Bool.and_eq_true]
  refine ⟨(h1 w).1, decide_eq_true ?_⟩
  have := (h1 w).2
  simp only [PyData.depth]
  omega
theorem take_ok {b : Nat} {d : OV} {m : Int} (hm : 0 < m) (hm2 : m < 1073741824) (hd : DOk (b + 1) d) : ∃ f d', g_law_take K c [d, .d (.int m)] = some (.ok (.d (.int f)), [d', .d (.int m)]) ∧ 0 ≤ f ∧ f < m ∧ DOk b d' := by
  obtain ⟨w, cs, r, t, rfl, h0, h1⟩ := hd
  have fin : ∀ (w : List Int) (t r : Int), 0 ≤ t → t + b ≤ 2 ^ 39 → ∃ f d', ((some (Except.ok (OV.d (PyData.int (r % m))), [drw w cs (r / m) t, .d (.int m)]) : Option (Except PyData OV × List OV)) = some (.ok (.d (.int f)), [d', .d (.int m)])) ∧ 0 ≤ f ∧ f < m ∧ DOk b d' := fun w t r h0 h1 =>
    ⟨_, _, rfl, Int.emod_nonneg _ (by omega), Int.emod_lt_of_pos _ hm, w, cs, _, t, rfl, h0, h1⟩
  by_cases hr : r = 0
  · subst hr
    cases w with
    | nil =>
      obtain ⟨f, e⟩ := law_mixed_ok (K := K) (c := c) (w := []) (cs := cs) (r := 0) (t := t) h0 (by omega)
      obtain ⟨f', d', e', q⟩ := fin [] (t + 1) f (by omega) (by omega)
      refine ⟨f', d', ?_, q⟩
      rw [← e']
      have e0 : lstAt [some (drw [] cs 0 t), some (.d (.int m)), none] 0 (.inr "wide") = some (drwL [] cs 0 t, 0, iD []) := lst_wide rfl
      simp [g_law_take, bd_law_take, runF, runF.lentF, runF.lentL, sizeLine_eq, e0, e, hm, hm2]
    | cons y w =>
      obtain ⟨f', d', e', q⟩ := fin w t y (by omega) (by omega)
      refine ⟨f', d', ?_, q⟩
      rw [← e']
      have e0 : lstAt [some (drw (y :: w) cs 0 t), some (.d (.int m)), none] 0 (.inr "wide") = some (drwL (y :: w) cs 0 t, 0, iD (y :: w)) := lst_wide rfl
      have e1 := shaped_iD (y :: w)
      rw [iD_cons] at e1 e0
      simp [g_law_take, bd_law_take, runF, runF.lentF, runF.lentL, sizeLine_eq, e0, e1, hm, hm2, pop_wide]
  · obtain ⟨f', d', e', q⟩ := fin w t r (by omega) (by omega)
    refine ⟨f', d', ?_, q⟩
    rw [← e']
    simp [g_law_take, bd_law_take, runF, runF.lentF, runF.lentL, sizeLine_eq, hr, hm, hm2]
theorem take_b {S : SS} {i : Nat} {x : Int} {d : OV} : takes [AV.bw i, AV.fr (.int x)] S = takes [AV.bw i, AV.fr (.int x)] S := rfl
def mapI (f : Int → Int) : PyData → PyData
  | .int i => .int (f i)
  | x => x
def tstI (f : Int → Bool) : PyData → Bool
  | .int i => f i
  | _ => false
theorem iD_fil (f : Int → Int) (p : Int → Bool) : ∀ ns : List Int, ((iD ns).filter (tstI p)).map (mapI f) = iD ((ns.filter p).map f)
  | [] => rfl
  | n :: ns => by
    have ih := iD_fil f p ns
    rw [iD_cons]
    cases h : p n with
    | true =>
      rw [List.filter_cons_of_pos (show tstI p (.int n) = true from h), List.filter_cons_of_pos h, List.map_cons, List.map_cons, ih]
      rfl
    | false =>
      rw [List.filter_cons_of_neg (by show ¬ (p n = true); simp [h]), List.filter_cons_of_neg (by simp [h]), ih]
theorem iD_map (f : Int → Int) : ∀ ns : List Int, (iD ns).map (mapI f) = iD (ns.map f)
  | [] => rfl
  | n :: ns => by rw [iD_cons, List.map_cons, iD_map f ns]; rfl
theorem mem_iD {ns : List Int} {d : PyData} (h : d ∈ iD ns) : ∃ i ∈ ns, d = .int i := by
  obtain ⟨i, h1, h2⟩ := List.mem_map.mp h
  exact ⟨i, h1, h2.symm⟩
theorem begun_ok {ns : List Int} (hl : ns.length ≤ 63) : ∃ d, g_law_begun K c [.d (scrD ns)] = some (.ok d, [.d (scrD ns)]) ∧ DOk (2 ^ 38) d := by
  have e1 : compL (gN 2) (ci_law_begun_1 K c) (ce_law_begun_1 K c) [2] (ns.map .int) [] [some (.d (scrD ns)), none, none] = some (iD ((ns.filter fun i => decide ((10 : Int) ^ 18 ≤ if i < 0 then -i else i)).map fun i => (if i < 0 then -i else i) - 10 ^ 18), [some (.d (scrD ns)), none, none]) := by
    have := compL_fil (g := gN 2) (ft := ci_law_begun_1 K c) (fe := ce_law_begun_1 K c) (vs := [2]) (S := [some (.d (scrD ns)), none, none]) (ds := iD ns) (acc := [])
      (p := tstI fun i => decide ((10 : Int) ^ 18 ≤ if i < 0 then -i else i)) (h := mapI fun i => (if i < 0 then -i else i) - 10 ^ 18) (by rw [iD_len, sizeLine_eq]; simp; omega) (fun d hd => by
        obtain ⟨i, _, rfl⟩ := mem_iD hd
        refine ⟨[some (.d (scrD ns)), none, some (.d (.int i))], [some (.d (scrD ns)), none, some (.d (.int i))], rfl, ?_, fun _ => ⟨[some (.d (scrD ns)), none, some (.d (.int i))], ?_, rfl⟩, fun _ => rfl⟩
        · simp [ci_law_begun_1, tstI]
        · simp [ce_law_begun_1, mapI])
    rw [List.nil_append, iD_fil] at this
    exact this
  have e2 : compL (gN 2) tYesM (ce_law_begun_2 K c) [2] (ns.map .int) [] [some (.d (scrD ns)), none, none] = some (iD (ns.map fun i => (if i < 0 then -i else i) % 2147483629), [some (.d (scrD ns)), none, none]) := by
    have := compL_map (g := gN 2) (fe := ce_law_begun_2 K c) (vs := [2]) (S := [some (.d (scrD ns)), none, none]) (ds := iD ns) (acc := [])
      (h := mapI fun i => (if i < 0 then -i else i) % 2147483629) (by rw [iD_len, sizeLine_eq]; simp; omega) (fun d hd => by
        obtain ⟨i, _, rfl⟩ := mem_iD hd
        refine ⟨[some (.d (scrD ns)), none, some (.d (.int i))], [some (.d (scrD ns)), none, some (.d (.int i))], rfl, ?_, rfl⟩
        simp [ce_law_begun_2, mapI])
    rw [List.nil_append, iD_map] at this
    exact this
  refine ⟨drw ((ns.filter fun i => decide ((10 : Int) ^ 18 ≤ if i < 0 then -i else i)).map fun i => (if i < 0 then -i else i) - 10 ^ 18) (ns.map fun i => (if i < 0 then -i else i) % 2147483629) 0 0, ?_, _, _, _, _, rfl, by decide, by decide⟩
  simp [g_law_begun, bd_law_begun, runF, runF.lentF, runF.lentL, wipeS, e1, e2]
  rfl
theorem pick_ok {b : Nat} {d : OV} {xs : List PyData} (h0 : xs ≠ []) (h1 : xs.length < 1073741824) (hd : DOk (b + 1) d) : ∃ y ∈ xs, ∃ d', g_law_pick K c [d, .d (.list xs)] = some (.ok (.d y), [d', .d (.list xs)]) ∧ DOk b d' := by
  have hp : 0 < xs.length := List.length_pos_iff.mpr h0
  obtain ⟨f, d', e, h2, h3, h4⟩ := take_ok (K := K) (c := c) (m := (xs.length : Int)) (by omega) (by omega) hd
  obtain ⟨j, rfl⟩ := Int.eq_ofNat_of_zero_le h2
  have hj : j < xs.length := by omega
  refine ⟨xs[j], List.getElem_mem hj, d', ?_, h4⟩
  have ea : atI xs (j : Int) = some xs[j] := atI_nat (List.getElem?_eq_getElem hj)
  obtain ⟨w, cs, r, t, rfl, _⟩ := hd
  obtain ⟨w', cs', r', t', rfl, _⟩ := h4
  simp [g_law_pick, bd_law_pick, runF, runF.lentF, runF.lentL, e, ea]
def Run (xs : List Int) : Prop := ∀ x ∈ xs, 0 ≤ x ∧ x < 64
theorem Run.nil : Run [] := fun x h => by cases h
theorem Run.app {xs ys : List Int} (h1 : Run xs) (h2 : Run ys) : Run (xs ++ ys) := fun x h => (List.mem_append.mp h).elim (h1 x) (h2 x)
theorem Run.one {x : Int} (h1 : 0 ≤ x) (h2 : x < 64) : Run [x] := fun y h => by rw [List.mem_singleton.mp h]; exact ⟨h1, h2⟩
theorem iD_app (xs ys : List Int) : iD (xs ++ ys) = iD xs ++ iD ys := by simp [iD]
theorem DOk.mono {a b : Nat} {d : OV} (h : DOk a d) (hb : b ≤ a) : DOk b d := by
  obtain ⟨w, cs, r, t, e, h0, h1⟩ := h
  exact ⟨w, cs, r, t, e, h0, by omega⟩
theorem iD_dt (xs : List Int) (a b : Nat) : ((iD xs).drop a).take b = iD ((xs.drop a).take b) := by simp [iD]
theorem Run.dt {xs : List Int} (h : Run xs) (a b : Nat) : Run ((xs.drop a).take b) := fun x hx => h x (List.mem_of_mem_drop (List.mem_of_mem_take hx))
theorem take_L {b : Nat} {L : List (Key × OV)} {m : Int} (hm : 0 < m) (hm2 : m < 1073741824) (hd : DOk (b + 1) (.dct L)) : ∃ f L', g_law_take K c [.dct L, .d (.int m)] = some (.ok (.d (.int f)), [.dct L', .d (.int m)]) ∧ 0 ≤ f ∧ f < m ∧ DOk b (.dct L') := by
  obtain ⟨f, d', e, h0, h1, h2⟩ := take_ok (K := K) (c := c) hm hm2 hd
  obtain ⟨w, cs, r, t, rfl, g⟩ := h2
  exact ⟨f, _, e, h0, h1, w, cs, r, t, rfl, g⟩
theorem pick_L {b : Nat} {L : List (Key × OV)} {xs : List PyData} (h0 : xs ≠ []) (h1 : xs.length < 1073741824) (hd : DOk (b + 1) (.dct L)) : ∃ y ∈ xs, ∃ L', g_law_pick K c [.dct L, .d (.list xs)] = some (.ok (.d y), [.dct L', .d (.list xs)]) ∧ DOk b (.dct L') := by
  obtain ⟨y, hy, d', e, h2⟩ := pick_ok (K := K) (c := c) h0 h1 hd
  obtain ⟨w, cs, r, t, rfl, g⟩ := h2
  exact ⟨y, hy, _, e, w, cs, r, t, rfl, g⟩
theorem begun_L {ns : List Int} (hl : ns.length ≤ 63) : ∃ L, g_law_begun K c [.d (scrD ns)] = some (.ok (.dct L), [.d (scrD ns)]) ∧ DOk (2 ^ 38) (.dct L) := by
  obtain ⟨d, e, h⟩ := begun_ok (K := K) (c := c) hl
  obtain ⟨w, cs, r, t, rfl, g⟩ := h
  exact ⟨_, e, w, cs, r, t, rfl, g⟩
end K17

/-! cells, numbers -/
namespace K17
open PySem PySem.Spec PyProof.Rows L2 LamX PL
variable {K : PySem.W.Frag} {c : Ad}
theorem is_number_ok {x : PyData} (h : NX x) (lo hi : Int) : g_is_number K c [.d x, .d (.int lo), .d (.int hi)] = some (.ok (.d (.bool (isNum x lo hi))), [.d x, .d (.int lo), .d (.int hi)]) := by
  cases x with
  | dict kvs => exact absurd rfl (h kvs)
  | int n => by_cases h1 : lo ≤ n <;> simp [g_is_number, bd_is_number, runF, h1, runF.lentF, runF.lentL, isNum]
  | _ => simp [g_is_number, bd_is_number, runF, runF.lentF, runF.lentL, isNum]
theorem at0 {α : Type} (a : α) (l : List α) : atI (a :: l) 0 = some a := atI_nat (j := 0) rfl
theorem at1 {α : Type} (a b : α) (l : List α) : atI (a :: b :: l) 1 = some b := atI_nat (j := 1) rfl
theorem oEq_nil {n : Nat} {xs : List PyData} (h : ∀ x ∈ xs, Shp n x) (hn : n < 64 := by decide) : oEq (.list xs) (.list []) = some (.d (.bool xs.isEmpty)) := by
  rw [oEq_of (shp_lst h) (shp_lst (n := 1) (by simp)) (by omega)]
  cases xs <;> rfl
theorem oNe_nil {n : Nat} {xs : List PyData} (h : ∀ x ∈ xs, Shp n x) (hn : n < 64 := by decide) : oNe (.list xs) (.list []) = some (.d (.bool (!xs.isEmpty))) := by
  rw [oNe_of (shp_lst h) (shp_lst (n := 1) (by simp)) (by omega)]
  cases xs <;> rfl
theorem iD_shp (n : Nat) (xs : List Int) : ∀ x ∈ iD xs, Shp n x := fun x hx => by
  obtain ⟨i, _, rfl⟩ := mem_iD hx
  exact shp_int n i
def sq (tp : Bool) (xs : List Int) : PyData := if tp then .tuple (iD xs) else .list (iD xs)
theorem oIx_sq {tp : Bool} {xs : List Int} {a : Nat} (h : a < xs.length) : oIx (sq tp xs) (.int (a : Int)) = some (.d (.int (xs.getD a 0))) := by
  have e : atI (iD xs) (a : Int) = some (.int (xs.getD a 0)) := by
    refine atI_nat ?_
    unfold iD
    rw [List.getElem?_map, List.getElem?_eq_getElem h, List.getD_eq_getElem?_getD, List.getElem?_eq_getElem h]
    rfl
  cases tp <;> simp [sq, e]
theorem oIx_sq1 {tp : Bool} {xs : List Int} {a : Nat} (h : a + 1 < xs.length) : oIx (sq tp xs) (.int ((a : Int) + 1)) = some (.d (.int (xs.getD (a + 1) 0))) := oIx_sq (a := a + 1) h
@[simp] theorem oLen_sq (tp : Bool) (xs : List Int) : oLen [sq tp xs] = some (.d (.int xs.length)) := by cases tp <;> simp [sq]
theorem Run.getD {xs : List Int} (h : Run xs) (a : Nat) : 0 ≤ xs.getD a 0 ∧ xs.getD a 0 < 64 := by
  rw [List.getD_eq_getElem?_getD]
  cases e : xs[a]? with
  | none => exact ⟨Int.le_refl _, by decide⟩
  | some v => exact h v (List.mem_of_getElem? e)
def cellB (x : PyData) : Bool := isNum x 0 64
def cellsB (x : PyData) : Bool := match x with
  | .tuple xs => xs.all cellB
  | .list xs => xs.all cellB
  | _ => false
theorem are_cells_ok {x : PyData} {n : Nat} (hx : Shp (n + 1) x) (hl : ∀ xs, x = .tuple xs ∨ x = .list xs → xs.length ≤ sizeLine) : g_are_cells K c [.d x] = some (.ok (.d (.bool (cellsB x))), [.d x]) := by
  have key : ∀ (xs : List PyData), (∀ y ∈ xs, NX y) → xs.length ≤ sizeLine → compL (gN 1) tYesM (ce_are_cells_1 K c) [1] xs [] [some (.d x), none] = some (xs.map (fun y => .bool (cellB y)), [some (.d x), none]) := fun xs hy hl => by
    have := compL_map (g := gN 1) (fe := ce_are_cells_1 K c) (vs := [1]) (S := [some (.d x), none]) (ds := xs) (acc := []) (h := fun y => .bool (cellB y)) (by simpa using hl) (fun d hd => by
      have e := is_number_ok (K := K) (c := c) (hy d hd) 0 64
      refine ⟨[some (.d x), some (.d d)], [some (.d x), some (.d d)], by simp, ?_, rfl⟩
      simp [ce_are_cells_1, e, cellB])
    rw [List.nil_append] at this
    exact this
  have hb : ∀ xs : List PyData, bools (xs.map fun y => PyData.bool (cellB y)) = some (xs.map cellB) := fun xs => by
    rw [← bools_mapB, List.map_map]; rfl
  have ha : ∀ xs : List PyData, (xs.map cellB).all id = xs.all cellB := fun xs => by rw [List.all_map]; rfl
  cases x with
  | dict kvs => exact absurd rfl (hx.nx kvs)
  | tuple xs =>
    have e := key xs (fun y hy => (shp_mem_tup hx y hy).nx) (hl xs (.inl rfl))
    simp [g_are_cells, bd_are_cells, runF, runF.lentF, runF.lentL, wipeS, e, hb, okB, cellsB]
  | list xs =>
    have e := key xs (fun y hy => (shp_mem_lst hx y hy).nx) (hl xs (.inr rfl))
    simp [g_are_cells, bd_are_cells, runF, runF.lentF, runF.lentL, wipeS, e, hb, okB, cellsB]
  | _ => simp [g_are_cells, bd_are_cells, runF, runF.lentF, runF.lentL, cellsB]
theorem sq_shp (tp : Bool) (xs : List Int) : Shp 2 (sq tp xs) := by
  cases tp
  · exact shp_lst (iD_shp 1 xs)
  · exact shp_tup (iD_shp 1 xs)
theorem cellsB_sq {tp : Bool} {xs : List Int} (hr : Run xs) : cellsB (sq tp xs) = true := by
  have : (iD xs).all cellB = true := by
    rw [List.all_eq_true]
    intro y hy
    obtain ⟨i, hi, rfl⟩ := mem_iD hy
    have := hr i hi
    simp [cellB, isNum, this.1, this.2]
  cases tp <;> exact this
end K17

/-! the reading, step by step -/
namespace K17
open PySem PySem.Spec PyProof.Rows L2 LamX PL
variable {K : PySem.W.Frag} {c : Ad}
def leD : Option Str → PyData
  | none => .none
  | some z => .str z
def diD : Option (List Int) → PyData
  | none => .none
  | some ds => .list (iD ds)
def lsO (ds : List PyData) : OV := .lst (ds.map .d)
/-- open tuples (the outer ones, innermost first), the innermost one, the word and the number begun -/
structure St where
  rp : List (List PyData)
  top : List PyData
  le : Option Str
  di : Option (List Int)
def St.stk (s : St) : List (List PyData) := s.rp.reverse ++ [s.top]
def St.fs (s : St) : List (Str × OV) := [("stack", .lst (s.stk.map lsO)), ("letters", .d (leD s.le)), ("digits", .d (diD s.di))]
def St.whole (s : St) : Bool := s.rp.isEmpty && !s.top.isEmpty && s.le.isNone && s.di.isNone
@[simp] theorem lk_s (s : St) : s.fs.lookup ("stack" : Str) = some (.lst (s.stk.map lsO)) := rfl
@[simp] theorem lk_l (s : St) : s.fs.lookup ("letters" : Str) = some (.d (leD s.le)) := rfl
@[simp] theorem lk_d (s : St) : s.fs.lookup ("digits" : Str) = some (.d (diD s.di)) := rfl
@[simp] theorem lk_1 (s : St) : s.fs.lookup ("takes_digit" : Str) = none := rfl
@[simp] theorem lk_2 (s : St) : s.fs.lookup ("takes_letter" : Str) = none := rfl
@[simp] theorem lk_3 (s : St) : s.fs.lookup ("is_whole" : Str) = none := rfl
@[simp] theorem lk_4 (s : St) : s.fs.lookup ("takes" : Str) = none := rfl
@[simp] theorem fs_len (s : St) : s.fs.length = 3 := rfl
@[simp] theorem put_dn (s : St) : putFO "digits" (.d .none) s.fs = ({ s with di := none } : St).fs := rfl
@[simp] theorem put_d0 (s : St) : putFO "digits" (.d (.list [])) s.fs = ({ s with di := some [] } : St).fs := rfl
@[simp] theorem put_ds (s : St) (ds : List Int) : putFO "digits" (.d (.list (iD ds))) s.fs = ({ s with di := some ds } : St).fs := rfl
@[simp] theorem put_ln (s : St) : putFO "letters" (.d .none) s.fs = ({ s with le := none } : St).fs := rfl
@[simp] theorem put_ls (s : St) (z : Str) : putFO "letters" (.d (.str z)) s.fs = ({ s with le := some z } : St).fs := rfl
theorem ovDs_d : ∀ ds : List PyData, ovDs (ds.map .d) = some ds
  | [] => by simp [ovDs]
  | d :: ds => by simp [ovDs, ovD, ovDs_d ds]
theorem ovDs_ls : ∀ ys : List (List PyData), ovDs (ys.map lsO) = some (ys.map .list)
  | [] => by simp [ovDs]
  | y :: ys => by simp [ovDs, ovD, lsO, ovDs_d, ovDs_ls ys]
def St.gs (s : St) : List (Str × PyData) := [("stack", .list (s.stk.map .list)), ("letters", leD s.le), ("digits", diD s.di)]
theorem ovD_st (s : St) : ovD (.ins c.Reading s.fs) = some (insD c.Reading s.gs) := by
  simp [ovD, St.fs, ovDf, ovDp, ovDs_ls, St.gs]
@[simp] theorem gk_s (s : St) : s.gs.lookup ("stack" : Str) = some (.list (s.stk.map .list)) := rfl
@[simp] theorem stk_len (s : St) : s.stk.length = s.rp.length + 1 := by simp [St.stk]
theorem stk_0 (s : St) : atI (s.stk.map PyData.list) 0 = some (.list (s.stk.headD [])) := by
  unfold St.stk
  cases s.rp.reverse with
  | nil => exact at0 _ _
  | cons a l => exact at0 _ _
theorem whole_ok {s : St} (h : ∀ y ∈ s.stk.headD [], Shp 63 y) : g_Reading_is_whole K c [.ins c.Reading s.fs] = some (.ok (.d (.bool s.whole)), [.ins c.Reading s.fs]) := by
  have e0 := oNe_nil (n := 63) h
  have e1 := ovD_st (c := c) s
  have e2 := stk_0 s
  obtain ⟨rp, top, le, di⟩ := s
  cases rp with
  | nil =>
    have hh : (St.stk ⟨[], top, le, di⟩).headD [] = top := rfl
    rw [hh] at e0 e2
    cases top <;> cases le <;> cases di <;> simp [g_Reading_is_whole, bd_Reading_is_whole, runF, runF.lentF, runF.lentL, peek, e1, e2, hidO, scalB, e0, St.whole, oIsN, isNone, leD, diD]
  | cons q r =>
    have h2 : ¬ ((r.length : Int) + 1 + 1 = 1) := by omega
    simp [g_Reading_is_whole, bd_Reading_is_whole, runF, runF.lentF, runF.lentL, peek, e1, hidO, scalB, St.whole, h2]
/-! a letter -/
def chS (k : Int) : Str := ⟨#[(97 + k).toNat]⟩
theorem let_all : ∀ n : Nat, n < 26 → atI ("abcdefghijklmnopqrstuvwxyz" : Str).cps.toList (n : Int) = some (97 + n) := by decide +kernel
theorem let_len : ("abcdefghijklmnopqrstuvwxyz" : Str).length = 26 := by decide +kernel
theorem oIx_let {k : Int} (h0 : 0 ≤ k) (h1 : k < 26) : oIx (.str "abcdefghijklmnopqrstuvwxyz") (.int k) = some (.d (.str (chS k))) := by
  obtain ⟨n, rfl⟩ := Int.eq_ofNat_of_zero_le h0
  have e := let_all n (by omega)
  have hs : (26 : Nat) ≤ sizeLine := by rw [sizeLine_eq]; decide
  have e2 : (97 + (n : Int)).toNat = 97 + n := by omega
  simp only [oIx, let_len, hs, if_true, chS]
  rw [e, e2]
  rfl
/-! one more item on the innermost tuple -/
theorem ix_last (n : Nat) : ixN (n + 1) (-1) = some n := by
  unfold ixN
  rw [if_neg (by omega), if_pos (by omega)]
  congr 1
  omega
def St.put (s : St) (y : PyData) : St := { s with top := s.top ++ [y] }
theorem set_app {α : Type} (l : List α) (a b : α) : (l ++ [a]).set l.length b = l ++ [b] := by simp
theorem ap_ok {s : St} {r : SS} {S1 : SS} {fe : M OV} {y : PyData} (hf : fe (none :: r) = some (.ok (.d y), none :: S1)) (ht : s.top.length < sizeLine) : apF 0 c.Reading "stack" fe (some (.ins c.Reading s.fs) :: r) = some (.ok (.d .none), some (.ins c.Reading (s.put y).fs) :: S1) := by
  have e1 : (s.stk.map lsO)[s.rp.length]? = some (lsO s.top) := by
    unfold St.stk
    rw [List.map_append, List.getElem?_append_right (by simp)]
    simp
  have e2 : (s.stk.map lsO).set s.rp.length (.lst ((s.top ++ [y]).map .d)) = (s.put y).stk.map lsO := by
    unfold St.stk St.put
    have := set_app (s.rp.reverse.map lsO) (lsO s.top) (lsO (s.top ++ [y]))
    simp only [List.length_map, List.length_reverse] at this
    rw [List.map_append, List.map_append (f := lsO)]
    exact this
  have e3 : putFO "stack" (.lst ((s.put y).stk.map lsO)) s.fs = (s.put y).fs := rfl
  have e4 : items (s.top.map .d) = some s.top := items_map _
  simp only [apF_S, List.getElem?_cons_zero, if_true, lk_s, List.length_map, stk_len, ix_last, e1, lsO, e4, List.set_cons_zero, hf, ht, if_pos, e2, e3]
end K17

/-! one cell taken -/
namespace K17
open PySem PySem.Spec PyProof.Rows L2 LamX PL
variable {K : PySem.W.Frag} {c : Ad}
def numI (a : Int) (ds : List Int) : Int := ds.foldl (fun a d => a * 32 + d) a
def stpD (s : St) (ds : List Int) (x : Int) : Option St :=
  if 32 ≤ x then (if 2 ≤ ds.length ∨ (ds = [] ∧ x = 32) then none else some { s with di := some (ds ++ [x - 32]) })
  else some { (s.put (.int (numI 0 (ds ++ [x])))) with di := none }
def leS (s : St) : Str := s.le.getD ""
def stpL (s : St) (x : Int) : Option St :=
  if 1 ≤ x ∧ x ≤ 26 ∧ (leS s).length ≤ 6 then some { s with le := some (leS s ++ chS (x - 1)) }
  else if 33 ≤ x ∧ x ≤ 58 then some { (s.put (.str (leS s ++ chS (x - 33)))) with le := none }
  else none
def plain (x : Int) : PyData := if x = 29 then .none else if x = 30 then .bool false else if x = 31 then .bool true else .str ""
def stp (s : St) (x : Int) : Option St := match s.di with
  | some ds => stpD s ds x
  | none => if s.le.isSome ∨ (1 ≤ x ∧ x ≤ 26) ∨ (33 ≤ x ∧ x ≤ 58) then (if s.whole then none else stpL s x)
    else if s.whole then none
    else if 29 ≤ x ∧ x ≤ 32 then some (s.put (plain x))
    else if x = 59 then some { s with di := some [] }
    else if x = 27 ∧ s.rp.length ≤ 11 then some { s with rp := s.top :: s.rp, top := [] }
    else if x = 28 then (match s.rp with
      | q :: r => some { s with rp := r, top := q ++ [.tuple s.top] }
      | [] => none)
    else none
theorem num_loop {s0 s1 : Option OV} : ∀ {xs : List Int} {a : Int} {x3 : Option OV}, ∃ y3, forL (gN 3) (lb_Reading_takes_digit_1 K c) (iD xs) [s0, s1, some (.d (.int a)), x3] = some (.nx, [s0, s1, some (.d (.int (numI a xs))), y3])
  | [], a, x3 => ⟨x3, rfl⟩
  | x :: xs, a, x3 => by
    obtain ⟨y3, e⟩ := num_loop (s0 := s0) (s1 := s1) (xs := xs) (a := a * 32 + x) (x3 := some (.d (.int x)))
    have hm : cMul a 32 = true := cm2 (by decide) (by decide)
    exact ⟨y3, (forL_step (S1 := [s0, s1, some (.d (.int a)), some (.d (.int x))]) (by simp) (by simp [lb_Reading_takes_digit_1, hm])).trans e⟩
theorem digit_ok {s : St} {ds : List Int} {x : Int} (hd : s.di = some ds) (hl : ds.length ≤ 2) (ht : s.top.length < sizeLine) :
    g_Reading_takes_digit K c [.ins c.Reading s.fs, .d (.int x)] = some (.ok (.d (.bool (stpD s ds x).isSome)), [.ins c.Reading ((stpD s ds x).getD s).fs, .d (.int x)]) := by
  have e0 := oEq_nil (n := 1) (iD_shp 1 ds)
  have hz : ds.length + 1 ≤ sizeLine := by rw [sizeLine_eq]; omega
  have c1 : ((3 : Int) ≤ (ds.length : Int) + 1) ↔ 2 ≤ ds.length := by omega
  have c2 : (iD ds).isEmpty = decide (ds = []) := by cases ds <;> rfl
  have c3 : iD ds ++ [PyData.int (x - 32)] = iD (ds ++ [x - 32]) := by simp [iD]
  have c4 : iD ds ++ [PyData.int x] = iD (ds ++ [x]) := by simp [iD]
  have hs1 : 1 ≤ sizeLine := by rw [sizeLine_eq]; decide
  by_cases h1 : 32 ≤ x
  · by_cases h2 : 2 ≤ ds.length
    · simp [g_Reading_takes_digit, bd_Reading_takes_digit, runF, runF.lentF, runF.lentL, hd, diD, h1, c1, h2, stpD]
    · by_cases h4 : ds = []
      · subst h4
        by_cases h5 : x = 32
        · subst h5
          simp [g_Reading_takes_digit, bd_Reading_takes_digit, runF, runF.lentF, runF.lentL, hd, diD, e0, stpD]
        · have c5 := put_ds s [x - 32]
          have c6 : iD [x - 32] = [.int (x - 32)] := rfl
          rw [c6] at c5
          rw [show iD [] = [] from rfl] at e0
          simp [g_Reading_takes_digit, bd_Reading_takes_digit, runF, runF.lentF, runF.lentL, hd, diD, e0, stpD, h1, h5, c5, hs1, show iD [] = [] from rfl]
      · simp [g_Reading_takes_digit, bd_Reading_takes_digit, runF, runF.lentF, runF.lentL, hd, diD, h1, c1, h2, e0, c2, h4, stpD, hz, c3, hs1]
  · obtain ⟨y3, e⟩ := num_loop (K := K) (c := c) (s0 := some (.ins c.Reading s.fs)) (s1 := some (.d (.int x))) (xs := ds ++ [x]) (a := 0) (x3 := none)
    have e2 := ap_ok (c := c) (s := s) (r := [some (.d (.int x)), some (.d (.int (numI 0 (ds ++ [x])))), y3]) (S1 := [some (.d (.int x)), some (.d (.int (numI 0 (ds ++ [x])))), y3]) (fe := rdZ 2) (y := .int (numI 0 (ds ++ [x]))) (by simp) ht
    simp [-apF_S, g_Reading_takes_digit, bd_Reading_takes_digit, runF, runF.lentF, runF.lentL, hd, diD, h1, stpD, hz, c4, e, e2, hs1]
theorem len_app (a b : Str) : (a ++ b).length = a.length + b.length := by
  show (a.cps ++ b.cps).size = _
  rw [Array.size_append]; rfl
theorem len_ch (k : Int) : (chS k).length = 1 := rfl
theorem len_e : ("" : Str).length = 0 := rfl
theorem letter_ok {s : St} {x : Int} (hl : (leS s).length ≤ 100) (ht : s.top.length < sizeLine) :
    g_Reading_takes_letter K c [.ins c.Reading s.fs, .d (.int x)] = some (.ok (.d (.bool (stpL s x).isSome)), [.ins c.Reading ((stpL s x).getD s).fs, .d (.int x)]) := by
  have hs : sizeLine = 16777216 := sizeLine_eq
  have hz : (leS s).length ≤ sizeLine := by omega
  have hz1 : (leS s).length + 1 ≤ sizeLine := by omega
  have e0 : ifE (asB (bin (toV (getF 0 c.Reading "letters")) (toV (cst .none)) oIsN)) (cst (.str "")) (getF 0 c.Reading "letters") [some (.ins c.Reading s.fs), some (.d (.int x)), none] = some (.ok (.d (.str (leS s))), [some (.ins c.Reading s.fs), some (.d (.int x)), none]) := by
    unfold leS
    cases h : s.le <;> simp [h, leD, oIsN, isNone]
  have c1 : ((leS s).length : Int) + 1 < 8 ↔ (leS s).length ≤ 6 := by omega
  generalize hle : leS s = z at *
  by_cases h1 : 1 ≤ x ∧ x ≤ 26 ∧ z.length ≤ 6
  · obtain ⟨a1, a2, a3⟩ := h1
    have e1 := oIx_let (k := x - 1) (by omega) (by omega)
    have c2 := c1.mpr a3
    have c3 := len_ch (x - 1)
    simp [g_Reading_takes_letter, bd_Reading_takes_letter, runF, runF.lentF, runF.lentL, -ifE_S, e0, stpL, hle, a1, a2, a3, c2, e1, hz, hz1, c3, oAdd]
  · by_cases h2 : 33 ≤ x ∧ x ≤ 58
    · obtain ⟨a1, a2⟩ := h2
      have b1 : ¬ x ≤ 26 := by omega
      have b2 : 1 ≤ x := by omega
      have e1 := oIx_let (k := x - 33) (by omega) (by omega)
      have c3 := len_ch (x - 33)
      have e2 := ap_ok (c := c) (s := s) (r := [some (.d (.int x)), some (.d (.str z))]) (S1 := [some (.d (.int x)), some (.d (.str z))]) (fe := bin (rdV 2) (toV (bin (toV (cst (.str "abcdefghijklmnopqrstuvwxyz"))) (toV (bin (rdV 1) (toV (cst (.int 33))) oSub)) oIx)) (oAdd false)) (y := .str (z ++ chS (x - 33))) (by simp [e1, oAdd, c3, hz1]) ht
      simp [g_Reading_takes_letter, bd_Reading_takes_letter, runF, runF.lentF, runF.lentL, -ifE_S, -apF_S, e0, stpL, hle, a1, a2, b1, b2, e2]
    · have hn : stpL s x = none := by
        unfold stpL
        rw [hle, if_neg h1, if_neg h2]
      have k : ∀ (f1 : Bool), (f1 = decide (33 ≤ x)) → f1 = true → ¬ x ≤ 58 := fun f1 e1 e2 g => by
        rw [e2] at e1
        exact h2 ⟨of_decide_eq_true e1.symm, g⟩
      by_cases f1 : 33 ≤ x
      · have f2 : ¬ x ≤ 58 := fun g => h2 ⟨f1, g⟩
        have g1 : 1 ≤ x := by omega
        have g2 : ¬ x ≤ 26 := by omega
        simp [g_Reading_takes_letter, bd_Reading_takes_letter, runF, runF.lentF, runF.lentL, -ifE_S, e0, hn, f1, f2, g1, g2, hz]
      · by_cases g1 : 1 ≤ x
        · by_cases g2 : x ≤ 26
          · have g3 : ¬ z.length ≤ 6 := fun g => h1 ⟨g1, g2, g⟩
            have g4 : ¬ ((z.length : Int) + 1 < 8) := fun g => g3 (c1.mp g)
            simp [g_Reading_takes_letter, bd_Reading_takes_letter, runF, runF.lentF, runF.lentL, -ifE_S, e0, hn, f1, g1, g2, g4, hz]
          · simp [g_Reading_takes_letter, bd_Reading_takes_letter, runF, runF.lentF, runF.lentL, -ifE_S, e0, hn, f1, g1, g2, hz]
        · simp [g_Reading_takes_letter, bd_Reading_takes_letter, runF, runF.lentF, runF.lentL, -ifE_S, e0, hn, f1, g1, hz]
/-! the whole of takes -/
theorem plain_ix {x : Int} (h : 29 ≤ x ∧ x ≤ 32) : oCix tb_PLAIN (.int x) = some (.d (plain x)) := by
  have : x = 29 ∨ x = 30 ∨ x = 31 ∨ x = 32 := by omega
  rcases this with rfl | rfl | rfl | rfl <;> rfl
end K17

/-! what is a tree -/
namespace K17
open PySem PySem.Spec PyProof.Rows L2 LamX PL
variable {K : PySem.W.Frag} {c : Ad}
def lowB (n : Nat) : Bool := decide (97 ≤ n) && decide (n ≤ 122)
def wordB (s : Str) : Bool := decide (s.length ≤ 8) && s.cps.toList.all lowB
def isT : Nat → PyData → Bool
  | 0, x => match x with
    | .none => true
    | .bool _ => true
    | .str s => wordB s
    | .int i => isNum (.int i) 0 32768
    | _ => false
  | n + 1, x => match x with
    | .none => true
    | .bool _ => true
    | .tuple xs => xs.all (isT n)
    | .str s => wordB s
    | .int i => isNum (.int i) 0 32768
    | _ => false
theorem isT_none (n : Nat) : isT n .none = true := by cases n <;> rfl
theorem isT_bool (n : Nat) (b : Bool) : isT n (.bool b) = true := by cases n <;> rfl
theorem isT_str (n : Nat) (s : Str) : isT n (.str s) = wordB s := by cases n <;> rfl
theorem isT_int (n : Nat) (i : Int) : isT n (.int i) = isNum (.int i) 0 32768 := by cases n <;> rfl
theorem isT_list (n : Nat) (xs : List PyData) : isT n (.list xs) = false := by cases n <;> rfl
theorem isT_t0 (xs : List PyData) : isT 0 (.tuple xs) = false := rfl
theorem isT_tS (n : Nat) (xs : List PyData) : isT (n + 1) (.tuple xs) = xs.all (isT n) := rfl
theorem isT_mono : ∀ {n : Nat} {x : PyData}, isT n x = true → isT (n + 1) x = true
  | 0, .none, _ => rfl
  | 0, .bool _, _ => rfl
  | 0, .str _, h => h
  | 0, .int _, h => h
  | n + 1, .none, _ => rfl
  | n + 1, .bool _, _ => rfl
  | n + 1, .str _, h => h
  | n + 1, .int _, h => h
  | n + 1, .tuple xs, h => by
    rw [isT_tS, List.all_eq_true] at h ⊢
    exact fun x hx => isT_mono (h x hx)
theorem isT_le {m n : Nat} {x : PyData} (h : isT m x = true) (e : m ≤ n) : isT n x = true := by
  induction e with
  | refl => exact h
  | step _ ih => exact isT_mono ih
/-! weights -/
theorem wt_all : ∀ {xs : List PyData} {x : PyData}, x ∈ xs → PyData.weight x + 1 ≤ PyData.weightAll xs
  | y :: ys, x, h => by
    have e : PyData.weightAll (y :: ys) = PyData.weight y + 1 + PyData.weightAll ys := by simp only [PyData.weightAll]
    rw [e]
    rcases List.mem_cons.mp h with rfl | h
    · omega
    · have := wt_all h; omega
theorem wt_len : ∀ xs : List PyData, xs.length ≤ PyData.weightAll xs
  | [] => Nat.zero_le _
  | y :: ys => by
    have e : PyData.weightAll (y :: ys) = PyData.weight y + 1 + PyData.weightAll ys := by simp only [PyData.weightAll]
    have := wt_len ys
    rw [e, List.length_cons]; omega
theorem wt_tup (xs : List PyData) : PyData.weight (.tuple xs) = PyData.weightAll xs := by simp only [PyData.weight]
theorem wt_lst (xs : List PyData) : PyData.weight (.list xs) = PyData.weightAll xs := by simp only [PyData.weight]
theorem wt_str (s : Str) : PyData.weight (.str s) = s.length := by simp only [PyData.weight]; rfl
/-! a sign -/
theorem alpha_eq : ("abcdefghijklmnopqrstuvwxyz" : Str).cps.toList = List.range' 97 26 := by decide +kernel
theorem mem_alpha (n : Nat) : decide (n ∈ ("abcdefghijklmnopqrstuvwxyz" : Str).cps.toList) = lowB n := by
  rw [alpha_eq]
  by_cases h : 97 ≤ n ∧ n ≤ 122
  · have : n ∈ List.range' 97 26 := List.mem_range'_1.mpr ⟨h.1, by omega⟩
    simp [this, lowB, h.1, h.2]
  · have : n ∉ List.range' 97 26 := fun z => h (by have := List.mem_range'_1.mp z; omega)
    simp only [this, decide_false]
    unfold lowB
    by_cases h1 : 97 ≤ n
    · have h2 : ¬ n ≤ 122 := fun z => h ⟨h1, z⟩
      simp [h1, h2]
    · simp [h1]
def sgD (n : Nat) : PyData := .str ⟨#[n]⟩
theorem inS_ok (n : Nat) : oInS (sgD n) (.str "abcdefghijklmnopqrstuvwxyz") = some (.d (.bool (lowB n))) := by
  rw [← mem_alpha]
  rfl
theorem notInS_ok (n : Nat) : oNotInS (sgD n) (.str "abcdefghijklmnopqrstuvwxyz") = some (.d (.bool (!lowB n))) := by
  rw [← mem_alpha]
  rfl
theorem strOf_s (z : Str) : strOf (.d (.str z)) = some (z.cps.toList.map sgD) := rfl
def sgN : PyData → Nat
  | .str z => z.cps.getD 0 0
  | _ => 0
theorem sgN_D (n : Nat) : sgN (sgD n) = n := rfl
theorem len_cps (z : Str) : z.cps.toList.length = z.length := by simp [Str.length]
/-! the program's is_tree -/
theorem tree_leaf {n k : Nat} {x : PyData} {d : Nat} (hd : d ≤ 63) (hx : Shp d x) (hw : PyData.weight x ≤ 1048576) (ht : ∀ xs, x ≠ .tuple xs) : g_is_tree K c (n + 1) [.d x, .d (.int (k : Int))] = some (.ok (.d (.bool (isT k x))), [.d x, .d (.int (k : Int))]) := by
  cases x with
  | dict kvs => exact absurd rfl (hx.nx kvs)
  | none => simp [g_is_tree, bd_is_tree, runF, runF.lentF, runF.lentL, oIsN, isNone, isT_none]
  | bool b => simp [g_is_tree, bd_is_tree, runF, runF.lentF, runF.lentL, oIsN, isNone, isT_bool]
  | int i =>
    have e := is_number_ok (K := K) (c := c) (x := .int i) (by intro _ h; cases h) 0 32768
    simp [g_is_tree, bd_is_tree, runF, runF.lentF, runF.lentL, oIsN, isNone, isT_int, e]
  | list xs =>
    have e := is_number_ok (K := K) (c := c) (x := .list xs) (by intro _ h; cases h) 0 32768
    simp [g_is_tree, bd_is_tree, runF, runF.lentF, runF.lentL, oIsN, isNone, isT_list, e, isNum]
  | tuple xs => exact absurd rfl (ht xs)
  | str z =>
    rw [wt_str] at hw
    have hz : z.length ≤ sizeLine := by rw [sizeLine_eq]; omega
    have hsz := sizeLine_eq
    rw [isT_str]
    by_cases h8 : z.length ≤ 8
    · have key : compL (gN 3) tYesM (ce_is_tree_2 K c (g_is_tree K c n)) [3] (z.cps.toList.map sgD) [] [some (.d (.str z)), some (.d (.int (k : Int))), none, none] = some ((z.cps.toList.map lowB).map .bool, [some (.d (.str z)), some (.d (.int (k : Int))), none, none]) := by
        have := compL_map (g := gN 3) (fe := ce_is_tree_2 K c (g_is_tree K c n)) (vs := [3]) (S := [some (.d (.str z)), some (.d (.int (k : Int))), none, none]) (ds := z.cps.toList.map sgD) (acc := []) (h := fun y => .bool (lowB (sgN y))) (by rw [List.length_map, len_cps]; simpa using hz) (fun d hd => by
          obtain ⟨m, _, rfl⟩ := List.mem_map.mp hd
          refine ⟨[some (.d (.str z)), some (.d (.int (k : Int))), none, some (.d (sgD m))], [some (.d (.str z)), some (.d (.int (k : Int))), none, some (.d (sgD m))], by simp, ?_, rfl⟩
          have e := inS_ok m
          simp [ce_is_tree_2, sgN_D, e])
        rw [this, List.nil_append, List.map_map, List.map_map]
        rfl
      have e2 := bools_mapB (z.cps.toList.map lowB)
      have c8 : ((z.length : Int) ≤ 8) := by omega
      have e3 : (z.cps.toList.map lowB).all id = z.cps.toList.all lowB := by rw [List.all_map]; rfl
      have e4 : wordB z = z.cps.toList.all lowB := by simp [wordB, h8]
      have e5 := strOf_s z
      generalize hq : z.cps.toList.map sgD = Q at *
      generalize hr : z.cps.toList.map lowB = R at *
      simp [g_is_tree, bd_is_tree, runF, runF.lentF, runF.lentL, oIsN, isNone, hz, c8, e5, wipeS, key, e2, e3, e4]
    · have c8 : ¬ ((z.length : Int) ≤ 8) := by omega
      simp [g_is_tree, bd_is_tree, runF, runF.lentF, runF.lentL, oIsN, isNone, hz, c8, wordB, h8]
theorem is_tree_ok : ∀ {n k : Nat} {x : PyData} {d : Nat}, k ≤ n → d ≤ 63 → Shp d x → PyData.weight x ≤ 1048576 → g_is_tree K c (n + 1) [.d x, .d (.int (k : Int))] = some (.ok (.d (.bool (isT k x))), [.d x, .d (.int (k : Int))]) := by
  intro n
  induction n with
  | zero =>
    intro k x d hk hd hx hw
    obtain rfl : k = 0 := by omega
    by_cases ht : ∀ xs, x ≠ .tuple xs
    · exact tree_leaf hd hx hw ht
    · obtain ⟨xs, hxs⟩ := Classical.not_forall.mp ht
      obtain rfl : x = .tuple xs := Classical.byContradiction hxs
      simp [g_is_tree, bd_is_tree, runF, runF.lentF, runF.lentL, oIsN, isNone, isT]
  | succ n ih =>
    intro k x d hk hd hx hw
    by_cases ht : ∀ xs, x ≠ .tuple xs
    · exact tree_leaf hd hx hw ht
    · obtain ⟨xs, hxs⟩ := Classical.not_forall.mp ht
      obtain rfl : x = .tuple xs := Classical.byContradiction hxs
      cases k with
      | zero => simp [g_is_tree, bd_is_tree, runF, runF.lentF, runF.lentL, oIsN, isNone, isT]
      | succ k =>
        rw [isT_tS]
        rw [wt_tup] at hw
        have hl := wt_len xs
        have hsz := sizeLine_eq
        cases d with
        | zero => have := hx.2; simp [PyData.depth] at this
        | succ d =>
        have c0 : (0 : Int) < (k : Int) + 1 := by omega
        have c1 : (((k + 1 : Nat) : Int) - 1) = (k : Int) := by omega
        have key : compL (gN 2) tYesM (ce_is_tree_1 K c (g_is_tree K c (n + 1))) [2] xs [] [some (.d (.tuple xs)), some (.d (.int ((k + 1 : Nat) : Int))), none, none] = some ((xs.map (isT k)).map .bool, [some (.d (.tuple xs)), some (.d (.int ((k + 1 : Nat) : Int))), none, none]) := by
          have := compL_map (g := gN 2) (fe := ce_is_tree_1 K c (g_is_tree K c (n + 1))) (vs := [2]) (S := [some (.d (.tuple xs)), some (.d (.int ((k + 1 : Nat) : Int))), none, none]) (ds := xs) (acc := []) (h := fun y => .bool (isT k y)) (by simp; omega) (fun y hy => by
            refine ⟨[some (.d (.tuple xs)), some (.d (.int ((k + 1 : Nat) : Int))), some (.d y), none], [some (.d (.tuple xs)), some (.d (.int ((k + 1 : Nat) : Int))), some (.d y), none], by simp, ?_, rfl⟩
            have hw2 := wt_all hy
            have e := ih (k := k) (x := y) (d := d) (by omega) (by omega) (shp_mem_tup hx y hy) (by omega)
            simp only [ce_is_tree_1, callF_S, argsCons_S, bind_S, rdV_S, List.getElem?_cons_zero, List.getElem?_cons_succ, toV_S, bin_S, op2_S, view_bw, viewO_d, cst_S, lift_S, frD_d, Option.map_some, view_fr, oSub_i, ret_S, argsNil_S, c1, List.length_cons, List.length_nil, if_true, handF_S, takes_b, takes_f, takes_n, e, gives_b, gives_f, gives_n]
            )
          rw [this, List.nil_append, List.map_map]
          rfl
        have e2 := bools_mapB (xs.map (isT k))
        have e3 : (xs.map (isT k)).all id = xs.all (isT k) := by rw [List.all_map]; rfl
        have c0' : (0 : Int) < ((k + 1 : Nat) : Int) := by omega
        generalize hr : xs.map (isT k) = R at *
        generalize hq : ((k + 1 : Nat) : Int) = q at *
        have fin : g_is_tree K c (n + 1 + 1) = runF 2 4 [0, 1] (bd_is_tree K c (g_is_tree K c (n + 1))) := rfl
        rw [fin]
        generalize g_is_tree K c (n + 1) = gg at *
        simp [bd_is_tree, runF, runF.lentF, runF.lentL, oIsN, isNone, c0', wipeS, key, e2, e3]
end K17

/-! a cell is taken -/
namespace K17
open PySem PySem.Spec PyProof.Rows L2 LamX PL
variable {K : PySem.W.Frag} {c : Ad}
theorem plain_in' (x : Int) : oCin tb_PLAIN false (.int x) = some (.d (.bool (decide (29 ≤ x ∧ x ≤ 32)))) := by
  by_cases h : 29 ≤ x ∧ x ≤ 32
  · have : x = 29 ∨ x = 30 ∨ x = 31 ∨ x = 32 := by omega
    rcases this with rfl | rfl | rfl | rfl <;> rfl
  · have h1 : ¬ 29 = x := by omega
    have h2 : ¬ 30 = x := by omega
    have h3 : ¬ 31 = x := by omega
    have h4 : ¬ 32 = x := by omega
    simp [oCin, lookI, tb_PLAIN, List.find?, h1, h2, h3, h4, h]
theorem push_ok {s : St} {r : SS} (hs : s.rp.length < 1000) : apO 0 c.Reading "stack" (mkLst true argsNil) (some (.ins c.Reading s.fs) :: r) = some (.ok (.d .none), some (.ins c.Reading ({ s with rp := s.top :: s.rp, top := [] } : St).fs) :: r) := by
  have h1 : s.stk.length < sizeLine := by rw [stk_len, sizeLine_eq]; omega
  have h2 : putFO "stack" (.lst (s.stk.map lsO ++ [.lst []])) s.fs = ({ s with rp := s.top :: s.rp, top := [] } : St).fs := by
    have : s.stk.map lsO ++ [OV.lst []] = ({ s with rp := s.top :: s.rp, top := [] } : St).stk.map lsO := by
      simp [St.stk, lsO]
    rw [this]
    rfl
  rw [stk_len] at h1
  simp [h1, h2]
theorem pop_ok {s : St} {q : List PyData} {r0 : List (List PyData)} {r : SS} (hs : s.rp = q :: r0) : frzM (popF 0 c.Reading "stack") (some (.ins c.Reading s.fs) :: r) = some (.ok (.d (.list s.top)), some (.ins c.Reading ({ s with rp := r0, top := q } : St).fs) :: r) := by
  have e1 : (s.stk.map lsO).getLast? = some (lsO s.top) := by simp [St.stk]
  have e2 : (s.stk.map lsO).dropLast = ({ s with rp := r0, top := q } : St).stk.map lsO := by
    simp [St.stk, hs]
  have e3 : putFO "stack" (.lst (({ s with rp := r0, top := q } : St).stk.map lsO)) s.fs = ({ s with rp := r0, top := q } : St).fs := rfl
  have e4 : ovD (lsO s.top) = some (.list s.top) := by simp [lsO, ovD, ovDs_d]
  simp only [frzM_S, popF_S, List.getElem?_cons_zero, if_true, lk_s, e1, e2, e3, e4, List.set_cons_zero, Option.map_some]
def Lv : List (List PyData) → Prop
  | [] => True
  | q :: r => (∀ y ∈ q, Shp (12 - r.length) y) ∧ Lv r
theorem Lv.mem : ∀ {l : List (List PyData)}, Lv l → ∀ q ∈ l, ∀ y ∈ q, Shp 12 y
  | p :: r, h, q, hq, y, hy => by
    rcases List.mem_cons.mp hq with rfl | hq
    · exact (h.1 y hy).mono (by omega)
    · exact Lv.mem h.2 q hq y hy
structure Good (n : Nat) (s : St) : Prop where
  lv : Lv (s.top :: s.rp)
  dp : s.rp.length ≤ 12
  ln : ∀ q ∈ s.top :: s.rp, q.length ≤ n
  le : ∀ z, s.le = some z → z.length ≤ 7 ∧ PyData.strOk z = true
  di : ∀ ds, s.di = some ds → ds.length ≤ 2
theorem Good.bot {n : Nat} {s : St} (h : Good n s) : ∀ y ∈ s.stk.headD [], Shp 63 y := fun y hy => by
  have hm : s.stk.headD [] ∈ s.top :: s.rp := by
    have : s.stk.headD [] ∈ s.stk := by
      unfold St.stk
      cases s.rp.reverse <;> simp
    unfold St.stk at this
    simp only [List.mem_append, List.mem_reverse, List.mem_singleton] at this
    simp only [List.mem_cons]
    exact this.symm
  exact (Lv.mem h.lv _ hm y hy).mono (by decide)
theorem Good.lsl {n : Nat} {s : St} (h : Good n s) : (leS s).length ≤ 7 := by
  unfold leS
  cases e : s.le with
  | none => exact Nat.zero_le _
  | some z => exact (h.le z e).1
theorem takes_ok {n : Nat} {s : St} {x : Int} (h : Good n s) (hn : n < 16000000) :
    g_Reading_takes K c [.ins c.Reading s.fs, .d (.int x)] = some (.ok (.d (.bool (stp s x).isSome)), [.ins c.Reading ((stp s x).getD s).fs, .d (.int x)]) := by
  have ht : s.top.length < sizeLine := by
    have := h.ln s.top (by simp)
    rw [sizeLine_eq]; omega
  have ew := whole_ok (K := K) (c := c) h.bot
  have eD := ovD_st (c := c) s
  cases hd : s.di with
  | some ds =>
    have e := digit_ok (K := K) (c := c) (x := x) hd (h.di ds hd) ht
    simp [g_Reading_takes, bd_Reading_takes, runF, runF.lentF, runF.lentL, hd, diD, oNotN, isNone, stp, e]
  | none =>
    have el := letter_ok (K := K) (c := c) (s := s) (x := x) (by have := h.lsl; omega) ht
    have k1 : ∀ S : SS, S = [some (.ins c.Reading s.fs), some (.d (.int x)), none] → orT (asB (bin (toV (getF 0 c.Reading "letters")) (toV (cst .none)) oNotN)) (orT (asB (chain (toV (cst (.int 1))) (rdV 1) (toV (cst (.int 26))) oLe oLe)) (asB (chain (toV (cst (.int 33))) (rdV 1) (toV (cst (.int 58))) oLe oLe))) S = some (.ok (decide (s.le.isSome ∨ (1 ≤ x ∧ x ≤ 26) ∨ (33 ≤ x ∧ x ≤ 58))), S) := fun S hS => by
      subst hS
      cases hl : s.le with
      | some z => simp [hl, leD, oNotN, isNone]
      | none =>
        by_cases g1 : 1 ≤ x
        · by_cases g2 : x ≤ 26
          · simp [hl, leD, oNotN, isNone, g1, g2]
          · by_cases g3 : 33 ≤ x
            · by_cases g4 : x ≤ 58 <;> simp [hl, leD, oNotN, isNone, g1, g2, g3, g4]
            · simp [hl, leD, oNotN, isNone, g1, g2, g3]
        · have g3 : ¬ 33 ≤ x := by omega
          simp [hl, leD, oNotN, isNone, g1, g3]
    have k1 := k1 _ rfl
    by_cases c1 : s.le.isSome ∨ (1 ≤ x ∧ x ≤ 26) ∨ (33 ≤ x ∧ x ≤ 58)
    · rw [decide_eq_true c1] at k1
      have es : stp s x = if s.whole then none else stpL s x := by
        unfold stp
        rw [hd]
        exact if_pos c1
      rw [es]
      cases hw : s.whole with
      | true =>
        rw [hw] at ew
        simp [-orT_S, g_Reading_takes, bd_Reading_takes, runF, runF.lentF, runF.lentL, hd, diD, oNotN, isNone, k1, ew]
      | false =>
        rw [hw] at ew
        simp [-orT_S, g_Reading_takes, bd_Reading_takes, runF, runF.lentF, runF.lentL, hd, diD, oNotN, isNone, k1, ew, el]
    · rw [decide_eq_false c1] at k1
      have es : stp s x = if s.whole then none
          else if 29 ≤ x ∧ x ≤ 32 then some (s.put (plain x))
          else if x = 59 then some { s with di := some [] }
          else if x = 27 ∧ s.rp.length ≤ 11 then some { s with rp := s.top :: s.rp, top := [] }
          else if x = 28 then (match s.rp with
            | q :: r => some { s with rp := r, top := q ++ [.tuple s.top] }
            | [] => none)
          else none := by
        unfold stp
        rw [hd]
        exact if_neg c1
      cases hw : s.whole with
      | true =>
        rw [hw] at ew es
        rw [es]
        simp [-orT_S, g_Reading_takes, bd_Reading_takes, runF, runF.lentF, runF.lentL, hd, diD, oNotN, isNone, k1, ew]
      | false =>
        rw [hw] at ew es
        rw [if_neg Bool.false_ne_true] at es
        have ep := plain_in' x
        by_cases c2 : 29 ≤ x ∧ x ≤ 32
        · rw [if_pos c2] at es
          rw [es]
          rw [decide_eq_true c2] at ep
          have ei := plain_ix c2
          have ea := ap_ok (c := c) (s := s) (r := [some (.d (.int x)), none]) (S1 := [some (.d (.int x)), none]) (fe := cixM tb_PLAIN (rdV 1)) (y := plain x) (by simp [ei]) ht
          simp [-orT_S, -peekT_S, -apF_S, g_Reading_takes, bd_Reading_takes, runF, runF.lentF, runF.lentL, hd, diD, oNotN, isNone, k1, ew, ep, ea]
        · rw [if_neg c2] at es
          rw [decide_eq_false c2] at ep
          by_cases c3 : x = 59
          · rw [if_pos c3] at es
            rw [es]
            subst c3
            simp [-orT_S, -peekT_S, -apF_S, g_Reading_takes, bd_Reading_takes, runF, runF.lentF, runF.lentL, hd, diD, oNotN, isNone, k1, ew, ep]
          · rw [if_neg c3] at es
            have eP : ∀ S : SS, S = [some (.ins c.Reading s.fs), some (.d (.int x)), none] → peekT 0 (asB (bin (toV (callN (argsCons (toV (getF 0 c.Reading "stack")) argsNil) oLen)) (toV (cst (.int 12))) oLe)) S = some (.ok (decide (s.rp.length ≤ 11)), S) := fun S hS => by
              subst hS
              have q : ((s.rp.length : Int) + 1 ≤ 12) ↔ s.rp.length ≤ 11 := by omega
              simp [peekT, eD, hidO, q]
            have eP := eP _ rfl
            have eQ : ∀ S : SS, S = [some (.ins c.Reading s.fs), some (.d (.int x)), none] → peekT 0 (asB (bin (toV (callN (argsCons (toV (getF 0 c.Reading "stack")) argsNil) oLen)) (toV (cst (.int 1))) oGt)) S = some (.ok (!s.rp.isEmpty), S) := fun S hS => by
              subst hS
              cases hr : s.rp with
              | nil => simp [peekT, eD, hidO, hr]
              | cons q r =>
                have q : ((1 : Int) < (r.length : Int) + 1 + 1) := by omega
                simp [peekT, eD, hidO, hr, q]
            have eQ := eQ _ rfl
            by_cases c4 : x = 27
            · subst c4
              by_cases c5 : s.rp.length ≤ 11
              · rw [if_pos ⟨rfl, c5⟩] at es
                rw [es]
                rw [decide_eq_true c5] at eP
                have eu := push_ok (c := c) (s := s) (r := [some (.d (.int 27)), none]) (by omega)
                simp [-orT_S, -peekT_S, -apF_S, -apO_S, g_Reading_takes, bd_Reading_takes, runF, runF.lentF, runF.lentL, hd, diD, oNotN, isNone, k1, ew, ep, eP, eu]
              · rw [if_neg (fun z => c5 z.2), if_neg (by decide)] at es
                rw [es]
                rw [decide_eq_false c5] at eP
                simp [-orT_S, -peekT_S, -apF_S, -apO_S, g_Reading_takes, bd_Reading_takes, runF, runF.lentF, runF.lentL, hd, diD, oNotN, isNone, k1, ew, ep, eP]
            · rw [if_neg (fun z => c4 z.1)] at es
              by_cases c6 : x = 28
              · subst c6
                rw [if_pos rfl] at es
                cases hr : s.rp with
                | nil =>
                  rw [hr] at es eQ
                  rw [es]
                  simp [-orT_S, -peekT_S, -apF_S, -apO_S, g_Reading_takes, bd_Reading_takes, runF, runF.lentF, runF.lentL, hd, diD, oNotN, isNone, k1, ew, ep, eQ]
                | cons q r =>
                  rw [hr] at es eQ
                  rw [es]
                  have eo := pop_ok (c := c) (r := [some (.d (.int 28)), none]) hr
                  have hq : q.length < sizeLine := by
                    have := h.ln q (by simp [hr])
                    rw [sizeLine_eq]; omega
                  have ea := ap_ok (c := c) (s := { s with rp := r, top := q }) (r := [some (.d (.int 28)), some (.d (.tuple s.top))]) (S1 := [some (.d (.int 28)), some (.d (.tuple s.top))]) (fe := rdZ 2) (y := .tuple s.top) (by simp) hq
                  simp only [St.put, hd] at ea
                  simp [-orT_S, -peekT_S, -apF_S, -apO_S, -frzM_S, g_Reading_takes, bd_Reading_takes, runF, runF.lentF, runF.lentL, hd, diD, oNotN, isNone, k1, ew, ep, eQ, eo, ea]
              · rw [if_neg c6] at es
                rw [es]
                simp [-orT_S, -peekT_S, -apF_S, -apO_S, g_Reading_takes, bd_Reading_takes, runF, runF.lentF, runF.lentL, hd, diD, oNotN, isNone, k1, ew, ep, c3, c4, c6]
end K17

/-! the cells one behind another -/
namespace K17
open PySem PySem.Spec PyProof.Rows L2 LamX PL
variable {K : PySem.W.Frag} {c : Ad}
theorem strOk_app {a b : Str} (h1 : PyData.strOk a = true) (h2 : PyData.strOk b = true) : PyData.strOk (a ++ b) = true := by
  unfold PyData.strOk at h1 h2 ⊢
  show Array.all (a.cps ++ b.cps) _ = true
  rw [Array.all_append, h1, h2]; rfl
theorem strOk_ch {k : Int} (h : k < 1000) : PyData.strOk (chS k) = true := by
  have : (97 + k).toNat < 1114112 := by omega
  simp [PyData.strOk, chS, this]
theorem strOk_leS {n : Nat} {s : St} (h : Good n s) : PyData.strOk (leS s) = true := by
  unfold leS
  cases e : s.le with
  | none => decide +kernel
  | some z => exact (h.le z e).2
theorem Good.put {n : Nat} {s : St} {y : PyData} (h : Good n s) (hy : Shp (12 - s.rp.length) y) : Good (n + 1) (s.put y) where
  lv := ⟨fun z hz => (List.mem_append.mp hz).elim (fun g => h.lv.1 z g) (fun g => by rw [List.mem_singleton.mp g]; exact hy), h.lv.2⟩
  dp := h.dp
  ln := fun q hq => by
    rcases List.mem_cons.mp hq with rfl | hq
    · have := h.ln s.top List.mem_cons_self
      simp only [St.put, List.length_append, List.length_singleton]; omega
    · have := h.ln q (List.mem_cons_of_mem _ hq)
      omega
  le := h.le
  di := h.di
theorem Good.mono {m n : Nat} {s : St} (h : Good m s) (e : m ≤ n) : Good n s := ⟨h.lv, h.dp, fun q hq => Nat.le_trans (h.ln q hq) e, h.le, h.di⟩
theorem Good.dn {n : Nat} {s : St} (h : Good n s) : Good n { s with di := none } := ⟨h.lv, h.dp, h.ln, h.le, fun _ e => by cases e⟩
theorem Good.ds {n : Nat} {s : St} {ds : List Int} (h : Good n s) (hd : ds.length ≤ 2) : Good n { s with di := some ds } := ⟨h.lv, h.dp, h.ln, h.le, fun _ e => by cases e; exact hd⟩
theorem Good.ln' {n : Nat} {s : St} (h : Good n s) : Good n { s with le := none } := ⟨h.lv, h.dp, h.ln, fun _ e => (by cases e), h.di⟩
theorem Good.ls {n : Nat} {s : St} {z : Str} (h : Good n s) (hz : z.length ≤ 7) (h2 : PyData.strOk z = true) : Good n { s with le := some z } := ⟨h.lv, h.dp, h.ln, fun _ e => by cases e; exact ⟨hz, h2⟩, h.di⟩
theorem stp_good {n : Nat} {s s' : St} {x : Int} (h : Good n s) (e : stp s x = some s') : Good (n + 1) s' := by
  unfold stp at e
  split at e
  · rename_i ds hd
    unfold stpD at e
    split at e
    · split at e
      · cases e
      · rename_i h2
        cases e
        exact (h.mono (Nat.le_succ n)).ds (by rw [List.length_append, List.length_singleton]; omega)
    · cases e
      exact (h.put (shp_int _ _)).dn
  · rename_i hd
    split at e
    · split at e
      · cases e
      · unfold stpL at e
        have h7 := h.lsl
        have h8 := strOk_leS h
        split at e
        · rename_i h2
          cases e
          refine (h.mono (Nat.le_succ n)).ls ?_ (strOk_app h8 (strOk_ch (by omega)))
          rw [len_app, len_ch]; omega
        · split at e
          · rename_i h2
            cases e
            exact (h.put (shp_str _ (strOk_app h8 (strOk_ch (by omega))))).ln'
          · cases e
    · split at e
      · cases e
      · split at e
        · cases e
          refine h.put ?_
          unfold plain
          split
          · exact shp_none _
          · split
            · exact shp_bool _ _
            · split
              · exact shp_bool _ _
              · exact shp_str _ (by decide +kernel)
        · split at e
          · cases e
            exact (h.mono (Nat.le_succ n)).ds (Nat.zero_le _)
          · split at e
            · rename_i h2
              cases e
              refine ⟨⟨fun y hy => (by cases hy), h.lv⟩, by show s.rp.length + 1 ≤ 12; omega, fun q hq => ?_, h.le, h.di⟩
              rcases List.mem_cons.mp hq with rfl | hq
              · exact Nat.zero_le _
              · have := h.ln q hq
                omega
            · split at e
              · split at e
                · rename_i q r hr
                  cases e
                  have l1 := h.lv
                  have d1 := h.dp
                  rw [hr] at l1 d1
                  rw [List.length_cons] at d1
                  have hl := h.ln
                  rw [hr] at hl
                  refine ⟨⟨fun z hz => ?_, l1.2.2⟩, by show r.length ≤ 12; omega, fun p hp => ?_, h.le, h.di⟩
                  · rcases List.mem_append.mp hz with g | g
                    · exact l1.2.1 z g
                    · rw [List.mem_singleton.mp g]
                      have := shp_tup (n := 12 - (r.length + 1)) (fun y hy => l1.1 y hy)
                      exact this.mono (by show 12 - (r.length + 1) + 1 ≤ 12 - r.length; omega)
                  · rcases List.mem_cons.mp hp with rfl | hp
                    · have := hl q (by simp)
                      rw [List.length_append, List.length_singleton]; omega
                    · have := hl p (by simp [hp])
                      omega
                · cases e
              · cases e
/-! runs -/
def runW : St → List Int → Nat → Except Nat St
  | s, [], _ => .ok s
  | s, x :: xs, n => match stp s x with
    | some s' => runW s' xs (n + 1)
    | none => .error n
theorem runW_s {s s' : St} {x : Int} {xs : List Int} {n : Nat} (e : stp s x = some s') : runW s (x :: xs) n = runW s' xs (n + 1) := by
  show (match stp s x with | some s' => runW s' xs (n + 1) | none => .error n) = _
  rw [e]
theorem runW_n {s : St} {x : Int} {xs : List Int} {n : Nat} (e : stp s x = none) : runW s (x :: xs) n = .error n := by
  show (match stp s x with | some s' => runW s' xs (n + 1) | none => .error n) = _
  rw [e]
def st0 : St := ⟨[], [], none, none⟩
theorem st0_good : Good 0 st0 := ⟨⟨fun y hy => (by cases hy), trivial⟩, Nat.zero_le _, fun q hq => (by
  rcases List.mem_cons.mp hq with rfl | hq
  · exact Nat.zero_le _
  · cases hq), fun _ e => (by cases e), fun _ e => (by cases e)⟩
def rdSt (c : Ad) (s : St) : OV := .ins c.Reading s.fs
theorem loop_ok {x0 : Option OV} : ∀ {xs : List Int} {s s' : St} {m n : Nat} {x2 x3 : Option OV}, Good m s → m + xs.length < 16000000 → runW s xs n = .ok s' → ∃ y2 y3, forL (gTupD 2 (gConsD (gN 2) (gConsD (gN 3) gNilD))) (lb_tree_of_1 K c) (enumL n (iD xs)) [x0, some (.ins c.Reading s.fs), x2, x3] = some (.nx, [x0, some (.ins c.Reading s'.fs), y2, y3]) ∧ Good (m + xs.length) s'
  | [], s, s', m, n, x2, x3, h, hm, e => by
    cases e
    exact ⟨x2, x3, rfl, h⟩
  | x :: xs, s, s', m, n, x2, x3, h, hm, e => by
    rw [List.length_cons] at hm
    cases e1 : stp s x with
    | none => rw [runW_n e1] at e; cases e
    | some s1 =>
      rw [runW_s e1] at e
      have ht := takes_ok (K := K) (c := c) (x := x) h (by omega)
      rw [e1] at ht
      simp only [Option.isSome_some, Option.getD_some] at ht
      obtain ⟨y2, y3, e2, g⟩ := loop_ok (x0 := x0) (x2 := some (.d (.int (n : Int)))) (x3 := some (.d (.int x))) (stp_good h e1) (by omega) e
      refine ⟨y2, y3, ?_, by rw [List.length_cons, show m + (xs.length + 1) = m + 1 + xs.length by omega]; exact g⟩
      refine (forL_step (S1 := [x0, some (.ins c.Reading s.fs), some (.d (.int (n : Int))), some (.d (.int x))]) (by simp) ?_).trans e2
      simp [lb_tree_of_1, ht]
theorem loop_ex {x0 : Option OV} : ∀ {xs : List Int} {s : St} {m n k : Nat} {x2 x3 : Option OV}, Good m s → m + xs.length < 16000000 → runW s xs n = .error k → ∃ S', forL (gTupD 2 (gConsD (gN 2) (gConsD (gN 3) gNilD))) (lb_tree_of_1 K c) (enumL n (iD xs)) [x0, some (.ins c.Reading s.fs), x2, x3] = some (.exc (excD c.BadFile [("at", .int (k : Int))]), x0 :: S')
  | [], s, m, n, k, x2, x3, h, hm, e => by cases e
  | x :: xs, s, m, n, k, x2, x3, h, hm, e => by
    rw [List.length_cons] at hm
    have ht := takes_ok (K := K) (c := c) (x := x) h (by omega)
    cases e1 : stp s x with
    | none =>
      rw [runW_n e1] at e
      cases e
      rw [e1] at ht
      simp only [Option.isSome_none, Option.getD_none] at ht
      exact ⟨[some (.ins c.Reading s.fs), some (.d (.int (n : Int))), some (.d (.int x))], forL_exc (S1 := [x0, some (.ins c.Reading s.fs), some (.d (.int (n : Int))), some (.d (.int x))]) (by simp) (by simp [lb_tree_of_1, ht, raiseA, attrsD])⟩
    | some s1 =>
      rw [runW_s e1] at e
      rw [e1] at ht
      simp only [Option.isSome_some, Option.getD_some] at ht
      obtain ⟨S', e2⟩ := loop_ex (x0 := x0) (x2 := some (.d (.int (n : Int)))) (x3 := some (.d (.int x))) (stp_good h e1) (by omega) e
      refine ⟨S', (forL_step (S1 := [x0, some (.ins c.Reading s.fs), some (.d (.int (n : Int))), some (.d (.int x))]) (by simp) ?_).trans e2⟩
      simp [lb_tree_of_1, ht]
end K17

/-! tree_of -/
namespace K17
open PySem PySem.Spec PyProof.Rows L2 LamX PL
variable {K : PySem.W.Frag} {c : Ad}
theorem init_ok : g_Reading___init__ K c [.ins c.Reading []] = some (.ok (.d .none), [.ins c.Reading st0.fs]) := by
  have p1 : putFO "stack" (.lst [.lst []]) [] = [(("stack" : Str), OV.lst [.lst []])] := rfl
  have p2 : putFO "letters" (.d .none) [(("stack" : Str), OV.lst [.lst []])] = [(("stack" : Str), OV.lst [.lst []]), (("letters" : Str), OV.d .none)] := rfl
  have p3 : putFO "digits" (.d .none) [(("stack" : Str), OV.lst [.lst []]), ("letters", .d .none)] = st0.fs := rfl
  simp [g_Reading___init__, bd_Reading___init__, runF, runF.lentF, runF.lentL, p1, p2, p3]
theorem seqD_sq (tp : Bool) (xs : List Int) : seqD (sq tp xs) = some (iD xs) := by cases tp <;> rfl
theorem cells_sq {tp : Bool} {xs : List Int} (hr : Run xs) (hl : xs.length < 16000000) : g_are_cells K c [.d (sq tp xs)] = some (.ok (.d (.bool true)), [.d (sq tp xs)]) := by
  have e := are_cells_ok (K := K) (c := c) (n := 1) (sq_shp tp xs) (fun ys hy => by
    have : ys = iD xs := by
      cases tp
      · rcases hy with hy | hy <;> cases hy; rfl
      · rcases hy with hy | hy <;> cases hy; rfl
    rw [this, iD_len, sizeLine_eq]; omega)
  rw [cellsB_sq hr] at e
  exact e
theorem tree_exc {tp : Bool} {xs : List Int} {k : Nat} (hr : Run xs) (hl : xs.length < 16000000) (h : runW st0 xs 0 = .error k) : g_tree_of K c [.d (sq tp xs)] = some (.error (excD c.BadFile [("at", .int (k : Int))]), [.d (sq tp xs)]) := by
  have e0 := cells_sq (K := K) (c := c) (tp := tp) hr hl
  have e1 := init_ok (K := K) (c := c)
  have e2 := seqD_sq tp xs
  obtain ⟨S', e3⟩ := loop_ex (K := K) (c := c) (x0 := some (.d (sq tp xs))) (x2 := none) (x3 := none) st0_good (by omega) h
  generalize sq tp xs = X at *
  simp [g_tree_of, bd_tree_of, runF, runF.lentF, runF.lentL, e0, e1, enumE, e2, e3]
theorem tree_open {tp : Bool} {xs : List Int} {s : St} (hr : Run xs) (hl : xs.length < 16000000) (h : runW st0 xs 0 = .ok s) (hw : s.whole = false) : g_tree_of K c [.d (sq tp xs)] = some (.error (excD c.BadFile [("at", .int (xs.length : Int))]), [.d (sq tp xs)]) := by
  have e0 := cells_sq (K := K) (c := c) (tp := tp) hr hl
  have e1 := init_ok (K := K) (c := c)
  have e2 := seqD_sq tp xs
  obtain ⟨y2, y3, e3, g⟩ := loop_ok (K := K) (c := c) (x0 := some (.d (sq tp xs))) (x2 := none) (x3 := none) st0_good (by omega) h
  have e4 := whole_ok (K := K) (c := c) g.bot
  rw [hw] at e4
  have e5 := oLen_sq tp xs
  generalize sq tp xs = X at *
  simp [g_tree_of, bd_tree_of, runF, runF.lentF, runF.lentL, e0, e1, enumE, e2, e3, e4, e5, raiseA, attrsD]
theorem tree_val {tp : Bool} {xs : List Int} {t : PyData} {r : List PyData} {s : St} (hr : Run xs) (hl : xs.length < 16000000) (h : runW st0 xs 0 = .ok s) (hw : s.whole = true) (ht : s.top = t :: r) : g_tree_of K c [.d (sq tp xs)] = some (.ok (.d t), [.d (sq tp xs)]) := by
  have e0 := cells_sq (K := K) (c := c) (tp := tp) hr hl
  have e1 := init_ok (K := K) (c := c)
  have e2 := seqD_sq tp xs
  obtain ⟨y2, y3, e3, g⟩ := loop_ok (K := K) (c := c) (x0 := some (.d (sq tp xs))) (x2 := none) (x3 := none) st0_good (by omega) h
  have e4 := whole_ok (K := K) (c := c) g.bot
  rw [hw] at e4
  have e6 := ovD_st (c := c) s
  have e7 := stk_0 s
  have e8 : s.stk.headD [] = t :: r := by
    unfold St.whole at hw
    simp only [Bool.and_eq_true] at hw
    have : s.rp = [] := List.isEmpty_iff.mp hw.1.1.1
    rw [← ht]
    simp [St.stk, this]
  rw [e8] at e7
  have e9 := at0 t r
  generalize sq tp xs = X at *
  simp [g_tree_of, bd_tree_of, runF, runF.lentF, runF.lentL, e0, e1, enumE, e2, e3, e4, e6, e7, e9]
end K17

/-! the cells of a tree -/
namespace K17
open PySem PySem.Spec PyProof.Rows L2 LamX PL
variable {K : PySem.W.Frag} {c : Ad}
def wc : List Nat → List Int
  | [] => [32]
  | [a] => [(a : Int) - 64]
  | a :: b :: l => ((a : Int) - 96) :: wc (b :: l)
def nc (i : Int) : List Int := if 1024 ≤ i then [59, i / 1024 + 32, i / 32 % 32 + 32, i % 32] else if 32 ≤ i then [59, i / 32 + 32, i % 32] else [59, i % 32]
def lc : PyData → List Int
  | .none => [29]
  | .bool b => [if b then 31 else 30]
  | .str s => wc s.cps.toList
  | .int i => nc i
  | _ => []
def cs : Nat → PyData → List Int
  | 0, x => lc x
  | n + 1, x => match x with
    | .tuple xs => 27 :: (xs.flatMap (cs n) ++ [28])
    | x => lc x
theorem cs_tup (n : Nat) (xs : List PyData) : cs (n + 1) (.tuple xs) = 27 :: (xs.flatMap (cs n) ++ [28]) := rfl
theorem cs_leaf {n : Nat} {x : PyData} (h : ∀ xs, x ≠ .tuple xs) : cs n x = lc x := by
  cases n with
  | zero => rfl
  | succ n => cases x with
    | tuple xs => exact absurd rfl (h xs)
    | _ => rfl
theorem wc_map : ∀ (l : List Nat), l ≠ [] → ∃ z, (l.map fun (n : Nat) => (n : Int) - 96).getLast? = some z ∧ wc l = (l.map fun (n : Nat) => (n : Int) - 96).dropLast ++ [z + 32]
  | [a], _ => ⟨(a : Int) - 96, rfl, by show [(a : Int) - 64] = [(a : Int) - 96 + 32]; congr 1; omega⟩
  | a :: b :: l, _ => by
    obtain ⟨z, h1, h2⟩ := wc_map (b :: l) (by simp)
    refine ⟨z, ?_, ?_⟩
    · rw [List.map_cons, List.map_cons, List.getLast?_cons_cons]
      exact h1
    · show ((a : Int) - 96) :: wc (b :: l) = _
      rw [h2]; rfl
theorem wc_len : ∀ l : List Nat, (wc l).length ≤ l.length + 1
  | [] => by simp [wc]
  | [a] => by simp [wc]
  | a :: b :: l => by
    have := wc_len (b :: l)
    simp only [wc, List.length_cons] at this ⊢
    omega
theorem nc_len (i : Int) : (nc i).length ≤ 4 := by
  unfold nc
  split
  · exact Nat.le_refl 4
  · split <;> simp
theorem lc_len (x : PyData) : (lc x).length ≤ 4 * (PyData.weight x + 1) := by
  cases x with
  | str z =>
    rw [wt_str]
    have h := wc_len z.cps.toList
    rw [len_cps] at h
    show (wc z.cps.toList).length ≤ _
    omega
  | int i =>
    have := nc_len i
    show (nc i).length ≤ _
    omega
  | none => show 1 ≤ _; omega
  | bool b => show 1 ≤ _; omega
  | _ => exact Nat.zero_le _
theorem flat_len (f : PyData → List Int) : ∀ {xs : List PyData}, (∀ x ∈ xs, (f x).length ≤ 4 * (PyData.weight x + 1)) → (xs.flatMap f).length ≤ 4 * PyData.weightAll xs
  | [], _ => Nat.zero_le _
  | x :: xs, h => by
    have h1 := h x List.mem_cons_self
    have h2 := flat_len f (xs := xs) fun y hy => h y (List.mem_cons_of_mem _ hy)
    have e : PyData.weightAll (x :: xs) = PyData.weight x + 1 + PyData.weightAll xs := by simp only [PyData.weightAll]
    rw [List.flatMap_cons, List.length_append, e]
    omega
theorem cs_len : ∀ (n : Nat) (x : PyData), (cs n x).length ≤ 4 * (PyData.weight x + 1)
  | 0, x => lc_len x
  | n + 1, x => by
    by_cases ht : ∀ xs, x ≠ .tuple xs
    · rw [cs_leaf ht]; exact lc_len x
    · obtain ⟨xs, hxs⟩ := Classical.not_forall.mp ht
      obtain rfl : x = .tuple xs := Classical.byContradiction hxs
      have := flat_len (cs n) (xs := xs) fun y _ => cs_len n y
      rw [cs_tup, wt_tup, List.length_cons, List.length_append, List.length_singleton]
      omega
theorem wc_run : ∀ {l : List Nat}, (∀ n ∈ l, lowB n = true) → Run (wc l)
  | [], _ => Run.one (by decide) (by decide)
  | [a], h => by
    have h1 := h a List.mem_cons_self
    simp only [lowB, Bool.and_eq_true, decide_eq_true_eq] at h1
    exact Run.one (by omega) (by omega)
  | a :: b :: l, h => by
    have h1 := h a List.mem_cons_self
    simp only [lowB, Bool.and_eq_true, decide_eq_true_eq] at h1
    exact Run.app (xs := [(a : Int) - 96]) (Run.one (by omega) (by omega)) (wc_run fun n hn => h n (List.mem_cons_of_mem _ hn))
theorem nc_run {i : Int} (h0 : 0 ≤ i) (h1 : i < 32768) : Run (nc i) := by
  intro x hx
  unfold nc at hx
  split at hx
  · simp only [List.mem_cons, List.not_mem_nil, or_false] at hx
    rcases hx with rfl | rfl | rfl | rfl <;> omega
  · split at hx
    · simp only [List.mem_cons, List.not_mem_nil, or_false] at hx
      rcases hx with rfl | rfl | rfl <;> omega
    · simp only [List.mem_cons, List.not_mem_nil, or_false] at hx
      rcases hx with rfl | rfl <;> omega
theorem wordB_low {z : Str} (h : wordB z = true) : z.length ≤ 8 ∧ ∀ n ∈ z.cps.toList, lowB n = true := by
  simp only [wordB, Bool.and_eq_true, decide_eq_true_eq, List.all_eq_true] at h
  exact h
theorem isNum_b {i lo hi : Int} (h : isNum (.int i) lo hi = true) : lo ≤ i ∧ i < hi := by
  simpa [isNum] using h
theorem lc_run {n : Nat} {x : PyData} (h : isT n x = true) : Run (lc x) := by
  cases x with
  | none => exact Run.one (by decide) (by decide)
  | bool b => cases b <;> exact Run.one (by decide) (by decide)
  | str z =>
    rw [isT_str] at h
    exact wc_run (wordB_low h).2
  | int i =>
    rw [isT_int] at h
    have := isNum_b h
    exact nc_run this.1 this.2
  | _ => exact Run.nil
theorem cs_run : ∀ {n : Nat} {x : PyData}, isT n x = true → Run (cs n x)
  | 0, x, h => lc_run h
  | n + 1, x, h => by
    by_cases ht : ∀ xs, x ≠ .tuple xs
    · rw [cs_leaf ht]; exact lc_run h
    · obtain ⟨xs, hxs⟩ := Classical.not_forall.mp ht
      obtain rfl : x = .tuple xs := Classical.byContradiction hxs
      rw [isT_tS, List.all_eq_true] at h
      rw [cs_tup]
      refine Run.app (xs := [27]) (Run.one (by decide) (by decide)) (Run.app (fun y hy => ?_) (Run.one (by decide) (by decide)))
      obtain ⟨z, hz, hy⟩ := List.mem_flatMap.mp hy
      exact cs_run (h z hz) y hy
end K17

/-! the program's cells_in -/
namespace K17
open PySem PySem.Spec PyProof.Rows L2 LamX PL
variable {K : PySem.W.Frag} {c : Ad}
theorem occ_p : ∀ n : Nat, n < 26 → Builtin.Str.occurrences ("abcdefghijklmnopqrstuvwxyz" : Str) ⟨#[97 + n]⟩ 0 ("abcdefghijklmnopqrstuvwxyz" : Str).length 1 = [n] := by decide +kernel
theorem occ_l : ∀ n : Nat, n < 26 → Builtin.Str.occurrences (" abcdefghijklmnopqrstuvwxyz" : Str) ⟨#[97 + n]⟩ 0 (" abcdefghijklmnopqrstuvwxyz" : Str).length 1 = [n + 1] := by decide +kernel
theorem sidx_p {m : Nat} (h : lowB m = true) : oSidx (.str "abcdefghijklmnopqrstuvwxyz") [sgD m] = some (.d (.int ((m : Int) - 97))) := by
  simp only [lowB, Bool.and_eq_true, decide_eq_true_eq] at h
  obtain ⟨n, rfl⟩ : ∃ n, m = 97 + n := ⟨m - 97, by omega⟩
  have e := occ_p n (by omega)
  have e2 : ((97 + n : Nat) : Int) - 97 = (n : Int) := by omega
  rw [e2]
  show (match Builtin.Str.occurrences _ _ _ _ _ with | i :: _ => some (OV.d (.int (i : Nat))) | [] => none) = _
  rw [e]
theorem sidx_l {m : Nat} (h : lowB m = true) : oSidx (.str " abcdefghijklmnopqrstuvwxyz") [sgD m] = some (.d (.int ((m : Int) - 96))) := by
  simp only [lowB, Bool.and_eq_true, decide_eq_true_eq] at h
  obtain ⟨n, rfl⟩ : ∃ n, m = 97 + n := ⟨m - 97, by omega⟩
  have e := occ_l n (by omega)
  have e2 : ((97 + n : Nat) : Int) - 96 = ((n + 1 : Nat) : Int) := by omega
  rw [e2]
  show (match Builtin.Str.occurrences _ _ _ _ _ with | i :: _ => some (OV.d (.int (i : Nat))) | [] => none) = _
  rw [e]
theorem ix_last' (n : Nat) : ixN (n + 1) (-1) = some n := by
  unfold ixN
  rw [if_neg (by omega), if_pos (by omega)]
  congr 1
  omega
theorem at_last {α : Type} {xs : List α} {z : α} (h : xs.getLast? = some z) : atI xs (-1) = some z := by
  cases xs with
  | nil => cases h
  | cons a l =>
    unfold atI
    rw [List.length_cons, ix_last']
    show (a :: l)[l.length]? = _
    rw [← h, List.getLast?_eq_getElem?]
    rfl
theorem sl_last {own : Bool} (xs : List PyData) : oSl own (.list xs) none (some (-1)) = some (newL own xs.dropLast) := by
  rw [oSl_l]
  have e1 : HT.sIx xs.length 0 none = 0 := rfl
  have e2 : HT.sIx xs.length xs.length (some (-1)) = xs.length - 1 := by
    show (if (-1 : Int) < 0 then ((-1 : Int) + (xs.length : Int)).toNat else min (-1 : Int).toNat xs.length) = _
    rw [if_pos (by decide)]
    omega
  rw [e1, e2, List.drop_zero, Nat.sub_zero, List.dropLast_eq_take]
def idx (l : List Nat) : List Int := l.map fun (n : Nat) => (n : Int) - 96
theorem wc_idx {l : List Nat} (h : l ≠ []) : ∃ z, (iD (idx l)).getLast? = some (.int z) ∧ iD (wc l) = (iD (idx l)).dropLast ++ [.int (z + 32)] := by
  obtain ⟨z, h1, h2⟩ := wc_map l h
  refine ⟨z, ?_, ?_⟩
  · show ((idx l).map PyData.int).getLast? = _
    rw [List.getLast?_map]
    show ((l.map fun (n : Nat) => (n : Int) - 96).getLast?).map PyData.int = _
    rw [h1]; rfl
  · rw [h2]
    show ((idx l).dropLast ++ [z + 32]).map PyData.int = ((idx l).map PyData.int).dropLast ++ [PyData.int (z + 32)]
    rw [List.map_append, List.map_dropLast]; rfl
theorem strOk_low {z : Str} (h : ∀ n ∈ z.cps.toList, lowB n = true) : PyData.strOk z = true := by
  unfold PyData.strOk
  rw [Array.all_eq_true_iff_forall_mem]
  intro n hn
  have := h n (Array.mem_toList_iff.mpr hn)
  simp only [lowB, Bool.and_eq_true, decide_eq_true_eq] at this
  exact decide_eq_true (by omega)
theorem strOk_e : PyData.strOk ("" : Str) = true := by decide +kernel
theorem str_nil {z : Str} (h : z.cps.toList = []) : z = "" := by
  cases z with
  | mk a =>
    have : a = #[] := by
      rw [← Array.toArray_toList (xs := a)]
      rw [h]
    rw [this]; rfl
theorem eq_e {z : Str} (h : PyData.strOk z = true) : oEq (.str z) (.str "") = some (.d (.bool z.cps.toList.isEmpty)) := by
  rw [oEq_s h strOk_e]
  by_cases e : z.cps.toList = []
  · rw [str_nil e]; rfl
  · have : z ≠ "" := fun q => e (by rw [q]; rfl)
    rw [decide_eq_false this]
    cases q : z.cps.toList with
    | nil => exact absurd q e
    | cons _ _ => rfl
theorem eq_ie (i : Int) : oEq (.int i) (.str "") = some (.d (.bool false)) := by
  rw [oEq_of (shp_int 0 i) (shp_str 0 strOk_e)]
  rfl
theorem dig_stop {gs : DF} {i : Int} {x1 : Option OV} {xs : List PyData} (h : i < 32) : whileN (wt_cells_in_1 K c gs) (lb_cells_in_1 K c gs) 1 [some (.d (.int i)), x1, some (.d (.list xs)), none, none, none] = some (.nx, [some (.d (.int i)), x1, some (.d (.list xs)), none, none, none]) := by
  have h1 : ¬ 32 ≤ i := by omega
  exact wh_stop (by simp [wt_cells_in_1, h1])
theorem dig_step {gs : DF} {i : Int} {n : Nat} {x1 : Option OV} {xs : List PyData} {p : Fl × SS} (h : 32 ≤ i) (hl : xs.length ≤ 10) (h2 : whileN (wt_cells_in_1 K c gs) (lb_cells_in_1 K c gs) n [some (.d (.int (i / 32))), x1, some (.d (.list (.int (i / 32 % 32 + 32) :: xs))), none, none, none] = some p) : whileN (wt_cells_in_1 K c gs) (lb_cells_in_1 K c gs) (n + 1) [some (.d (.int i)), x1, some (.d (.list xs)), none, none, none] = some p := by
  have hs1 : 1 ≤ sizeLine := by rw [sizeLine_eq]; decide
  have hs2 : 1 + xs.length ≤ sizeLine := by rw [sizeLine_eq]; omega
  refine wh_step (S1 := [some (.d (.int i)), x1, some (.d (.list xs)), none, none, none]) (by simp [wt_cells_in_1, h]) ?_ h2
  simp [lb_cells_in_1, hs1, hs2]
theorem dig_all {gs : DF} {i : Int} {x1 : Option OV} (h0 : 0 ≤ i) (h1 : i < 32768) : ∃ j : Int, whileS (wt_cells_in_1 K c gs) (lb_cells_in_1 K c gs) [some (.d (.int i)), x1, some (.d (.list [.int (i % 32)])), none, none, none] = some (.nx, [some (.d (.int j)), x1, some (.d (.list (iD (nc i).tail))), none, none, none]) := by
  by_cases g : 1024 ≤ i
  · have e1 := dig_stop (K := K) (c := c) (gs := gs) (i := i / 32 / 32) (x1 := x1) (xs := [.int (i / 32 / 32 % 32 + 32), .int (i / 32 % 32 + 32), .int (i % 32)]) (by omega)
    have e2 := dig_step (K := K) (c := c) (gs := gs) (i := i / 32) (by omega) (by simp) e1
    have e3 := dig_step (K := K) (c := c) (gs := gs) (i := i) (by omega) (by simp) e2
    refine ⟨i / 32 / 32, ?_⟩
    have e4 : nc i = [59, i / 32 / 32 % 32 + 32, i / 32 % 32 + 32, i % 32] := by
      unfold nc
      rw [if_pos g, show i / 32 / 32 % 32 = i / 1024 by omega]
    rw [e4]
    exact whileS_of e3
  · by_cases g2 : 32 ≤ i
    · have e2 := dig_stop (K := K) (c := c) (gs := gs) (i := i / 32) (x1 := x1) (xs := [.int (i / 32 % 32 + 32), .int (i % 32)]) (by omega)
      have e3 := dig_step (K := K) (c := c) (gs := gs) (i := i) (by omega) (by simp) e2
      refine ⟨i / 32, ?_⟩
      have e4 : nc i = [59, i / 32 % 32 + 32, i % 32] := by
        unfold nc
        rw [if_neg g, if_pos g2, show i / 32 % 32 = i / 32 by omega]
      rw [e4]
      exact whileS_of e3
    · have e3 := dig_stop (K := K) (c := c) (gs := gs) (i := i) (x1 := x1) (xs := [.int (i % 32)]) (by omega)
      refine ⟨i, ?_⟩
      have e4 : nc i = [59, i % 32] := by
        unfold nc
        rw [if_neg g, if_neg g2]
      rw [e4]
      exact whileS_of e3
theorem nc_cons (i : Int) : nc i = 59 :: (nc i).tail := by
  unfold nc
  split
  · rfl
  · split <;> rfl
theorem cells_leaf {n k : Nat} {x : PyData} (h : isT k x = true) (ht : ∀ xs, x ≠ .tuple xs) : g_cells_in K c (n + 1) [.d x] = some (.ok (.d (.list (iD (lc x)))), [.d x]) := by
  have hs1 : 1 ≤ sizeLine := by rw [sizeLine_eq]; decide
  have hs := sizeLine_eq
  cases x with
  | dict kvs => cases k <;> cases h
  | list xs => cases k <;> cases h
  | tuple xs => exact absurd rfl (ht xs)
  | none => simp [g_cells_in, bd_cells_in, runF, runF.lentF, runF.lentL, oIsN, isNone, hs1, lc, iD]
  | bool b => cases b <;> simp [g_cells_in, bd_cells_in, runF, runF.lentF, runF.lentL, oIsN, isNone, hs1, lc, iD]
  | int i =>
    rw [isT_int] at h
    obtain ⟨h0, h1⟩ := isNum_b h
    have e := eq_ie i
    obtain ⟨j, e2⟩ := dig_all (K := K) (c := c) (gs := g_cells_in K c n) (x1 := none) h0 h1
    have e3 : lc (.int i) = 59 :: (nc i).tail := nc_cons i
    have e4 := nc_len i
    rw [nc_cons i, List.length_cons] at e4
    have e5 : 1 + (nc i).tail.length ≤ sizeLine := by omega
    rw [e3, iD_cons]
    generalize (nc i).tail = R at *
    simp [g_cells_in, bd_cells_in, runF, runF.lentF, runF.lentL, oIsN, isNone, hs1, e, e2, e5]
  | str z =>
    rw [isT_str] at h
    obtain ⟨h8, hl⟩ := wordB_low h
    have e := eq_e (strOk_low hl)
    cases hz : z.cps.toList with
    | nil =>
      rw [hz] at e
      simp [g_cells_in, bd_cells_in, runF, runF.lentF, runF.lentL, oIsN, isNone, hs1, lc, iD, e, hz, wc]
    | cons a l =>
      rw [hz] at e
      have hzl : (a :: l).length ≤ 8 := by rw [← hz, len_cps]; exact h8
      have key : compL (gN 5) tYesM (ce_cells_in_2 K c (g_cells_in K c n)) [5] ((a :: l).map sgD) [] [some (.d (.str z)), none, none, none, none, none] = some (iD (idx (a :: l)), [some (.d (.str z)), none, none, none, none, none]) := by
        have := compL_map (g := gN 5) (fe := ce_cells_in_2 K c (g_cells_in K c n)) (vs := [5]) (S := [some (.d (.str z)), none, none, none, none, none]) (ds := (a :: l).map sgD) (acc := []) (h := fun y => .int ((sgN y : Int) - 96)) (by rw [List.length_map, List.length_nil]; omega) (fun d hd => by
          obtain ⟨m, hm, rfl⟩ := List.mem_map.mp hd
          refine ⟨[some (.d (.str z)), none, none, none, none, some (.d (sgD m))], [some (.d (.str z)), none, none, none, none, some (.d (sgD m))], by simp, ?_, rfl⟩
          have e := sidx_p (hl m (by rw [hz]; exact hm))
          have e2 : (m : Int) - 97 + 1 = (m : Int) - 96 := by omega
          simp [ce_cells_in_2, sgN_D, e, e2])
        rw [this, List.nil_append, List.map_map]
        unfold iD idx
        rw [List.map_map]
        rfl
      obtain ⟨w, e3, e4⟩ := wc_idx (l := a :: l) (by simp)
      have e5 := strOf_s z
      rw [hz] at e5
      have e6 := at_last e3
      have e7 := sl_last (own := false) (iD (idx (a :: l)))
      have e8 : lc (.str z) = wc (a :: l) := by
        show wc z.cps.toList = _
        rw [hz]
      have e9 : (iD (idx (a :: l))).length ≤ 8 := by rw [iD_len]; unfold idx; rw [List.length_map]; exact hzl
      rw [e8, e4]
      generalize hq : (a :: l).map sgD = Q at *
      generalize hr : iD (idx (a :: l)) = R at *
      have e10 : R.length - 1 + 1 ≤ sizeLine := by omega
      simp [-oSl_l, g_cells_in, bd_cells_in, runF, runF.lentF, runF.lentL, oIsN, isNone, hs1, e, e5, wipeS, key, e6, e7, e10]
theorem compL2_flat {g g1 : PyData → SS → Option SS} {fi1 : M (List PyData)} {fe : M OV} {vs vs1 : List Nat} {S : SS} {f : PyData → List PyData} : ∀ {ds acc : List PyData}, acc.length + (ds.flatMap f).length ≤ sizeLine →
    (∀ d ∈ ds, ∀ acc, acc.length + (f d).length ≤ sizeLine → ∃ S1 S3 S4, g d S = some S1 ∧ fi1 S1 = some (.ok (f d), S3) ∧ vs1.all (fun i => decide (i < S3.length)) = true ∧ compL g1 tYesM fe vs1 (f d) acc (wipeS S3 vs1) = some (acc ++ f d, S4) ∧ wipeS S4 vs = S) →
    compL2 g tYesM fi1 g1 tYesM fe vs vs1 ds acc S = some (acc ++ ds.flatMap f, S)
  | [], acc, _, _ => by simp [compL2]
  | d :: ds, acc, hl, H => by
    rw [List.flatMap_cons, List.length_append] at hl
    obtain ⟨S1, S3, S4, e1, e2, e3, e4, e5⟩ := H d List.mem_cons_self acc (by omega)
    unfold compL2
    rw [e1]
    simp only [tYesM_S]
    rw [e2]
    simp only
    rw [if_pos e3, e4]
    simp only
    rw [e5, compL2_flat (by rw [List.length_append]; omega) fun d' hd => H d' (List.mem_cons_of_mem _ hd), List.flatMap_cons, List.append_assoc]
theorem iD_flat (f : PyData → List Int) : ∀ xs : List PyData, xs.flatMap (fun x => iD (f x)) = iD (xs.flatMap f)
  | [] => rfl
  | x :: xs => by rw [List.flatMap_cons, List.flatMap_cons, iD_app, iD_flat f xs]
theorem cells_in_ok : ∀ {n k : Nat} {x : PyData}, k ≤ n → isT k x = true → PyData.weight x ≤ 1048576 → g_cells_in K c (n + 1) [.d x] = some (.ok (.d (.list (iD (cs k x)))), [.d x]) := by
  intro n
  induction n with
  | zero =>
    intro k x hk h hw
    obtain rfl : k = 0 := by omega
    refine cells_leaf h fun xs hx => ?_
    rw [hx] at h
    cases h
  | succ n ih =>
    intro k x hk h hw
    by_cases ht : ∀ xs, x ≠ .tuple xs
    · rw [cs_leaf ht]; exact cells_leaf h ht
    · obtain ⟨xs, hxs⟩ := Classical.not_forall.mp ht
      obtain rfl : x = .tuple xs := Classical.byContradiction hxs
      cases k with
      | zero => cases h
      | succ k =>
        have hL := cs_len (k + 1) (.tuple xs)
        rw [isT_tS, List.all_eq_true] at h
        rw [wt_tup] at hw hL
        have hs := sizeLine_eq
        have hs1 : 1 ≤ sizeLine := by omega
        rw [cs_tup] at hL ⊢
        rw [List.length_cons, List.length_append, List.length_singleton] at hL
        have hl := wt_len xs
        have key : compL2 (gN 3) tYesM (cj_cells_in_1 K c (g_cells_in K c (n + 1))) (gN 4) tYesM (ce_cells_in_1 K c (g_cells_in K c (n + 1))) [3, 4] [4] xs [] [some (.d (.tuple xs)), none, none, none, none, none] = some (iD (xs.flatMap (cs k)), [some (.d (.tuple xs)), none, none, none, none, none]) := by
          have := compL2_flat (g := gN 3) (g1 := gN 4) (fi1 := cj_cells_in_1 K c (g_cells_in K c (n + 1))) (fe := ce_cells_in_1 K c (g_cells_in K c (n + 1))) (vs := [3, 4]) (vs1 := [4]) (S := [some (.d (.tuple xs)), none, none, none, none, none]) (f := fun x => iD (cs k x)) (ds := xs) (acc := []) (by rw [iD_flat, iD_len, List.length_nil]; omega) (fun d hd acc ha => by
            have hw2 := wt_all hd
            have e := ih (k := k) (x := d) (by omega) (h d hd) (by omega)
            refine ⟨[some (.d (.tuple xs)), none, none, some (.d d), none, none], [some (.d (.tuple xs)), none, none, some (.d d), none, none], [some (.d (.tuple xs)), none, none, some (.d d), none, none], by simp, ?_, by simp, ?_, by simp [wipeS]⟩
            · generalize g_cells_in K c (n + 1) = gg at *
              simp [cj_cells_in_1, e]
            · have q := compL_map (g := gN 4) (fe := ce_cells_in_1 K c (g_cells_in K c (n + 1))) (vs := [4]) (S := [some (.d (.tuple xs)), none, none, some (.d d), none, none]) (ds := iD (cs k d)) (acc := acc) (h := id) ha (fun y hy => by
                refine ⟨[some (.d (.tuple xs)), none, none, some (.d d), some (.d y), none], [some (.d (.tuple xs)), none, none, some (.d d), some (.d y), none], by simp, ?_, by simp [wipeS]⟩
                simp [ce_cells_in_1])
              rw [List.map_id] at q
              exact q)
          rw [this, List.nil_append, iD_flat]
        have e1 := fun (A : List PyData) => comp2_of (own := false) (fi := itE (rdZ 0)) (g := gN 3) (ft := tYesM) (fi1 := cj_cells_in_1 K c (g_cells_in K c (n + 1))) (g1 := gN 4) (ft1 := tYesM) (fe := ce_cells_in_1 K c (g_cells_in K c (n + 1))) (vs := [3, 4]) (vs1 := [4]) (ds := xs) (acc := A) (S := [some (.d (.tuple xs)), none, none, none, none, none]) (S1 := [some (.d (.tuple xs)), none, none, none, none, none]) (S2 := [some (.d (.tuple xs)), none, none, none, none, none]) (by simp) (by simp)
        have e1 := e1 _ key
        rw [iD_cons, iD_app]
        have e2 : (iD (xs.flatMap (cs k))).length ≤ 4200000 := by rw [iD_len]; omega
        have fin : g_cells_in K c (n + 1 + 1) = runF 1 6 [] (bd_cells_in K c (g_cells_in K c (n + 1))) := rfl
        rw [fin]
        generalize g_cells_in K c (n + 1) = gg at *
        generalize iD (xs.flatMap (cs k)) = R at *
        have e3 : 1 + R.length ≤ sizeLine := by omega
        have e4 : R.length + 1 + 1 ≤ sizeLine := by omega
        simp [bd_cells_in, runF, runF.lentF, runF.lentL, oIsN, isNone, e1, hs1, e3, e4, show iD [28] = [.int 28] from rfl]
end K17

/-! the law's own words on trees -/
namespace K17
open PySem PySem.Spec PyProof.Rows L2 LamX PL
variable {K : PySem.W.Frag} {c : Ad}
theorem law_number_ok {x : PyData} (h : NX x) (lo hi : Int) : g_law_is_number K c [.d x, .d (.int lo), .d (.int hi)] = some (.ok (.d (.bool (isNum x lo hi))), [.d x, .d (.int lo), .d (.int hi)]) := by
  cases x with
  | dict kvs => exact absurd rfl (h kvs)
  | int n => by_cases h1 : lo ≤ n <;> simp [g_law_is_number, bd_law_is_number, runF, h1, runF.lentF, runF.lentL, isNum]
  | _ => simp [g_law_is_number, bd_law_is_number, runF, runF.lentF, runF.lentL, isNum]
theorem fil_emp {α : Type} (p : α → Bool) : ∀ xs : List α, (xs.filter fun x => !p x).isEmpty = xs.all p
  | [] => rfl
  | x :: xs => by
    rw [List.filter_cons, List.all_cons]
    cases p x
    · rfl
    · exact fil_emp p xs
theorem lt_leaf {n k : Nat} {x : PyData} {d : Nat} (hd : d ≤ 63) (hx : Shp d x) (hw : PyData.weight x ≤ 1048576) (ht : ∀ xs, x ≠ .tuple xs) : g_law_is_tree K c (n + 1) [.d x, .d (.int (k : Int))] = some (.ok (.d (.bool (isT k x))), [.d x, .d (.int (k : Int))]) := by
  cases x with
  | dict kvs => exact absurd rfl (hx.nx kvs)
  | none => simp [g_law_is_tree, bd_law_is_tree, runF, runF.lentF, runF.lentL, oIsN, isNone, isT_none]
  | bool b => cases b <;> simp [g_law_is_tree, bd_law_is_tree, runF, runF.lentF, runF.lentL, oIsN, isNone, isT_bool, oIsB, isBoolB]
  | int i =>
    have e := law_number_ok (K := K) (c := c) (x := .int i) (by intro _ h; cases h) 0 32768
    simp [g_law_is_tree, bd_law_is_tree, runF, runF.lentF, runF.lentL, oIsN, isNone, isT_int, e, oIsB, isBoolB]
  | list xs =>
    have e := law_number_ok (K := K) (c := c) (x := .list xs) (by intro _ h; cases h) 0 32768
    simp [g_law_is_tree, bd_law_is_tree, runF, runF.lentF, runF.lentL, oIsN, isNone, isT_list, e, isNum, oIsB, isBoolB]
  | tuple xs => exact absurd rfl (ht xs)
  | str z =>
    rw [wt_str] at hw
    have hz : z.length ≤ sizeLine := by rw [sizeLine_eq]; omega
    have hsz := sizeLine_eq
    rw [isT_str]
    by_cases h8 : z.length ≤ 8
    · have key : compL (gN 3) (ci_law_is_tree_2 K c (g_law_is_tree K c n)) (ce_law_is_tree_2 K c (g_law_is_tree K c n)) [3] (z.cps.toList.map sgD) [] [some (.d (.str z)), some (.d (.int (k : Int))), none, none] = some ((z.cps.toList.map sgD).filter (fun y => !lowB (sgN y)), [some (.d (.str z)), some (.d (.int (k : Int))), none, none]) := by
        have := compL_fil (g := gN 3) (ft := ci_law_is_tree_2 K c (g_law_is_tree K c n)) (fe := ce_law_is_tree_2 K c (g_law_is_tree K c n)) (vs := [3]) (S := [some (.d (.str z)), some (.d (.int (k : Int))), none, none]) (ds := z.cps.toList.map sgD) (acc := []) (p := fun y => !lowB (sgN y)) (h := id) (by rw [List.length_map, len_cps]; simpa using hz) (fun d hd => by
          obtain ⟨m, _, rfl⟩ := List.mem_map.mp hd
          refine ⟨[some (.d (.str z)), some (.d (.int (k : Int))), none, some (.d (sgD m))], [some (.d (.str z)), some (.d (.int (k : Int))), none, some (.d (sgD m))], by simp, ?_, fun _ => ⟨[some (.d (.str z)), some (.d (.int (k : Int))), none, some (.d (sgD m))], ?_, rfl⟩, fun _ => rfl⟩
          · have e := notInS_ok m
            simp [ci_law_is_tree_2, sgN_D, e]
          · simp [ce_law_is_tree_2])
        rw [this, List.nil_append, List.map_id]
      have c8 : ((z.length : Int) ≤ 8) := by omega
      have hQ : ∀ y ∈ (z.cps.toList.map sgD).filter (fun y => !lowB (sgN y)), Shp 1 y := fun y hy => by
        obtain ⟨m, hm, rfl⟩ := List.mem_map.mp (List.mem_filter.mp hy).1
        refine shp_str 1 ?_
        have hc := hx.1
        simp only [PyData.canLay0, PyData.strOk] at hc
        rw [Array.all_eq_true_iff_forall_mem] at hc
        have := hc m (Array.mem_toList_iff.mp hm)
        simpa [PyData.strOk] using this
      have e2 := oEq_nil (n := 1) hQ
      have e3 : ((z.cps.toList.map sgD).filter (fun y => !lowB (sgN y))).isEmpty = z.cps.toList.all lowB := by
        rw [fil_emp, List.all_map]
        rfl
      rw [e3] at e2
      have e4 : wordB z = z.cps.toList.all lowB := by simp [wordB, h8]
      have e5 := strOf_s z
      generalize (z.cps.toList.map sgD).filter (fun y => !lowB (sgN y)) = R at *
      generalize hq : z.cps.toList.map sgD = Q at *
      simp [g_law_is_tree, bd_law_is_tree, runF, runF.lentF, runF.lentL, oIsN, isNone, hz, c8, e5, wipeS, key, e2, e4]
    · have c8 : ¬ ((z.length : Int) ≤ 8) := by omega
      simp [g_law_is_tree, bd_law_is_tree, runF, runF.lentF, runF.lentL, oIsN, isNone, hz, c8, wordB, h8]
theorem law_is_tree_ok : ∀ {n k : Nat} {x : PyData} {d : Nat}, k ≤ n → d ≤ 63 → Shp d x → PyData.weight x ≤ 1048576 → g_law_is_tree K c (n + 1) [.d x, .d (.int (k : Int))] = some (.ok (.d (.bool (isT k x))), [.d x, .d (.int (k : Int))]) := by
  intro n
  induction n with
  | zero =>
    intro k x d hk hd hx hw
    obtain rfl : k = 0 := by omega
    by_cases ht : ∀ xs, x ≠ .tuple xs
    · exact lt_leaf hd hx hw ht
    · obtain ⟨xs, hxs⟩ := Classical.not_forall.mp ht
      obtain rfl : x = .tuple xs := Classical.byContradiction hxs
      simp [g_law_is_tree, bd_law_is_tree, runF, runF.lentF, runF.lentL, oIsN, isNone, isT]
  | succ n ih =>
    intro k x d hk hd hx hw
    by_cases ht : ∀ xs, x ≠ .tuple xs
    · exact lt_leaf hd hx hw ht
    · obtain ⟨xs, hxs⟩ := Classical.not_forall.mp ht
      obtain rfl : x = .tuple xs := Classical.byContradiction hxs
      cases k with
      | zero => simp [g_law_is_tree, bd_law_is_tree, runF, runF.lentF, runF.lentL, oIsN, isNone, isT]
      | succ k =>
        rw [isT_tS]
        rw [wt_tup] at hw
        have hl := wt_len xs
        have hsz := sizeLine_eq
        cases d with
        | zero => have := hx.2; simp [PyData.depth] at this
        | succ d =>
        have c1 : (((k + 1 : Nat) : Int) - 1) = (k : Int) := by omega
        have key : compL (gN 2) (ci_law_is_tree_1 K c (g_law_is_tree K c (n + 1))) (ce_law_is_tree_1 K c (g_law_is_tree K c (n + 1))) [2] xs [] [some (.d (.tuple xs)), some (.d (.int ((k + 1 : Nat) : Int))), none, none] = some (xs.filter (fun y => !isT k y), [some (.d (.tuple xs)), some (.d (.int ((k + 1 : Nat) : Int))), none, none]) := by
          have := compL_fil (g := gN 2) (ft := ci_law_is_tree_1 K c (g_law_is_tree K c (n + 1))) (fe := ce_law_is_tree_1 K c (g_law_is_tree K c (n + 1))) (vs := [2]) (S := [some (.d (.tuple xs)), some (.d (.int ((k + 1 : Nat) : Int))), none, none]) (ds := xs) (acc := []) (p := fun y => !isT k y) (h := id) (by simp; omega) (fun y hy => by
            refine ⟨[some (.d (.tuple xs)), some (.d (.int ((k + 1 : Nat) : Int))), some (.d y), none], [some (.d (.tuple xs)), some (.d (.int ((k + 1 : Nat) : Int))), some (.d y), none], by simp, ?_, fun _ => ⟨[some (.d (.tuple xs)), some (.d (.int ((k + 1 : Nat) : Int))), some (.d y), none], ?_, rfl⟩, fun _ => rfl⟩
            · have hw2 := wt_all hy
              have e := ih (k := k) (x := y) (d := d) (by omega) (by omega) (shp_mem_tup hx y hy) (by omega)
              simp only [ci_law_is_tree_1, notT_S, tstV_S, truA_S, tru_b, callF_S, argsCons_S, bind_S, rdV_S, List.getElem?_cons_zero, List.getElem?_cons_succ, toV_S, bin_S, op2_S, view_bw, viewO_d, cst_S, lift_S, frD_d, Option.map_some, view_fr, oSub_i, ret_S, argsNil_S, c1, List.length_cons, List.length_nil, if_true, handF_S, takes_b, takes_f, takes_n, e, gives_b, gives_f, gives_n]
            · simp [ce_law_is_tree_1])
          rw [this, List.nil_append, List.map_id]
        have e2 := oEq_nil (n := d) (xs := xs.filter (fun y => !isT k y)) (fun y hy => shp_mem_tup hx y (List.mem_filter.mp hy).1) (by omega)
        rw [fil_emp] at e2
        have c0' : (0 : Int) < ((k + 1 : Nat) : Int) := by omega
        generalize xs.filter (fun y => !isT k y) = R at *
        generalize hq : ((k + 1 : Nat) : Int) = q at *
        have fin : g_law_is_tree K c (n + 1 + 1) = runF 2 4 [0, 1] (bd_law_is_tree K c (g_law_is_tree K c (n + 1))) := rfl
        rw [fin]
        generalize g_law_is_tree K c (n + 1) = gg at *
        simp [bd_law_is_tree, runF, runF.lentF, runF.lentL, oIsN, isNone, c0', wipeS, key, e2]
theorem ne_e {z : Str} (h : PyData.strOk z = true) : oNe (.str z) (.str "") = some (.d (.bool (!z.cps.toList.isEmpty))) := by
  rw [oNe_s h strOk_e]
  by_cases e : z.cps.toList = []
  · rw [str_nil e]; rfl
  · have : z ≠ "" := fun q => e (by rw [q]; rfl)
    rw [decide_eq_false this]
    cases q : z.cps.toList with
    | nil => exact absurd q e
    | cons _ _ => rfl
/-! the law's tree_cells -/
theorem ltc_leaf {n k : Nat} {x : PyData} (h : isT k x = true) (ht : ∀ xs, x ≠ .tuple xs) : g_law_tree_cells K c (n + 1) [.d x] = some (.ok (.d (.list (iD (lc x)))), [.d x]) := by
  have hs1 : 1 ≤ sizeLine := by rw [sizeLine_eq]; decide
  have hs2 : 2 ≤ sizeLine := by rw [sizeLine_eq]; decide
  have hs3 : 3 ≤ sizeLine := by rw [sizeLine_eq]; decide
  have hs4 : 4 ≤ sizeLine := by rw [sizeLine_eq]; decide
  have hs := sizeLine_eq
  cases x with
  | dict kvs => cases k <;> cases h
  | list xs => cases k <;> cases h
  | tuple xs => exact absurd rfl (ht xs)
  | none => simp [g_law_tree_cells, bd_law_tree_cells, runF, runF.lentF, runF.lentL, oIsN, isNone, hs1, lc, iD]
  | bool b => cases b <;> simp [g_law_tree_cells, bd_law_tree_cells, runF, runF.lentF, runF.lentL, oIsN, isNone, hs1, lc, iD, oIsB, isBoolB]
  | int i =>
    rw [isT_int] at h
    obtain ⟨h0, h1⟩ := isNum_b h
    by_cases g : 1024 ≤ i
    · simp [g_law_tree_cells, bd_law_tree_cells, runF, runF.lentF, runF.lentL, oIsN, isNone, hs1, hs2, hs3, hs4, lc, iD, oIsB, isBoolB, g, nc]
    · by_cases g2 : 32 ≤ i
      · simp [g_law_tree_cells, bd_law_tree_cells, runF, runF.lentF, runF.lentL, oIsN, isNone, hs1, hs2, hs3, hs4, lc, iD, oIsB, isBoolB, g, g2, nc]
      · simp [g_law_tree_cells, bd_law_tree_cells, runF, runF.lentF, runF.lentL, oIsN, isNone, hs1, hs2, hs3, hs4, lc, iD, oIsB, isBoolB, g, g2, nc]
  | str z =>
    rw [isT_str] at h
    obtain ⟨h8, hl⟩ := wordB_low h
    have e := ne_e (strOk_low hl)
    have e5 := strOf_s z
    cases hz : z.cps.toList with
    | nil =>
      rw [hz] at e e5
      simp [g_law_tree_cells, bd_law_tree_cells, runF, runF.lentF, runF.lentL, oIsN, isNone, hs1, lc, iD, e, hz, wc, oIsB, isBoolB, e5, wipeS, compL]
    | cons a l =>
      rw [hz] at e e5
      have hzl : (a :: l).length ≤ 8 := by rw [← hz, len_cps]; exact h8
      have key : compL (gN 5) tYesM (ce_law_tree_cells_1 K c (g_law_tree_cells K c n)) [5] ((a :: l).map sgD) [] [some (.d (.str z)), none, none, none, none, none] = some (iD (idx (a :: l)), [some (.d (.str z)), none, none, none, none, none]) := by
        have := compL_map (g := gN 5) (fe := ce_law_tree_cells_1 K c (g_law_tree_cells K c n)) (vs := [5]) (S := [some (.d (.str z)), none, none, none, none, none]) (ds := (a :: l).map sgD) (acc := []) (h := fun y => .int ((sgN y : Int) - 96)) (by rw [List.length_map, List.length_nil]; omega) (fun d hd => by
          obtain ⟨m, hm, rfl⟩ := List.mem_map.mp hd
          refine ⟨[some (.d (.str z)), none, none, none, none, some (.d (sgD m))], [some (.d (.str z)), none, none, none, none, some (.d (sgD m))], by simp, ?_, rfl⟩
          have e := sidx_l (hl m (by rw [hz]; exact hm))
          simp [ce_law_tree_cells_1, sgN_D, e])
        rw [this, List.nil_append, List.map_map]
        unfold iD idx
        rw [List.map_map]
        rfl
      obtain ⟨w, e3, e4⟩ := wc_idx (l := a :: l) (by simp)
      have e6 := at_last e3
      have e7 := sl_last (own := false) (iD (idx (a :: l)))
      have e8 : lc (.str z) = wc (a :: l) := by
        show wc z.cps.toList = _
        rw [hz]
      have e9 : (iD (idx (a :: l))).length ≤ 8 := by rw [iD_len]; unfold idx; rw [List.length_map]; exact hzl
      rw [e8, e4]
      generalize hq : (a :: l).map sgD = Q at *
      generalize hr : iD (idx (a :: l)) = R at *
      have e10 : R.length - 1 + 1 ≤ sizeLine := by omega
      simp [-oSl_l, g_law_tree_cells, bd_law_tree_cells, runF, runF.lentF, runF.lentL, oIsN, isNone, hs1, e, e5, wipeS, key, e6, e7, e10, oIsB, isBoolB]
theorem ltc_loop {n k : Nat} {t0 : OV} : ∀ {xs : List PyData} {acc : List Int} {x2 : Option OV}, (∀ y ∈ xs, g_law_tree_cells K c n [.d y] = some (.ok (.d (.list (iD (cs k y)))), [.d y])) → acc.length + (xs.flatMap (cs k)).length ≤ 16000000 →
    ∃ y2, forL (gN 2) (lb_law_tree_cells_1 K c (g_law_tree_cells K c n)) xs [some t0, some (.d (.list (iD acc))), x2, none, none, none] = some (.nx, [some t0, some (.d (.list (iD (acc ++ xs.flatMap (cs k))))), y2, none, none, none])
  | [], acc, x2, _, _ => ⟨x2, by rw [List.flatMap_nil, List.append_nil]; rfl⟩
  | y :: xs, acc, x2, h, hl => by
    rw [List.flatMap_cons, List.length_append] at hl
    have e := h y List.mem_cons_self
    obtain ⟨y2, e2⟩ := ltc_loop (t0 := t0) (xs := xs) (acc := acc ++ cs k y) (x2 := some (.d y)) (fun z hz => h z (List.mem_cons_of_mem _ hz)) (by rw [List.length_append]; omega)
    have eb : lb_law_tree_cells_1 K c (g_law_tree_cells K c n) [some t0, some (.d (.list (iD acc))), some (.d y), none, none, none] = some (.nx, [some t0, some (.d (.list (iD (acc ++ cs k y)))), some (.d y), none, none, none]) := by
      have hs : (iD acc).length + (iD (cs k y)).length ≤ sizeLine := by rw [iD_len, iD_len, sizeLine_eq]; omega
      rw [iD_app]
      generalize iD (cs k y) = R at *
      generalize iD acc = Q at *
      generalize g_law_tree_cells K c n = gg at *
      simp [lb_law_tree_cells_1, e, hs]
    refine ⟨y2, (forL_step (S1 := [some t0, some (.d (.list (iD acc))), some (.d y), none, none, none]) (by simp) eb).trans ?_⟩
    rw [e2, List.flatMap_cons, List.append_assoc]
theorem law_cells_ok : ∀ {n k : Nat} {x : PyData}, k ≤ n → isT k x = true → PyData.weight x ≤ 1048576 → g_law_tree_cells K c (n + 1) [.d x] = some (.ok (.d (.list (iD (cs k x)))), [.d x]) := by
  intro n
  induction n with
  | zero =>
    intro k x hk h hw
    obtain rfl : k = 0 := by omega
    refine ltc_leaf h fun xs hx => ?_
    rw [hx] at h
    cases h
  | succ n ih =>
    intro k x hk h hw
    by_cases ht : ∀ xs, x ≠ .tuple xs
    · rw [cs_leaf ht]; exact ltc_leaf h ht
    · obtain ⟨xs, hxs⟩ := Classical.not_forall.mp ht
      obtain rfl : x = .tuple xs := Classical.byContradiction hxs
      cases k with
      | zero => cases h
      | succ k =>
        have hL := cs_len (k + 1) (.tuple xs)
        rw [isT_tS, List.all_eq_true] at h
        rw [wt_tup] at hw hL
        have hs := sizeLine_eq
        have hs1 : 1 ≤ sizeLine := by omega
        rw [cs_tup] at hL ⊢
        rw [List.length_cons, List.length_append, List.length_singleton] at hL
        obtain ⟨y2, e1⟩ := ltc_loop (K := K) (c := c) (n := n + 1) (k := k) (t0 := .d (.tuple xs)) (xs := xs) (acc := [27]) (x2 := none) (fun y hy => by
          have hw2 := wt_all hy
          exact ih (by omega) (h y hy) (by omega)) (by rw [List.length_singleton]; omega)
        have e3 : iD (27 :: (xs.flatMap (cs k) ++ [28])) = iD ([27] ++ xs.flatMap (cs k)) ++ [.int 28] := by simp [iD]
        have e4 : (iD ([27] ++ xs.flatMap (cs k))).length + 1 ≤ sizeLine := by rw [iD_len, List.length_append, List.length_singleton]; omega
        rw [e3]
        rw [show iD [27] = [.int 27] from rfl] at e1
        have fin : g_law_tree_cells K c (n + 1 + 1) = runF 1 6 [0] (bd_law_tree_cells K c (g_law_tree_cells K c (n + 1))) := rfl
        rw [fin]
        generalize g_law_tree_cells K c (n + 1) = gg at *
        generalize iD ([27] ++ xs.flatMap (cs k)) = R at *
        simp [bd_law_tree_cells, runF, runF.lentF, runF.lentL, oIsN, isNone, oIsB, isBoolB, e1, hs1, e4]
end K17

/-! the cells of a tree tell it -/
namespace K17
open PySem PySem.Spec PyProof.Rows L2 LamX PL
variable {K : PySem.W.Frag} {c : Ad}
/-- a state in which an item may begin -/
structure Fresh (s : St) : Prop where
  le : s.le = none
  di : s.di = none
  nw : s.whole = false
theorem put_eq (s : St) (y : PyData) (h : Fresh s) : ({ s.put y with di := none } : St) = s.put y := by
  have := h.di
  cases s; simp_all [St.put]
theorem stp_fresh {s : St} {x : Int} (h : Fresh s) (hx : ¬ ((1 ≤ x ∧ x ≤ 26) ∨ (33 ≤ x ∧ x ≤ 58))) : stp s x =
    if 29 ≤ x ∧ x ≤ 32 then some (s.put (plain x))
    else if x = 59 then some { s with di := some [] }
    else if x = 27 ∧ s.rp.length ≤ 11 then some { s with rp := s.top :: s.rp, top := [] }
    else if x = 28 then (match s.rp with
      | q :: r => some { s with rp := r, top := q ++ [.tuple s.top] }
      | [] => none)
    else none := by
  have hc : ¬ (s.le.isSome = true ∨ (1 ≤ x ∧ x ≤ 26) ∨ (33 ≤ x ∧ x ≤ 58)) := by
    rintro (g | g)
    · rw [h.le] at g; cases g
    · exact hx g
  unfold stp
  split
  · rename_i ds hd
    rw [h.di] at hd; cases hd
  · rw [if_neg hc, h.nw, if_neg Bool.false_ne_true]
    all_goals rfl
theorem step_plain {s : St} {x : Int} (h : Fresh s) (hx : 29 ≤ x ∧ x ≤ 32) : stp s x = some (s.put (plain x)) := by
  rw [stp_fresh h (by omega), if_pos hx]
theorem step_59 {s : St} (h : Fresh s) : stp s 59 = some { s with di := some [] } := by
  rw [stp_fresh h (by omega), if_neg (by omega), if_pos rfl]
theorem step_27 {s : St} (h : Fresh s) (hd : s.rp.length ≤ 11) : stp s 27 = some { s with rp := s.top :: s.rp, top := [] } := by
  rw [stp_fresh h (by omega), if_neg (by omega), if_neg (by omega), if_pos ⟨rfl, hd⟩]
theorem step_28 {s : St} {q : List PyData} {r : List (List PyData)} (h : Fresh s) (hr : s.rp = q :: r) : stp s 28 = some { s with rp := r, top := q ++ [.tuple s.top] } := by
  rw [stp_fresh h (by omega), if_neg (by omega), if_neg (by omega), if_neg (by omega), if_pos rfl]
  split
  · rename_i q2 r2 h2
    rw [hr] at h2
    cases h2
    rfl
  · rename_i h2
    rw [hr] at h2
    cases h2
theorem step_dig {s : St} {ds : List Int} {x : Int} (h : s.di = some ds) : stp s x = stpD s ds x := by
  unfold stp
  rw [h]
theorem step_wh {s : St} {x : Int} (h : s.whole = true) : stp s x = none := by
  have h2 : s.le = none ∧ s.di = none := by
    unfold St.whole at h
    simp only [Bool.and_eq_true, Option.isNone_iff_eq_none] at h
    exact ⟨h.1.2, h.2⟩
  unfold stp
  rw [h2.2]
  simp only
  rw [h]
  split <;> rfl
theorem step_let {s : St} {x : Int} (hd : s.di = none) (hx : s.le.isSome = true ∨ (1 ≤ x ∧ x ≤ 26) ∨ (33 ≤ x ∧ x ≤ 58)) (hw : s.whole = false) : stp s x = stpL s x := by
  unfold stp
  rw [hd]
  simp only
  rw [if_pos hx, hw, if_neg Bool.false_ne_true]
/-! numbers -/
theorem fresh_put_nc {s : St} (h : Fresh s) (i : Int) : ({ (s.put (.int i)) with di := none } : St) = s.put (.int i) := put_eq s _ h
theorem stpD_more {s : St} {ds : List Int} {x : Int} (hx : 32 ≤ x) (h1 : ds.length ≤ 1) (h2 : x ≠ 32 ∨ ds ≠ []) : stpD s ds x = some { s with di := some (ds ++ [x - 32]) } := by
  unfold stpD
  rw [if_pos hx, if_neg]
  rintro (g | ⟨g1, g2⟩)
  · omega
  · rcases h2 with h2 | h2
    · exact h2 g2
    · exact h2 g1
theorem stpD_last {s : St} {ds : List Int} {x : Int} (hx : x < 32) : stpD s ds x = some { (s.put (.int (numI 0 (ds ++ [x])))) with di := none } := by
  unfold stpD
  rw [if_neg (by omega)]
theorem put_di (s : St) (h : Fresh s) (ds : List Int) (y : PyData) : ({ (({ s with di := some ds } : St).put y) with di := none } : St) = s.put y := by
  have := h.di
  cases s; simp_all [St.put]
theorem run_num {s : St} {i : Int} {rest : List Int} {n : Nat} (h : Fresh s) (h0 : 0 ≤ i) (h1 : i < 32768) : runW s (nc i ++ rest) n = runW (s.put (.int i)) rest (n + (nc i).length) := by
  unfold nc
  split
  · rename_i g
    show runW s (59 :: (i / 1024 + 32) :: (i / 32 % 32 + 32) :: (i % 32) :: rest) n = _
    rw [runW_s (step_59 h)]
    rw [runW_s ((step_dig rfl).trans (stpD_more (by omega) (by simp) (.inl (by omega))))]
    rw [runW_s ((step_dig rfl).trans (stpD_more (by omega) (by simp) (.inr (by simp))))]
    rw [runW_s ((step_dig rfl).trans (stpD_last (by omega)))]
    have e : numI 0 (([] ++ [i / 1024 + 32 - 32] ++ [i / 32 % 32 + 32 - 32]) ++ [i % 32]) = i := by
      simp only [numI, List.nil_append, List.cons_append, List.foldl_cons, List.foldl_nil]
      omega
    rw [e]
    have := put_di s h ([] ++ [i / 1024 + 32 - 32] ++ [i / 32 % 32 + 32 - 32]) (.int i)
    rw [this]
    rfl
  · split
    · rename_i g g2
      show runW s (59 :: (i / 32 + 32) :: (i % 32) :: rest) n = _
      rw [runW_s (step_59 h)]
      rw [runW_s ((step_dig rfl).trans (stpD_more (by omega) (by simp) (.inl (by omega))))]
      rw [runW_s ((step_dig rfl).trans (stpD_last (by omega)))]
      have e : numI 0 (([] ++ [i / 32 + 32 - 32]) ++ [i % 32]) = i := by
        simp only [numI, List.nil_append, List.cons_append, List.foldl_cons, List.foldl_nil]
        omega
      rw [e]
      have := put_di s h ([] ++ [i / 32 + 32 - 32]) (.int i)
      rw [this]
      rfl
    · rename_i g g2
      show runW s (59 :: (i % 32) :: rest) n = _
      rw [runW_s (step_59 h)]
      rw [runW_s ((step_dig rfl).trans (stpD_last (by omega)))]
      have e : numI 0 ([] ++ [i % 32]) = i := by
        simp only [numI, List.nil_append, List.foldl_cons, List.foldl_nil]
        omega
      rw [e]
      have := put_di s h [] (.int i)
      rw [this]
      rfl
/-! words -/
def toS (l : List Nat) : Str := ⟨l.toArray⟩
theorem ch_of {a : Nat} (h : 97 ≤ a) : chS ((a : Int) - 97) = toS [a] := by
  unfold chS toS
  have : (97 + ((a : Int) - 97)).toNat = a := by omega
  rw [this]
theorem ch_of' {a : Nat} {x : Int} (h : 97 ≤ a) (hx : x = (a : Int) - 97) : chS x = toS [a] := by rw [hx]; exact ch_of h
theorem app_toS (z : Str) (a : Nat) (l : List Nat) : z ++ toS [a] ++ toS l = z ++ toS (a :: l) := by
  show (⟨z.cps ++ #[a] ++ l.toArray⟩ : Str) = ⟨z.cps ++ (a :: l).toArray⟩
  congr 1
  apply Array.ext'
  simp
theorem e_toS (l : List Nat) : ("" : Str) ++ toS l = toS l := by
  show (⟨(Str.ofString "").cps ++ l.toArray⟩ : Str) = ⟨l.toArray⟩
  congr 1
  apply Array.ext'
  simp [show (Str.ofString "").cps = #[] from rfl]
theorem toS_self (z : Str) : toS z.cps.toList = z := by cases z; simp [toS]
theorem run_word : ∀ {l : List Nat} {s : St} {rest : List Int} {n : Nat}, l ≠ [] → (∀ a ∈ l, lowB a = true) → s.di = none → s.whole = false → (leS s).length + l.length ≤ 8 →
    runW s (wc l ++ rest) n = runW { (s.put (.str (leS s ++ toS l))) with le := none } rest (n + (wc l).length)
  | [a], s, rest, n, _, ha, hd, hw, hl => by
    have h1 := ha a List.mem_cons_self
    simp only [lowB, Bool.and_eq_true, decide_eq_true_eq] at h1
    show runW s (((a : Int) - 64) :: rest) n = _
    have e : stp s ((a : Int) - 64) = some { (s.put (.str (leS s ++ toS [a]))) with le := none } := by
      rw [step_let hd (.inr (.inr (by omega))) hw]
      unfold stpL
      rw [if_neg (by omega), if_pos (by omega), ch_of' h1.1 (by omega)]
    rw [runW_s e]; rfl
  | a :: b :: l, s, rest, n, _, ha, hd, hw, hl => by
    have h1 := ha a List.mem_cons_self
    simp only [lowB, Bool.and_eq_true, decide_eq_true_eq] at h1
    rw [List.length_cons, List.length_cons] at hl
    show runW s (((a : Int) - 96) :: (wc (b :: l) ++ rest)) n = _
    have e : stp s ((a : Int) - 96) = some { s with le := some (leS s ++ toS [a]) } := by
      rw [step_let hd (.inr (.inl (by omega))) hw]
      unfold stpL
      rw [if_pos (by omega), ch_of' h1.1 (by omega)]
    rw [runW_s e]
    have hls : leS ({ s with le := some (leS s ++ toS [a]) } : St) = leS s ++ toS [a] := rfl
    have hle : (leS s ++ toS [a]).length = (leS s).length + 1 := by rw [len_app]; rfl
    rw [run_word (l := b :: l) (by simp) (fun q hq => ha q (List.mem_cons_of_mem _ hq)) (by exact hd) (by
      unfold St.whole
      simp) (by rw [hls, hle, List.length_cons]; omega)]
    rw [hls, app_toS]
    have hn : n + 1 + (wc (b :: l)).length = n + (wc (a :: b :: l)).length := by
      show _ = n + ((wc (b :: l)).length + 1)
      omega
    rw [hn]
    rfl
/-! trees -/
theorem fresh_in (s : St) (h : Fresh s) (t : List PyData) : Fresh { s with rp := s.top :: s.rp, top := t } := ⟨h.le, h.di, rfl⟩
theorem run_leaf {k : Nat} {x : PyData} {s : St} {rest : List Int} {n : Nat} (hs : Fresh s) (h : isT k x = true) (ht : ∀ xs, x ≠ .tuple xs) : runW s (lc x ++ rest) n = runW (s.put x) rest (n + (lc x).length) := by
  cases x with
  | dict kvs => cases k <;> cases h
  | list xs => cases k <;> cases h
  | tuple xs => exact absurd rfl (ht xs)
  | none => exact runW_s (step_plain (x := 29) hs (by omega))
  | bool b =>
    cases b
    · exact runW_s (step_plain (x := 30) hs (by omega))
    · exact runW_s (step_plain (x := 31) hs (by omega))
  | int i =>
    rw [isT_int] at h
    obtain ⟨h0, h1⟩ := isNum_b h
    exact run_num hs h0 h1
  | str z =>
    rw [isT_str] at h
    obtain ⟨h8, hl⟩ := wordB_low h
    have hle : leS s = "" := by unfold leS; rw [hs.le]; rfl
    by_cases e : z.cps.toList = []
    · have : z = "" := str_nil e
      subst this
      exact runW_s (step_plain (x := 32) hs (by omega))
    · have := run_word (s := s) (rest := rest) (n := n) e hl hs.di hs.nw (by rw [hle, len_cps]; show 0 + _ ≤ _; omega)
      rw [hle, e_toS, toS_self] at this
      refine this.trans ?_
      have q : ({ (s.put (.str z)) with le := none } : St) = s.put (.str z) := by
        have := hs.le
        cases s; simp_all [St.put]
      rw [q]
      rfl
theorem run_items {k : Nat} {s0 : St} {rest : List Int} (ih : ∀ {x : PyData} {s : St} {rest : List Int} {n : Nat}, Fresh s → s.rp.length + k ≤ 12 → isT k x = true → runW s (cs k x ++ rest) n = runW (s.put x) rest (n + (cs k x).length)) (hs : Fresh s0) (hd : s0.rp.length + 1 + k ≤ 12) : ∀ {xs ys : List PyData} {n : Nat}, (∀ x ∈ xs, isT k x = true) →
    runW { s0 with rp := s0.top :: s0.rp, top := ys } (xs.flatMap (cs k) ++ rest) n = runW { s0 with rp := s0.top :: s0.rp, top := ys ++ xs } rest (n + (xs.flatMap (cs k)).length)
  | [], ys, n, _ => by rw [List.append_nil]; rfl
  | x :: xs, ys, n, h => by
    rw [List.flatMap_cons, List.append_assoc, ih (fresh_in s0 hs ys) hd (h x List.mem_cons_self)]
    have := run_items (rest := rest) ih hs hd (xs := xs) (ys := ys ++ [x]) (n := n + (cs k x).length) fun z hz => h z (List.mem_cons_of_mem _ hz)
    rw [List.append_assoc] at this
    refine this.trans ?_
    rw [List.length_append, Nat.add_assoc]
    rfl
theorem run_tree : ∀ {k : Nat} {x : PyData} {s : St} {rest : List Int} {n : Nat}, Fresh s → s.rp.length + k ≤ 12 → isT k x = true → runW s (cs k x ++ rest) n = runW (s.put x) rest (n + (cs k x).length)
  | 0, x, s, rest, n, hs, hd, h => run_leaf hs h fun xs hx => by rw [hx] at h; cases h
  | k + 1, x, s, rest, n, hs, hd, h => by
    by_cases ht : ∀ xs, x ≠ .tuple xs
    · rw [cs_leaf ht]; exact run_leaf hs h ht
    · obtain ⟨xs, hxs⟩ := Classical.not_forall.mp ht
      obtain rfl : x = .tuple xs := Classical.byContradiction hxs
      rw [isT_tS, List.all_eq_true] at h
      rw [cs_tup]
      show runW s (27 :: ((xs.flatMap (cs k) ++ [28]) ++ rest)) n = _
      rw [runW_s (step_27 hs (by omega)), List.append_assoc, run_items (fun hf hd hx => run_tree hf hd hx) hs (by omega) h]
      show runW _ (28 :: rest) _ = _
      rw [runW_s (step_28 (fresh_in s hs _) rfl)]
      have e : n + 1 + (xs.flatMap (cs k)).length + 1 = n + (27 :: (xs.flatMap (cs k) ++ [28])).length := by
        rw [List.length_cons, List.length_append, List.length_singleton]; omega
      rw [e]
      rfl
theorem st0_fresh : Fresh st0 := ⟨rfl, rfl, rfl⟩
theorem run_st0 {x : PyData} (h : isT 12 x = true) (rest : List Int) : runW st0 (cs 12 x ++ rest) 0 = runW (st0.put x) rest (cs 12 x).length := by
  rw [run_tree st0_fresh (by decide) h, Nat.zero_add]
theorem whole_put (x : PyData) : (st0.put x).whole = true := rfl
theorem run_all {x : PyData} (h : isT 12 x = true) : runW st0 (cs 12 x) 0 = .ok (st0.put x) := by
  have := run_st0 h []
  rw [List.append_nil] at this
  exact this
theorem run_more {x : PyData} {a : Int} {l : List Int} (h : isT 12 x = true) : runW st0 (cs 12 x ++ a :: l) 0 = .error (cs 12 x).length := by
  rw [run_st0 h, runW_n (step_wh (whole_put x))]
theorem no_begin {x y : PyData} (hx : isT 12 x = true) (hy : isT 12 y = true) (h : cs 12 y = (cs 12 x).take (cs 12 y).length) : cs 12 y = cs 12 x := by
  have e := List.take_append_drop (cs 12 y).length (cs 12 x)
  rw [← h] at e
  cases hd : (cs 12 x).drop (cs 12 y).length with
  | nil => rw [hd, List.append_nil] at e; exact e
  | cons a l =>
    rw [hd] at e
    have h1 := run_more (a := a) (l := l) hy
    rw [e, run_all hx] at h1
    cases h1
theorem cs_ne (n : Nat) {x : PyData} (h : isT n x = true) : cs n x ≠ [] := by
  cases n with
  | zero =>
    cases x with
    | str z =>
      intro e
      have : wc z.cps.toList = [] := e
      unfold wc at this
      split at this <;> cases this
    | int i =>
      intro e
      have : nc i = [] := e
      rw [nc_cons] at this
      cases this
    | none => intro e; cases e
    | bool b => intro e; cases e
    | _ => cases h
  | succ n =>
    cases x with
    | str z =>
      intro e
      have : wc z.cps.toList = [] := e
      unfold wc at this
      split at this <;> cases this
    | int i =>
      intro e
      have : nc i = [] := e
      rw [nc_cons] at this
      cases this
    | none => intro e; cases e
    | bool b => intro e; cases e
    | tuple xs => intro e; cases e
    | _ => cases h
end K17

/-! drawn trees -/
namespace K17
open PySem PySem.Spec PyProof.Rows L2 LamX PL
variable {K : PySem.W.Frag} {c : Ad}
def ltrs (l : List Nat) : List PyData := l.map sgD
theorem strs_l : ∀ l : List Nat, strsD (ltrs l) = some (l.map fun n => toS [n])
  | [] => rfl
  | n :: l => by
    show (strsD (ltrs l)).map (toS [n] :: ·) = _
    rw [strs_l l]; rfl
theorem join_l : ∀ l : List Nat, Str.join ("" : Str) (l.map fun n => toS [n]) = toS l
  | [] => rfl
  | [a] => rfl
  | a :: b :: l => by
    show toS [a] ++ ("" : Str) ++ Str.join ("" : Str) ((b :: l).map fun n => toS [n]) = _
    rw [join_l (b :: l)]
    show (⟨#[a] ++ (Str.ofString "").cps ++ (b :: l).toArray⟩ : Str) = ⟨(a :: b :: l).toArray⟩
    congr 1
    apply Array.ext'
    simp [show (Str.ofString "").cps = #[] from rfl]
theorem sum_l : ∀ l : List Nat, ((l.map fun n => toS [n]).map (·.length)).sum = l.length
  | [] => rfl
  | a :: l => by
    rw [List.map_cons, List.map_cons, List.sum_cons, sum_l l, List.length_cons]
    show 1 + _ = _
    omega
theorem join_ok {l : List Nat} (h : l.length ≤ 100) : oJoin (.str "") [.list (ltrs l)] = some (.d (.str (toS l))) := by
  show joinO ("" : Str) (ltrs l) = _
  unfold joinO
  rw [strs_l]
  show (if _ then _ else _) = _
  rw [if_pos, TL.join_eq, join_l]
  rw [sum_l, List.length_map]
  show l.length + l.length * 0 ≤ _
  omega
theorem word_of {l : List Nat} (h : l.length ≤ 8) (h2 : ∀ n ∈ l, lowB n = true) : wordB (toS l) = true := by
  unfold wordB
  rw [Bool.and_eq_true, List.all_eq_true]
  exact ⟨decide_eq_true (by show l.toArray.size ≤ 8; simpa using h), fun n hn => h2 n (by simpa [toS] using hn)⟩
theorem sg_ch {k : Int} (h : 0 ≤ k) : PyData.str (chS k) = sgD (97 + k).toNat := rfl
theorem low_ch {k : Int} (h0 : 0 ≤ k) (h1 : k < 26) : lowB (97 + k).toNat = true := by
  simp only [lowB, Bool.and_eq_true, decide_eq_true_eq]
  omega
/-- a word of m letters -/
theorem word_L {b m : Nat} {s1 : Option OV} {L : List (Key × OV)} (hm : m ≤ 8) (hd : DOk (b + m) (.dct L)) : ∃ (l : List Nat) (L' : List (Key × OV)),
    compL (gN 2) tYesM (ce_law_leaf_1 K c) [2] (rngD 0 m) [] [some (.dct L), s1, none] = some (ltrs l, [some (.dct L'), s1, none]) ∧ l.length = m ∧ (∀ n ∈ l, lowB n = true) ∧ DOk b (.dct L') := by
  have hk : (rngD 0 m).length = m := by simp [rngD]
  obtain ⟨acc, S', e3, ⟨l, L3, i1, i2, i3, i4, i5⟩, _⟩ := compL_inv (g := gN 2) (fe := ce_law_leaf_1 K c) (vs := [2]) (ds := rngD 0 m) (acc := []) (S := [some (.dct L), s1, none]) (n := 0)
    (fun j acc S => ∃ (l : List Nat) (L' : List (Key × OV)), acc = ltrs l ∧ l.length = j ∧ (∀ n ∈ l, lowB n = true) ∧ DOk (b + m - j) (.dct L') ∧ S = [some (.dct L'), s1, none]) (by rw [hk, sizeLine_eq]; simp; omega) ⟨[], L, rfl, rfl, fun n hn => (by cases hn), hd, rfl⟩ (by
      rintro j dd acc S hj ⟨l, L', rfl, h1, h2, h3, rfl⟩
      have hjm : j < m := by
        have := (List.getElem?_eq_some_iff.mp hj).1
        rw [hk] at this; exact this
      obtain ⟨f, L2, e1, f0, f1, h4⟩ := take_L (K := K) (c := c) (b := b + m - (j + 1)) (m := 26) (by decide) (by decide) (h3.mono (by omega))
      have e2 := oIx_let f0 f1
      rw [sg_ch f0] at e2
      refine ⟨[some (.dct L'), s1, some (.d dd)], sgD (97 + f).toNat, [some (.dct L2), s1, some (.d dd)], by simp, by simp [ce_law_leaf_1, e1, e2], l ++ [(97 + f).toNat], L2, by simp [ltrs], by rw [List.length_append, h1, List.length_singleton, Nat.zero_add], fun n hn => ?_, by rw [show 0 + j + 1 = j + 1 by omega]; exact h4, rfl⟩
      rcases List.mem_append.mp hn with hn | hn
      · exact h2 n hn
      · rw [List.mem_singleton.mp hn]; exact low_ch f0 f1)
  rw [hk, Nat.zero_add] at i2 i4
  refine ⟨l, L3, ?_, i2, i3, i4.mono (by omega)⟩
  rw [e3, i1, i5]
def lenL : List PyData := [.int 1, .int 2, .int 3, .int 7, .int 8]
theorem wt_int {i : Int} (h0 : 0 ≤ i) (h1 : i < 32768) : PyData.weight (.int i) ≤ 15 := by
  simp only [PyData.weight]
  split
  · omega
  · rename_i h
    have h3 : i.natAbs ≠ 0 := by
      intro z
      have : i = 0 := by omega
      rw [this] at h
      exact h rfl
    have := (Nat.log2_lt h3).mpr (show i.natAbs < 2 ^ 15 by omega)
    omega
theorem leaf_L {b : Nat} {L : List (Key × OV)} (hd : DOk (b + 20) (.dct L)) : ∃ x L', g_law_leaf K c [.dct L] = some (.ok (.d x), [.dct L']) ∧ isT 0 x = true ∧ PyData.weight x ≤ 15 ∧ DOk b (.dct L') := by
  have hs1 : 5 ≤ sizeLine := by rw [sizeLine_eq]; decide
  have hs2 : 9 ≤ sizeLine := by rw [sizeLine_eq]; decide
  have hs3 : 3 ≤ sizeLine := by rw [sizeLine_eq]; decide
  obtain ⟨f, L1, e1, f0, f1, h1⟩ := take_L (K := K) (c := c) (b := b + 19) (m := 7) (by decide) (by decide) hd
  by_cases g : f < 3
  · have : f = 0 ∨ f = 1 ∨ f = 2 := by omega
    rcases this with rfl | rfl | rfl
    · exact ⟨.none, L1, by simp [g_law_leaf, bd_law_leaf, runF, runF.lentF, runF.lentL, e1, hs3, at0], rfl, Nat.zero_le _, h1.mono (by omega)⟩
    · exact ⟨.bool true, L1, by simp [g_law_leaf, bd_law_leaf, runF, runF.lentF, runF.lentL, e1, hs3, at1], rfl, Nat.zero_le _, h1.mono (by omega)⟩
    · exact ⟨.bool false, L1, by simp [g_law_leaf, bd_law_leaf, runF, runF.lentF, runF.lentL, e1, hs3, show atI [PyData.none, .bool true, .bool false] 2 = some (.bool false) from rfl], rfl, Nat.zero_le _, h1.mono (by omega)⟩
  · by_cases g3 : f = 3
    · subst g3
      obtain ⟨f', L2, e2, f0', f1', h2⟩ := take_L (K := K) (c := c) (b := b + 18) (m := 4) (by decide) (by decide) h1
      by_cases z : f' = 0
      · subst z
        exact ⟨.str "", L2, by simp [g_law_leaf, bd_law_leaf, runF, runF.lentF, runF.lentL, e1, e2], by decide +kernel, Nat.zero_le _, h2.mono (by omega)⟩
      · obtain ⟨y, hy, L3, e3, h3⟩ := pick_L (K := K) (c := c) (b := b + 17) (xs := lenL) (by simp [lenL]) (by simp [lenL]) h2
        obtain ⟨m, rfl, hm⟩ : ∃ m : Nat, y = .int (m : Int) ∧ m ≤ 8 := by
          simp only [lenL, List.mem_cons, List.not_mem_nil, or_false] at hy
          rcases hy with rfl | rfl | rfl | rfl | rfl
          · exact ⟨1, rfl, by decide⟩
          · exact ⟨2, rfl, by decide⟩
          · exact ⟨3, rfl, by decide⟩
          · exact ⟨7, rfl, by decide⟩
          · exact ⟨8, rfl, by decide⟩
        obtain ⟨l, L4, e4, l1, l2, h4⟩ := word_L (K := K) (c := c) (b := b) (m := m) (s1 := some (.d (.int 3))) hm (h3.mono (by omega))
        have e5 := join_ok (l := l) (by omega)
        have hb : (-4611686018427387904 : Int) ≤ (m : Int) ∧ (m : Int) < 4611686018427387904 := by omega
        refine ⟨.str (toS l), L4, ?_, word_of (by omega) l2, ?_, h4⟩
        · unfold lenL at e3
          generalize ltrs l = Q at *
          simp [g_law_leaf, bd_law_leaf, runF, runF.lentF, runF.lentL, e1, e2, z, hs1, e3, hb, wipeS, e4, e5]
        · rw [wt_str]
          show l.toArray.size ≤ 15
          rw [List.size_toArray]; omega
    · obtain ⟨a, L2, e2, a0, a1, h2⟩ := take_L (K := K) (c := c) (b := b + 18) (m := 64) (by decide) (by decide) h1
      obtain ⟨a', L3, e3, a0', a1', h3⟩ := take_L (K := K) (c := c) (b := b + 17) (m := 1100) (by decide) (by decide) h2
      obtain ⟨a'', L4, e4, a0'', a1'', h4⟩ := take_L (K := K) (c := c) (b := b + 16) (m := 32768) (by decide) (by decide) h3
      obtain ⟨y, hy, L5, e5, h5⟩ := pick_L (K := K) (c := c) (b := b + 15) (xs := [.int 0, .int 31, .int 32, .int 1023, .int 1024, .int 32767, .int a, .int a', .int a'']) (by simp) (by simp) h4
      obtain ⟨i, rfl, i0, i1⟩ : ∃ i : Int, y = .int i ∧ 0 ≤ i ∧ i < 32768 := by
        simp only [List.mem_cons, List.not_mem_nil, or_false] at hy
        rcases hy with rfl | rfl | rfl | rfl | rfl | rfl | rfl | rfl | rfl <;> exact ⟨_, rfl, by omega, by omega⟩
      exact ⟨.int i, L5, by simp [g_law_leaf, bd_law_leaf, runF, runF.lentF, runF.lentL, e1, g, g3, e2, e3, e4, hs2, e5], by simp [isT, isNum, i0, i1], wt_int i0 i1, h5.mono (by omega)⟩
end K17

/-! drawn trees, their depth and weight -/
namespace K17
open PySem PySem.Spec PyProof.Rows L2 LamX PL
variable {K : PySem.W.Frag} {c : Ad}
def bnd (d : Nat) : Nat := if d ≤ 3 then 24 * 4 ^ d else 4000 * d
theorem bnd_step : ∀ d : Nat, d < 20 → (bnd d + 1) + 2 * (bnd (min d 3) + 1) + 3 ≤ bnd (d + 1) := by decide +kernel
theorem bnd_low : ∀ d : Nat, d < 21 → 20 ≤ bnd d := by decide +kernel
/-- the weight that the first j of the children may have -/
def cum (B1 B3 : Nat) (j : Nat) : Nat := match j with
  | 0 => 0
  | j + 1 => B1 + 1 + j * (B3 + 1)
theorem cum_le {B1 B3 j : Nat} (h : j ≤ 3) : cum B1 B3 j ≤ B1 + 1 + 2 * (B3 + 1) := by
  match j, h with
  | 0, _ => exact Nat.zero_le _
  | 1, _ => simp [cum]
  | 2, _ => simp only [cum]; omega
  | 3, _ => simp only [cum]; omega
theorem wtAll_app (xs : List PyData) (y : PyData) : PyData.weightAll (xs ++ [y]) = PyData.weightAll xs + (PyData.weight y + 1) := by
  induction xs with
  | nil => simp only [List.nil_append, PyData.weightAll]; omega
  | cons x xs ih =>
    have e : PyData.weightAll (x :: (xs ++ [y])) = PyData.weight x + 1 + PyData.weightAll (xs ++ [y]) := by simp only [PyData.weightAll]
    have e2 : PyData.weightAll (x :: xs) = PyData.weight x + 1 + PyData.weightAll xs := by simp only [PyData.weightAll]
    show PyData.weightAll (x :: (xs ++ [y])) = _
    rw [e, e2, ih]; omega
theorem tree_L : ∀ {n d b : Nat} {L : List (Key × OV)}, d ≤ n → d < 20 → DOk (b + bnd d) (.dct L) → ∃ x L', g_law_tree K c (n + 1) [.dct L, .d (.int (d : Int))] = some (.ok (.d x), [.dct L', .d (.int (d : Int))]) ∧ isT d x = true ∧ PyData.weight x ≤ bnd d ∧ DOk b (.dct L') := by
  intro n
  induction n with
  | zero =>
    intro d b L hd hd2 hD
    obtain rfl : d = 0 := by omega
    have h20 : bnd 0 = 24 := rfl
    obtain ⟨x, L', e, h1, h2, h3⟩ := leaf_L (K := K) (c := c) (b := b) (hD.mono (by omega))
    exact ⟨x, L', by simp [g_law_tree, bd_law_tree, runF, runF.lentF, runF.lentL, e], h1, by omega, h3⟩
  | succ n ih =>
    intro d b L hd hd2 hD
    cases d with
    | zero =>
      have h20 : bnd 0 = 24 := rfl
      obtain ⟨x, L', e, h1, h2, h3⟩ := leaf_L (K := K) (c := c) (b := b) (hD.mono (by omega))
      exact ⟨x, L', by simp [g_law_tree, bd_law_tree, runF, runF.lentF, runF.lentL, e], h1, by omega, h3⟩
    | succ d =>
      have hb1 := bnd_step d (by omega)
      have hb2 := bnd_low (d + 1) (by omega)
      have hb3 := bnd_low d (by omega)
      have hz : ¬ ((d + 1 : Nat) : Int) = 0 := by omega
      have hs1 : 5 ≤ sizeLine := by rw [sizeLine_eq]; decide
      obtain ⟨f, L1, e1, f0, f1, h1⟩ := take_L (K := K) (c := c) (b := b + bnd (d + 1) - 1) (m := 3) (by decide) (by decide) (hD.mono (by omega))
      by_cases g : f = 0
      · subst g
        obtain ⟨x, L', e, h2, h3, h4⟩ := leaf_L (K := K) (c := c) (b := b) (h1.mono (by omega))
        refine ⟨x, L', ?_, isT_le h2 (Nat.zero_le _), by omega, h4⟩
        generalize hq : ((d + 1 : Nat) : Int) = q at *
        simp [g_law_tree, bd_law_tree, runF, runF.lentF, runF.lentL, hz, e1, e]
      · obtain ⟨y, hy, L2, e2, h2⟩ := pick_L (K := K) (c := c) (b := b + (bnd d + 1 + 2 * (bnd (min d 3) + 1))) (xs := [.int 0, .int 1, .int 1, .int 2, .int 3]) (by simp) (by simp) (h1.mono (by omega))
        obtain ⟨m, rfl, hm⟩ : ∃ m : Nat, y = .int (m : Int) ∧ m ≤ 3 := by
          simp only [List.mem_cons, List.not_mem_nil, or_false] at hy
          rcases hy with rfl | rfl | rfl | rfl | rfl
          · exact ⟨0, rfl, by decide⟩
          · exact ⟨1, rfl, by decide⟩
          · exact ⟨1, rfl, by decide⟩
          · exact ⟨2, rfl, by decide⟩
          · exact ⟨3, rfl, by decide⟩
        have hk : (rngD 0 m).length = m := by simp [rngD]
        have hcm := cum_le (B1 := bnd d) (B3 := bnd (min d 3)) hm
        obtain ⟨acc, S', e3, ⟨L3, i1, i2, i3, i4⟩, i5⟩ := compL_inv (g := gN 2) (fe := ce_law_tree_1 K c (g_law_tree K c (n + 1))) (vs := [2]) (ds := rngD 0 m) (acc := []) (S := [some (.dct L2), some (.d (.int ((d + 1 : Nat) : Int))), none]) (n := 0)
          (fun j acc S => ∃ (L' : List (Key × OV)), (∀ x ∈ acc, isT d x = true) ∧ PyData.weightAll acc ≤ cum (bnd d) (bnd (min d 3)) j ∧ DOk (b + (bnd d + 1 + 2 * (bnd (min d 3) + 1)) - cum (bnd d) (bnd (min d 3)) j) (.dct L') ∧ S = [some (.dct L'), some (.d (.int ((d + 1 : Nat) : Int))), none]) (by rw [hk, sizeLine_eq]; simp; omega) ⟨L2, fun x hx => (by cases hx), Nat.zero_le _, h2, rfl⟩ (by
            rintro j dd acc S hj ⟨L', a1, a2, a3, rfl⟩
            have hjm : j < m := by
              have := (List.getElem?_eq_some_iff.mp hj).1
              rw [hk] at this; exact this
            obtain rfl : dd = .int (j : Int) := by
              unfold rngD at hj
              rw [List.getElem?_map, List.getElem?_range hjm] at hj
              have := Option.some.inj hj
              rw [← this]
              show PyData.int (0 + (j : Int)) = _
              rw [Int.zero_add]
            have hc2 := cum_le (B1 := bnd d) (B3 := bnd (min d 3)) (j := j + 1) (by omega)
            rw [Nat.zero_add] at a2 a3
            have key : ∃ e, e ≤ d ∧ cum (bnd d) (bnd (min d 3)) (j + 1) = cum (bnd d) (bnd (min d 3)) j + (bnd e + 1) ∧ ifE (asB (bin (rdV 2) (toV (cst (.int 0))) oGt)) (callN (argsCons (toV (bin (rdV 1) (toV (cst (.int 1))) oSub)) (argsCons (toV (cst (.int 3))) argsNil)) oMin2) (bin (rdV 1) (toV (cst (.int 1))) oSub) [some (.dct L'), some (.d (.int ((d + 1 : Nat) : Int))), some (.d (.int (j : Int)))] = some (.ok (.d (.int (e : Int))), [some (.dct L'), some (.d (.int ((d + 1 : Nat) : Int))), some (.d (.int (j : Int)))]) := by
              cases j with
              | zero =>
                refine ⟨d, Nat.le_refl d, by simp [cum], ?_⟩
                simp
              | succ j =>
                have h0 : (0 : Int) < ((j + 1 : Nat) : Int) := by omega
                have hmn : (if (3 : Int) < ((d + 1 : Nat) : Int) - 1 then (3 : Int) else ((d + 1 : Nat) : Int) - 1) = ((min d 3 : Nat) : Int) := by
                  by_cases h3 : 3 < d
                  · rw [if_pos (by omega), Nat.min_eq_right (by omega)]; rfl
                  · rw [if_neg (by omega), Nat.min_eq_left (by omega)]; omega
                refine ⟨min d 3, Nat.min_le_left d 3, by simp only [cum]; rw [Nat.succ_mul]; omega, ?_⟩
                generalize ((j + 1 : Nat) : Int) = q at *
                generalize ((d + 1 : Nat) : Int) = q2 at *
                simp [h0, hmn]
            obtain ⟨e, he, hce, ee⟩ := key
            obtain ⟨x, L9, e9, t1, t2, t3⟩ := ih (d := e) (b := b + (bnd d + 1 + 2 * (bnd (min d 3) + 1)) - cum (bnd d) (bnd (min d 3)) (j + 1)) (L := L') (by omega) (by omega) (a3.mono (by omega))
            refine ⟨[some (.dct L'), some (.d (.int ((d + 1 : Nat) : Int))), some (.d (.int (j : Int)))], x, [some (.dct L9), some (.d (.int ((d + 1 : Nat) : Int))), some (.d (.int (j : Int)))], by simp, ?_, L9, ?_, ?_, by rw [Nat.zero_add]; exact t3, rfl⟩
            · generalize g_law_tree K c (n + 1) = gg at *
              generalize ((d + 1 : Nat) : Int) = q2 at *
              simp [-ifE_S, ce_law_tree_1, ee, e9]
            · intro z hz
              rcases List.mem_append.mp hz with hz | hz
              · exact a1 z hz
              · rw [List.mem_singleton.mp hz]; exact isT_le t1 he
            · rw [wtAll_app, Nat.zero_add]; omega)
        have hbb : (-4611686018427387904 : Int) ≤ (m : Int) ∧ (m : Int) < 4611686018427387904 := by omega
        rw [hk, Nat.zero_add] at i2 i3
        refine ⟨.tuple acc, L3, ?_, ?_, ?_, i3.mono (by omega)⟩
        · subst i4
          have fin : g_law_tree K c (n + 1 + 1) = runF 2 3 [0, 1] (bd_law_tree K c (g_law_tree K c (n + 1))) := rfl
          rw [fin]
          generalize g_law_tree K c (n + 1) = gg at *
          generalize ((d + 1 : Nat) : Int) = q2 at *
          simp [bd_law_tree, runF, runF.lentF, runF.lentL, hz, e1, g, hs1, e2, hbb, wipeS, e3]
        · rw [isT_tS, List.all_eq_true]; exact i1
        · rw [wt_tup]; omega
end K17

/-! a tree with one thing otherwise -/
namespace K17
open PySem PySem.Spec PyProof.Rows L2 LamX PL
variable {K : PySem.W.Frag} {c : Ad}
theorem isT_shp : ∀ {n : Nat} {x : PyData}, isT n x = true → Shp n x
  | 0, x, h => by
    cases x with
    | none => exact shp_none 0
    | bool b => exact shp_bool 0 b
    | int i => exact shp_int 0 i
    | str z => exact shp_str 0 (strOk_low (wordB_low h).2)
    | _ => cases h
  | n + 1, x, h => by
    cases x with
    | none => exact shp_none _
    | bool b => exact shp_bool _ b
    | int i => exact shp_int _ i
    | str z => exact shp_str _ (strOk_low (wordB_low h).2)
    | tuple xs =>
      rw [isT_tS, List.all_eq_true] at h
      exact shp_tup fun y hy => isT_shp (h y hy)
    | _ => cases h
def strL : List PyData := [.none, .bool true, .bool false, .int 0, .int 1, .int 2, .int 5, .int 13, .int 20, .int 21, .int 39, .int 40, .int 62, .int 63, .int 64, .int (-1), .str "", .str "a", .str "set", .str "row", .str "name", .str "near", .str "branch", .str "goto", .str "load", .str "take",
  .str "own", .str "open", .str "weak", .str "strong", .str "code", .str "data", .str "object", .tuple [], .tuple [.int 0], .tuple [.int 1, .int 2], .tuple [.str "row", .int 0], .tuple [.str "name", .str "a"], .list [], .list [.str "a"], .str "abcdefghi", .int 32767, .int 32768]
def okB1 (x : PyData) : Bool := PyData.canLay0 x && decide (PyData.depth x ≤ 1) && decide (PyData.weight x ≤ 100)
theorem strL_all : strL.all okB1 = true := by decide +kernel
theorem strL_ok : ∀ y ∈ strL, Shp 1 y ∧ PyData.weight y ≤ 100 := fun y hy => by
  have := List.all_eq_true.mp strL_all y hy
  simp only [okB1, Bool.and_eq_true, decide_eq_true_eq] at this
  exact ⟨⟨this.1.1, this.1.2⟩, this.2⟩
theorem strange_L {b : Nat} {L : List (Key × OV)} (hd : DOk (b + 1) (.dct L)) : ∃ x L', g_law_strange K c [.dct L] = some (.ok (.d x), [.dct L']) ∧ Shp 1 x ∧ PyData.weight x ≤ 100 ∧ DOk b (.dct L') := by
  obtain ⟨y, hy, L1, e1, h1⟩ := pick_L (K := K) (c := c) (b := b) (xs := strL) (by simp [strL]) (by simp [strL]) hd
  have hs := sizeLine_eq
  refine ⟨y, L1, ?_, (strL_ok y hy).1, (strL_ok y hy).2, h1⟩
  unfold strL at e1
  simp [g_law_strange, bd_law_strange, runF, runF.lentF, runF.lentL, hs, e1]
theorem eq_tnil {n : Nat} {xs : List PyData} (h : ∀ x ∈ xs, Shp n x) (hn : n < 64 := by decide) : oEq (.tuple xs) (.tuple []) = some (.d (.bool xs.isEmpty)) := by
  rw [oEq_of (shp_tup h) (shp_tup (n := 1) (by simp)) (by omega)]
  cases xs <;> rfl
theorem slT_to {own : Bool} {xs : List PyData} {a : Nat} (h : a ≤ xs.length) : oSl own (.tuple xs) none (some (a : Int)) = some (.d (.tuple (xs.take a))) := by
  rw [oSl_t, HT.sIx_nat, HT.sIx_none, Nat.min_eq_left h, List.drop_zero, Nat.sub_zero]
theorem slT_from {own : Bool} {xs : List PyData} {a : Nat} (h : a ≤ xs.length) : oSl own (.tuple xs) (some (a : Int)) none = some (.d (.tuple (xs.drop a))) := by
  rw [oSl_t, HT.sIx_nat, HT.sIx_none, Nat.min_eq_left h, List.take_of_length_le (by rw [List.length_drop]; omega)]
theorem slT_from1 {own : Bool} {xs : List PyData} {a : Nat} (h : a + 1 ≤ xs.length) : oSl own (.tuple xs) (some ((a : Int) + 1)) none = some (.d (.tuple (xs.drop (a + 1)))) := slT_from (a := a + 1) h
theorem wt_split : ∀ {xs : List PyData} {a : Nat} {y : PyData}, xs[a]? = some y → PyData.weightAll xs = PyData.weightAll (xs.take a) + (PyData.weight y + 1) + PyData.weightAll (xs.drop (a + 1))
  | x :: xs, 0, y, h => by
    have : x = y := by simpa using h
    subst this
    have e : PyData.weightAll (x :: xs) = PyData.weight x + 1 + PyData.weightAll xs := by simp only [PyData.weightAll]
    show PyData.weightAll (x :: xs) = PyData.weightAll [] + (PyData.weight x + 1) + PyData.weightAll xs
    rw [e]
    simp only [PyData.weightAll]
    omega
  | x :: xs, a + 1, y, h => by
    have h : xs[a]? = some y := by simpa using h
    have ih := wt_split h
    have e : PyData.weightAll (x :: xs) = PyData.weight x + 1 + PyData.weightAll xs := by simp only [PyData.weightAll]
    have e2 : PyData.weightAll (x :: xs.take a) = PyData.weight x + 1 + PyData.weightAll (xs.take a) := by simp only [PyData.weightAll]
    show PyData.weightAll (x :: xs) = PyData.weightAll (x :: xs.take a) + (PyData.weight y + 1) + PyData.weightAll (xs.drop (a + 1))
    rw [e, e2, ih]; omega
theorem wtAll_app2 (xs ys : List PyData) : PyData.weightAll (xs ++ ys) = PyData.weightAll xs + PyData.weightAll ys := by
  induction xs with
  | nil => simp [PyData.weightAll]
  | cons x xs ih =>
    have e : PyData.weightAll (x :: (xs ++ ys)) = PyData.weight x + 1 + PyData.weightAll (xs ++ ys) := by simp only [PyData.weightAll]
    have e2 : PyData.weightAll (x :: xs) = PyData.weight x + 1 + PyData.weightAll xs := by simp only [PyData.weightAll]
    show PyData.weightAll (x :: (xs ++ ys)) = _
    rw [e, e2, ih]; omega
theorem drop_wt {xs : List PyData} {a : Nat} {y : PyData} (h : xs[a]? = some y) : PyData.weightAll (xs.drop a) = PyData.weight y + 1 + PyData.weightAll (xs.drop (a + 1)) := by
  have ha := (List.getElem?_eq_some_iff.mp h)
  obtain ⟨h1, h2⟩ := ha
  rw [List.drop_eq_getElem_cons h1, h2]
  simp only [PyData.weightAll]
/-- not a tuple of parts, or by lot: another thing -/
theorem ch_base {n b d : Nat} {x : PyData} {L : List (Key × OV)} (hx : Shp d x) (hd : d ≤ 60) (hD : DOk (b + 10) (.dct L)) (ht : ∀ x0 xs, x ≠ .tuple (x0 :: xs)) : ∃ y L', g_law_changed K c (n + 1) [.dct L, .d x] = some (.ok (.d y), [.dct L', .d x]) ∧ Shp (d + 2) y ∧ PyData.weight y ≤ 2 * PyData.weight x + 100 ∧ DOk b (.dct L') := by
  cases x with
  | dict kvs => exact absurd rfl (hx.nx kvs)
  | tuple xs =>
    cases xs with
    | cons x0 xs => exact absurd rfl (ht x0 xs)
    | nil =>
      obtain ⟨f, L1, e1, f0, f1, h1⟩ := take_L (K := K) (c := c) (b := b + 9) (m := 6) (by decide) (by decide) hD
      have e0 := eq_tnil (n := 1) (xs := []) (by simp)
      by_cases g : f = 0
      · subst g
        exact ⟨.list [], L1, by simp [g_law_changed, bd_law_changed, runF, runF.lentF, runF.lentL, e0, e1], shp_lst (fun y hy => by cases hy), Nat.zero_le _, h1.mono (by omega)⟩
      · obtain ⟨y, L2, e2, y1, y2, h2⟩ := strange_L (K := K) (c := c) (b := b + 8) h1
        exact ⟨y, L2, by simp [g_law_changed, bd_law_changed, runF, runF.lentF, runF.lentL, e0, e1, g, e2], y1.mono (by omega), by omega, h2.mono (by omega)⟩
  | _ =>
    obtain ⟨y, L2, e2, y1, y2, h2⟩ := strange_L (K := K) (c := c) (b := b) (hD.mono (by omega))
    exact ⟨y, L2, by simp [g_law_changed, bd_law_changed, runF, runF.lentF, runF.lentL, e2], y1.mono (by omega), by omega, h2⟩
theorem changed_L : ∀ {n b d : Nat} {x : PyData} {L : List (Key × OV)}, d ≤ n → Shp d x → d ≤ 60 → PyData.weight x ≤ 400000 → DOk (b + 10 * (n + 1)) (.dct L) → ∃ y L', g_law_changed K c (n + 1) [.dct L, .d x] = some (.ok (.d y), [.dct L', .d x]) ∧ Shp (d + 2) y ∧ PyData.weight y ≤ 2 * PyData.weight x + 100 ∧ DOk b (.dct L') := by
  intro n
  induction n with
  | zero =>
    intro b d x L hn hx hd hw hD
    refine ch_base hx hd (hD.mono (by omega)) fun x0 xs e => ?_
    subst e
    have := hx.2
    simp only [PyData.depth] at this
    omega
  | succ n ih =>
    intro b d x L hn hx hd hw hD
    by_cases ht : ∀ x0 xs, x ≠ .tuple (x0 :: xs)
    · exact ch_base hx hd (hD.mono (by omega)) ht
    · obtain ⟨xs, hxs, hne⟩ : ∃ xs, x = .tuple xs ∧ xs ≠ [] := by
        apply Classical.byContradiction
        intro hno
        exact ht fun x0 xs e => hno ⟨x0 :: xs, e, by simp⟩
      subst hxs
      cases d with
      | zero => have := hx.2; simp [PyData.depth] at this
      | succ d =>
      have hm := shp_mem_tup hx
      have e0 := eq_tnil (n := d) hm (by omega)
      have e0' : xs.isEmpty = false := by cases xs with
        | nil => exact absurd rfl hne
        | cons _ _ => rfl
      rw [e0'] at e0
      rw [wt_tup] at hw
      have hl := wt_len xs
      have hlp : 0 < xs.length := List.length_pos_iff.mpr hne
      have hs := sizeLine_eq
      obtain ⟨f, L1, e1, f0, f1, h1⟩ := take_L (K := K) (c := c) (b := b + 10 * (n + 1) + 9) (m := 7) (by decide) (by decide) (hD.mono (by omega))
      by_cases g : f = 0
      · subst g
        obtain ⟨f', L2, e2, f0', f1', h2⟩ := take_L (K := K) (c := c) (b := b + 10 * (n + 1) + 8) (m := 6) (by decide) (by decide) h1
        by_cases g' : f' = 0
        · subst g'
          refine ⟨.list xs, L2, ?_, (shp_lst hm).mono (by omega), ?_, h2.mono (by omega)⟩
          · simp [g_law_changed, bd_law_changed, runF, runF.lentF, runF.lentL, e0, e1, e2]
          · rw [wt_lst, wt_tup]; omega
        · obtain ⟨y, L3, e3, y1, y2, h3⟩ := strange_L (K := K) (c := c) (b := b + 10 * (n + 1) + 7) h2
          exact ⟨y, L3, by simp [g_law_changed, bd_law_changed, runF, runF.lentF, runF.lentL, e0, e1, e2, g', e3], y1.mono (by omega), by omega, h3.mono (by omega)⟩
      · obtain ⟨a, L2, e2, a0, a1, h2⟩ := take_L (K := K) (c := c) (b := b + 10 * (n + 1) + 8) (m := (xs.length : Int)) (by omega) (by omega) h1
        obtain ⟨q, L3, e3, q0, q1, h3⟩ := take_L (K := K) (c := c) (b := b + 10 * (n + 1) + 7) (m := 9) (by decide) (by decide) h2
        obtain ⟨a, rfl⟩ := Int.eq_ofNat_of_zero_le a0
        have ha : a < xs.length := by omega
        have hy : xs[a]? = some xs[a] := List.getElem?_eq_getElem ha
        have hym := List.getElem_mem ha
        generalize xs[a] = y at hy hym
        have ea : atI xs (a : Int) = some y := atI_nat hy
        have t1 := slT_to (own := false) (xs := xs) (a := a) (by omega)
        have t2 := slT_from1 (own := false) (xs := xs) (a := a) (by omega)
        have t3 := slT_from (own := false) (xs := xs) (a := a) (by omega)
        have w1 := wt_split hy
        have w2 := drop_wt hy
        have m1 : ∀ z ∈ xs.take a, Shp d z := fun z hz => hm z (List.mem_of_mem_take hz)
        have m2 : ∀ z ∈ xs.drop (a + 1), Shp d z := fun z hz => hm z (List.mem_of_mem_drop hz)
        have m3 : ∀ z ∈ xs.drop a, Shp d z := fun z hz => hm z (List.mem_of_mem_drop hz)
        have l1 : (xs.take a).length ≤ 400000 := by rw [List.length_take]; omega
        have l2 : (xs.drop (a + 1)).length ≤ 400000 := by rw [List.length_drop]; omega
        have l3 : (xs.drop a).length ≤ 400000 := by rw [List.length_drop]; omega
        have hs1 : 1 ≤ sizeLine := by omega
        have lxs : ((xs.length : Nat) : Int) = ((xs.length : Nat) : Int) := rfl
        by_cases g0 : q = 0
        · subst g0
          refine ⟨.tuple (xs.take a ++ xs.drop (a + 1)), L3, ?_, (shp_tup fun z hz => (List.mem_append.mp hz).elim (m1 z) (m2 z)).mono (by omega), ?_, h3.mono (by omega)⟩
          · generalize xs.take a = A at *
            generalize xs.drop (a + 1) = B at *
            have hz : A.length + B.length ≤ 16777216 := by omega
            simp [-oSl_t, g_law_changed, bd_law_changed, runF, runF.lentF, runF.lentL, e0, e1, g, e2, e3, putLs, hs, t1, t2, hz]
          · rw [wt_tup, wt_tup, wtAll_app2]; omega
        · by_cases g1 : q = 1
          · subst g1
            refine ⟨.tuple (xs.take a ++ [y] ++ xs.drop a), L3, ?_, (shp_tup fun z hz => ?_).mono (n := d + 1 + 2) (m := d + 1) (by omega), ?_, h3.mono (by omega)⟩
            · generalize xs.take a = A at *
              generalize xs.drop a = B at *
              have hz : A.length + 1 ≤ 16777216 := by omega
              have hz2 : A.length + 1 + B.length ≤ 16777216 := by omega
              simp [-oSl_t, g_law_changed, bd_law_changed, runF, runF.lentF, runF.lentL, e0, e1, g, e2, e3, putLs, hs, t1, t3, hz, hz2, ea]
            · rcases List.mem_append.mp hz with hz | hz
              · rcases List.mem_append.mp hz with hz | hz
                · exact m1 z hz
                · rw [List.mem_singleton.mp hz]; exact hm y hym
              · exact m3 z hz
            · rw [wt_tup, wt_tup, wtAll_app2, wtAll_app]; omega
          · have hwy := wt_all hym
            obtain ⟨y', L4, e4, k1, k2, k3⟩ := ih (b := b + 1) (d := d) (x := y) (L := L3) (by omega) (hm y hym) (by omega) (by omega) (h3.mono (by omega))
            refine ⟨.tuple (xs.take a ++ [y'] ++ xs.drop (a + 1)), L4, ?_, (shp_tup (n := d + 2) fun z hz => ?_).mono (by omega), ?_, k3.mono (by omega)⟩
            · have fin : g_law_changed K c (n + 1 + 1) = runF 2 4 [0, 1] (bd_law_changed K c (g_law_changed K c (n + 1))) := rfl
              rw [fin]
              generalize g_law_changed K c (n + 1) = gg at *
              generalize xs.take a = A at *
              generalize xs.drop (a + 1) = B at *
              have hz : A.length + 1 ≤ 16777216 := by omega
              have hz2 : A.length + 1 + B.length ≤ 16777216 := by omega
              simp [-oSl_t, bd_law_changed, runF, runF.lentF, runF.lentL, e0, e1, g, e2, e3, putLs, hs, t1, t2, hz, hz2, ea, g0, g1, e4]
            · rcases List.mem_append.mp hz with hz | hz
              · rcases List.mem_append.mp hz with hz | hz
                · exact (m1 z hz).mono (by omega)
                · rw [List.mem_singleton.mp hz]; exact k1
              · exact (m2 z hz).mono (by omega)
            · rw [wt_tup, wt_tup, wtAll_app2, wtAll_app]; omega
end K17

/-! the law, turn by turn -/
namespace K17
open PySem PySem.Spec PyProof.Rows L2 LamX PL
variable {K : PySem.W.Frag} {c : Ad}
structure Facts (K : PySem.W.Frag) (c : Ad) : Prop where
  m1 : PySem.W.exmOne K (.ref c.BadCells) (.ref c.LinkError) = some true
  m2 : PySem.W.exmOne K (.ref c.BadFile) (.ref c.LinkError) = some true
  m3 : PySem.W.exmOne K (.ref c.BadTree) (.ref c.LinkError) = some true
  k1 : PySem.W.kitOne K (.ref c.BadTree) (.ref c.BadTree) = some true
  k2 : PySem.W.kitOne K (.ref c.BadFile) (.ref c.BadFile) = some true
theorem exm_x {C : Addr} {fs : List (Str × PyData)} (h : PySem.W.exmOne K (.ref C) (.ref c.LinkError) = some true) : exm K c.LinkError (excD C fs) = some true := by
  unfold exm
  rw [excC_excD]
  exact h
theorem isY_x {C : Addr} {cl : Value} {b : Bool} {fs : List (Str × PyData)} (h2 : PySem.W.kitOne K (.ref C) cl = some b) (hC : C ∈ [c.BadCells, c.BadFile, c.BadTree]) : oIsiY K [c.BadCells, c.BadFile, c.BadTree] cl (excD C fs) = some (.d (.bool b)) := by
  unfold oIsiY
  have e1 : tyName (excD C fs) = none := rfl
  rw [e1, getX_excD]
  simp only
  rw [if_pos hC, h2]
  rfl
theorem at_x (b : Int) : oAttrD [c.BadFile] "at" (excD c.BadFile [("at", .int b)]) = some (.d (.int b)) := by
  unfold oAttrD oAttr
  rw [getX_excD]
  simp
/-! of trees -/
theorem int13 {i : Int} (h0 : 0 ≤ i) (h1 : i < 32768) : PyData.intsShort 13 (.int i) = true ∧ PyData.showable (.int i) = true := by
  refine ⟨?_, ?_⟩
  · show decide _ = true
    exact decide_eq_true (PyData.shown_int_le (by omega))
  · show decide (i.natAbs.log2 < 1920) = true
    by_cases h : i.natAbs = 0
    · rw [h]; decide
    · have := (Nat.log2_lt h).mpr (show i.natAbs < 2 ^ 15 by omega)
      exact decide_eq_true (by omega)
theorem all13 : ∀ {xs : List PyData}, (∀ x ∈ xs, PyData.intsShort 13 x = true ∧ PyData.showable x = true) → PyData.intsShortAll 13 xs = true ∧ PyData.showableAll xs = true
  | [], _ => ⟨rfl, rfl⟩
  | x :: xs, h => by
    obtain ⟨h1, h2⟩ := all13 (xs := xs) fun y hy => h y (List.mem_cons_of_mem _ hy)
    obtain ⟨g1, g2⟩ := h x List.mem_cons_self
    refine ⟨?_, ?_⟩
    · show (PyData.intsShort 13 x && PyData.intsShortAll 13 xs) = true
      rw [g1, h1]; rfl
    · show (PyData.showable x && PyData.showableAll xs) = true
      rw [g2, h2]; rfl
theorem isT_13 : ∀ {n : Nat} {x : PyData}, isT n x = true → PyData.intsShort 13 x = true ∧ PyData.showable x = true
  | 0, x, h => by
    cases x with
    | none => exact ⟨rfl, rfl⟩
    | bool b => exact ⟨rfl, rfl⟩
    | int i =>
      have := isNum_b h
      exact int13 this.1 this.2
    | str z => exact ⟨rfl, rfl⟩
    | _ => cases h
  | n + 1, x, h => by
    cases x with
    | none => exact ⟨rfl, rfl⟩
    | bool b => exact ⟨rfl, rfl⟩
    | int i =>
      have := isNum_b h
      exact int13 this.1 this.2
    | str z => exact ⟨rfl, rfl⟩
    | tuple xs =>
      rw [isT_tS, List.all_eq_true] at h
      exact all13 fun y hy => isT_13 (h y hy)
    | _ => cases h
theorem tree_repr {x : PyData} (h : isT 12 x = true) (hw : PyData.weight x ≤ 1000000) : oRepr [x] = some (.d (.str (PyData.shown x))) ∧ PyData.strOk (PyData.shown x) = true :=
  oRepr_ok (isT_shp h) (by decide) (by omega) (isT_13 h).1 (isT_13 h).2
/-! the program on trees -/
theorem tc_no {x : PyData} {d : Nat} (hx : Shp d x) (hd : d ≤ 60) (hw : PyData.weight x ≤ 1000000) (h : isT 12 x = false) : g_tree_cells K c [.d x] = some (.error (excD c.BadTree []), [.d x]) := by
  have e := is_tree_ok (K := K) (c := c) (n := 39) (k := 12) (by decide) (by omega) hx (by omega)
  rw [h] at e
  have e : g_is_tree K c 40 [.d x, .d (.int 12)] = some (.ok (.d (.bool false)), [.d x, .d (.int 12)]) := e
  simp [g_tree_cells, bd_tree_cells, runF, runF.lentF, runF.lentL, e]
theorem tc_yes {x : PyData} (hw : PyData.weight x ≤ 1000000) (h : isT 12 x = true) : g_tree_cells K c [.d x] = some (.ok (.d (.tuple (iD (cs 12 x)))), [.d x]) := by
  have e := is_tree_ok (K := K) (c := c) (n := 39) (k := 12) (by decide) (by decide) (isT_shp h) (by omega)
  rw [h] at e
  have e : g_is_tree K c 40 [.d x, .d (.int 12)] = some (.ok (.d (.bool true)), [.d x, .d (.int 12)]) := e
  have e2 := cells_in_ok (K := K) (c := c) (n := 39) (k := 12) (by decide) h (by omega)
  have e2 : g_cells_in K c 40 [.d x] = some (.ok (.d (.list (iD (cs 12 x)))), [.d x]) := e2
  generalize iD (cs 12 x) = R at *
  simp [g_tree_cells, bd_tree_cells, runF, runF.lentF, runF.lentL, e, e2]
theorem to_yes {x : PyData} {tp : Bool} (hw : PyData.weight x ≤ 1000000) (h : isT 12 x = true) : g_tree_of K c [.d (sq tp (cs 12 x))] = some (.ok (.d x), [.d (sq tp (cs 12 x))]) :=
  tree_val (r := []) (cs_run h) (by have := cs_len 12 x; omega) (run_all h) (whole_put x) rfl
theorem to_more {x y : PyData} (hw : PyData.weight x ≤ 1000000) (hw2 : PyData.weight y ≤ 1000000) (h : isT 12 x = true) (h2 : isT 12 y = true) : g_tree_of K c [.d (.list (iD (cs 12 x) ++ iD (cs 12 y)))] = some (.error (excD c.BadFile [("at", .int ((cs 12 x).length : Int))]), [.d (.list (iD (cs 12 x) ++ iD (cs 12 y)))]) := by
  have hr := Run.app (cs_run h) (cs_run h2)
  have l1 := cs_len 12 x
  have l2 := cs_len 12 y
  have he : runW st0 (cs 12 x ++ cs 12 y) 0 = .error (cs 12 x).length := by
    cases e : cs 12 y with
    | nil => exact absurd e (cs_ne 12 h2)
    | cons a l => exact run_more h
  have := tree_exc (K := K) (c := c) (tp := false) hr (by rw [List.length_append]; omega) he
  rw [← iD_app]
  exact this
/-! picking of an own list -/
theorem pick_own {b : Nat} {L : List (Key × OV)} {xs : List PyData} (h0 : xs ≠ []) (h1 : xs.length < 1073741824) (hd : DOk (b + 1) (.dct L)) : ∃ y ∈ xs, ∃ L', g_law_pick K c [.dct L, .lst (xs.map .d)] = some (.ok (.d y), [.dct L', .lst (xs.map .d)]) ∧ DOk b (.dct L') := by
  have hp : 0 < xs.length := List.length_pos_iff.mpr h0
  obtain ⟨f, L', e, h2, h3, h4⟩ := take_L (K := K) (c := c) (m := (xs.length : Int)) (by omega) (by omega) hd
  obtain ⟨j, rfl⟩ := Int.eq_ofNat_of_zero_le h2
  have hj : j < xs.length := by omega
  refine ⟨xs[j], List.getElem_mem hj, L', ?_, h4⟩
  have ea : atI xs (j : Int) = some xs[j] := atI_nat (List.getElem?_eq_getElem hj)
  simp [g_law_pick, bd_law_pick, runF, runF.lentF, runF.lentL, e, ea]
end K17

/-! one turn of the law -/
namespace K17
open PySem PySem.Spec PyProof.Rows L2 LamX PL
variable {K : PySem.W.Frag} {c : Ad}
section
variable {s0 s1' s2 s3 x4 x5 x6 x7 x8 x9 x10 x11 : Option OV} {b : Nat} {L : List (Key × OV)}
theorem bnd_12 : ∀ d : Nat, d ≤ 12 → bnd d ≤ 48000 := by decide +kernel
theorem stepA (hd : DOk (b + 50000) (.dct L)) : ∃ (kd : Int) (t : PyData) (L' : List (Key × OV)), parS [4, 5] (osCons (callF 2 (g_law_take K c) (argsCons (rdV 1) (argsCons (toV (cst (.int 5))) argsNil))) (osCons (callF 2 (g_law_tree K c 40) (argsCons (rdV 1) (argsCons (toV (callF 2 (g_law_pick K c) (argsCons (rdV 1) (argsCons (toV (mkLst false (argsCons (toV (cst (.int 1))) (argsCons (toV (cst (.int 2))) (argsCons (toV (cst (.int 3))) (argsCons (toV (cst (.int 5))) (argsCons (toV (cst (.int 12))) (argsCons (toV (cst (.int 12))) argsNil)))))))) argsNil)))) argsNil))) osNil)) [s0, some (.dct L), s2, s3, x4, x5, x6, x7, x8, x9, x10, x11] = some (.nx, [s0, some (.dct L'), s2, s3, some (.d (.int kd)), some (.d t), x6, x7, x8, x9, x10, x11]) ∧
    isT 12 t = true ∧ PyData.weight t ≤ 48000 ∧ DOk b (.dct L') := by
  obtain ⟨f, L1, e1, f0, f1, h1⟩ := take_L (K := K) (c := c) (b := b + 49999) (m := 5) (by decide) (by decide) hd
  obtain ⟨y, hy, L2, e2, h2⟩ := pick_L (K := K) (c := c) (b := b + 49998) (xs := [.int 1, .int 2, .int 3, .int 5, .int 12, .int 12]) (by simp) (by simp) h1
  obtain ⟨d, rfl, hdd⟩ : ∃ m : Nat, y = .int (m : Int) ∧ m ≤ 12 := by
    simp only [List.mem_cons, List.not_mem_nil, or_false] at hy
    rcases hy with rfl | rfl | rfl | rfl | rfl | rfl
    · exact ⟨1, rfl, by decide⟩
    · exact ⟨2, rfl, by decide⟩
    · exact ⟨3, rfl, by decide⟩
    · exact ⟨5, rfl, by decide⟩
    · exact ⟨12, rfl, by decide⟩
    · exact ⟨12, rfl, by decide⟩
  have hb := bnd_12 d hdd
  obtain ⟨t, L3, e3, t1, t2, h3⟩ := tree_L (K := K) (c := c) (n := 39) (d := d) (b := b) (L := L2) (by omega) (by omega) (h2.mono (by omega))
  have e3 : g_law_tree K c 40 [.dct L2, .d (.int (d : Int))] = some (.ok (.d t), [.dct L3, .d (.int (d : Int))]) := e3
  refine ⟨f, t, L3, ?_, isT_le t1 hdd, by omega, h3⟩
  have hs1 : 6 ≤ sizeLine := by rw [sizeLine_eq]; decide
  simp [e1, e2, e3, hs1, putLs]
theorem wraps : ∀ {n m : Nat} {ds : List PyData} {t : PyData} {x6 : Option OV}, ds.length = n → isT m t = true → ∃ (t' : PyData) (y6 : Option OV), forL (gN 6) (lb_law_1 K c) ds [s0, some (.dct L), s2, s3, x4, some (.d t), x6, x7, x8, x9, x10, x11] = some (.nx, [s0, some (.dct L), s2, s3, x4, some (.d t'), y6, x7, x8, x9, x10, x11]) ∧ isT (m + n) t' = true ∧ PyData.weight t' = PyData.weight t + n
  | 0, m, ds, t, x6, hn, ht => by
    rw [List.length_eq_zero_iff.mp hn]
    exact ⟨t, x6, rfl, ht, rfl⟩
  | n + 1, m, [], t, x6, hn, ht => by simp at hn
  | n + 1, m, d :: ds, t, x6, hn, ht => by
    have hs1 : 1 ≤ sizeLine := by rw [sizeLine_eq]; decide
    have ht2 : isT (m + 1) (.tuple [t]) = true := by rw [isT_tS]; simp [ht]
    obtain ⟨t', y6, e, h1, h2⟩ := wraps (n := n) (m := m + 1) (ds := ds) (t := .tuple [t]) (x6 := some (.d d)) (by simpa using hn) ht2
    refine ⟨t', y6, (forL_step (S1 := [s0, some (.dct L), s2, s3, x4, some (.d t), some (.d d), x7, x8, x9, x10, x11]) (S2 := [s0, some (.dct L), s2, s3, x4, some (.d (.tuple [t])), some (.d d), x7, x8, x9, x10, x11]) (by simp) (by simp [lb_law_1, hs1])).trans e, by rw [show m + (n + 1) = m + 1 + n by omega]; exact h1, ?_⟩
    rw [h2, wt_tup]
    simp only [PyData.weightAll]
    omega
theorem stepB {kd : Int} {t : PyData} (ht : isT 12 t = true) (hw : PyData.weight t ≤ 48000) (hd : DOk (b + 1) (.dct L)) : ∃ (t' : PyData) (L' : List (Key × OV)) (y6 : Option OV), ifS (asB (bin (rdV 4) (toV (cst (.int 0))) oEq)) (forS (rng1 (argsCons (toV (callF 2 (g_law_pick K c) (argsCons (rdV 1) (argsCons (toV (mkLst false (argsCons (toV (cst (.int 11))) (argsCons (toV (cst (.int 12))) (argsCons (toV (cst (.int 13))) argsNil))))) argsNil)))) argsNil)) (gN 6) (lb_law_1 K c)) skipS [s0, some (.dct L), s2, s3, some (.d (.int kd)), some (.d t), x6, x7, x8, x9, x10, x11] = some (.nx, [s0, some (.dct L'), s2, s3, some (.d (.int kd)), some (.d t'), y6, x7, x8, x9, x10, x11]) ∧
    isT 25 t' = true ∧ PyData.weight t' ≤ 48013 ∧ DOk b (.dct L') := by
  by_cases g : kd = 0
  · subst g
    obtain ⟨y, hy, L2, e2, h2⟩ := pick_L (K := K) (c := c) (b := b) (xs := [.int 11, .int 12, .int 13]) (by simp) (by simp) hd
    obtain ⟨d, rfl, hdd⟩ : ∃ m : Nat, y = .int (m : Int) ∧ m ≤ 13 := by
      simp only [List.mem_cons, List.not_mem_nil, or_false] at hy
      rcases hy with rfl | rfl | rfl
      · exact ⟨11, rfl, by decide⟩
      · exact ⟨12, rfl, by decide⟩
      · exact ⟨13, rfl, by decide⟩
    obtain ⟨t', y6, e3, h3, h4⟩ := wraps (K := K) (c := c) (s0 := s0) (s2 := s2) (s3 := s3) (x4 := some (.d (.int 0))) (x7 := x7) (x8 := x8) (x9 := x9) (x10 := x10) (x11 := x11) (L := L2) (n := d) (m := 12) (ds := rngD 0 d) (t := t) (x6 := x6) (by simp [rngD]) ht
    have hs1 : 3 ≤ sizeLine := by rw [sizeLine_eq]; decide
    have hbb : (-4611686018427387904 : Int) ≤ (d : Int) ∧ (d : Int) < 4611686018427387904 := by omega
    exact ⟨t', L2, y6, by simp [e2, hs1, hbb, e3], isT_le h3 (by omega), by omega, h2⟩
  · exact ⟨t, L, x6, by simp [g], isT_le ht (by decide), by omega, hd.mono (by omega)⟩
theorem stepC {kd : Int} {t : PyData} (ht : isT 25 t = true) (hw : PyData.weight t ≤ 48013) (hd : DOk (b + 500) (.dct L)) : ∃ (nr : PyData) (L' : List (Key × OV)), setS 7 (ifE (asB (bin (rdV 4) (toV (cst (.int 1))) oEq)) (callF 2 (g_law_changed K c 40) (argsCons (rdV 1) (argsCons (rdV 5) argsNil))) (rdZ 5)) [s0, some (.dct L), s2, s3, some (.d (.int kd)), some (.d t), x6, x7, x8, x9, x10, x11] = some (.nx, [s0, some (.dct L'), s2, s3, some (.d (.int kd)), some (.d t), x6, some (.d nr), x8, x9, x10, x11]) ∧
    Shp 27 nr ∧ PyData.weight nr ≤ 100000 ∧ DOk b (.dct L') := by
  have hx := isT_shp ht
  by_cases g : kd = 1
  · subst g
    obtain ⟨y, L2, e2, k1, k2, h2⟩ := changed_L (K := K) (c := c) (n := 39) (b := b) (d := 25) (x := t) (L := L) (by decide) hx (by decide) (by omega) (hd.mono (by omega))
    have e2 : g_law_changed K c 40 [.dct L, .d t] = some (.ok (.d y), [.dct L2, .d t]) := e2
    exact ⟨y, L2, by simp [e2], k1, by omega, h2⟩
  · exact ⟨t, L, by simp [g], hx.mono (by decide), by omega, hd.mono (by omega)⟩
def kD (t : PyData) : PyData := .list (iD (cs 12 t))
/-- what the law keeps: cells of trees -/
def Known (m : Nat) (ts : List PyData) : Prop := ts.length ≤ m ∧ ∀ t ∈ ts, isT 12 t = true ∧ PyData.weight t ≤ 100000
def knO (ts : List PyData) : OV := .lst ((ts.map kD).map .d)
theorem seq_ct {S S1 : SS} {f g : SM} (h : f S = some (.ct, S1)) : seqS f g S = some (.ct, S1) := by rw [seqS_S, h]
theorem stepD1 (F : Facts K c) {nr : PyData} (hx : Shp 27 nr) (hw : PyData.weight nr ≤ 100000) (h : isT 12 nr = false) : setS 8 (caughtM K c.LinkError true (callF 1 (g_tree_cells K c) (argsCons (rdV 7) argsNil))) [s0, some (.dct L), s2, s3, x4, x5, x6, some (.d nr), x8, x9, x10, x11] = some (.nx, [s0, some (.dct L), s2, s3, x4, x5, x6, some (.d nr), some (.d (excD c.BadTree [])), x9, x10, x11]) := by
  have e1 := tc_no (K := K) (c := c) hx (by decide) (by omega) h
  have q1 := exm_x (fs := []) F.m3
  simp [e1, q1]
theorem stepD2 (F : Facts K c) {nr : PyData} (hx : Shp 27 nr) (hw : PyData.weight nr ≤ 100000) (h : isT 12 nr = false) : ifS (notT (tstV (toV (callF 2 (g_law_is_tree K c 40) (argsCons (rdV 7) (argsCons (toV (cst (.int 12))) argsNil)))))) (seqS (ifS (notT (tstV (toV (isiY K [c.BadCells, c.BadFile, c.BadTree] (.ref c.BadTree) (rdV 8))))) (retS (cst (.bool false))) skipS) ctS) skipS
    [s0, some (.dct L), s2, s3, x4, x5, x6, some (.d nr), some (.d (excD c.BadTree [])), x9, x10, x11] = some (.ct, [s0, some (.dct L), s2, s3, x4, x5, x6, some (.d nr), some (.d (excD c.BadTree [])), x9, x10, x11]) := by
  have e2 := law_is_tree_ok (K := K) (c := c) (n := 39) (k := 12) (by decide) (by decide) hx (by omega)
  rw [h] at e2
  have e2 : g_law_is_tree K c 40 [.d nr, .d (.int 12)] = some (.ok (.d (.bool false)), [.d nr, .d (.int 12)]) := e2
  have q2 := isY_x (K := K) (c := c) (fs := []) F.k1 (by simp)
  simp [isiY, e2, q2, ctS]
theorem stepE1 {nr : PyData} (hw : PyData.weight nr ≤ 100000) (h : isT 12 nr = true) : setS 8 (caughtM K c.LinkError true (callF 1 (g_tree_cells K c) (argsCons (rdV 7) argsNil))) [s0, some (.dct L), s2, s3, x4, x5, x6, some (.d nr), x8, x9, x10, x11] = some (.nx, [s0, some (.dct L), s2, s3, x4, x5, x6, some (.d nr), some (.d (.tuple (iD (cs 12 nr)))), x9, x10, x11]) := by
  have e1 := tc_yes (K := K) (c := c) (by omega) h
  generalize iD (cs 12 nr) = R at *
  simp [e1]
theorem stepE2 {nr : PyData} (hw : PyData.weight nr ≤ 100000) (h : isT 12 nr = true) : ifS (notT (tstV (toV (callF 2 (g_law_is_tree K c 40) (argsCons (rdV 7) (argsCons (toV (cst (.int 12))) argsNil)))))) (seqS (ifS (notT (tstV (toV (isiY K [c.BadCells, c.BadFile, c.BadTree] (.ref c.BadTree) (rdV 8))))) (retS (cst (.bool false))) skipS) ctS) skipS
    [s0, some (.dct L), s2, s3, x4, x5, x6, some (.d nr), x8, x9, x10, x11] = some (.nx, [s0, some (.dct L), s2, s3, x4, x5, x6, some (.d nr), x8, x9, x10, x11]) := by
  have e2 := law_is_tree_ok (K := K) (c := c) (n := 39) (k := 12) (by decide) (by decide) (isT_shp h) (by omega)
  rw [h] at e2
  have e2 : g_law_is_tree K c 40 [.d nr, .d (.int 12)] = some (.ok (.d (.bool true)), [.d nr, .d (.int 12)]) := e2
  simp [e2]
theorem stepF {nr : PyData} (hw : PyData.weight nr ≤ 100000) (h : isT 12 nr = true) : setS 9 (callF 1 (g_law_tree_cells K c 40) (argsCons (rdV 7) argsNil)) [s0, some (.dct L), s2, s3, x4, x5, x6, some (.d nr), x8, x9, x10, x11] = some (.nx, [s0, some (.dct L), s2, s3, x4, x5, x6, some (.d nr), x8, some (.d (kD nr)), x10, x11]) := by
  have e2 := law_cells_ok (K := K) (c := c) (n := 39) (k := 12) (by decide) h (by omega)
  have e2 : g_law_tree_cells K c 40 [.d nr] = some (.ok (.d (kD nr)), [.d nr]) := e2
  simp [e2]
theorem eqv_tt (xs : List Int) : PyData.eqv (.tuple (iD xs)) (.tuple (iD xs)) = true := (shp_tup (n := 1) (iD_shp 1 xs)).refl
theorem stepG {nr : PyData} (hw : PyData.weight nr ≤ 100000) (h : isT 12 nr = true) : ifS (orT (asB (bin (rdV 8) (toV (callN (argsCons (rdV 9) argsNil) oTuple)) oNe)) (orT (asB (bin (toV (callN (argsCons (toV (callF 1 (g_tree_of K c) (argsCons (rdV 9) argsNil))) argsNil) oRepr)) (toV (callN (argsCons (rdV 7) argsNil) oRepr)) oNe)) (asB (bin (toV (callN (argsCons (toV (callF 1 (g_tree_of K c) (argsCons (toV (callN (argsCons (rdV 9) argsNil) oTuple)) argsNil))) argsNil) oRepr)) (toV (callN (argsCons (rdV 7) argsNil) oRepr)) oNe)))) (retS (cst (.bool false))) skipS
    [s0, some (.dct L), s2, s3, x4, x5, x6, some (.d nr), some (.d (.tuple (iD (cs 12 nr)))), some (.d (kD nr)), x10, x11] = some (.nx, [s0, some (.dct L), s2, s3, x4, x5, x6, some (.d nr), some (.d (.tuple (iD (cs 12 nr)))), some (.d (kD nr)), x10, x11]) := by
  have e1 : g_tree_of K c [.d (.list (iD (cs 12 nr)))] = some (.ok (.d nr), [.d (.list (iD (cs 12 nr)))]) := to_yes (tp := false) (by omega) h
  have e2 : g_tree_of K c [.d (.tuple (iD (cs 12 nr)))] = some (.ok (.d nr), [.d (.tuple (iD (cs 12 nr)))]) := to_yes (tp := true) (by omega) h
  have e3 := shp_tup (n := 1) (iD_shp 1 (cs 12 nr))
  have e4 := oNe_of e3 e3
  rw [e3.refl] at e4
  obtain ⟨e5, e6⟩ := tree_repr h (by omega)
  have e7 := oNe_same e6
  unfold kD
  generalize iD (cs 12 nr) = R at *
  simp [e1, e2, e4, e5, e7]
theorem stepH {nr : PyData} {ts : List PyData} {m : Nat} (hm : m ≤ 1000) (hk : Known m ts) (hw : PyData.weight nr ≤ 100000) (h : isT 12 nr = true) : exprS (mutM 2 (argsCons (toV (rdZ 9)) argsNil) oAppend) [s0, some (.dct L), some (knO ts), s3, x4, x5, x6, x7, x8, some (.d (kD nr)), x10, x11] = some (.nx, [s0, some (.dct L), some (knO (ts ++ [nr])), s3, x4, x5, x6, x7, x8, some (.d (kD nr)), x10, x11]) ∧ Known (m + 1) (ts ++ [nr]) := by
  have hl : ts.length < sizeLine := by have := hk.1; rw [sizeLine_eq]; omega
  have e : items ((ts.map kD).map .d) = some (ts.map kD) := items_map _
  refine ⟨?_, ?_, ?_⟩
  · have e2 : ((ts ++ [nr]).map kD).map OV.d = (ts.map kD ++ [kD nr]).map OV.d := by rw [List.map_append]; rfl
    unfold knO
    rw [e2]
    generalize kD nr = X at *
    simp only [exprS_S, doE_S, mutM_S, List.getElem?_cons_zero, List.getElem?_cons_succ, isL_l, e, bind_S, argsCons_S, toV_S, rdZ_S, lift_S, frD_d, Option.map_some, argsNil_S, ret_S, mutE_S, frs_c, frs_n, oAppend_e, List.length_map, hl, if_true, List.set_cons_zero, List.set_cons_succ, skipS_S]
  · rw [List.length_append, List.length_singleton]; have := hk.1; omega
  · intro t ht
    rcases List.mem_append.mp ht with ht | ht
    · exact hk.2 t ht
    · rw [List.mem_singleton.mp ht]; exact ⟨h, hw⟩
theorem stepI {ts : List PyData} {m : Nat} (hm : m ≤ 1000) (hk : Known m ts) (hne : ts ≠ []) (hd : DOk (b + 1) (.dct L)) : ∃ (ot : PyData) (L' : List (Key × OV)), setS 10 (callF 2 (g_law_pick K c) (argsCons (rdV 1) (argsCons (rdV 2) argsNil))) [s0, some (.dct L), some (knO ts), s3, x4, x5, x6, x7, x8, x9, x10, x11] = some (.nx, [s0, some (.dct L'), some (knO ts), s3, x4, x5, x6, x7, x8, x9, some (.d (kD ot)), x11]) ∧ isT 12 ot = true ∧ PyData.weight ot ≤ 100000 ∧ DOk b (.dct L') := by
  obtain ⟨y, hy, L', e, h2⟩ := pick_own (K := K) (c := c) (b := b) (xs := ts.map kD) (by simpa using hne) (by rw [List.length_map]; have := hk.1; omega) hd
  obtain ⟨ot, hot, rfl⟩ := List.mem_map.mp hy
  refine ⟨ot, L', ?_, (hk.2 ot hot).1, (hk.2 ot hot).2, h2⟩
  unfold knO
  generalize (ts.map kD).map OV.d = X at *
  simp [e]
theorem slL_to {own : Bool} (xs : List PyData) (a : Nat) : oSl own (.list xs) none (some (a : Int)) = some (newL own (xs.take a)) := by
  rw [oSl_l, HT.sIx_nat, HT.sIx_none, List.drop_zero, Nat.sub_zero]
  congr 2
  by_cases h : a ≤ xs.length
  · rw [Nat.min_eq_left h]
  · rw [Nat.min_eq_right (by omega), List.take_of_length_le (Nat.le_refl _), List.take_of_length_le (by omega)]
theorem eqv_ll {xs ys : List Int} (h : PyData.eqv (.list (iD xs)) (.list (iD ys)) = true) : xs = ys := by
  have key : ∀ xs ys : List Int, PyData.eqvAll (iD xs) (iD ys) = true → xs = ys := fun xs => by
    induction xs with
    | nil => intro ys h; cases ys with
      | nil => rfl
      | cons y ys => cases h
    | cons x xs ih =>
      intro ys h
      cases ys with
      | nil => cases h
      | cons y ys =>
        have h : (PyData.eqv (.int x) (.int y) && PyData.eqvAll (iD xs) (iD ys)) = true := h
        rw [Bool.and_eq_true] at h
        have h1 : (x == y) = true := by simpa [PyData.eqv] using h.1
        rw [eq_of_beq h1, ih ys h.2]
  exact key xs ys (by simpa only [PyData.eqv] using h)
theorem stepJ {nr ot : PyData} (h : isT 12 nr = true) (h2 : isT 12 ot = true) : ifS (andT (asB (bin (rdV 10) (rdV 9) oNe)) (asB (bin (rdV 10) (toV (slA false (rdV 9) noPart (part (toV (callN (argsCons (rdV 10) argsNil) oLen))))) oEq))) (retS (cst (.bool false))) skipS [s0, s1', s2, s3, x4, x5, x6, x7, x8, some (.d (kD nr)), some (.d (kD ot)), x11] = some (.nx, [s0, s1', s2, s3, x4, x5, x6, x7, x8, some (.d (kD nr)), some (.d (kD ot)), x11]) := by
  have sh : ∀ xs : List Int, Shp 2 (.list (iD xs)) := fun xs => shp_lst (iD_shp 1 xs)
  have e1 := oNe_of (sh (cs 12 ot)) (sh (cs 12 nr))
  have e2 := slL_to (own := false) (iD (cs 12 nr)) (cs 12 ot).length
  have e3 : (iD (cs 12 nr)).take (cs 12 ot).length = iD ((cs 12 nr).take (cs 12 ot).length) := by unfold iD; rw [List.map_take]
  rw [e3, newL_f] at e2
  have e4 := oEq_of (sh (cs 12 ot)) (sh ((cs 12 nr).take (cs 12 ot).length))
  have e5 := iD_len (cs 12 ot)
  unfold kD
  cases g : PyData.eqv (.list (iD (cs 12 ot))) (.list (iD (cs 12 nr))) with
  | true =>
    rw [g] at e1
    generalize iD (cs 12 nr) = R at *
    generalize iD (cs 12 ot) = R2 at *
    simp [e1]
  | false =>
    rw [g] at e1
    cases g2 : PyData.eqv (.list (iD (cs 12 ot))) (.list (iD ((cs 12 nr).take (cs 12 ot).length))) with
    | true =>
      have := no_begin h h2 (eqv_ll g2)
      rw [this, (sh _).refl] at g
      cases g
    | false =>
      rw [g2] at e4
      generalize iD ((cs 12 nr).take (cs 12 ot).length) = R3 at *
      generalize iD (cs 12 nr) = R at *
      generalize iD (cs 12 ot) = R2 at *
      simp [-oSl_l, e1, e2, e4, e5]
theorem stepK1 (F : Facts K c) {nr ot : PyData} (hw : PyData.weight nr ≤ 100000) (hw2 : PyData.weight ot ≤ 100000) (h : isT 12 nr = true) (h2 : isT 12 ot = true) : setS 11 (caughtM K c.LinkError true (callF 1 (g_tree_of K c) (argsCons (toV (bin (rdV 9) (rdV 10) (oAdd false))) argsNil))) [s0, s1', s2, s3, x4, x5, x6, x7, x8, some (.d (kD nr)), some (.d (kD ot)), x11] = some (.nx, [s0, s1', s2, s3, x4, x5, x6, x7, x8, some (.d (kD nr)), some (.d (kD ot)), some (.d (excD c.BadFile [("at", .int ((cs 12 nr).length : Int))]))]) := by
  have e1 := to_more (K := K) (c := c) (by omega) (by omega) h h2
  have q1 := exm_x (fs := [("at", .int ((cs 12 nr).length : Int))]) F.m2
  have l1 := cs_len 12 nr
  have l2 := cs_len 12 ot
  have e2 : (iD (cs 12 nr)).length + (iD (cs 12 ot)).length ≤ sizeLine := by rw [iD_len, iD_len, sizeLine_eq]; omega
  unfold kD
  generalize ((cs 12 nr).length : Int) = N at *
  generalize iD (cs 12 nr) = R at *
  generalize iD (cs 12 ot) = R2 at *
  simp [e1, e2, q1]
theorem stepK2 (F : Facts K c) {nr ot : PyData} : ifS (orT (notT (tstV (toV (isiY K [c.BadCells, c.BadFile, c.BadTree] (.ref c.BadFile) (rdV 11))))) (asB (bin (toV (attrM [c.BadFile] "at" (rdV 11))) (toV (callN (argsCons (rdV 9) argsNil) oLen)) oNe))) (retS (cst (.bool false))) skipS [s0, s1', s2, s3, x4, x5, x6, x7, x8, some (.d (kD nr)), x10, some (.d (excD c.BadFile [("at", .int ((cs 12 nr).length : Int))]))] = some (.nx, [s0, s1', s2, s3, x4, x5, x6, x7, x8, some (.d (kD nr)), x10, some (.d (excD c.BadFile [("at", .int ((cs 12 nr).length : Int))]))]) := by
  have q2 := isY_x (K := K) (c := c) (fs := [("at", .int ((cs 12 nr).length : Int))]) F.k2 (by simp)
  have q3 := at_x (c := c) ((cs 12 nr).length : Int)
  have e5 := iD_len (cs 12 nr)
  unfold kD
  generalize iD (cs 12 nr) = R at *
  simp [isiY, attrM, q2, q3, e5]
theorem lap_ok (F : Facts K c) {ts : List PyData} {m : Nat} (hm : m ≤ 900) (hk : Known m ts) (hd : DOk (b + 60000) (.dct L)) : ∃ (fl : Fl) (ts' : List PyData) (L' : List (Key × OV)) (y4 y5 y6 y7 y8 y9 y10 y11 : Option OV), (fl = .nx ∨ fl = .ct) ∧
    lb_law_2 K c [s0, some (.dct L), some (knO ts), s3, x4, x5, x6, x7, x8, x9, x10, x11] = some (fl, [s0, some (.dct L'), some (knO ts'), s3, y4, y5, y6, y7, y8, y9, y10, y11]) ∧ Known (m + 1) ts' ∧ DOk b (.dct L') := by
  obtain ⟨kd, t, L1, eA, a1, a2, a3⟩ := stepA (K := K) (c := c) (s0 := s0) (s2 := some (knO ts)) (s3 := s3) (x4 := x4) (x5 := x5) (x6 := x6) (x7 := x7) (x8 := x8) (x9 := x9) (x10 := x10) (x11 := x11) (b := b + 10000) (hd.mono (by omega))
  obtain ⟨t2, L2, y6, eB, b1, b2, b3⟩ := stepB (K := K) (c := c) (s0 := s0) (s2 := some (knO ts)) (s3 := s3) (x6 := x6) (x7 := x7) (x8 := x8) (x9 := x9) (x10 := x10) (x11 := x11) (b := b + 9999) (kd := kd) a1 a2 (a3.mono (by omega))
  obtain ⟨nr, L3, eC, c1, c2, c3⟩ := stepC (K := K) (c := c) (s0 := s0) (s2 := some (knO ts)) (s3 := s3) (x6 := y6) (x7 := x7) (x8 := x8) (x9 := x9) (x10 := x10) (x11 := x11) (b := b + 1) (kd := kd) b1 b2 (b3.mono (by omega))
  cases h : isT 12 nr with
  | false =>
    have eD1 := stepD1 (K := K) (c := c) (s0 := s0) (s2 := some (knO ts)) (s3 := s3) (x4 := some (.d (.int kd))) (x5 := some (.d t2)) (x6 := y6) (x8 := x8) (x9 := x9) (x10 := x10) (x11 := x11) (L := L3) F c1 c2 h
    have eD2 := stepD2 (K := K) (c := c) (s0 := s0) (s2 := some (knO ts)) (s3 := s3) (x4 := some (.d (.int kd))) (x5 := some (.d t2)) (x6 := y6) (x9 := x9) (x10 := x10) (x11 := x11) (L := L3) F c1 c2 h
    exact ⟨.ct, ts, L3, _, _, _, _, _, _, _, _, .inr rfl, (seq_nx eA).trans ((seq_nx eB).trans ((seq_nx eC).trans ((seq_nx eD1).trans (seq_ct eD2)))), ⟨Nat.le_succ_of_le hk.1, hk.2⟩, c3.mono (by omega)⟩
  | true =>
    have eE1 := stepE1 (K := K) (c := c) (s0 := s0) (s2 := some (knO ts)) (s3 := s3) (x4 := some (.d (.int kd))) (x5 := some (.d t2)) (x6 := y6) (x8 := x8) (x9 := x9) (x10 := x10) (x11 := x11) (L := L3) c2 h
    have eE2 := stepE2 (K := K) (c := c) (s0 := s0) (s2 := some (knO ts)) (s3 := s3) (x4 := some (.d (.int kd))) (x5 := some (.d t2)) (x6 := y6) (x8 := some (.d (.tuple (iD (cs 12 nr))))) (x9 := x9) (x10 := x10) (x11 := x11) (L := L3) c2 h
    have eF := stepF (K := K) (c := c) (s0 := s0) (s2 := some (knO ts)) (s3 := s3) (x4 := some (.d (.int kd))) (x5 := some (.d t2)) (x6 := y6) (x8 := some (.d (.tuple (iD (cs 12 nr))))) (x9 := x9) (x10 := x10) (x11 := x11) (L := L3) c2 h
    have eG := stepG (K := K) (c := c) (s0 := s0) (s2 := some (knO ts)) (s3 := s3) (x4 := some (.d (.int kd))) (x5 := some (.d t2)) (x6 := y6) (x10 := x10) (x11 := x11) (L := L3) c2 h
    obtain ⟨eH, hk2⟩ := stepH (s0 := s0) (s3 := s3) (x4 := some (.d (.int kd))) (x5 := some (.d t2)) (x6 := y6) (x7 := some (.d nr)) (x8 := some (.d (.tuple (iD (cs 12 nr))))) (x10 := x10) (x11 := x11) (L := L3) (m := m) (by omega) hk c2 h
    obtain ⟨ot, L4, eI, i1, i2, i3⟩ := stepI (K := K) (c := c) (s0 := s0) (s3 := s3) (x4 := some (.d (.int kd))) (x5 := some (.d t2)) (x6 := y6) (x7 := some (.d nr)) (x8 := some (.d (.tuple (iD (cs 12 nr))))) (x9 := some (.d (kD nr))) (x10 := x10) (x11 := x11) (L := L3) (b := b) (m := m + 1) (by omega) hk2 (by simp) (c3.mono (by omega))
    have eJ := stepJ (s0 := s0) (s1' := some (.dct L4)) (s2 := some (knO (ts ++ [nr]))) (s3 := s3) (x4 := some (.d (.int kd))) (x5 := some (.d t2)) (x6 := y6) (x7 := some (.d nr)) (x8 := some (.d (.tuple (iD (cs 12 nr))))) (x11 := x11) h i1
    have eK1 := stepK1 (K := K) (c := c) (s0 := s0) (s1' := some (.dct L4)) (s2 := some (knO (ts ++ [nr]))) (s3 := s3) (x4 := some (.d (.int kd))) (x5 := some (.d t2)) (x6 := y6) (x7 := some (.d nr)) (x8 := some (.d (.tuple (iD (cs 12 nr))))) (x11 := x11) F c2 i2 h i1
    have eK2 := stepK2 (K := K) (c := c) (s0 := s0) (s1' := some (.dct L4)) (s2 := some (knO (ts ++ [nr]))) (s3 := s3) (x4 := some (.d (.int kd))) (x5 := some (.d t2)) (x6 := y6) (x7 := some (.d nr)) (x8 := some (.d (.tuple (iD (cs 12 nr))))) (x10 := some (.d (kD ot))) F (nr := nr) (ot := ot)
    exact ⟨.nx, ts ++ [nr], L4, _, _, _, _, _, _, _, _, .inl rfl, (seq_nx eA).trans ((seq_nx eB).trans ((seq_nx eC).trans ((seq_nx eE1).trans ((seq_nx eE2).trans ((seq_nx eF).trans ((seq_nx eG).trans ((seq_nx eH).trans ((seq_nx eI).trans ((seq_nx eJ).trans ((seq_nx eK1).trans eK2)))))))))), hk2, i3⟩
end
end K17

/-! the law tells true -/
namespace K17
open PySem PySem.Spec PyProof.Rows L2 LamX PL
variable {K : PySem.W.Frag} {c : Ad}
theorem turns {s0 : Option OV} (F : Facts K c) : ∀ {n m b : Nat} {ds : List PyData} {ts : List PyData} {L : List (Key × OV)} {x3 x4 x5 x6 x7 x8 x9 x10 x11 : Option OV}, ds.length = n → m + n ≤ 900 → Known m ts → DOk (b + 60000 * n) (.dct L) →
    ∃ S', forL (gN 3) (lb_law_2 K c) ds [s0, some (.dct L), some (knO ts), x3, x4, x5, x6, x7, x8, x9, x10, x11] = some (.nx, S')
  | 0, m, b, ds, ts, L, x3, x4, x5, x6, x7, x8, x9, x10, x11, hn, hm, hk, hd => by
    rw [List.length_eq_zero_iff.mp hn]
    exact ⟨_, rfl⟩
  | n + 1, m, b, [], ts, L, x3, x4, x5, x6, x7, x8, x9, x10, x11, hn, hm, hk, hd => by simp at hn
  | n + 1, m, b, d :: ds, ts, L, x3, x4, x5, x6, x7, x8, x9, x10, x11, hn, hm, hk, hd => by
    obtain ⟨fl, ts', L', y4, y5, y6, y7, y8, y9, y10, y11, hfl, e, hk2, hd2⟩ := lap_ok (K := K) (c := c) (s0 := s0) (s3 := some (.d d)) (x4 := x4) (x5 := x5) (x6 := x6) (x7 := x7) (x8 := x8) (x9 := x9) (x10 := x10) (x11 := x11) (b := b + 60000 * n) F (m := m) (ts := ts) (L := L) (by omega) hk (hd.mono (by omega))
    obtain ⟨S', e2⟩ := turns (s0 := s0) F (n := n) (m := m + 1) (b := b) (ds := ds) (ts := ts') (L := L') (x3 := some (.d d)) (x4 := y4) (x5 := y5) (x6 := y6) (x7 := y7) (x8 := y8) (x9 := y9) (x10 := y10) (x11 := y11) (by simpa using hn) (by omega) hk2 hd2
    refine ⟨S', ?_⟩
    rcases hfl with rfl | rfl
    · exact (forL_step (by simp) e).trans e2
    · exact (forL_ct (by simp) e).trans e2
theorem law_true (h1 : PySem.W.exmOne K (.ref c.BadCells) (.ref c.LinkError) = some true) (h2 : PySem.W.exmOne K (.ref c.BadFile) (.ref c.LinkError) = some true) (h3 : PySem.W.exmOne K (.ref c.BadTree) (.ref c.LinkError) = some true)
    (k1 : PySem.W.kitOne K (.ref c.BadTree) (.ref c.BadTree) = some true) (k2 : PySem.W.kitOne K (.ref c.BadFile) (.ref c.BadFile) = some true)
    (ns : List Int) (hl : ns.length ≤ 63) (hb : ∀ z ∈ ns, Builtin.Int.intBits z ≤ 1048576) : ∃ S', bd_law K c (some (.d (scrD ns)) :: List.replicate 11 none) = some (.ret (.d (.bool true)), S') := by
  have F : Facts K c := ⟨h1, h2, h3, k1, k2⟩
  obtain ⟨L0, e0, hd0⟩ := begun_L (K := K) (c := c) hl
  generalize hk : (4 + (if (16 : Int) < (ns.length : Int) then (16 : Int) else (ns.length : Int))) = k
  have hk1 : 0 ≤ k ∧ k ≤ 20 := by
    rw [← hk]
    split <;> omega
  obtain ⟨S', e1⟩ := turns (K := K) (c := c) (s0 := some (.d (scrD ns))) F (n := k.toNat) (m := 0) (b := 0) (ds := rngD 0 k.toNat) (ts := []) (L := L0) (x3 := none) (x4 := none) (x5 := none) (x6 := none) (x7 := none) (x8 := none) (x9 := none) (x10 := none) (x11 := none) (by simp [rngD]) (by omega) ⟨Nat.le_refl _, fun t ht => by cases ht⟩ (hd0.mono (by
    have : k.toNat ≤ 20 := by omega
    have : 60000 * k.toNat ≤ 60000 * 20 := Nat.mul_le_mul_left _ this
    have : (2 : Nat) ^ 38 = 274877906944 := by decide
    omega))
  have hb2 : (-4611686018427387904 : Int) ≤ k ∧ k < 4611686018427387904 := by omega
  have e1 : forL (gN 3) (lb_law_2 K c) (rngD 0 k.toNat) [some (.d (scrD ns)), some (.dct L0), some (.lst []), none, none, none, none, none, none, none, none, none] = some (.nx, S') := e1
  refine ⟨S', ?_⟩
  simp [bd_law, e0, hk, hb2, e1, List.replicate]
end K17

namespace K17
open PySem PySem.Spec PyProof.Rows L2 LamX PL

theorem law_run {P : Program} {w : World} {K : PySem.W.Frag} {mg : Str → Option Value} {base : Heap} {T : List (Addr × Str)} {c : Ad} {H : Hp} {s : Shared} {a : Addr} {ns : List Int} (GG : Gs P w K mg base T c)
    (hS : ∃ S', bd_law K c (some (.d (scrD ns)) :: List.replicate 11 none) = some (.ret (.d (.bool true)), S')) (hT : ∀ p ∈ T, H p.1 = some (.tbl #[])) (sq : SqL K H a (ns.map V.int)) (e0 : Env0 P w K mg base callerA [] s H) :
    codeAny (model P w) callerA (.call (.ref c.f_law) ⟨[.ref a], []⟩) (CR (L2.CX P w) [] P w H s (fun v _ => v = .bl true) fun _ _ _ => False) s := by
  obtain ⟨oc, od, kV, doc, pm, an, ct, osl, e, lk, hcd⟩ := GG.F_law.ex
  obtain ⟨S', hS⟩ := hS
  rw [e] at lk
  have hr : Room 45 callerA := ⟨rfl, by decide, by decide⟩
  refine run_at (us := [.ref a]) (vs := [.ref a]) (ps := ["_law_script"]) (N := ["_law_script", "_law_draw", "_law_known", "_law_turn", "_law_kind", "_law_tree_here", "_law_wrap", "_law_near", "_law_told", "_law_cells", "_law_other", "_law_raised"]) lk hcd sc_law rfl (by decide) rfl e0 (.of_eq rfl) (.cons rfl .nil)
    (sv_law GG (hr.deeper _) rfl) ?_
  exact rsg_start (T := T) (H := H) (N := ["_law_script", "_law_draw", "_law_known", "_law_turn", "_law_kind", "_law_tree_here", "_law_wrap", "_law_near", "_law_told", "_law_cells", "_law_other", "_law_raised"]) (m := 11) hT sq rfl hS
set_option linter.unusedVariables false in
theorem all_mk {l : PySem.W.OpenLaw} {w : World} {K : PySem.W.Frag} {h : Heap} {mg : Str → Option Value} {fa : Addr} (X : K.In h) (G : h.Ns mainGlobals mg) (hfa : mg "law" = some (.ref fa))
    {C_LinkError C_BadCells C_BadFile C_BadTree C_Reading A_PLAIN I_BadFile cda_BadFile cc_BadFile NN_BadFile f_is_number f_are_cells f_is_tree f_cells_in f_tree_cells f_Reading___init__ f_Reading_is_whole f_Reading_takes_digit f_Reading_takes_letter f_Reading_takes f_tree_of f_law_begun f_law_mixed f_law_take f_law_pick f_law_caught f_law_is_number f_law_strange f_law_changed f_law_tree_cells f_law_is_tree f_law_leaf f_law_tree f_law cl_law Pt_law : Addr} {odi_BadFile ani_BadFile cld_BadFile cdd_BadFile dd_BadFile od_is_number an_is_number od_are_cells an_are_cells od_is_tree an_is_tree od_cells_in an_cells_in od_tree_cells an_tree_cells od_Reading___init__ an_Reading___init__ od_Reading_is_whole an_Reading_is_whole od_Reading_takes_digit an_Reading_takes_digit od_Reading_takes_letter an_Reading_takes_letter od_Reading_takes an_Reading_takes od_tree_of an_tree_of od_law_begun an_law_begun od_law_mixed an_law_mixed od_law_take an_law_take od_law_pick an_law_pick od_law_caught an_law_caught od_law_is_number an_law_is_number od_law_strange an_law_strange od_law_changed an_law_changed od_law_tree_cells an_law_tree_cells od_law_is_tree an_law_is_tree od_law_leaf an_law_leaf od_law_tree an_law_tree od_law an_law odc_law : Option Addr} {sli_BadFile csl_BadFile ccs_BadFile sl_is_number sl_are_cells sl_is_tree sl_cells_in sl_tree_cells sl_Reading___init__ sl_Reading_is_whole sl_Reading_takes_digit sl_Reading_takes_letter sl_Reading_takes sl_tree_of sl_law_begun sl_law_mixed sl_law_take sl_law_pick sl_law_caught sl_law_is_number sl_law_strange sl_law_changed sl_law_tree_cells sl_law_is_tree sl_law_leaf sl_law_tree sl_law slc_law : Array (Option Value)} {oci_BadFile kVi_BadFile dci_BadFile pmi_BadFile cti_BadFile cl2_BadFile ccl_BadFile oc_is_number kV_is_number dc_is_number pm_is_number ct_is_number cd_is_number oc_are_cells kV_are_cells dc_are_cells pm_are_cells ct_are_cells cd_are_cells oc_is_tree kV_is_tree dc_is_tree pm_is_tree ct_is_tree cd_is_tree oc_cells_in kV_cells_in dc_cells_in pm_cells_in ct_cells_in cd_cells_in oc_tree_cells kV_tree_cells dc_tree_cells pm_tree_cells ct_tree_cells cd_tree_cells oc_Reading___init__ kV_Reading___init__ dc_Reading___init__ pm_Reading___init__ ct_Reading___init__ cd_Reading___init__ oc_Reading_is_whole kV_Reading_is_whole dc_Reading_is_whole pm_Reading_is_whole ct_Reading_is_whole cd_Reading_is_whole oc_Reading_takes_digit kV_Reading_takes_digit dc_Reading_takes_digit pm_Reading_takes_digit ct_Reading_takes_digit cd_Reading_takes_digit oc_Reading_takes_letter kV_Reading_takes_letter dc_Reading_takes_letter pm_Reading_takes_letter ct_Reading_takes_letter cd_Reading_takes_letter oc_Reading_takes kV_Reading_takes dc_Reading_takes pm_Reading_takes ct_Reading_takes cd_Reading_takes oc_tree_of kV_tree_of dc_tree_of pm_tree_of ct_tree_of cd_tree_of oc_law_begun kV_law_begun dc_law_begun pm_law_begun ct_law_begun cd_law_begun oc_law_mixed kV_law_mixed dc_law_mixed pm_law_mixed ct_law_mixed cd_law_mixed oc_law_take kV_law_take dc_law_take pm_law_take ct_law_take cd_law_take oc_law_pick kV_law_pick dc_law_pick pm_law_pick ct_law_pick cd_law_pick oc_law_caught kV_law_caught dc_law_caught pm_law_caught ct_law_caught cd_law_caught oc_law_is_number kV_law_is_number dc_law_is_number pm_law_is_number ct_law_is_number cd_law_is_number oc_law_strange kV_law_strange dc_law_strange pm_law_strange ct_law_strange cd_law_strange oc_law_changed kV_law_changed dc_law_changed pm_law_changed ct_law_changed cd_law_changed oc_law_tree_cells kV_law_tree_cells dc_law_tree_cells pm_law_tree_cells ct_law_tree_cells cd_law_tree_cells oc_law_is_tree kV_law_is_tree dc_law_is_tree pm_law_is_tree ct_law_is_tree cd_law_is_tree oc_law_leaf kV_law_leaf dc_law_leaf pm_law_leaf ct_law_leaf cd_law_leaf oc_law_tree kV_law_tree dc_law_tree pm_law_tree ct_law_tree cd_law_tree oc_law kV_law dc_law pm_law ct_law occ_law : Value} {vs_law : Array Value} {cvs_BadFile : Array Value} {fi_BadFile nm_BadFile qn_BadFile : Str} {tf_BadFile : Tok} {bs_BadFile bm_BadFile sb_BadFile : List Value} {sn_BadFile : List Str} {ab_BadFile : Bool} {co_BadFile : Option Bool} {k0_BadFile k1_BadFile k2_BadFile k3_BadFile k5_BadFile : Option Value}
    (own : ∀ x ∈ [("law" : Str)], ∀ c P, PySem.W.tabIn K x = some (c, P) → PySem.W.CodeHd h c P ∧ h.get? P = some (PySem.W.tabObj #[]))
    (z_super : PySem.W.nsIn K mainGlobals "super" = some none)
    (f11 : PySem.W.nsIn K cStatics "thirdparty.any" = some none)
    (f9 : (l.prog.main.scope.names.lookup ("super" : Str)).isSome = false)
    (z_len : PySem.W.nsIn K mainGlobals "len" = some none)
    (z_abs : PySem.W.nsIn K mainGlobals "abs" = some none)
    (z_all : PySem.W.nsIn K mainGlobals "all" = some none)
    (z_min : PySem.W.nsIn K mainGlobals "min" = some none)
    (z_int : PySem.W.nsIn K mainGlobals "int" = some none)
    (z_tuple : PySem.W.nsIn K mainGlobals "tuple" = some none)
    (z_list : PySem.W.nsIn K mainGlobals "list" = some none)
    (z_repr : PySem.W.nsIn K mainGlobals "repr" = some none)
    (z_isinstance : PySem.W.nsIn K mainGlobals "isinstance" = some none)
    (z_range : PySem.W.nsIn K mainGlobals "range" = some none)
    (z_str : PySem.W.nsIn K mainGlobals "str" = some none)
    (z_bool : PySem.W.nsIn K mainGlobals "bool" = some none)
    (z_enumerate : PySem.W.nsIn K mainGlobals "enumerate" = some none)
    (a_LinkError : PySem.W.nsIn K mainGlobals "LinkError" = some (some (.ref C_LinkError)))
    (x_LinkError : PySem.W.excIn K C_LinkError [.type "ValueError", .type "Exception", .type "BaseException", .type "object"] "ValueError.__new__" = true)
    (k_LinkError : PySem.W.keepIn K (.ref C_LinkError) = true)
    (s_LinkError : PySem.W.subIn K (.ref C_LinkError) (.type "BaseException") = some true)
    (t_LinkError : PySem.W.typeIn K (.ref C_LinkError) = some (.type "type"))
    (a_BadCells : PySem.W.nsIn K mainGlobals "BadCells" = some (some (.ref C_BadCells)))
    (x_BadCells : PySem.W.excIn K C_BadCells [.type "ValueError", .type "Exception", .type "BaseException", .type "object"] "ValueError.__new__" = true)
    (k_BadCells : PySem.W.keepIn K (.ref C_BadCells) = true)
    (s_BadCells : PySem.W.subIn K (.ref C_BadCells) (.type "BaseException") = some true)
    (t_BadCells : PySem.W.typeIn K (.ref C_BadCells) = some (.type "type"))
    (a_BadFile : PySem.W.nsIn K mainGlobals "BadFile" = some (some (.ref C_BadFile)))
    (k_BadFile : PySem.W.keepIn K (.ref C_BadFile) = true)
    (s_BadFile : PySem.W.subIn K (.ref C_BadFile) (.type "BaseException") = some true)
    (t_BadFile : PySem.W.typeIn K (.ref C_BadFile) = some (.type "type"))
    (a_BadTree : PySem.W.nsIn K mainGlobals "BadTree" = some (some (.ref C_BadTree)))
    (x_BadTree : PySem.W.excIn K C_BadTree [.type "ValueError", .type "Exception", .type "BaseException", .type "object"] "ValueError.__new__" = true)
    (k_BadTree : PySem.W.keepIn K (.ref C_BadTree) = true)
    (s_BadTree : PySem.W.subIn K (.ref C_BadTree) (.type "BaseException") = some true)
    (t_BadTree : PySem.W.typeIn K (.ref C_BadTree) = some (.type "type"))
    (a_Reading : PySem.W.nsIn K mainGlobals "Reading" = some (some (.ref C_Reading)))
    (o1_Reading : PySem.W.plainGet K C_Reading Str.empty = true)
    (o2_Reading : PySem.W.hasDictIn K C_Reading = true)
    (o3_Reading : PySem.W.plainOver K C_Reading = true)
    (o4_Reading : PySem.W.findIn K (.ref C_Reading) "__setattr__" = some (some (.builtin "object.__setattr__")))
    (o5_Reading : PySem.W.makesIn K C_Reading = true)
    (o6_Reading : PySem.W.keepIn K (.ref C_Reading) = true)
    (om_Reading___init__ : PySem.W.findIn K (.ref C_Reading) "__init__" = some (some (.ref f_Reading___init__)))
    (of_Reading___init__ : PySem.W.isFn K (.ref f_Reading___init__) = true)
    (om_Reading_is_whole : PySem.W.findIn K (.ref C_Reading) "is_whole" = some (some (.ref f_Reading_is_whole)))
    (of_Reading_is_whole : PySem.W.isFn K (.ref f_Reading_is_whole) = true)
    (om_Reading_takes_digit : PySem.W.findIn K (.ref C_Reading) "takes_digit" = some (some (.ref f_Reading_takes_digit)))
    (of_Reading_takes_digit : PySem.W.isFn K (.ref f_Reading_takes_digit) = true)
    (om_Reading_takes_letter : PySem.W.findIn K (.ref C_Reading) "takes_letter" = some (some (.ref f_Reading_takes_letter)))
    (of_Reading_takes_letter : PySem.W.isFn K (.ref f_Reading_takes_letter) = true)
    (om_Reading_takes : PySem.W.findIn K (.ref C_Reading) "takes" = some (some (.ref f_Reading_takes)))
    (of_Reading_takes : PySem.W.isFn K (.ref f_Reading_takes) = true)
    (on_Reading_digits : PySem.W.findIn K (.ref C_Reading) "digits" = some none)
    (on_Reading_letters : PySem.W.findIn K (.ref C_Reading) "letters" = some none)
    (on_Reading_stack : PySem.W.findIn K (.ref C_Reading) "stack" = some none)
    (e1_BadCells : PySem.W.findIn K (.ref C_BadCells) "__getattribute__" = some (some (.builtin "BaseException.__getattribute__")))
    (e2_BadCells : PySem.W.findIn K (.ref C_BadCells) "__getattr__" = some none)
    (e3_BadCells : PySem.W.hasDictIn K C_BadCells = true)
    (e4_BadCells : PySem.W.findIn K (.ref C_BadCells) "__class__" = some (some (.builtin "object.__class__")))
    (e5_BadCells : PySem.W.mroIn K C_BadCells (.type "object") = some true)
    (e1_BadFile : PySem.W.findIn K (.ref C_BadFile) "__getattribute__" = some (some (.builtin "BaseException.__getattribute__")))
    (e2_BadFile : PySem.W.findIn K (.ref C_BadFile) "__getattr__" = some none)
    (e3_BadFile : PySem.W.hasDictIn K C_BadFile = true)
    (e4_BadFile : PySem.W.findIn K (.ref C_BadFile) "__class__" = some (some (.builtin "object.__class__")))
    (e5_BadFile : PySem.W.mroIn K C_BadFile (.type "object") = some true)
    (e1_BadTree : PySem.W.findIn K (.ref C_BadTree) "__getattribute__" = some (some (.builtin "BaseException.__getattribute__")))
    (e2_BadTree : PySem.W.findIn K (.ref C_BadTree) "__getattr__" = some none)
    (e3_BadTree : PySem.W.hasDictIn K C_BadTree = true)
    (e4_BadTree : PySem.W.findIn K (.ref C_BadTree) "__class__" = some (some (.builtin "object.__class__")))
    (e5_BadTree : PySem.W.mroIn K C_BadTree (.type "object") = some true)
    (e6 : PySem.W.specialIn K (.builtin "object.__class__") "__get__" = some (some (.builtin "getset_descriptor.__get__")))
    (e7 : PySem.W.takesIn K (.builtin "object.__class__") = some true)
    (i_LinkError : PySem.W.isClsIn K C_LinkError = true)
    (u_BadCells_LinkError : PySem.W.subIn K (.ref C_BadCells) (.ref C_LinkError) = some true)
    (u_BadFile_LinkError : PySem.W.subIn K (.ref C_BadFile) (.ref C_LinkError) = some true)
    (u_BadTree_LinkError : PySem.W.subIn K (.ref C_BadTree) (.ref C_LinkError) = some true)
    (q_LETTERS : cnB K "LETTERS" (.str "abcdefghijklmnopqrstuvwxyz") = true)
    (q_MOST_DEEP : cnB K "MOST_DEEP" (.int 12) = true)
    (q_MOST_LETTERS : cnB K "MOST_LETTERS" (.int 8) = true)
    (q_MOST_DIGITS : cnB K "MOST_DIGITS" (.int 3) = true)
    (q_MOST_NUMBER : cnB K "MOST_NUMBER" (.int 32767) = true)
    (a_PLAIN : PySem.W.nsIn K mainGlobals "PLAIN" = some (some (.ref A_PLAIN)))
    (q_PLAIN : cdI K A_PLAIN tb_PLAIN = true)
    (g8_BadFile : PySem.W.findIn K (.ref C_BadFile) "__init__" = some (some (.ref I_BadFile)))
    (f1_BadFile : K.lookup I_BadFile = some ⟨oci_BadFile, odi_BadFile, .func (PySem.W.ksFn "__init__" "BadFile.__init__" (defArgs si_BadFile) (defBody si_BadFile) (defScope si_BadFile) .none kVi_BadFile dci_BadFile pmi_BadFile ani_BadFile (.ref cda_BadFile) cti_BadFile cc_BadFile), sli_BadFile⟩)
    (f2_BadFile : PySem.W.codeIn K (.ref cda_BadFile) "BadFile.__init__" = true)
    (f3_BadFile : K.lookup cc_BadFile = some ⟨cl2_BadFile, cld_BadFile, .cell (some (.ref C_BadFile)), csl_BadFile⟩)
    (f4_BadFile : PySem.W.isClsIn K C_BadFile = true)
    (f5_BadFile : PySem.W.mroIn K C_BadFile (.ref C_BadFile) = some true)
    (f6_BadFile : K.lookup cda_BadFile = some ⟨ccl_BadFile, cdd_BadFile, .fields cvs_BadFile, ccs_BadFile⟩)
    (f7_BadFile : cvs_BadFile[2]? = some (.str fi_BadFile tf_BadFile))
    (f8_BadFile : ((l.prog.main.file : Str) == fi_BadFile) = true)
    (f10_BadFile : PySem.W.ks_superIn K C_BadFile C_BadFile "__init__" = some (some (.builtin "ValueError.__init__")))
    (f12_BadFile : PySem.W.subIn K (.ref C_BadFile) (.type "ValueError") = some true)
    (g1_BadFile : K.lookup C_BadFile = some (excClassObj nm_BadFile qn_BadFile C_BadFile NN_BadFile bs_BadFile bm_BadFile true sn_BadFile sb_BadFile ab_BadFile co_BadFile dd_BadFile k0_BadFile k1_BadFile k2_BadFile k3_BadFile k5_BadFile "ValueError.__new__"))
    (g2_BadFile : PySem.HandSPX.refsVE bm_BadFile = true)
    (g3_BadFile : PySem.W.findIn K (.ref C_BadFile) "__setattr__" = some (some (.builtin "object.__setattr__")))
    (no_BadFile_at : PySem.W.findIn K (.ref C_BadFile) "at" = some none)
    (g9_BadFile : PySem.W.typeIn K (.ref I_BadFile) = some (.type "function"))
    (a_is_number : PySem.W.nsIn K mainGlobals "is_number" = some (some (.ref f_is_number)))
    (l_is_number : K.lookup f_is_number = some ⟨oc_is_number, od_is_number, .func (PySem.W.fnOf "is_number" "is_number" (defArgs s_is_number) (defBody s_is_number) (defScope s_is_number) .none kV_is_number dc_is_number pm_is_number an_is_number (cd_is_number) ct_is_number), sl_is_number⟩)
    (c_is_number : PySem.W.codeIn K (cd_is_number) "is_number" = true)
    (p_is_number : PySem.W.keepIn K (.ref f_is_number) = true)
    (a_are_cells : PySem.W.nsIn K mainGlobals "are_cells" = some (some (.ref f_are_cells)))
    (l_are_cells : K.lookup f_are_cells = some ⟨oc_are_cells, od_are_cells, .func (PySem.W.fnOf "are_cells" "are_cells" (defArgs s_are_cells) (defBody s_are_cells) (defScope s_are_cells) .none kV_are_cells dc_are_cells pm_are_cells an_are_cells (cd_are_cells) ct_are_cells), sl_are_cells⟩)
    (c_are_cells : PySem.W.codeIn K (cd_are_cells) "are_cells" = true)
    (p_are_cells : PySem.W.keepIn K (.ref f_are_cells) = true)
    (a_is_tree : PySem.W.nsIn K mainGlobals "is_tree" = some (some (.ref f_is_tree)))
    (l_is_tree : K.lookup f_is_tree = some ⟨oc_is_tree, od_is_tree, .func (PySem.W.fnOf "is_tree" "is_tree" (defArgs s_is_tree) (defBody s_is_tree) (defScope s_is_tree) .none kV_is_tree dc_is_tree pm_is_tree an_is_tree (cd_is_tree) ct_is_tree), sl_is_tree⟩)
    (c_is_tree : PySem.W.codeIn K (cd_is_tree) "is_tree" = true)
    (p_is_tree : PySem.W.keepIn K (.ref f_is_tree) = true)
    (a_cells_in : PySem.W.nsIn K mainGlobals "cells_in" = some (some (.ref f_cells_in)))
    (l_cells_in : K.lookup f_cells_in = some ⟨oc_cells_in, od_cells_in, .func (PySem.W.fnOf "cells_in" "cells_in" (defArgs s_cells_in) (defBody s_cells_in) (defScope s_cells_in) .none kV_cells_in dc_cells_in pm_cells_in an_cells_in (cd_cells_in) ct_cells_in), sl_cells_in⟩)
    (c_cells_in : PySem.W.codeIn K (cd_cells_in) "cells_in" = true)
    (p_cells_in : PySem.W.keepIn K (.ref f_cells_in) = true)
    (a_tree_cells : PySem.W.nsIn K mainGlobals "tree_cells" = some (some (.ref f_tree_cells)))
    (l_tree_cells : K.lookup f_tree_cells = some ⟨oc_tree_cells, od_tree_cells, .func (PySem.W.fnOf "tree_cells" "tree_cells" (defArgs s_tree_cells) (defBody s_tree_cells) (defScope s_tree_cells) .none kV_tree_cells dc_tree_cells pm_tree_cells an_tree_cells (cd_tree_cells) ct_tree_cells), sl_tree_cells⟩)
    (c_tree_cells : PySem.W.codeIn K (cd_tree_cells) "tree_cells" = true)
    (p_tree_cells : PySem.W.keepIn K (.ref f_tree_cells) = true)
    (l_Reading___init__ : K.lookup f_Reading___init__ = some ⟨oc_Reading___init__, od_Reading___init__, .func (PySem.W.fnOf "__init__" "Reading.__init__" (defArgs s_Reading___init__) (defBody s_Reading___init__) (defScope s_Reading___init__) .none kV_Reading___init__ dc_Reading___init__ pm_Reading___init__ an_Reading___init__ (cd_Reading___init__) ct_Reading___init__), sl_Reading___init__⟩)
    (c_Reading___init__ : PySem.W.codeIn K (cd_Reading___init__) "Reading.__init__" = true)
    (p_Reading___init__ : PySem.W.keepIn K (.ref f_Reading___init__) = true)
    (l_Reading_is_whole : K.lookup f_Reading_is_whole = some ⟨oc_Reading_is_whole, od_Reading_is_whole, .func (PySem.W.fnOf "is_whole" "Reading.is_whole" (defArgs s_Reading_is_whole) (defBody s_Reading_is_whole) (defScope s_Reading_is_whole) .none kV_Reading_is_whole dc_Reading_is_whole pm_Reading_is_whole an_Reading_is_whole (cd_Reading_is_whole) ct_Reading_is_whole), sl_Reading_is_whole⟩)
    (c_Reading_is_whole : PySem.W.codeIn K (cd_Reading_is_whole) "Reading.is_whole" = true)
    (p_Reading_is_whole : PySem.W.keepIn K (.ref f_Reading_is_whole) = true)
    (l_Reading_takes_digit : K.lookup f_Reading_takes_digit = some ⟨oc_Reading_takes_digit, od_Reading_takes_digit, .func (PySem.W.fnOf "takes_digit" "Reading.takes_digit" (defArgs s_Reading_takes_digit) (defBody s_Reading_takes_digit) (defScope s_Reading_takes_digit) .none kV_Reading_takes_digit dc_Reading_takes_digit pm_Reading_takes_digit an_Reading_takes_digit (cd_Reading_takes_digit) ct_Reading_takes_digit), sl_Reading_takes_digit⟩)
    (c_Reading_takes_digit : PySem.W.codeIn K (cd_Reading_takes_digit) "Reading.takes_digit" = true)
    (p_Reading_takes_digit : PySem.W.keepIn K (.ref f_Reading_takes_digit) = true)
    (l_Reading_takes_letter : K.lookup f_Reading_takes_letter = some ⟨oc_Reading_takes_letter, od_Reading_takes_letter, .func (PySem.W.fnOf "takes_letter" "Reading.takes_letter" (defArgs s_Reading_takes_letter) (defBody s_Reading_takes_letter) (defScope s_Reading_takes_letter) .none kV_Reading_takes_letter dc_Reading_takes_letter pm_Reading_takes_letter an_Reading_takes_letter (cd_Reading_takes_letter) ct_Reading_takes_letter), sl_Reading_takes_letter⟩)
    (c_Reading_takes_letter : PySem.W.codeIn K (cd_Reading_takes_letter) "Reading.takes_letter" = true)
    (p_Reading_takes_letter : PySem.W.keepIn K (.ref f_Reading_takes_letter) = true)
    (l_Reading_takes : K.lookup f_Reading_takes = some ⟨oc_Reading_takes, od_Reading_takes, .func (PySem.W.fnOf "takes" "Reading.takes" (defArgs s_Reading_takes) (defBody s_Reading_takes) (defScope s_Reading_takes) .none kV_Reading_takes dc_Reading_takes pm_Reading_takes an_Reading_takes (cd_Reading_takes) ct_Reading_takes), sl_Reading_takes⟩)
    (c_Reading_takes : PySem.W.codeIn K (cd_Reading_takes) "Reading.takes" = true)
    (p_Reading_takes : PySem.W.keepIn K (.ref f_Reading_takes) = true)
    (a_tree_of : PySem.W.nsIn K mainGlobals "tree_of" = some (some (.ref f_tree_of)))
    (l_tree_of : K.lookup f_tree_of = some ⟨oc_tree_of, od_tree_of, .func (PySem.W.fnOf "tree_of" "tree_of" (defArgs s_tree_of) (defBody s_tree_of) (defScope s_tree_of) .none kV_tree_of dc_tree_of pm_tree_of an_tree_of (cd_tree_of) ct_tree_of), sl_tree_of⟩)
    (c_tree_of : PySem.W.codeIn K (cd_tree_of) "tree_of" = true)
    (p_tree_of : PySem.W.keepIn K (.ref f_tree_of) = true)
    (a_law_begun : PySem.W.nsIn K mainGlobals "_law_begun" = some (some (.ref f_law_begun)))
    (l_law_begun : K.lookup f_law_begun = some ⟨oc_law_begun, od_law_begun, .func (PySem.W.fnOf "_law_begun" "_law_begun" (defArgs s_law_begun) (defBody s_law_begun) (defScope s_law_begun) .none kV_law_begun dc_law_begun pm_law_begun an_law_begun (cd_law_begun) ct_law_begun), sl_law_begun⟩)
    (c_law_begun : PySem.W.codeIn K (cd_law_begun) "_law_begun" = true)
    (p_law_begun : PySem.W.keepIn K (.ref f_law_begun) = true)
    (a_law_mixed : PySem.W.nsIn K mainGlobals "_law_mixed" = some (some (.ref f_law_mixed)))
    (l_law_mixed : K.lookup f_law_mixed = some ⟨oc_law_mixed, od_law_mixed, .func (PySem.W.fnOf "_law_mixed" "_law_mixed" (defArgs s_law_mixed) (defBody s_law_mixed) (defScope s_law_mixed) .none kV_law_mixed dc_law_mixed pm_law_mixed an_law_mixed (cd_law_mixed) ct_law_mixed), sl_law_mixed⟩)
    (c_law_mixed : PySem.W.codeIn K (cd_law_mixed) "_law_mixed" = true)
    (p_law_mixed : PySem.W.keepIn K (.ref f_law_mixed) = true)
    (a_law_take : PySem.W.nsIn K mainGlobals "_law_take" = some (some (.ref f_law_take)))
    (l_law_take : K.lookup f_law_take = some ⟨oc_law_take, od_law_take, .func (PySem.W.fnOf "_law_take" "_law_take" (defArgs s_law_take) (defBody s_law_take) (defScope s_law_take) .none kV_law_take dc_law_take pm_law_take an_law_take (cd_law_take) ct_law_take), sl_law_take⟩)
    (c_law_take : PySem.W.codeIn K (cd_law_take) "_law_take" = true)
    (p_law_take : PySem.W.keepIn K (.ref f_law_take) = true)
    (a_law_pick : PySem.W.nsIn K mainGlobals "_law_pick" = some (some (.ref f_law_pick)))
    (l_law_pick : K.lookup f_law_pick = some ⟨oc_law_pick, od_law_pick, .func (PySem.W.fnOf "_law_pick" "_law_pick" (defArgs s_law_pick) (defBody s_law_pick) (defScope s_law_pick) .none kV_law_pick dc_law_pick pm_law_pick an_law_pick (cd_law_pick) ct_law_pick), sl_law_pick⟩)
    (c_law_pick : PySem.W.codeIn K (cd_law_pick) "_law_pick" = true)
    (p_law_pick : PySem.W.keepIn K (.ref f_law_pick) = true)
    (a_law_caught : PySem.W.nsIn K mainGlobals "_law_caught" = some (some (.ref f_law_caught)))
    (l_law_caught : K.lookup f_law_caught = some ⟨oc_law_caught, od_law_caught, .func (PySem.W.fnOf "_law_caught" "_law_caught" (defArgs s_law_caught) (defBody s_law_caught) (defScope s_law_caught) .none kV_law_caught dc_law_caught pm_law_caught an_law_caught (cd_law_caught) ct_law_caught), sl_law_caught⟩)
    (c_law_caught : PySem.W.codeIn K (cd_law_caught) "_law_caught" = true)
    (p_law_caught : PySem.W.keepIn K (.ref f_law_caught) = true)
    (a_law_is_number : PySem.W.nsIn K mainGlobals "_law_is_number" = some (some (.ref f_law_is_number)))
    (l_law_is_number : K.lookup f_law_is_number = some ⟨oc_law_is_number, od_law_is_number, .func (PySem.W.fnOf "_law_is_number" "_law_is_number" (defArgs s_law_is_number) (defBody s_law_is_number) (defScope s_law_is_number) .none kV_law_is_number dc_law_is_number pm_law_is_number an_law_is_number (cd_law_is_number) ct_law_is_number), sl_law_is_number⟩)
    (c_law_is_number : PySem.W.codeIn K (cd_law_is_number) "_law_is_number" = true)
    (p_law_is_number : PySem.W.keepIn K (.ref f_law_is_number) = true)
    (a_law_strange : PySem.W.nsIn K mainGlobals "_law_strange" = some (some (.ref f_law_strange)))
    (l_law_strange : K.lookup f_law_strange = some ⟨oc_law_strange, od_law_strange, .func (PySem.W.fnOf "_law_strange" "_law_strange" (defArgs s_law_strange) (defBody s_law_strange) (defScope s_law_strange) .none kV_law_strange dc_law_strange pm_law_strange an_law_strange (cd_law_strange) ct_law_strange), sl_law_strange⟩)
    (c_law_strange : PySem.W.codeIn K (cd_law_strange) "_law_strange" = true)
    (p_law_strange : PySem.W.keepIn K (.ref f_law_strange) = true)
    (a_law_changed : PySem.W.nsIn K mainGlobals "_law_changed" = some (some (.ref f_law_changed)))
    (l_law_changed : K.lookup f_law_changed = some ⟨oc_law_changed, od_law_changed, .func (PySem.W.fnOf "_law_changed" "_law_changed" (defArgs s_law_changed) (defBody s_law_changed) (defScope s_law_changed) .none kV_law_changed dc_law_changed pm_law_changed an_law_changed (cd_law_changed) ct_law_changed), sl_law_changed⟩)
    (c_law_changed : PySem.W.codeIn K (cd_law_changed) "_law_changed" = true)
    (p_law_changed : PySem.W.keepIn K (.ref f_law_changed) = true)
    (a_law_tree_cells : PySem.W.nsIn K mainGlobals "_law_tree_cells" = some (some (.ref f_law_tree_cells)))
    (l_law_tree_cells : K.lookup f_law_tree_cells = some ⟨oc_law_tree_cells, od_law_tree_cells, .func (PySem.W.fnOf "_law_tree_cells" "_law_tree_cells" (defArgs s_law_tree_cells) (defBody s_law_tree_cells) (defScope s_law_tree_cells) .none kV_law_tree_cells dc_law_tree_cells pm_law_tree_cells an_law_tree_cells (cd_law_tree_cells) ct_law_tree_cells), sl_law_tree_cells⟩)
    (c_law_tree_cells : PySem.W.codeIn K (cd_law_tree_cells) "_law_tree_cells" = true)
    (p_law_tree_cells : PySem.W.keepIn K (.ref f_law_tree_cells) = true)
    (a_law_is_tree : PySem.W.nsIn K mainGlobals "_law_is_tree" = some (some (.ref f_law_is_tree)))
    (l_law_is_tree : K.lookup f_law_is_tree = some ⟨oc_law_is_tree, od_law_is_tree, .func (PySem.W.fnOf "_law_is_tree" "_law_is_tree" (defArgs s_law_is_tree) (defBody s_law_is_tree) (defScope s_law_is_tree) .none kV_law_is_tree dc_law_is_tree pm_law_is_tree an_law_is_tree (cd_law_is_tree) ct_law_is_tree), sl_law_is_tree⟩)
    (c_law_is_tree : PySem.W.codeIn K (cd_law_is_tree) "_law_is_tree" = true)
    (p_law_is_tree : PySem.W.keepIn K (.ref f_law_is_tree) = true)
    (a_law_leaf : PySem.W.nsIn K mainGlobals "_law_leaf" = some (some (.ref f_law_leaf)))
    (l_law_leaf : K.lookup f_law_leaf = some ⟨oc_law_leaf, od_law_leaf, .func (PySem.W.fnOf "_law_leaf" "_law_leaf" (defArgs s_law_leaf) (defBody s_law_leaf) (defScope s_law_leaf) .none kV_law_leaf dc_law_leaf pm_law_leaf an_law_leaf (cd_law_leaf) ct_law_leaf), sl_law_leaf⟩)
    (c_law_leaf : PySem.W.codeIn K (cd_law_leaf) "_law_leaf" = true)
    (p_law_leaf : PySem.W.keepIn K (.ref f_law_leaf) = true)
    (a_law_tree : PySem.W.nsIn K mainGlobals "_law_tree" = some (some (.ref f_law_tree)))
    (l_law_tree : K.lookup f_law_tree = some ⟨oc_law_tree, od_law_tree, .func (PySem.W.fnOf "_law_tree" "_law_tree" (defArgs s_law_tree) (defBody s_law_tree) (defScope s_law_tree) .none kV_law_tree dc_law_tree pm_law_tree an_law_tree (cd_law_tree) ct_law_tree), sl_law_tree⟩)
    (c_law_tree : PySem.W.codeIn K (cd_law_tree) "_law_tree" = true)
    (p_law_tree : PySem.W.keepIn K (.ref f_law_tree) = true)
    (a_law : PySem.W.nsIn K mainGlobals "law" = some (some (.ref f_law)))
    (l_law : K.lookup f_law = some ⟨oc_law, od_law, .func (PySem.W.fnOf "law" "law" (defArgs s_law) (defBody s_law) (defScope s_law) .none kV_law dc_law pm_law an_law (.ref cl_law) ct_law), sl_law⟩)
    (c_law : PySem.W.codeIn K (.ref cl_law) "law" = true)
    (p_law : PySem.W.keepIn K (.ref f_law) = true)
    (lc_law : K.lookup cl_law = some ⟨occ_law, odc_law, .fields vs_law, slc_law⟩)
    (h11_law : vs_law[11]? = some (.ref Pt_law))
    (np_law : List.lookup Pt_law K = none)
    : LawG l w K 63 mg fa h := by
  have e := hfa.symm.trans (PySem.W.mg_of X G a_law)
  cases e
  have o_law := own "law" (by simp) cl_law Pt_law (tab_is a_law l_law rfl lc_law h11_law)
  refine ⟨[(cl_law, Pt_law)], fun p hp => ?_, fun p hp => ?_, fun p hp => ?_, fun base H s a ns hl hb TB e0 hH sq => ?_⟩
  · simp only [List.mem_cons, List.not_mem_nil, or_false] at hp
    rcases hp with rfl
    · exact o_law.2
  · simp only [List.mem_cons, List.not_mem_nil, or_false] at hp
    rcases hp with rfl
    · exact np_law
  · simp only [List.mem_cons, List.not_mem_nil, or_false] at hp
    rcases hp with rfl
    · exact o_law.1
  · have GG : Gs l.prog w K mg base (([((cl_law, Pt_law), q_law)] : List ((Addr × Addr) × Str)).map fun p => (p.1.2, p.2)) ⟨C_LinkError, C_BadCells, C_BadFile, C_BadTree, C_Reading, f_is_number, PySem.W.fnOf "is_number" "is_number" (defArgs s_is_number) (defBody s_is_number) (defScope s_is_number) .none kV_is_number dc_is_number pm_is_number an_is_number (cd_is_number) ct_is_number, f_are_cells, PySem.W.fnOf "are_cells" "are_cells" (defArgs s_are_cells) (defBody s_are_cells) (defScope s_are_cells) .none kV_are_cells dc_are_cells pm_are_cells an_are_cells (cd_are_cells) ct_are_cells, f_is_tree, PySem.W.fnOf "is_tree" "is_tree" (defArgs s_is_tree) (defBody s_is_tree) (defScope s_is_tree) .none kV_is_tree dc_is_tree pm_is_tree an_is_tree (cd_is_tree) ct_is_tree, f_cells_in, PySem.W.fnOf "cells_in" "cells_in" (defArgs s_cells_in) (defBody s_cells_in) (defScope s_cells_in) .none kV_cells_in dc_cells_in pm_cells_in an_cells_in (cd_cells_in) ct_cells_in, f_tree_cells, PySem.W.fnOf "tree_cells" "tree_cells" (defArgs s_tree_cells) (defBody s_tree_cells) (defScope s_tree_cells) .none kV_tree_cells dc_tree_cells pm_tree_cells an_tree_cells (cd_tree_cells) ct_tree_cells, f_Reading___init__, PySem.W.fnOf "__init__" "Reading.__init__" (defArgs s_Reading___init__) (defBody s_Reading___init__) (defScope s_Reading___init__) .none kV_Reading___init__ dc_Reading___init__ pm_Reading___init__ an_Reading___init__ (cd_Reading___init__) ct_Reading___init__, f_Reading_is_whole, PySem.W.fnOf "is_whole" "Reading.is_whole" (defArgs s_Reading_is_whole) (defBody s_Reading_is_whole) (defScope s_Reading_is_whole) .none kV_Reading_is_whole dc_Reading_is_whole pm_Reading_is_whole an_Reading_is_whole (cd_Reading_is_whole) ct_Reading_is_whole, f_Reading_takes_digit, PySem.W.fnOf "takes_digit" "Reading.takes_digit" (defArgs s_Reading_takes_digit) (defBody s_Reading_takes_digit) (defScope s_Reading_takes_digit) .none kV_Reading_takes_digit dc_Reading_takes_digit pm_Reading_takes_digit an_Reading_takes_digit (cd_Reading_takes_digit) ct_Reading_takes_digit, f_Reading_takes_letter, PySem.W.fnOf "takes_letter" "Reading.takes_letter" (defArgs s_Reading_takes_letter) (defBody s_Reading_takes_letter) (defScope s_Reading_takes_letter) .none kV_Reading_takes_letter dc_Reading_takes_letter pm_Reading_takes_letter an_Reading_takes_letter (cd_Reading_takes_letter) ct_Reading_takes_letter, f_Reading_takes, PySem.W.fnOf "takes" "Reading.takes" (defArgs s_Reading_takes) (defBody s_Reading_takes) (defScope s_Reading_takes) .none kV_Reading_takes dc_Reading_takes pm_Reading_takes an_Reading_takes (cd_Reading_takes) ct_Reading_takes, f_tree_of, PySem.W.fnOf "tree_of" "tree_of" (defArgs s_tree_of) (defBody s_tree_of) (defScope s_tree_of) .none kV_tree_of dc_tree_of pm_tree_of an_tree_of (cd_tree_of) ct_tree_of, f_law_begun, PySem.W.fnOf "_law_begun" "_law_begun" (defArgs s_law_begun) (defBody s_law_begun) (defScope s_law_begun) .none kV_law_begun dc_law_begun pm_law_begun an_law_begun (cd_law_begun) ct_law_begun, f_law_mixed, PySem.W.fnOf "_law_mixed" "_law_mixed" (defArgs s_law_mixed) (defBody s_law_mixed) (defScope s_law_mixed) .none kV_law_mixed dc_law_mixed pm_law_mixed an_law_mixed (cd_law_mixed) ct_law_mixed, f_law_take, PySem.W.fnOf "_law_take" "_law_take" (defArgs s_law_take) (defBody s_law_take) (defScope s_law_take) .none kV_law_take dc_law_take pm_law_take an_law_take (cd_law_take) ct_law_take, f_law_pick, PySem.W.fnOf "_law_pick" "_law_pick" (defArgs s_law_pick) (defBody s_law_pick) (defScope s_law_pick) .none kV_law_pick dc_law_pick pm_law_pick an_law_pick (cd_law_pick) ct_law_pick, f_law_caught, PySem.W.fnOf "_law_caught" "_law_caught" (defArgs s_law_caught) (defBody s_law_caught) (defScope s_law_caught) .none kV_law_caught dc_law_caught pm_law_caught an_law_caught (cd_law_caught) ct_law_caught, f_law_is_number, PySem.W.fnOf "_law_is_number" "_law_is_number" (defArgs s_law_is_number) (defBody s_law_is_number) (defScope s_law_is_number) .none kV_law_is_number dc_law_is_number pm_law_is_number an_law_is_number (cd_law_is_number) ct_law_is_number, f_law_strange, PySem.W.fnOf "_law_strange" "_law_strange" (defArgs s_law_strange) (defBody s_law_strange) (defScope s_law_strange) .none kV_law_strange dc_law_strange pm_law_strange an_law_strange (cd_law_strange) ct_law_strange, f_law_changed, PySem.W.fnOf "_law_changed" "_law_changed" (defArgs s_law_changed) (defBody s_law_changed) (defScope s_law_changed) .none kV_law_changed dc_law_changed pm_law_changed an_law_changed (cd_law_changed) ct_law_changed, f_law_tree_cells, PySem.W.fnOf "_law_tree_cells" "_law_tree_cells" (defArgs s_law_tree_cells) (defBody s_law_tree_cells) (defScope s_law_tree_cells) .none kV_law_tree_cells dc_law_tree_cells pm_law_tree_cells an_law_tree_cells (cd_law_tree_cells) ct_law_tree_cells, f_law_is_tree, PySem.W.fnOf "_law_is_tree" "_law_is_tree" (defArgs s_law_is_tree) (defBody s_law_is_tree) (defScope s_law_is_tree) .none kV_law_is_tree dc_law_is_tree pm_law_is_tree an_law_is_tree (cd_law_is_tree) ct_law_is_tree, f_law_leaf, PySem.W.fnOf "_law_leaf" "_law_leaf" (defArgs s_law_leaf) (defBody s_law_leaf) (defScope s_law_leaf) .none kV_law_leaf dc_law_leaf pm_law_leaf an_law_leaf (cd_law_leaf) ct_law_leaf, f_law_tree, PySem.W.fnOf "_law_tree" "_law_tree" (defArgs s_law_tree) (defBody s_law_tree) (defScope s_law_tree) .none kV_law_tree dc_law_tree pm_law_tree an_law_tree (cd_law_tree) ct_law_tree, fa, PySem.W.fnOf "law" "law" (defArgs s_law) (defBody s_law) (defScope s_law) .none kV_law dc_law pm_law an_law (.ref cl_law) ct_law, I_BadFile, PySem.W.ksFn "__init__" "BadFile.__init__" (defArgs si_BadFile) (defBody si_BadFile) (defScope si_BadFile) .none kVi_BadFile dci_BadFile pmi_BadFile ani_BadFile (.ref cda_BadFile) cti_BadFile cc_BadFile, A_PLAIN, cl_law, Pt_law⟩ := by
      refine ⟨?_, ?_, ?_, ?_, ?_, ?_, ?_, ?_, ?_, ?_, ?_, ?_, ?_, ?_, ?_, ?_, ?_, ?_, ?_, ?_, ?_, ?_, ?_, ?_, ?_, ?_, ?_, ?_, ?_, ?_, ?_, ?_, ?_, ?_, ?_, ?_, ?_, ?_, ?_, ?_, ?_, ?_, ?_, ?_, ?_, ?_, ?_, ?_, ?_, ?_, ?_, ?_, ?_, ?_, ?_, ?_, ?_, ?_, ?_, ?_, ?_, ?_, ?_, ?_, ?_, ?_, ?_, ?_, ?_, ?_, ?_, ?_, ?_, ?_, ?_, ?_, ?_, ?_, ?_, ?_, ?_, ?_, ?_, ?_, ?_, ?_, ?_, ?_, ?_, ?_, ?_, ?_, ?_, ?_, ?_, ?_, ?_, ?_⟩
      · exact PySem.W.mg_none_of X G z_len
      · exact PySem.W.mg_none_of X G z_abs
      · exact PySem.W.mg_none_of X G z_all
      · exact PySem.W.mg_none_of X G z_min
      · exact PySem.W.mg_none_of X G z_int
      · exact PySem.W.mg_none_of X G z_tuple
      · exact PySem.W.mg_none_of X G z_list
      · exact PySem.W.mg_none_of X G z_repr
      · exact PySem.W.mg_none_of X G z_isinstance
      · exact PySem.W.mg_none_of X G z_range
      · exact PySem.W.mg_none_of X G z_str
      · exact PySem.W.mg_none_of X G z_bool
      · exact PySem.W.mg_none_of X G z_enumerate
      · exact PySem.W.mg_of X G a_LinkError
      · exact x_LinkError
      · exact k_LinkError
      · exact s_LinkError
      · exact t_LinkError
      · exact PySem.W.mg_of X G a_BadCells
      · exact x_BadCells
      · exact k_BadCells
      · exact s_BadCells
      · exact t_BadCells
      · exact PySem.W.mg_of X G a_BadFile
      · exact k_BadFile
      · exact s_BadFile
      · exact t_BadFile
      · exact PySem.W.mg_of X G a_BadTree
      · exact x_BadTree
      · exact k_BadTree
      · exact s_BadTree
      · exact t_BadTree
      · intro D hD
        simp only [List.mem_cons, List.not_mem_nil, or_false] at hD
        rcases hD with rfl | rfl | rfl
        · exact ⟨e1_BadCells, e2_BadCells, s_BadCells, e3_BadCells, e4_BadCells, e6, e7, e5_BadCells⟩
        · exact ⟨e1_BadFile, e2_BadFile, s_BadFile, e3_BadFile, e4_BadFile, e6, e7, e5_BadFile⟩
        · exact ⟨e1_BadTree, e2_BadTree, s_BadTree, e3_BadTree, e4_BadTree, e6, e7, e5_BadTree⟩
      · exact xi_mk (st := si_BadFile) ss_BadFile (PySem.W.mg_none_of X G z_super) rfl rfl rfl rfl (by simp) (by simp) (by simp) rfl (.cons rfl rfl rfl (fun _ => rfl) .nil) (fun _ => ⟨_, rfl⟩) (fun _ => rfl) (fun us hl => match us, hl with | [_, _], _ => rfl) f1_BadFile f2_BadFile f3_BadFile f4_BadFile f5_BadFile f6_BadFile f7_BadFile f8_BadFile f9 f10_BadFile f11 f12_BadFile g1_BadFile g2_BadFile g3_BadFile s_BadFile t_BadFile k_BadFile (by simp [no_BadFile_at]) g8_BadFile g9_BadFile
      · exact PySem.W.mg_of X G a_Reading
      · exact ⟨o1_Reading, o2_Reading, o3_Reading, o4_Reading⟩
      · exact ⟨o5_Reading, om_Reading___init__, of_Reading___init__, o6_Reading⟩
      · exact on_Reading_digits
      · exact on_Reading_letters
      · exact on_Reading_stack
      · exact cng_of X G q_LETTERS
      · exact cng_of X G q_MOST_DEEP
      · exact cng_of X G q_MOST_LETTERS
      · exact cng_of X G q_MOST_DIGITS
      · exact cng_of X G q_MOST_NUMBER
      · exact PySem.W.mg_of X G a_PLAIN
      · exact cdI_ok q_PLAIN
      · exact fun_mk (st := s_is_number) l_is_number c_is_number p_is_number
      · exact PySem.W.mg_of X G a_is_number
      · exact fun_mk (st := s_are_cells) l_are_cells c_are_cells p_are_cells
      · exact PySem.W.mg_of X G a_are_cells
      · exact fun_mk (st := s_is_tree) l_is_tree c_is_tree p_is_tree
      · exact PySem.W.mg_of X G a_is_tree
      · exact fun_mk (st := s_cells_in) l_cells_in c_cells_in p_cells_in
      · exact PySem.W.mg_of X G a_cells_in
      · exact fun_mk (st := s_tree_cells) l_tree_cells c_tree_cells p_tree_cells
      · exact PySem.W.mg_of X G a_tree_cells
      · exact fun_mk (st := s_Reading___init__) l_Reading___init__ c_Reading___init__ p_Reading___init__
      · exact ⟨om_Reading___init__, of_Reading___init__, p_Reading___init__⟩
      · exact fun_mk (st := s_Reading_is_whole) l_Reading_is_whole c_Reading_is_whole p_Reading_is_whole
      · exact ⟨om_Reading_is_whole, of_Reading_is_whole, p_Reading_is_whole⟩
      · exact fun_mk (st := s_Reading_takes_digit) l_Reading_takes_digit c_Reading_takes_digit p_Reading_takes_digit
      · exact ⟨om_Reading_takes_digit, of_Reading_takes_digit, p_Reading_takes_digit⟩
      · exact fun_mk (st := s_Reading_takes_letter) l_Reading_takes_letter c_Reading_takes_letter p_Reading_takes_letter
      · exact ⟨om_Reading_takes_letter, of_Reading_takes_letter, p_Reading_takes_letter⟩
      · exact fun_mk (st := s_Reading_takes) l_Reading_takes c_Reading_takes p_Reading_takes
      · exact ⟨om_Reading_takes, of_Reading_takes, p_Reading_takes⟩
      · exact fun_mk (st := s_tree_of) l_tree_of c_tree_of p_tree_of
      · exact PySem.W.mg_of X G a_tree_of
      · exact fun_mk (st := s_law_begun) l_law_begun c_law_begun p_law_begun
      · exact PySem.W.mg_of X G a_law_begun
      · exact fun_mk (st := s_law_mixed) l_law_mixed c_law_mixed p_law_mixed
      · exact PySem.W.mg_of X G a_law_mixed
      · exact fun_mk (st := s_law_take) l_law_take c_law_take p_law_take
      · exact PySem.W.mg_of X G a_law_take
      · exact fun_mk (st := s_law_pick) l_law_pick c_law_pick p_law_pick
      · exact PySem.W.mg_of X G a_law_pick
      · exact fun_mk (st := s_law_caught) l_law_caught c_law_caught p_law_caught
      · exact PySem.W.mg_of X G a_law_caught
      · exact fun_mk (st := s_law_is_number) l_law_is_number c_law_is_number p_law_is_number
      · exact PySem.W.mg_of X G a_law_is_number
      · exact fun_mk (st := s_law_strange) l_law_strange c_law_strange p_law_strange
      · exact PySem.W.mg_of X G a_law_strange
      · exact fun_mk (st := s_law_changed) l_law_changed c_law_changed p_law_changed
      · exact PySem.W.mg_of X G a_law_changed
      · exact fun_mk (st := s_law_tree_cells) l_law_tree_cells c_law_tree_cells p_law_tree_cells
      · exact PySem.W.mg_of X G a_law_tree_cells
      · exact fun_mk (st := s_law_is_tree) l_law_is_tree c_law_is_tree p_law_is_tree
      · exact PySem.W.mg_of X G a_law_is_tree
      · exact fun_mk (st := s_law_leaf) l_law_leaf c_law_leaf p_law_leaf
      · exact PySem.W.mg_of X G a_law_leaf
      · exact fun_mk (st := s_law_tree) l_law_tree c_law_tree p_law_tree
      · exact PySem.W.mg_of X G a_law_tree
      · exact funC_mk (st := s_law) l_law c_law p_law
      · exact PySem.W.mg_of X G a_law
      · exact TB (cl_law, Pt_law) (by simp)
      · exact List.mem_map_of_mem (f := fun p : (Addr × Addr) × Str => (p.1.2, p.2)) (a := ((cl_law, Pt_law), q_law)) (by simp)
      · intro p hp e
        simp only [List.map_cons, List.map_nil, List.mem_cons, List.not_mem_nil, or_false] at hp
        rcases hp with rfl
        · rfl
    have hT : ∀ p ∈ (([((cl_law, Pt_law), q_law)] : List ((Addr × Addr) × Str)).map fun p => (p.1.2, p.2)), H p.1 = some (.tbl #[]) := by
      intro p hp
      simp only [List.map_cons, List.map_nil, List.mem_cons, List.not_mem_nil, or_false] at hp
      rcases hp with rfl
      · exact hH (cl_law, Pt_law) (by simp)
    exact law_run GG (law_true (K := K) (c := ⟨C_LinkError, C_BadCells, C_BadFile, C_BadTree, C_Reading, f_is_number, PySem.W.fnOf "is_number" "is_number" (defArgs s_is_number) (defBody s_is_number) (defScope s_is_number) .none kV_is_number dc_is_number pm_is_number an_is_number (cd_is_number) ct_is_number, f_are_cells, PySem.W.fnOf "are_cells" "are_cells" (defArgs s_are_cells) (defBody s_are_cells) (defScope s_are_cells) .none kV_are_cells dc_are_cells pm_are_cells an_are_cells (cd_are_cells) ct_are_cells, f_is_tree, PySem.W.fnOf "is_tree" "is_tree" (defArgs s_is_tree) (defBody s_is_tree) (defScope s_is_tree) .none kV_is_tree dc_is_tree pm_is_tree an_is_tree (cd_is_tree) ct_is_tree, f_cells_in, PySem.W.fnOf "cells_in" "cells_in" (defArgs s_cells_in) (defBody s_cells_in) (defScope s_cells_in) .none kV_cells_in dc_cells_in pm_cells_in an_cells_in (cd_cells_in) ct_cells_in, f_tree_cells, PySem.W.fnOf "tree_cells" "tree_cells" (defArgs s_tree_cells) (defBody s_tree_cells) (defScope s_tree_cells) .none kV_tree_cells dc_tree_cells pm_tree_cells an_tree_cells (cd_tree_cells) ct_tree_cells, f_Reading___init__, PySem.W.fnOf "__init__" "Reading.__init__" (defArgs s_Reading___init__) (defBody s_Reading___init__) (defScope s_Reading___init__) .none kV_Reading___init__ dc_Reading___init__ pm_Reading___init__ an_Reading___init__ (cd_Reading___init__) ct_Reading___init__, f_Reading_is_whole, PySem.W.fnOf "is_whole" "Reading.is_whole" (defArgs s_Reading_is_whole) (defBody s_Reading_is_whole) (defScope s_Reading_is_whole) .none kV_Reading_is_whole dc_Reading_is_whole pm_Reading_is_whole an_Reading_is_whole (cd_Reading_is_whole) ct_Reading_is_whole, f_Reading_takes_digit, PySem.W.fnOf "takes_digit" "Reading.takes_digit" (defArgs s_Reading_takes_digit) (defBody s_Reading_takes_digit) (defScope s_Reading_takes_digit) .none kV_Reading_takes_digit dc_Reading_takes_digit pm_Reading_takes_digit an_Reading_takes_digit (cd_Reading_takes_digit) ct_Reading_takes_digit, f_Reading_takes_letter, PySem.W.fnOf "takes_letter" "Reading.takes_letter" (defArgs s_Reading_takes_letter) (defBody s_Reading_takes_letter) (defScope s_Reading_takes_letter) .none kV_Reading_takes_letter dc_Reading_takes_letter pm_Reading_takes_letter an_Reading_takes_letter (cd_Reading_takes_letter) ct_Reading_takes_letter, f_Reading_takes, PySem.W.fnOf "takes" "Reading.takes" (defArgs s_Reading_takes) (defBody s_Reading_takes) (defScope s_Reading_takes) .none kV_Reading_takes dc_Reading_takes pm_Reading_takes an_Reading_takes (cd_Reading_takes) ct_Reading_takes, f_tree_of, PySem.W.fnOf "tree_of" "tree_of" (defArgs s_tree_of) (defBody s_tree_of) (defScope s_tree_of) .none kV_tree_of dc_tree_of pm_tree_of an_tree_of (cd_tree_of) ct_tree_of, f_law_begun, PySem.W.fnOf "_law_begun" "_law_begun" (defArgs s_law_begun) (defBody s_law_begun) (defScope s_law_begun) .none kV_law_begun dc_law_begun pm_law_begun an_law_begun (cd_law_begun) ct_law_begun, f_law_mixed, PySem.W.fnOf "_law_mixed" "_law_mixed" (defArgs s_law_mixed) (defBody s_law_mixed) (defScope s_law_mixed) .none kV_law_mixed dc_law_mixed pm_law_mixed an_law_mixed (cd_law_mixed) ct_law_mixed, f_law_take, PySem.W.fnOf "_law_take" "_law_take" (defArgs s_law_take) (defBody s_law_take) (defScope s_law_take) .none kV_law_take dc_law_take pm_law_take an_law_take (cd_law_take) ct_law_take, f_law_pick, PySem.W.fnOf "_law_pick" "_law_pick" (defArgs s_law_pick) (defBody s_law_pick) (defScope s_law_pick) .none kV_law_pick dc_law_pick pm_law_pick an_law_pick (cd_law_pick) ct_law_pick, f_law_caught, PySem.W.fnOf "_law_caught" "_law_caught" (defArgs s_law_caught) (defBody s_law_caught) (defScope s_law_caught) .none kV_law_caught dc_law_caught pm_law_caught an_law_caught (cd_law_caught) ct_law_caught, f_law_is_number, PySem.W.fnOf "_law_is_number" "_law_is_number" (defArgs s_law_is_number) (defBody s_law_is_number) (defScope s_law_is_number) .none kV_law_is_number dc_law_is_number pm_law_is_number an_law_is_number (cd_law_is_number) ct_law_is_number, f_law_strange, PySem.W.fnOf "_law_strange" "_law_strange" (defArgs s_law_strange) (defBody s_law_strange) (defScope s_law_strange) .none kV_law_strange dc_law_strange pm_law_strange an_law_strange (cd_law_strange) ct_law_strange, f_law_changed, PySem.W.fnOf "_law_changed" "_law_changed" (defArgs s_law_changed) (defBody s_law_changed) (defScope s_law_changed) .none kV_law_changed dc_law_changed pm_law_changed an_law_changed (cd_law_changed) ct_law_changed, f_law_tree_cells, PySem.W.fnOf "_law_tree_cells" "_law_tree_cells" (defArgs s_law_tree_cells) (defBody s_law_tree_cells) (defScope s_law_tree_cells) .none kV_law_tree_cells dc_law_tree_cells pm_law_tree_cells an_law_tree_cells (cd_law_tree_cells) ct_law_tree_cells, f_law_is_tree, PySem.W.fnOf "_law_is_tree" "_law_is_tree" (defArgs s_law_is_tree) (defBody s_law_is_tree) (defScope s_law_is_tree) .none kV_law_is_tree dc_law_is_tree pm_law_is_tree an_law_is_tree (cd_law_is_tree) ct_law_is_tree, f_law_leaf, PySem.W.fnOf "_law_leaf" "_law_leaf" (defArgs s_law_leaf) (defBody s_law_leaf) (defScope s_law_leaf) .none kV_law_leaf dc_law_leaf pm_law_leaf an_law_leaf (cd_law_leaf) ct_law_leaf, f_law_tree, PySem.W.fnOf "_law_tree" "_law_tree" (defArgs s_law_tree) (defBody s_law_tree) (defScope s_law_tree) .none kV_law_tree dc_law_tree pm_law_tree an_law_tree (cd_law_tree) ct_law_tree, fa, PySem.W.fnOf "law" "law" (defArgs s_law) (defBody s_law) (defScope s_law) .none kV_law dc_law pm_law an_law (.ref cl_law) ct_law, I_BadFile, PySem.W.ksFn "__init__" "BadFile.__init__" (defArgs si_BadFile) (defBody si_BadFile) (defScope si_BadFile) .none kVi_BadFile dci_BadFile pmi_BadFile ani_BadFile (.ref cda_BadFile) cti_BadFile cc_BadFile, A_PLAIN, cl_law, Pt_law⟩) (exm_of s_LinkError i_LinkError t_LinkError u_BadCells_LinkError) (exm_of s_LinkError i_LinkError t_LinkError u_BadFile_LinkError) (exm_of s_LinkError i_LinkError t_LinkError u_BadTree_LinkError) kit_self kit_self ns hl hb) hT sq e0
end K17
open PySem PySem.W PyProof.Rows in
set_option maxRecDepth 100000 in
set_option maxHeartbeats 0 in
theorem PySem.Challenge.cw_onebase_k17_whole_trees_there_and_back_holds : PySem.Challenge.rw_onebase_k17_whole_trees_there_and_back.Holds := by
  w_on; o_law; k_head; (case hw => w_witness2)
  k_fill
  refine PL.walkG2 (l := PySem.Challenge.rw_onebase_k17_whole_trees_there_and_back) (n := 63) (xs := [("law" : Str)]) rfl (by decide) rfl (by rfl) (fun w h Y => PySem.W.km_in_of Y) ?F
  case F =>
    intro w mg fa h Y KX G hmg own
    refine' K17.all_mk KX G hmg own ?z_super ?f11 ?f9 ?z_len ?z_abs ?z_all ?z_min ?z_int ?z_tuple ?z_list ?z_repr ?z_isinstance ?z_range ?z_str ?z_bool ?z_enumerate ?a_LinkError ?x_LinkError ?k_LinkError ?s_LinkError ?t_LinkError ?a_BadCells ?x_BadCells ?k_BadCells ?s_BadCells ?t_BadCells ?a_BadFile ?k_BadFile ?s_BadFile ?t_BadFile ?a_BadTree ?x_BadTree ?k_BadTree ?s_BadTree ?t_BadTree ?a_Reading ?o1_Reading ?o2_Reading ?o3_Reading ?o4_Reading ?o5_Reading ?o6_Reading ?om_Reading___init__ ?of_Reading___init__ ?om_Reading_is_whole ?of_Reading_is_whole ?om_Reading_takes_digit ?of_Reading_takes_digit ?om_Reading_takes_letter ?of_Reading_takes_letter ?om_Reading_takes ?of_Reading_takes ?on_Reading_digits ?on_Reading_letters ?on_Reading_stack ?e1_BadCells ?e2_BadCells ?e3_BadCells ?e4_BadCells ?e5_BadCells ?e1_BadFile ?e2_BadFile ?e3_BadFile ?e4_BadFile ?e5_BadFile ?e1_BadTree ?e2_BadTree ?e3_BadTree ?e4_BadTree ?e5_BadTree ?e6 ?e7 ?i_LinkError ?u_BadCells_LinkError ?u_BadFile_LinkError ?u_BadTree_LinkError ?q_LETTERS ?q_MOST_DEEP ?q_MOST_LETTERS ?q_MOST_DIGITS ?q_MOST_NUMBER ?a_PLAIN ?q_PLAIN ?g8_BadFile ?f1_BadFile ?f2_BadFile ?f3_BadFile ?f4_BadFile ?f5_BadFile ?f6_BadFile ?f7_BadFile ?f8_BadFile ?f10_BadFile ?f12_BadFile ?g1_BadFile ?g2_BadFile ?g3_BadFile ?no_BadFile_at ?g9_BadFile ?a_is_number ?l_is_number ?c_is_number ?p_is_number ?a_are_cells ?l_are_cells ?c_are_cells ?p_are_cells ?a_is_tree ?l_is_tree ?c_is_tree ?p_is_tree ?a_cells_in ?l_cells_in ?c_cells_in ?p_cells_in ?a_tree_cells ?l_tree_cells ?c_tree_cells ?p_tree_cells ?l_Reading___init__ ?c_Reading___init__ ?p_Reading___init__ ?l_Reading_is_whole ?c_Reading_is_whole ?p_Reading_is_whole ?l_Reading_takes_digit ?c_Reading_takes_digit ?p_Reading_takes_digit ?l_Reading_takes_letter ?c_Reading_takes_letter ?p_Reading_takes_letter ?l_Reading_takes ?c_Reading_takes ?p_Reading_takes ?a_tree_of ?l_tree_of ?c_tree_of ?p_tree_of ?a_law_begun ?l_law_begun ?c_law_begun ?p_law_begun ?a_law_mixed ?l_law_mixed ?c_law_mixed ?p_law_mixed ?a_law_take ?l_law_take ?c_law_take ?p_law_take ?a_law_pick ?l_law_pick ?c_law_pick ?p_law_pick ?a_law_caught ?l_law_caught ?c_law_caught ?p_law_caught ?a_law_is_number ?l_law_is_number ?c_law_is_number ?p_law_is_number ?a_law_strange ?l_law_strange ?c_law_strange ?p_law_strange ?a_law_changed ?l_law_changed ?c_law_changed ?p_law_changed ?a_law_tree_cells ?l_law_tree_cells ?c_law_tree_cells ?p_law_tree_cells ?a_law_is_tree ?l_law_is_tree ?c_law_is_tree ?p_law_is_tree ?a_law_leaf ?l_law_leaf ?c_law_leaf ?p_law_leaf ?a_law_tree ?l_law_tree ?c_law_tree ?p_law_tree ?a_law ?l_law ?c_law ?p_law ?lc_law ?h11_law ?np_law
    (case z_super => k_is)
    (case f11 => k_is)
    (case f9 => first | rfl | kernel_rfl)
    (case z_len => k_is)
    (case z_abs => k_is)
    (case z_all => k_is)
    (case z_min => k_is)
    (case z_int => k_is)
    (case z_tuple => k_is)
    (case z_list => k_is)
    (case z_repr => k_is)
    (case z_isinstance => k_is)
    (case z_range => k_is)
    (case z_str => k_is)
    (case z_bool => k_is)
    (case z_enumerate => k_is)
    (case a_LinkError => k_is)
    (case x_LinkError => k_exc)
    (case k_LinkError => k_is)
    (case s_LinkError => k_is)
    (case t_LinkError => k_is)
    (case a_BadCells => k_is)
    (case x_BadCells => k_exc)
    (case k_BadCells => k_is)
    (case s_BadCells => k_is)
    (case t_BadCells => k_is)
    (case a_BadFile => k_is)
    (case k_BadFile => k_is)
    (case s_BadFile => k_is)
    (case t_BadFile => k_is)
    (case a_BadTree => k_is)
    (case x_BadTree => k_exc)
    (case k_BadTree => k_is)
    (case s_BadTree => k_is)
    (case t_BadTree => k_is)
    (case a_Reading => k_is)
    (case o1_Reading => k_is)
    (case o2_Reading => k_is)
    (case o3_Reading => k_is)
    (case o4_Reading => k_is)
    (case o5_Reading => k_is)
    (case o6_Reading => k_is)
    (case om_Reading___init__ => k_is)
    (case of_Reading___init__ => k_is)
    (case om_Reading_is_whole => k_is)
    (case of_Reading_is_whole => k_is)
    (case om_Reading_takes_digit => k_is)
    (case of_Reading_takes_digit => k_is)
    (case om_Reading_takes_letter => k_is)
    (case of_Reading_takes_letter => k_is)
    (case om_Reading_takes => k_is)
    (case of_Reading_takes => k_is)
    (case on_Reading_digits => k_is)
    (case on_Reading_letters => k_is)
    (case on_Reading_stack => k_is)
    (case e1_BadCells => k_is)
    (case e2_BadCells => k_is)
    (case e3_BadCells => k_is)
    (case e4_BadCells => k_is)
    (case e5_BadCells => k_is)
    (case e1_BadFile => k_is)
    (case e2_BadFile => k_is)
    (case e3_BadFile => k_is)
    (case e4_BadFile => k_is)
    (case e5_BadFile => k_is)
    (case e1_BadTree => k_is)
    (case e2_BadTree => k_is)
    (case e3_BadTree => k_is)
    (case e4_BadTree => k_is)
    (case e5_BadTree => k_is)
    (case e6 => k_is)
    (case e7 => k_is)
    (case i_LinkError => k_is)
    (case u_BadCells_LinkError => k_is)
    (case u_BadFile_LinkError => k_is)
    (case u_BadTree_LinkError => k_is)
    (case q_LETTERS => kernel_rfl)
    (case q_MOST_DEEP => kernel_rfl)
    (case q_MOST_LETTERS => kernel_rfl)
    (case q_MOST_DIGITS => kernel_rfl)
    (case q_MOST_NUMBER => kernel_rfl)
    (case a_PLAIN => k_is)
    (case q_PLAIN => kernel_rfl)
    (case g8_BadFile => k_is)
    (case f1_BadFile => k_is)
    (case f2_BadFile => k_is)
    (case f3_BadFile => k_is)
    (case f4_BadFile => k_is)
    (case f5_BadFile => k_is)
    (case f6_BadFile => k_is)
    (case f7_BadFile => rfl)
    (case f8_BadFile => first | rfl | kernel_rfl)
    (case f10_BadFile => kernel_rfl)
    (case f12_BadFile => k_is)
    (case g1_BadFile => k_is)
    (case g2_BadFile => rfl)
    (case g3_BadFile => k_is)
    (case no_BadFile_at => k_is)
    (case g9_BadFile => k_is)
    (case a_is_number => k_is)
    (case l_is_number => k_is)
    (case c_is_number => k_is)
    (case p_is_number => k_is)
    (case a_are_cells => k_is)
    (case l_are_cells => k_is)
    (case c_are_cells => k_is)
    (case p_are_cells => k_is)
    (case a_is_tree => k_is)
    (case l_is_tree => k_is)
    (case c_is_tree => k_is)
    (case p_is_tree => k_is)
    (case a_cells_in => k_is)
    (case l_cells_in => k_is)
    (case c_cells_in => k_is)
    (case p_cells_in => k_is)
    (case a_tree_cells => k_is)
    (case l_tree_cells => k_is)
    (case c_tree_cells => k_is)
    (case p_tree_cells => k_is)
    (case l_Reading___init__ => k_is)
    (case c_Reading___init__ => k_is)
    (case p_Reading___init__ => k_is)
    (case l_Reading_is_whole => k_is)
    (case c_Reading_is_whole => k_is)
    (case p_Reading_is_whole => k_is)
    (case l_Reading_takes_digit => k_is)
    (case c_Reading_takes_digit => k_is)
    (case p_Reading_takes_digit => k_is)
    (case l_Reading_takes_letter => k_is)
    (case c_Reading_takes_letter => k_is)
    (case p_Reading_takes_letter => k_is)
    (case l_Reading_takes => k_is)
    (case c_Reading_takes => k_is)
    (case p_Reading_takes => k_is)
    (case a_tree_of => k_is)
    (case l_tree_of => k_is)
    (case c_tree_of => k_is)
    (case p_tree_of => k_is)
    (case a_law_begun => k_is)
    (case l_law_begun => k_is)
    (case c_law_begun => k_is)
    (case p_law_begun => k_is)
    (case a_law_mixed => k_is)
    (case l_law_mixed => k_is)
    (case c_law_mixed => k_is)
    (case p_law_mixed => k_is)
    (case a_law_take => k_is)
    (case l_law_take => k_is)
    (case c_law_take => k_is)
    (case p_law_take => k_is)
    (case a_law_pick => k_is)
    (case l_law_pick => k_is)
    (case c_law_pick => k_is)
    (case p_law_pick => k_is)
    (case a_law_caught => k_is)
    (case l_law_caught => k_is)
    (case c_law_caught => k_is)
    (case p_law_caught => k_is)
    (case a_law_is_number => k_is)
    (case l_law_is_number => k_is)
    (case c_law_is_number => k_is)
    (case p_law_is_number => k_is)
    (case a_law_strange => k_is)
    (case l_law_strange => k_is)
    (case c_law_strange => k_is)
    (case p_law_strange => k_is)
    (case a_law_changed => k_is)
    (case l_law_changed => k_is)
    (case c_law_changed => k_is)
    (case p_law_changed => k_is)
    (case a_law_tree_cells => k_is)
    (case l_law_tree_cells => k_is)
    (case c_law_tree_cells => k_is)
    (case p_law_tree_cells => k_is)
    (case a_law_is_tree => k_is)
    (case l_law_is_tree => k_is)
    (case c_law_is_tree => k_is)
    (case p_law_is_tree => k_is)
    (case a_law_leaf => k_is)
    (case l_law_leaf => k_is)
    (case c_law_leaf => k_is)
    (case p_law_leaf => k_is)
    (case a_law_tree => k_is)
    (case l_law_tree => k_is)
    (case c_law_tree => k_is)
    (case p_law_tree => k_is)
    (case a_law => k_is)
    (case l_law => k_is)
    (case c_law => k_is)
    (case p_law => k_is)
    (case lc_law => k_is)
    (case h11_law => rfl)
    (case np_law => first | rfl | k_is)
#print axioms PySem.Challenge.cw_onebase_k17_whole_trees_there_and_back_holds

