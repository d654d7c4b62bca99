import PyProof.Rows.All
import Wide.All
import OpenK.AllK
import Wide.FinOn
import HandS.ForMost
import HandS.ForExc
import HandS.Lambda
import HandS.Flow
import HandS.Deep
import HandS.TupAny
import HandS.IsInst
import HandS.ExcValue
import HandS.Style
import HandS.Wide
import HandS.CallSlots
import HandS.ExcIs
import HandS.Text
import PyProof.ReprRoads
import HandS.EndTab
import HandS.HeadWalk
import HandS.WrittenGet
import KE.GoesMore
import KE.GoesEnum
import KE.KDictWalk
import HandS.HeadHook3
import HandS.ExcInit
import KE.KExcSuper
import KE.KSuper
import HandS.ExcField
import KE.KExcIs
import PySem.Challenge.RW_onebase_k16_whole_cells_parted_one_way
set_option Elab.async false
set_option linter.all false
set_option maxRecDepth 100000
set_option maxHeartbeats 0
/-! PL1: data and state of the pure layer -/
namespace PL
open PySem PySem.Spec PyProof.Rows L2 LamX

/-! ### values -/
/-- what a slot holds: frozen data, or an object of its own -/
inductive OV where
  | d (x : PyData)
  | lst (xs : List OV)
  | dct (kvs : List (Key × OV))
  | ins (C : Addr) (fs : List (Str × OV))

/-- an exception as data: its class, its attributes -/
def excD (C : Addr) (fs : List (Str × PyData)) : PyData := .dict ((.none, .int (C : Nat)) :: fs.map fun p => (.str p.1, p.2))

/-- the script as data: read only by len and loops -/
def scrD (ns : List Int) : PyData := .dict [(.bool true, .list (ns.map .int))]

/-- an exception object that nobody writes any more -/
def ExV (cls : Value) (d : Option Addr) (a : Addr) : HO := .ext fun h => ∃ (oe : Obj) (vs : Array Value), h.get? a = some oe ∧ Zc cls d oe ∧ oe.data = .fields vs

mutual
inductive Fr (K : PySem.W.Frag) (Z : Hp) : V → PyData → Prop
  | non : Fr K Z .non .none
  | bl (b : Bool) : Fr K Z (.bl b) (.bool b)
  | int (i : Int) : Fr K Z (.int i) (.int i)
  | str (x : Str) : Fr K Z (.str x) (.str x)
  | lst {a : Addr} {xs : List V} {ds : List PyData} : Rd Z a (.lst xs) → FrAll K Z xs ds → Fr K Z (.ref a) (.list ds)
  | tup {a : Addr} {xs : List V} {ds : List PyData} : SqT K Z a xs → FrAll K Z xs ds → Fr K Z (.ref a) (.tuple ds)
  | exc0 {a C : Addr} : Z a = some (ExV (.ref C) none a) → Fr K Z (.ref a) (excD C [])
  | exc {a C dx : Addr} {ws : List V} {fs : List (Str × PyData)} : fs ≠ [] → Z a = some (ExV (.ref C) (some dx) a) → Z dx = some (.xd ((fs.map (·.1)).zip ws)) → FrAll K Z ws (fs.map (·.2)) → Fr K Z (.ref a) (excD C fs)
  | scr {a : Addr} {ns : List Int} : SqL K Z a (ns.map V.int) → Fr K Z (.ref a) (scrD ns)
inductive FrAll (K : PySem.W.Frag) (Z : Hp) : List V → List PyData → Prop
  | nil : FrAll K Z [] []
  | cons {v : V} {vs : List V} {d : PyData} {ds : List PyData} : Fr K Z v d → FrAll K Z vs ds → FrAll K Z (v :: vs) (d :: ds)
end

def Sub (Z Z' : Hp) : Prop := ∀ a o, Z a = some o → Z' a = some o
theorem Sub.refl (Z : Hp) : Sub Z Z := fun _ _ h => h
theorem Sub.trans {Z Z' Z'' : Hp} (a : Sub Z Z') (b : Sub Z' Z'') : Sub Z Z'' := fun c o h => b c o (a c o h)
theorem Sub.same {Z Z' : Hp} (a : Sub Z Z') : Same Z Z' := a

theorem Rd.sub {Z Z' : Hp} {a : Addr} {u : HO} (h : Rd Z a u) (s : Sub Z Z') : Rd Z' a u := by
  rcases h with h | ⟨o, h⟩
  · exact .inl (s _ _ h)
  · exact .inr ⟨o, s _ _ h⟩
theorem sqL_sub {K : PySem.W.Frag} {Z Z' : Hp} {a : Addr} {xs : List V} (h : SqL K Z a xs) (s : Sub Z Z') : SqL K Z' a xs := h.imp (fun h => Rd.sub h s) id
theorem sqT_sub {K : PySem.W.Frag} {Z Z' : Hp} {a : Addr} {xs : List V} (h : SqT K Z a xs) (s : Sub Z Z') : SqT K Z' a xs := h.imp (fun h => Rd.sub h s) id

section
variable {K : PySem.W.Frag} {Z Z' H H' : Hp}
mutual
theorem Fr.sub (s : Sub Z Z') : ∀ {v : V} {d : PyData}, Fr K Z v d → Fr K Z' v d
  | _, _, .non => .non
  | _, _, .bl b => .bl b
  | _, _, .int i => .int i
  | _, _, .str x => .str x
  | _, _, .lst h a => .lst (Rd.sub h s) (FrAll.sub s a)
  | _, _, .tup h a => .tup (sqT_sub h s) (FrAll.sub s a)
  | _, _, .exc0 h => .exc0 (s _ _ h)
  | _, _, .exc n h h2 a => .exc n (s _ _ h) (s _ _ h2) (FrAll.sub s a)
  | _, _, .scr h => .scr (sqL_sub h s)
theorem FrAll.sub (s : Sub Z Z') : ∀ {vs : List V} {ds : List PyData}, FrAll K Z vs ds → FrAll K Z' vs ds
  | _, _, .nil => .nil
  | _, _, .cons a b => .cons (Fr.sub s a) (FrAll.sub s b)
end
theorem FrAll.length : ∀ {vs : List V} {ds : List PyData}, FrAll K Z vs ds → vs.length = ds.length
  | _, _, .nil => rfl
  | _, _, .cons _ b => congrArg (· + 1) (FrAll.length b)
theorem FrAll.get : ∀ {vs : List V} {ds : List PyData} {i : Nat} {d : PyData}, FrAll K Z vs ds → ds[i]? = some d → ∃ v, vs[i]? = some v ∧ Fr K Z v d
  | _, _, _, _, .nil, e => by simp at e
  | _, _, 0, _, .cons a _, e => by simp at e; subst e; exact ⟨_, rfl, a⟩
  | _, _, i + 1, _, .cons _ b, e => by
    obtain ⟨v, h1, h2⟩ := FrAll.get (i := i) b (by simpa using e)
    exact ⟨v, by simpa using h1, h2⟩
theorem FrAll.getV : ∀ {vs : List V} {ds : List PyData} {i : Nat} {v : V}, FrAll K Z vs ds → vs[i]? = some v → ∃ d, ds[i]? = some d ∧ Fr K Z v d
  | _, _, _, _, .nil, e => by simp at e
  | _, _, 0, _, .cons a _, e => by simp at e; subst e; exact ⟨_, rfl, a⟩
  | _, _, i + 1, _, .cons _ b, e => by
    obtain ⟨v, h1, h2⟩ := FrAll.getV (i := i) b (by simpa using e)
    exact ⟨v, by simpa using h1, h2⟩
theorem FrAll.append : ∀ {vs ws : List V} {ds es : List PyData}, FrAll K Z vs ds → FrAll K Z ws es → FrAll K Z (vs ++ ws) (ds ++ es)
  | _, _, _, _, .nil, h => h
  | _, _, _, _, .cons a b, h => .cons a (FrAll.append b h)
theorem FrAll.take : ∀ {vs : List V} {ds : List PyData} (n : Nat), FrAll K Z vs ds → FrAll K Z (vs.take n) (ds.take n)
  | _, _, 0, _ => .nil
  | _, _, _ + 1, .nil => .nil
  | _, _, n + 1, .cons a b => .cons a (FrAll.take n b)
theorem FrAll.drop : ∀ {vs : List V} {ds : List PyData} (n : Nat), FrAll K Z vs ds → FrAll K Z (vs.drop n) (ds.drop n)
  | _, _, 0, h => h
  | _, _, _ + 1, .nil => .nil
  | _, _, n + 1, .cons _ b => FrAll.drop n b
theorem FrAll.set : ∀ {vs : List V} {ds : List PyData} {v : V} {d : PyData} (i : Nat), FrAll K Z vs ds → Fr K Z v d → FrAll K Z (vs.set i v) (ds.set i d)
  | _, _, _, _, _, .nil, _ => .nil
  | _, _, _, _, 0, .cons _ b, h => .cons h b
  | _, _, _, _, i + 1, .cons a b, h => .cons a (FrAll.set i b h)

/-! ### no exception within: the library's data -/
mutual
def flat : PyData → Bool
  | .none => true
  | .bool _ => true
  | .int _ => true
  | .str _ => true
  | .list xs => flatAll xs
  | .tuple xs => flatAll xs
  | .dict _ => false
def flatAll : List PyData → Bool
  | [] => true
  | x :: xs => flat x && flatAll xs
end
mutual
theorem Fr.dp : ∀ {v : V} {d : PyData}, Fr K Z v d → flat d = true → Dp K Z v d
  | _, _, .non, _ => .non
  | _, _, .bl b, _ => .bl b
  | _, _, .int i, _ => .int i
  | _, _, .str x, _ => .str x
  | _, _, .lst h a, e => .lst (.inl h) (FrAll.dp a (by simpa only [flat] using e))
  | _, _, .tup h a, e => .tup h (FrAll.dp a (by simpa only [flat] using e))
  | _, _, .exc0 h, e => by simp [excD, flat] at e
  | _, _, .exc n h h2 a, e => by simp [excD, flat] at e
  | _, _, .scr h, e => by simp [scrD, flat] at e
theorem FrAll.dp : ∀ {vs : List V} {ds : List PyData}, FrAll K Z vs ds → flatAll ds = true → DpAll K Z vs ds
  | _, _, .nil, _ => .nil
  | _, _, .cons a b, e => by
    simp only [flatAll, Bool.and_eq_true] at e
    exact .cons (Fr.dp a e.1) (FrAll.dp b e.2)
end
mutual
theorem Dp.sub {v : V} {d : PyData} (s : Sub Z Z') (h : Dp K Z v d) : Dp K Z' v d := by
  cases h with
  | non => exact .non
  | bl b => exact .bl b
  | int i => exact .int i
  | str x => exact .str x
  | lst h a => exact .lst (sqL_sub h s) (DpAll.sub s a)
  | tup h a => exact .tup (sqT_sub h s) (DpAll.sub s a)
theorem DpAll.sub {vs : List V} {ds : List PyData} (s : Sub Z Z') (h : DpAll K Z vs ds) : DpAll K Z' vs ds := by
  cases h with
  | nil => exact .nil
  | cons a b => exact .cons (Dp.sub s a) (DpAll.sub s b)
end
end

/-! ### ownership -/
mutual
inductive Own (K : PySem.W.Frag) (Z H : Hp) : V → OV → List Addr → Prop
  | d {v : V} {x : PyData} : Fr K Z v x → Own K Z H v (.d x) []
  | lst {a : Addr} {vs : List V} {xs : List OV} {L : List Addr} : H a = some (.lst vs) → OwnL K Z H vs xs L → Own K Z H (.ref a) (.lst xs) (a :: L)
  | dct {a : Addr} {ws : List V} {xs : List (Key × OV)} {L : List Addr} : H a = some (.dK ((xs.map (·.1)).zip ws)) → OwnL K Z H ws (xs.map (·.2)) L → Own K Z H (.ref a) (.dct xs) (a :: L)
  | ins {a C dx : Addr} {ws : List V} {fs : List (Str × OV)} {L : List Addr} : H a = some (.ins C dx ((fs.map (·.1)).zip ws)) → H dx = some (.own a) → OwnL K Z H ws (fs.map (·.2)) L → Own K Z H (.ref a) (.ins C fs) (a :: dx :: L)
inductive OwnL (K : PySem.W.Frag) (Z H : Hp) : List V → List OV → List Addr → Prop
  | nil : OwnL K Z H [] [] []
  | cons {v : V} {vs : List V} {x : OV} {xs : List OV} {L M : List Addr} : Own K Z H v x L → OwnL K Z H vs xs M → OwnL K Z H (v :: vs) (x :: xs) (L ++ M)
end
/-- the slots -/
inductive OwnS (K : PySem.W.Frag) (Z H : Hp) : L2.St → List (Option OV) → List Addr → Prop
  | emp : OwnS K Z H [] [] []
  | out {u : Option V} {σ : L2.St} {S : List (Option OV)} {L : List Addr} : OwnS K Z H σ S L → OwnS K Z H (u :: σ) (none :: S) L
  | own {v : V} {x : OV} {σ : L2.St} {S : List (Option OV)} {L M : List Addr} : Own K Z H v x L → OwnS K Z H σ S M → OwnS K Z H (some v :: σ) (some x :: S) (L ++ M)

section
variable {K : PySem.W.Frag} {Z Z' H H' : Hp}
mutual
theorem Own.mono (s : Sub Z Z') : ∀ {v : V} {x : OV} {L : List Addr}, Own K Z H v x L → (∀ a ∈ L, H' a = H a) → Own K Z' H' v x L
  | _, _, _, .d h, _ => .d (h.sub s)
  | _, _, _, .lst h r, e => .lst ((e _ (List.mem_cons_self)).trans h) (OwnL.mono s r fun a ha => e a (List.mem_cons_of_mem _ ha))
  | _, _, _, .dct h r, e => .dct ((e _ (List.mem_cons_self)).trans h) (OwnL.mono s r fun a ha => e a (List.mem_cons_of_mem _ ha))
  | _, _, _, .ins h h2 r, e => .ins ((e _ (List.mem_cons_self)).trans h) ((e _ (List.mem_cons_of_mem _ List.mem_cons_self)).trans h2) (OwnL.mono s r fun a ha => e a (List.mem_cons_of_mem _ (List.mem_cons_of_mem _ ha)))
theorem OwnL.mono (s : Sub Z Z') : ∀ {vs : List V} {xs : List OV} {L : List Addr}, OwnL K Z H vs xs L → (∀ a ∈ L, H' a = H a) → OwnL K Z' H' vs xs L
  | _, _, _, .nil, _ => .nil
  | _, _, _, .cons a b, e => .cons (Own.mono s a fun c hc => e c (List.mem_append_left _ hc)) (OwnL.mono s b fun c hc => e c (List.mem_append_right _ hc))
end
theorem OwnS.mono (s : Sub Z Z') : ∀ {σ : L2.St} {S : List (Option OV)} {L : List Addr}, OwnS K Z H σ S L → (∀ a ∈ L, H' a = H a) → OwnS K Z' H' σ S L
  | _, _, _, .emp, _ => .emp
  | _, _, _, .out r, e => .out (OwnS.mono s r e)
  | _, _, _, .own a b, e => .own (Own.mono s a fun c hc => e c (List.mem_append_left _ hc)) (OwnS.mono s b fun c hc => e c (List.mem_append_right _ hc))
theorem OwnS.length : ∀ {σ : L2.St} {S : List (Option OV)} {L : List Addr}, OwnS K Z H σ S L → σ.length = S.length
  | _, _, _, .emp => rfl
  | _, _, _, .out r => congrArg (· + 1) r.length
  | _, _, _, .own _ r => congrArg (· + 1) r.length
theorem Own.frz {v : V} {x : PyData} {L : List Addr} (h : Own K Z H v (.d x) L) : L = [] ∧ Fr K Z v x := by
  cases h with
  | d h => exact ⟨rfl, h⟩
/-! what stands at the owned addresses -/
mutual
theorem Own.at_ : ∀ {v : V} {x : OV} {L : List Addr}, Own K Z H v x L → ∀ a ∈ L, ∃ o, H a = some o ∧ ∀ ps, o ≠ .tbl ps
  | _, _, _, .d _, a, ha => by cases ha
  | _, _, _, .lst h r, a, ha => by
    rcases List.mem_cons.mp ha with rfl | ha
    · exact ⟨_, h, fun _ z => by cases z⟩
    · exact OwnL.at_ r a ha
  | _, _, _, .dct h r, a, ha => by
    rcases List.mem_cons.mp ha with rfl | ha
    · exact ⟨_, h, fun _ z => by cases z⟩
    · exact OwnL.at_ r a ha
  | _, _, _, .ins h h2 r, a, ha => by
    rcases List.mem_cons.mp ha with rfl | ha
    · exact ⟨_, h, fun _ z => by cases z⟩
    · rcases List.mem_cons.mp ha with rfl | ha
      · exact ⟨_, h2, fun _ z => by cases z⟩
      · exact OwnL.at_ r a ha
theorem OwnL.at_ : ∀ {vs : List V} {xs : List OV} {L : List Addr}, OwnL K Z H vs xs L → ∀ a ∈ L, ∃ o, H a = some o ∧ ∀ ps, o ≠ .tbl ps
  | _, _, _, .nil, a, ha => by cases ha
  | _, _, _, .cons h r, a, ha => by
    rcases List.mem_append.mp ha with ha | ha
    · exact Own.at_ h a ha
    · exact OwnL.at_ r a ha
end
theorem OwnS.at_ : ∀ {σ : L2.St} {S : List (Option OV)} {L : List Addr}, OwnS K Z H σ S L → ∀ a ∈ L, ∃ o, H a = some o ∧ ∀ ps, o ≠ .tbl ps
  | _, _, _, .emp, a, ha => by cases ha
  | _, _, _, .out r, a, ha => OwnS.at_ r a ha
  | _, _, _, .own h r, a, ha => by
    rcases List.mem_append.mp ha with ha | ha
    · exact h.at_ a ha
    · exact OwnS.at_ r a ha
theorem OwnL.length : ∀ {vs : List V} {xs : List OV} {L : List Addr}, OwnL K Z H vs xs L → vs.length = xs.length
  | _, _, _, .nil => rfl
  | _, _, _, .cons _ r => congrArg (· + 1) r.length
theorem OwnL.ofFr : ∀ {vs : List V} {ds : List PyData}, FrAll K Z vs ds → OwnL K Z H vs (ds.map .d) []
  | _, _, .nil => .nil
  | _, _, .cons a b => OwnL.cons (L := []) (M := []) (.d a) (OwnL.ofFr b)
theorem OwnL.toFr : ∀ {vs : List V} {ds : List PyData} {L : List Addr}, OwnL K Z H vs (ds.map .d) L → L = [] ∧ FrAll K Z vs ds
  | vs, [], _, h => by cases h; exact ⟨rfl, .nil⟩
  | vs, d :: ds, _, h => by
    cases h with
    | cons a b =>
      obtain ⟨rfl, f⟩ := a.frz
      obtain ⟨rfl, g⟩ := OwnL.toFr b
      exact ⟨rfl, .cons f g⟩

/-- slot i taken out -/
theorem OwnS.get : ∀ {σ : L2.St} {S : List (Option OV)} {L : List Addr} {i : Nat} {x : OV}, OwnS K Z H σ S L → S[i]? = some (some x) →
    ∃ v Li Lr, σ[i]? = some (some v) ∧ Own K Z H v x Li ∧ OwnS K Z H σ (S.set i none) Lr ∧ L.Perm (Li ++ Lr)
  | _, _, _, _, _, .emp, e => by simp at e
  | _, _, _, 0, _, .out r, e => by simp at e
  | _, _, _, 0, _, .own (M := M) h r, e => by
    simp at e; subst e
    exact ⟨_, _, M, rfl, h, .out r, List.Perm.refl _⟩
  | _, _, _, i + 1, _, .out r, e => by
    obtain ⟨v, Li, Lr, h1, h2, h3, h4⟩ := OwnS.get (i := i) r (by simpa using e)
    exact ⟨v, Li, Lr, by simpa using h1, h2, .out h3, h4⟩
  | _, _, _, i + 1, _, .own (L := L1) h r, e => by
    obtain ⟨v, Li, Lr, h1, h2, h3, h4⟩ := OwnS.get (i := i) r (by simpa using e)
    refine ⟨v, Li, L1 ++ Lr, by simpa using h1, h2, .own h h3, ?_⟩
    refine (List.Perm.append_left L1 h4).trans ?_
    rw [← List.append_assoc, ← List.append_assoc]
    exact List.Perm.append_right _ List.perm_append_comm
/-- slot i filled -/
theorem OwnS.put : ∀ {σ : L2.St} {S : List (Option OV)} {L : List Addr} {i : Nat} {v : V} {x : OV} {Li : List Addr}, OwnS K Z H σ S L → Own K Z H v x Li → i < S.length →
    ∃ M, OwnS K Z H (σ.set i (some v)) (S.set i (some x)) M ∧ (∃ D, (Li ++ L).Perm (D ++ M))
  | _, _, _, _, _, _, _, .emp, _, h => by simp at h
  | _, _, _, 0, _, _, Li, .out (L := L) r, h, _ => ⟨Li ++ L, .own h r, [], List.Perm.refl _⟩
  | _, _, _, 0, _, _, Li, .own (L := L1) (M := M1) _ r, h, _ => ⟨Li ++ M1, .own h r, L1, by
      rw [← List.append_assoc, ← List.append_assoc]
      exact List.Perm.append_right _ List.perm_append_comm⟩
  | _, _, _, i + 1, _, _, Li, .out (L := L) r, h, hl => by
    obtain ⟨M, h1, h2⟩ := OwnS.put (i := i) r h (by simpa using hl)
    exact ⟨M, .out h1, h2⟩
  | _, _, _, i + 1, _, _, Li, .own (L := L1) (M := M1) h0 r, h, hl => by
    obtain ⟨M, h1, D, h2⟩ := OwnS.put (i := i) r h (by simpa using hl)
    refine ⟨L1 ++ M, .own h0 h1, D, ?_⟩
    have e1 : (Li ++ (L1 ++ M1)).Perm (L1 ++ (Li ++ M1)) := by
      rw [← List.append_assoc, ← List.append_assoc]
      exact List.Perm.append_right _ List.perm_append_comm
    refine e1.trans ((List.Perm.append_left L1 h2).trans ?_)
    rw [← List.append_assoc, ← List.append_assoc]
    exact List.Perm.append_right _ List.perm_append_comm
theorem OwnS.clear : ∀ {σ : L2.St} {S : List (Option OV)} {L : List Addr} (i : Nat) (u : Option V), OwnS K Z H σ S L → ∃ M, OwnS K Z H (σ.set i u) (S.set i none) M ∧ (∃ D, L.Perm (D ++ M))
  | _, _, _, _, _, .emp => ⟨[], .emp, [], List.Perm.refl _⟩
  | _, _, _, 0, u, .out (L := L) r => ⟨L, .out r, [], List.Perm.refl _⟩
  | _, _, _, 0, u, .own (L := L1) (M := M1) _ r => ⟨M1, .out r, L1, List.Perm.refl _⟩
  | _, _, _, i + 1, u, .out r => by
    obtain ⟨M, h1, h2⟩ := OwnS.clear i u r
    exact ⟨M, .out h1, h2⟩
  | _, _, _, i + 1, u, .own (L := L1) (M := M1) h0 r => by
    obtain ⟨M, h1, D, h2⟩ := OwnS.clear i u r
    refine ⟨L1 ++ M, .own h0 h1, D, ?_⟩
    refine (List.Perm.append_left L1 h2).trans ?_
    rw [← List.append_assoc, ← List.append_assoc]
    exact List.Perm.append_right _ List.perm_append_comm
end
end PL

/-! PL2: the state's relation, the monad, readings -/
namespace PL
open PySem PySem.Spec PyProof.Rows L2 LamX

abbrev SS := List (Option OV)
def M (α : Type) : Type := SS → Option (Except PyData α × SS)
def M.ret {α : Type} (a : α) : M α := fun S => some (.ok a, S)
def M.bind {α β : Type} (f : M α) (g : α → M β) : M β := fun S => match f S with
  | none => none
  | some (.error e, S') => some (.error e, S')
  | some (.ok a, S') => g a S'
instance : Monad M where
  pure := M.ret
  bind := M.bind
def stuck {α : Type} : M α := fun _ => none
def M.lift {α : Type} (o : Option α) : M α := fun S => o.map fun a => (.ok a, S)
def M.fail {α : Type} (x : PyData) : M α := fun S => some (.error x, S)
structure Rel (K : PySem.W.Frag) (T : List (Addr × Str)) (Z R : Hp) (S : SS) (σ : L2.St) (H : Hp) : Prop where
  own : ∃ L, OwnS K Z H σ S L ∧ L.Nodup ∧ ∀ a ∈ L, Z a = none ∧ R a = none
  z : Sub Z H
  r : Sub R H
  zt : ∀ a ps, Z a ≠ some (.tbl ps)
  rt : ∀ a ps, R a ≠ some (.tbl ps)
  zr : ∀ a o, Z a = some o → R a = none
  tab : Tabs T H

/-- an exception's class and dict -/
def IsX (K : PySem.W.Frag) (Z : Hp) (cls : Value) (d : Option Addr) (x : PyData) : Prop :=
  ∃ C fs, cls = .ref C ∧ x = excD C fs ∧ ((d = none ∧ fs = []) ∨ fs ≠ [] ∧ ∃ dx ws, d = some dx ∧ Z dx = some (.xd ((fs.map (·.1)).zip ws)) ∧ FrAll K Z ws (fs.map (·.2)))

section
variable {K : PySem.W.Frag} {T : List (Addr × Str)} {Z Z' R H H' : Hp} {S S' : SS} {σ σ' : L2.St} {v : V} {x : PyData} {o : OV}

theorem nodup_sub {L M : List Addr} (h : ∃ D, L.Perm (D ++ M)) (n : L.Nodup) : M.Nodup ∧ ∀ a ∈ M, a ∈ L := by
  obtain ⟨D, h⟩ := h
  have n2 := (h.nodup_iff).mp n
  exact ⟨(List.nodup_append.mp n2).2.1, fun a ha => h.mem_iff.mpr (List.mem_append_right _ ha)⟩

theorem Rel.length (r : Rel K T Z R S σ H) : σ.length = S.length := by obtain ⟨L, h, _⟩ := r.own; exact h.length
theorem Rel.get (r : Rel K T Z R S σ H) {i : Nat} (e : S[i]? = some (some (.d x))) : ∃ v, σ[i]? = some (some v) ∧ Fr K Z v x := by
  obtain ⟨L, h, _⟩ := r.own
  obtain ⟨v, Li, Lr, h1, h2, _⟩ := h.get e
  exact ⟨v, h1, h2.frz.2⟩
theorem Rel.push (r : Rel K T Z R S σ H) (f : Fr K Z v x) : Rel K T Z R (some (.d x) :: S) (some v :: σ) H := by
  obtain ⟨L, h, n, q⟩ := r.own
  exact ⟨⟨[] ++ L, .own (.d f) h, n, q⟩, r.z, r.r, r.zt, r.rt, r.zr, r.tab⟩
theorem Rel.pop {u : Option V} {o : Option OV} (r : Rel K T Z R (o :: S) (u :: σ) H) : Rel K T Z R S σ H := by
  obtain ⟨L, h, n, q⟩ := r.own
  cases h with
  | out h => exact ⟨⟨_, h, n, q⟩, r.z, r.r, r.zt, r.rt, r.zr, r.tab⟩
  | own h0 h => exact ⟨⟨_, h, (List.nodup_append.mp n).2.1, fun a ha => q a (List.mem_append_right _ ha)⟩, r.z, r.r, r.zt, r.rt, r.zr, r.tab⟩
theorem Rel.popd (r : Rel K T Z R (some (.d x) :: S) (some v :: σ) H) : Fr K Z v x ∧ Rel K T Z R S σ H := by
  refine ⟨?_, r.pop⟩
  obtain ⟨v', e, f⟩ := r.get (i := 0) (x := x) rfl
  cases e
  exact f
theorem Rel.set (r : Rel K T Z R (some o :: S) (some v :: σ) H) {i : Nat} (hi : i < S.length) : Rel K T Z R (S.set i (some o)) (σ.set i (some v)) H := by
  obtain ⟨L, h, n, q⟩ := r.own
  cases h with
  | own h0 h =>
    obtain ⟨M, h1, h2⟩ := h.put h0 hi
    obtain ⟨n1, n2⟩ := nodup_sub h2 n
    exact ⟨⟨M, h1, n1, fun a ha => q a (n2 a ha)⟩, r.z, r.r, r.zt, r.rt, r.zr, r.tab⟩
theorem Rel.clear (r : Rel K T Z R S σ H) (i : Nat) (u : Option V) : Rel K T Z R (S.set i none) (σ.set i u) H := by
  obtain ⟨L, h, n, q⟩ := r.own
  obtain ⟨M, h1, h2⟩ := h.clear i u
  obtain ⟨n1, n2⟩ := nodup_sub h2 n
  exact ⟨⟨M, h1, n1, fun a ha => q a (n2 a ha)⟩, r.z, r.r, r.zt, r.rt, r.zr, r.tab⟩
/-- slots forgotten on the side of V alone -/
theorem Rel.blank (r : Rel K T Z R S σ H) {i : Nat} {u : Option V} (e : S[i]? = some none) : Rel K T Z R S (σ.set i u) H := by
  have h := r.clear i u
  have e2 : S.set i none = S := by
    apply List.ext_getElem?
    intro j
    by_cases hj : i = j
    · subst hj
      rw [List.getElem?_set_self (List.getElem?_eq_some_iff.mp e).1, e]
    · rw [List.getElem?_set_ne hj]
  rwa [e2] at h

theorem sub_upd {p : Addr} (u : HO) (h : Z p = none) : Sub Z (upd Z p u) := fun a o e => by
  rw [upd_ne (ne_of_none e h)]; exact e
/-- a new frozen object -/
theorem Rel.frozen (r : Rel K T Z R S σ H) {p : Addr} (hp : H p = none) (u : HO) (hu : ∀ ps, u ≠ .tbl ps) : Rel K T (upd Z p u) R S σ (upd H p u) := by
  obtain ⟨L, h, n, q⟩ := r.own
  have zp : Z p = none := by
    cases e : Z p with
    | none => rfl
    | some w => rw [r.z _ _ e] at hp; cases hp
  have lp : ∀ a ∈ L, a ≠ p := fun a ha e => by
    obtain ⟨w, hw, _⟩ := h.at_ a ha
    rw [e, hp] at hw; cases hw
  refine ⟨⟨L, h.mono (sub_upd u zp) (fun a ha => upd_ne (lp a ha)), n, fun a ha => ⟨?_, (q a ha).2⟩⟩, fun a w e => ?_, fun a w e => ?_, fun a ps e => ?_, r.rt, fun a w e => ?_, r.tab.ext fun a w e => ?_⟩
  · rw [upd_ne (lp a ha)]; exact (q a ha).1
  · by_cases ha : a = p
    · subst ha; rw [upd_same] at e ⊢; exact e
    · rw [upd_ne ha] at e ⊢; exact r.z a w e
  · rw [upd_ne (ne_of_none (r.r a w e) hp)]; exact r.r a w e
  · by_cases ha : a = p
    · subst ha; rw [upd_same] at e; exact hu ps (Option.some.inj e)
    · rw [upd_ne ha] at e; exact r.zt a ps e
  · by_cases ha : a = p
    · subst ha
      cases q : R a with
      | none => rfl
      | some y => rw [r.r _ _ q] at hp; cases hp
    · rw [upd_ne ha] at e; exact r.zr a w e
  · rw [upd_ne (ne_of_none e hp)]; exact e
/-- a new owned object over items that stand already -/
theorem Rel.newOwn (r : Rel K T Z R S σ H) {p : Addr} (hp : H p = none) {u : HO} {o : OV} (hu : Own K Z (upd H p u) (.ref p) o [p]) : Rel K T Z R (some o :: S) (some (.ref p) :: σ) (upd H p u) := by
  obtain ⟨L, h, n, q⟩ := r.own
  have lp : ∀ a ∈ L, a ≠ p := fun a ha e => by
    obtain ⟨w, hw, _⟩ := h.at_ a ha
    rw [e, hp] at hw; cases hw
  have nn : ∀ {Y : Hp}, Sub Y H → Y p = none := fun {Y} s => by
    cases e : Y p with
    | none => rfl
    | some w => rw [s _ _ e] at hp; cases hp
  refine ⟨⟨[p] ++ L, .own hu (h.mono (Sub.refl Z) fun a ha => upd_ne (lp a ha)), ?_, fun a ha => ?_⟩, fun a w e => ?_, fun a w e => ?_, r.zt, r.rt, r.zr, r.tab.ext fun a w e => ?_⟩
  · exact List.nodup_cons.mpr ⟨fun hm => lp p hm rfl, n⟩
  · rcases List.mem_cons.mp ha with rfl | ha
    · exact ⟨nn r.z, nn r.r⟩
    · exact q a ha
  · rw [upd_ne (ne_of_none (r.z a w e) hp)]; exact r.z a w e
  · rw [upd_ne (ne_of_none (r.r a w e) hp)]; exact r.r a w e
  · rw [upd_ne (ne_of_none e hp)]; exact e
end

/-! ### arguments by view: frozen data, or what the slot i holds -/
inductive AV where
  | fr (x : PyData)
  | bw (i : Nat)
def AvOk (K : PySem.W.Frag) (Z : Hp) (σ : L2.St) (v : V) : AV → Prop
  | .fr x => Fr K Z v x
  | .bw i => σ[i]? = some (some v)
inductive AvAll (K : PySem.W.Frag) (Z : Hp) (σ : L2.St) : List V → List AV → Prop
  | nil : AvAll K Z σ [] []
  | cons {v : V} {vs : List V} {a : AV} {as : List AV} : AvOk K Z σ v a → AvAll K Z σ vs as → AvAll K Z σ (v :: vs) (a :: as)
/-- v is to be read as x now -/
def Vw (K : PySem.W.Frag) (Z H : Hp) (v : V) (x : PyData) : Prop := Fr K Z v x ∨ ∃ a vs ds, v = .ref a ∧ x = .list ds ∧ H a = some (.lst vs) ∧ FrAll K Z vs ds
inductive VwAll (K : PySem.W.Frag) (Z H : Hp) : List V → List PyData → Prop
  | nil : VwAll K Z H [] []
  | cons {v : V} {vs : List V} {x : PyData} {xs : List PyData} : Vw K Z H v x → VwAll K Z H vs xs → VwAll K Z H (v :: vs) (x :: xs)
/-- frozen items -/
def items : List OV → Option (List PyData)
  | [] => some []
  | .d x :: r => (items r).map (x :: ·)
  | _ :: _ => none
theorem items_map (ds : List PyData) : items (ds.map .d) = some ds := by
  induction ds with
  | nil => rfl
  | cons d ds ih => simp [items, ih]
theorem items_eq : ∀ {xs : List OV} {ds : List PyData}, items xs = some ds → xs = ds.map .d
  | [], ds, e => by cases e; rfl
  | .d x :: r, ds, e => by
    unfold items at e
    cases q : items r with
    | none => rw [q] at e; cases e
    | some es =>
      rw [q] at e
      cases e
      rw [List.map_cons, items_eq q]
def viewO : Option (Option OV) → Option PyData
  | some (some (.d x)) => some x
  | some (some (.lst xs)) => (items xs).map .list
  | _ => none
def view (S : SS) : AV → Option PyData
  | .fr x => some x
  | .bw i => viewO S[i]?
def views (S : SS) : List AV → Option (List PyData)
  | [] => some []
  | a :: as => match view S a, views S as with
    | some x, some xs => some (x :: xs)
    | _, _ => none
section
variable {K : PySem.W.Frag} {T : List (Addr × Str)} {Z Z' R H H' : Hp} {S S' : SS} {σ σ' : L2.St} {v : V} {x : PyData}
theorem AvOk.sub {a : AV} (h : AvOk K Z σ v a) (s : Sub Z Z') : AvOk K Z' σ v a := by
  cases a with
  | fr x => exact Fr.sub s h
  | bw i => exact h
theorem AvAll.sub {vs : List V} {as : List AV} (h : AvAll K Z σ vs as) (s : Sub Z Z') : AvAll K Z' σ vs as := by
  induction h with
  | nil => exact .nil
  | cons a _ ih => exact .cons (a.sub s) ih
theorem Rel.view (r : Rel K T Z R S σ H) {a : AV} (h : AvOk K Z σ v a) (e : view S a = some x) : Vw K Z H v x := by
  cases a with
  | fr y => cases e; exact .inl h
  | bw i =>
    have h : σ[i]? = some (some v) := h
    have e : viewO S[i]? = some x := e
    obtain ⟨L, ow, _⟩ := r.own
    cases q : S[i]? with
    | none => rw [q] at e; cases e
    | some o =>
      rw [q] at e
      cases o with
      | none => cases e
      | some o =>
        obtain ⟨v', Li, Lr, h1, h2, _⟩ := ow.get q
        rw [h] at h1
        cases h1
        cases o with
        | d y => cases e; exact .inl h2.frz.2
        | lst xs =>
          have e : (items xs).map PyData.list = some x := e
          cases qi : items xs with
          | none => rw [qi] at e; cases e
          | some ds =>
            rw [qi] at e
            cases e
            rw [items_eq qi] at h2
            cases h2 with
            | lst ha r2 => exact .inr ⟨_, _, ds, rfl, rfl, ha, (OwnL.toFr r2).2⟩
        | dct _ => cases e
        | ins _ _ => cases e
theorem Rel.views (r : Rel K T Z R S σ H) {vs : List V} {as : List AV} (h : AvAll K Z σ vs as) : ∀ {xs : List PyData}, views S as = some xs → VwAll K Z H vs xs := by
  induction h with
  | nil => intro xs e; cases e; exact .nil
  | cons a _ ih =>
    intro xs e
    unfold PL.views at e
    split at e
    · rename_i h1 h2
      cases e
      exact .cons (r.view a h1) (ih h2)
    · cases e
theorem Vw.list {ds : List PyData} (h : Vw K Z H v (.list ds)) (s : Sub Z H) : ∃ a vs, v = .ref a ∧ Rd H a (.lst vs) ∧ FrAll K Z vs ds := by
  rcases h with h | ⟨a, vs, ds', e1, e2, h, r⟩
  · cases h with
    | lst h a => exact ⟨_, _, rfl, Rd.sub h s, a⟩
  · cases e2
    exact ⟨a, vs, e1, .inl h, r⟩
theorem Vw.fr (h : Vw K Z H v x) (n : ∀ ds, x ≠ .list ds) : Fr K Z v x := by
  rcases h with h | ⟨a, vs, ds', e1, e2, h, r⟩
  · exact h
  · exact absurd e2 (n ds')
theorem Vw.dp (h : Vw K Z H v x) (s : Sub Z H) (f : flat x = true) : Dp K H v x := by
  rcases h with h | ⟨a, vs, ds', e1, e2, h, r⟩
  · exact Dp.sub s (h.dp f)
  · subst e1 e2
    exact .lst (SqL.of h) (DpAll.sub s (r.dp (by simpa only [flat] using f)))
end

/-! ### readings -/
def ExPost (K : PySem.W.Frag) (T : List (Addr × Str)) (σ : L2.St) (Z R : Hp) (W : WX) (x : PyData) (S : SS) : Prop :=
  ∀ cls d H' Z', Sub Z Z' → Rel K T Z' R S σ H' → IsX K Z' cls d x → W cls d σ H'
/-- what is wanted: of the frozen heap, the rest, the answer, the slots -/
abbrev Post (α : Type) := Hp → Hp → α → SS → Prop
def PMono {α : Type} (P : Post α) : Prop := ∀ Z Z' R a S, Sub Z Z' → P Z R a S → P Z' R a S
def rz (X : Cx) (T : List (Addr × Str)) {α : Type} (P : Post α) (Z : Hp) (f : M α) (σ : L2.St) (H : Hp) : Prop :=
  ∃ R S r S' W, Rel X.K T Z R S σ H ∧ f S = some (r, S') ∧ Takes X W ∧
  match r with
  | .ok o => P Z R o S'
  | .error x => ExPost X.K T σ Z R W x S'
/-- a value; a bool; arguments; a view -/
def POk (K : PySem.W.Frag) (T : List (Addr × Str)) (σ : L2.St) (Q : VK) : Post OV := fun Z R o S => ∀ v H' Z', Sub Z Z' → Rel K T Z' R (some o :: S) (some v :: σ) H' → Q v H'
def PBo (K : PySem.W.Frag) (T : List (Addr × Str)) (σ : L2.St) (Q : Bool → Hp → Prop) : Post Bool := fun Z R b S => ∀ H' Z', Sub Z Z' → Rel K T Z' R S σ H' → Q b H'
def PAr (K : PySem.W.Frag) (T : List (Addr × Str)) (σ : L2.St) (Q : List V → Hp → Prop) : Post (List AV) := fun Z R as S => ∀ vs H' Z', Sub Z Z' → Rel K T Z' R S σ H' → AvAll K Z' σ vs as → Q vs H'
def PVw (K : PySem.W.Frag) (T : List (Addr × Str)) (σ : L2.St) (Q : VK) : Post AV := fun Z R a S => ∀ v H' Z', Sub Z Z' → Rel K T Z' R S σ H' → AvOk K Z' σ v a → Q v H'
theorem POk.mono {K : PySem.W.Frag} {T : List (Addr × Str)} {σ : L2.St} {Q : VK} : PMono (POk K T σ Q) := fun Z Z' R o S s p v H' Z'' s' => p v H' Z'' (s.trans s')
theorem PBo.mono {K : PySem.W.Frag} {T : List (Addr × Str)} {σ : L2.St} {Q : Bool → Hp → Prop} : PMono (PBo K T σ Q) := fun Z Z' R o S s p H' Z'' s' => p H' Z'' (s.trans s')
theorem PAr.mono {K : PySem.W.Frag} {T : List (Addr × Str)} {σ : L2.St} {Q : List V → Hp → Prop} : PMono (PAr K T σ Q) := fun Z Z' R o S s p v H' Z'' s' => p v H' Z'' (s.trans s')
theorem PVw.mono {K : PySem.W.Frag} {T : List (Addr × Str)} {σ : L2.St} {Q : VK} : PMono (PVw K T σ Q) := fun Z Z' R o S s p v H' Z'' s' => p v H' Z'' (s.trans s')
theorem ExPost.mono {K : PySem.W.Frag} {T : List (Addr × Str)} {σ : L2.St} {Z Z' R : Hp} {W : WX} {x : PyData} {S : SS} (s : Sub Z Z') (h : ExPost K T σ Z R W x S) : ExPost K T σ Z' R W x S := fun c d H' Z'' s' => h c d H' Z'' (s.trans s')

def rdg (X : Cx) (T : List (Addr × Str)) (f : M OV) : TE := fun σ H Q => ∃ Z, rz X T (POk X.K T σ Q) Z f σ H
def rvg (X : Cx) (T : List (Addr × Str)) (f : M AV) : TE := fun σ H Q => ∃ Z, rz X T (PVw X.K T σ Q) Z f σ H
def rtg (X : Cx) (T : List (Addr × Str)) (f : M Bool) : TT := fun σ H Q => ∃ Z, rz X T (PBo X.K T σ Q) Z f σ H
def rag (X : Cx) (T : List (Addr × Str)) (f : M (List AV)) : TA := fun σ H Q => ∃ Z, rz X T (PAr X.K T σ Q) Z f σ H
abbrev EV (X : Cx) (T : List (Addr × Str)) (e : Expr) (f : M OV) : Prop := PE X e (rdg X T f)
abbrev EVV (X : Cx) (T : List (Addr × Str)) (e : Expr) (f : M AV) : Prop := PE X e (rvg X T f)
abbrev EVT (X : Cx) (T : List (Addr × Str)) (e : Expr) (f : M Bool) : Prop := PT X e (rtg X T f)
abbrev EVA (X : Cx) (T : List (Addr × Str)) (es : List Expr) (f : M (List AV)) : Prop := PA X es (rag X T f)
/-- the last step: an answer -/
def Fin (X : Cx) (T : List (Addr × Str)) (Z : Hp) (o : OV) : TE := fun σ H Q => ∃ R S, Rel X.K T Z R S σ H ∧ POk X.K T σ Q Z R o S

theorem pe_mono {X : Cx} {e : Expr} {t t' : TE} (h : PE X e t) (i : ∀ σ H Q, t' σ H Q → t σ H Q) : PE X e t' := ⟨fun pins s σ H Q I q => h.run pins s σ H Q I (i σ H Q q)⟩
theorem pt_mono {X : Cx} {e : Expr} {t t' : TT} (h : PT X e t) (i : ∀ σ H Q, t' σ H Q → t σ H Q) : PT X e t' := ⟨fun pins s σ H Q I q => h.run pins s σ H Q I (i σ H Q q)⟩
theorem pw_mono {X : Cx} {e : Expr} {t t' : TT} (h : PW X e t) (i : ∀ σ H Q, t' σ H Q → t σ H Q) : PW X e t' := ⟨fun wh pins s σ H Q I q => h.run wh pins s σ H Q I (i σ H Q q)⟩
theorem pa_mono {X : Cx} {e : List Expr} {t t' : TA} (h : PA X e t) (i : ∀ σ H Q, t' σ H Q → t σ H Q) : PA X e t' := ⟨fun pos pins s σ H Q I q => h.run pos pins s σ H Q I (i σ H Q q)⟩
theorem ps_mono {X : Cx} {e : Stmt} {t t' : TS} (h : PS X e t) (i : ∀ D σ H, t' D σ H → t D σ H) : PS X e t' := ⟨fun pins s σ H D I q => h.run pins s σ H D I (i D σ H q)⟩
theorem pss_mono {X : Cx} {e : List Stmt} {t t' : TS} (h : PSs X e t) (i : ∀ D σ H, t' D σ H → t D σ H) : PSs X e t' := ⟨fun pins s σ H D I q => h.run pins s σ H D I (i D σ H q)⟩

section
variable {X : Cx} {T : List (Addr × Str)} {Z Z' R : Hp} {S S' : SS} {σ : L2.St} {H : Hp} {Q : VK} {o : OV} {x : PyData} {W : WX} {α β : Type}
theorem Fin.val {v : V} (f : Fin X T Z (.d x) σ H Q) (h : Fr X.K Z v x) : Q v H := by
  obtain ⟨R, S, r, p⟩ := f
  exact p v H Z (Sub.refl Z) (r.push h)
theorem Fin.tup {vs : List V} {ds : List PyData} (f : Fin X T Z (.d (.tuple ds)) σ H Q) (h : FrAll X.K Z vs ds) : ∀ p, H p = none → Q (.ref p) (upd H p (.tup vs)) := fun p hp => by
  obtain ⟨R, S, r, q⟩ := f
  have r2 := r.frozen hp (.tup vs) (fun _ z => by cases z)
  have zp : Z p = none := by
    cases e : Z p with
    | none => rfl
    | some w => rw [r.z _ _ e] at hp; cases hp
  exact q _ _ (upd Z p (.tup vs)) (sub_upd _ zp) (r2.push (.tup (SqT.of upd_same) (h.sub (sub_upd _ zp))))
/-- a new list: of the slot's own, or frozen -/
def newL (own : Bool) (ds : List PyData) : OV := if own then .lst (ds.map .d) else .d (.list ds)
theorem Fin.lst {own : Bool} {vs : List V} {ds : List PyData} (f : Fin X T Z (newL own ds) σ H Q) (h : FrAll X.K Z vs ds) : ∀ p, H p = none → Q (.ref p) (upd H p (.lst vs)) := fun p hp => by
  obtain ⟨R, S, r, q⟩ := f
  have zp : Z p = none := by
    cases e : Z p with
    | none => rfl
    | some w => rw [r.z _ _ e] at hp; cases hp
  cases own with
  | false =>
    have r2 := r.frozen hp (.lst vs) (fun _ z => by cases z)
    exact q _ _ (upd Z p (.lst vs)) (sub_upd _ zp) (r2.push (.lst (Rd.of upd_same) (h.sub (sub_upd _ zp))))
  | true =>
    exact q _ _ Z (Sub.refl Z) (r.newOwn hp (.lst upd_same (OwnL.ofFr h)))

theorem rz_mono {P P' : Post α} {f : M α} (h : rz X T P Z f σ H) (i : ∀ Z R a S, P Z R a S → P' Z R a S) : rz X T P' Z f σ H := by
  obtain ⟨R, S, r, S', W, rel, e, tk, p⟩ := h
  refine ⟨R, S, r, S', W, rel, e, tk, ?_⟩
  cases r with
  | ok o => exact i _ _ _ _ p
  | error x => exact p
theorem bind_eq {f : M α} {g : α → M β} {S S' : SS} {r : Except PyData β} (e : (f >>= g) S = some (r, S')) : (∃ x, f S = some (.error x, S') ∧ r = .error x) ∨ ∃ a S1, f S = some (.ok a, S1) ∧ g a S1 = some (r, S') := by
  have e : M.bind f g S = some (r, S') := e
  unfold M.bind at e
  split at e
  · cases e
  · rename_i x S1 q
    cases e
    exact .inl ⟨_, q, rfl⟩
  · rename_i a S1 q
    exact .inr ⟨_, _, q, e⟩
/-- a view is taken, then the rest -/
theorem rv_bind {P : Post β} (hP : PMono P) {f : M AV} {g : AV → M β} (h : rz X T P Z (f >>= g) σ H) : rz X T (PVw X.K T σ fun v H1 => ∃ a Z1, Sub Z Z1 ∧ AvOk X.K Z1 σ v a ∧ rz X T P Z1 (g a) σ H1) Z f σ H := by
  obtain ⟨R, S, r, S', W, rel, e, tk, p⟩ := h
  rcases bind_eq e with ⟨x, ef, rfl⟩ | ⟨a, S1, ef, eg⟩
  · exact ⟨R, S, _, _, W, rel, ef, tk, p⟩
  · refine ⟨R, S, _, _, W, rel, ef, tk, fun v H1 Z1 s1 r1 a1 => ⟨a, Z1, s1, a1, R, S1, r, S', W, r1, eg, tk, ?_⟩⟩
    cases r with
    | ok o => exact hP _ _ _ _ _ s1 p
    | error z => exact ExPost.mono s1 p
/-- a value is made (any), then the rest over the value on top -/
theorem rd_bind {P : Post β} (hP : PMono P) {f : M OV} {g : OV → M β} (h : rz X T P Z (f >>= g) σ H) : rz X T (POk X.K T σ fun v H1 => ∃ o Z1 R S1 r S' W, Sub Z Z1 ∧ Rel X.K T Z1 R (some o :: S1) (some v :: σ) H1 ∧ g o S1 = some (r, S') ∧ Takes X W ∧
    match r with
    | .ok o => P Z1 R o S'
    | .error x => ExPost X.K T σ Z1 R W x S') Z f σ H := by
  obtain ⟨R, S, r, S', W, rel, e, tk, p⟩ := h
  rcases bind_eq e with ⟨x, ef, rfl⟩ | ⟨a, S1, ef, eg⟩
  · exact ⟨R, S, _, _, W, rel, ef, tk, p⟩
  · refine ⟨R, S, _, _, W, rel, ef, tk, fun v H1 Z1 s1 r1 => ⟨a, Z1, R, S1, r, S', W, s1, r1, eg, tk, ?_⟩⟩
    cases r with
    | ok o => exact hP _ _ _ _ _ s1 p
    | error z => exact ExPost.mono s1 p
theorem rt_bind {P : Post β} (hP : PMono P) {f : M Bool} {g : Bool → M β} (h : rz X T P Z (f >>= g) σ H) : rz X T (PBo X.K T σ fun b H1 => ∃ Z1, Sub Z Z1 ∧ rz X T P Z1 (g b) σ H1) Z f σ H := by
  obtain ⟨R, S, r, S', W, rel, e, tk, p⟩ := h
  rcases bind_eq e with ⟨x, ef, rfl⟩ | ⟨a, S1, ef, eg⟩
  · exact ⟨R, S, _, _, W, rel, ef, tk, p⟩
  · refine ⟨R, S, _, _, W, rel, ef, tk, fun H1 Z1 s1 r1 => ⟨Z1, s1, R, S1, r, S', W, r1, eg, tk, ?_⟩⟩
    cases r with
    | ok o => exact hP _ _ _ _ _ s1 p
    | error z => exact ExPost.mono s1 p
theorem ra_bind {P : Post β} (hP : PMono P) {f : M (List AV)} {g : List AV → M β} (h : rz X T P Z (f >>= g) σ H) : rz X T (PAr X.K T σ fun vs H1 => ∃ as Z1, Sub Z Z1 ∧ AvAll X.K Z1 σ vs as ∧ rz X T P Z1 (g as) σ H1) Z f σ H := by
  obtain ⟨R, S, r, S', W, rel, e, tk, p⟩ := h
  rcases bind_eq e with ⟨x, ef, rfl⟩ | ⟨a, S1, ef, eg⟩
  · exact ⟨R, S, _, _, W, rel, ef, tk, p⟩
  · refine ⟨R, S, _, _, W, rel, ef, tk, fun v H1 Z1 s1 r1 a1 => ⟨a, Z1, s1, a1, R, S1, r, S', W, r1, eg, tk, ?_⟩⟩
    cases r with
    | ok o => exact hP _ _ _ _ _ s1 p
    | error z => exact ExPost.mono s1 p
theorem rz_ret {P : Post α} {a : α} (h : rz X T P Z (M.ret a) σ H) : ∃ R S, Rel X.K T Z R S σ H ∧ P Z R a S := by
  obtain ⟨R, S, r, S', W, rel, e, tk, p⟩ := h
  cases e
  exact ⟨R, S, rel, p⟩
/-! frozen data of a value -/
def frD : OV → Option PyData
  | .d x => some x
  | _ => none
/-- an expression's frozen value as a view -/
def toV (f : M OV) : M AV := f >>= fun o => M.lift ((frD o).map .fr)
theorem evv_of {e : Expr} {f : M OV} (h : EV X T e f) : EVV X T e (toV f) := pe_mono h fun σ H Q ⟨Z, h⟩ => by
  refine ⟨Z, rz_mono (rd_bind PVw.mono h) fun Z R o S p v H1 Z1 s1 r1 => ?_⟩
  obtain ⟨o', Z2, R2, S2, r, S', W, s2, rel, e, tk, q⟩ := p v H1 Z1 s1 r1
  cases o' with
  | d x =>
    cases e
    obtain ⟨f1, r2⟩ := rel.popd
    exact q v H1 Z2 (Sub.refl _) r2 f1
  | _ => cases e

/-! ### operators by values -/
def op1 (op : PyData → Option OV) (a : AV) : M OV := fun S => match view S a with
  | some x => (op x).map fun o => (.ok o, S)
  | none => none
def op2 (op : PyData → PyData → Option OV) (a b : AV) : M OV := fun S => match view S a, view S b with
  | some x, some y => (op x y).map fun o => (.ok o, S)
  | _, _ => none
def opN (op : List PyData → Option OV) (as : List AV) : M OV := fun S => match views S as with
  | some xs => (op xs).map fun o => (.ok o, S)
  | none => none
/-- the operator's rule serves op -/
def OpG (X : Cx) (T : List (Addr × Str)) (r : R2) (op : PyData → PyData → Option OV) : Prop := ∀ (Z : Hp) (v w : V) (x y : PyData) (o : OV) (σ : L2.St) (H : Hp) (Q : VK), Sub Z H → Vw X.K Z H v x → Vw X.K Z H w y → op x y = some o → Fin X T Z o σ H Q → r v w H Q
def CallG (X : Cx) (T : List (Addr × Str)) (r : List V → Hp → VK → Prop) (op : List PyData → Option OV) : Prop := ∀ (Z : Hp) (vs : List V) (xs : List PyData) (o : OV) (σ : L2.St) (H : Hp) (Q : VK), Sub Z H → VwAll X.K Z H vs xs → op xs = some o → Fin X T Z o σ H Q → r vs H Q
def bin (fa fb : M AV) (op : PyData → PyData → Option OV) : M OV := fa >>= fun a => fb >>= fun b => op2 op a b
variable {a b c : Expr} {fa fb fc : M AV} {pos : Pos}
theorem rz_op2 {op : PyData → PyData → Option OV} {u w : AV} {v1 v2 : V} {P : Post OV} (h : rz X T P Z (op2 op u w) σ H) (h1 : AvOk X.K Z σ v1 u) (h2 : AvOk X.K Z σ v2 w) :
    ∃ x y o R S, Sub Z H ∧ Vw X.K Z H v1 x ∧ Vw X.K Z H v2 y ∧ op x y = some o ∧ Rel X.K T Z R S σ H ∧ P Z R o S := by
  obtain ⟨R, S, r, S', W, rel, e, tk, p⟩ := h
  unfold op2 at e
  split at e
  · rename_i x y e1 e2
    cases q : op x y with
    | none => rw [q] at e; cases e
    | some o =>
      rw [q] at e
      cases e
      exact ⟨x, y, o, R, S, rel.z, rel.view h1 e1, rel.view h2 e2, q, rel, p⟩
  · cases e
theorem rz_opN {op : List PyData → Option OV} {as : List AV} {vs : List V} {P : Post OV} (h : rz X T P Z (opN op as) σ H) (h1 : AvAll X.K Z σ vs as) :
    ∃ xs o R S, Sub Z H ∧ VwAll X.K Z H vs xs ∧ op xs = some o ∧ Rel X.K T Z R S σ H ∧ P Z R o S := by
  obtain ⟨R, S, r, S', W, rel, e, tk, p⟩ := h
  unfold opN at e
  split at e
  · rename_i xs e1
    cases q : op xs with
    | none => rw [q] at e; cases e
    | some o =>
      rw [q] at e
      cases e
      exact ⟨xs, o, R, S, rel.z, rel.views h1 e1, q, rel, p⟩
  · cases e
theorem tOp_of {r : R2} {op : PyData → PyData → Option OV} (hg : OpG X T r op) {σ : L2.St} {H : Hp} {Q : VK} (h : rdg X T (bin fa fb op) σ H Q) : tOp r (rvg X T fa) (rvg X T fb) σ H Q := by
  obtain ⟨Z, h⟩ := h
  refine ⟨Z, rz_mono (rv_bind POk.mono h) fun Z R a S p v H1 Z1 s1 r1 a1 => ?_⟩
  obtain ⟨u, Z2, s2, o2, h2⟩ := p v H1 Z1 s1 r1 a1
  refine ⟨Z2, rz_mono (rv_bind POk.mono h2) fun Z' R' b S' p' w H2 Z3 s3 r3 a3 => ?_⟩
  obtain ⟨u', Z4, s4, o4, h4⟩ := p' w H2 Z3 s3 r3 a3
  obtain ⟨x, y, o, R5, S5, sz, w1, w2, e, rel, pf⟩ := rz_op2 h4 (o2.sub s4) o4
  exact hg Z4 v w x y o σ H2 Q sz w1 w2 e ⟨R5, S5, rel, pf⟩
theorem ev_op {op : Operator} {r : R2} {g : PyData → PyData → Option OV} (ho : OpR X (binaryOp op) r) (hg : OpG X T r g) (ha : EVV X T a fa) (hb : EVV X T b fb) : EV X T (.BinOp a op b pos) (bin fa fb g) :=
  pe_mono (pe_op ho ha hb) fun _ _ _ h => tOp_of hg h
theorem ev_cmp {op : CmpOp} {r : R2} {g : PyData → PyData → Option OV} (ho : OpR X (compareOp op) r) (hg : OpG X T r g) (ha : EVV X T a fa) (hb : EVV X T b fb) (hm : behindInMarks op b = false := by first | exact nomark _ (by decide) (by decide) | rfl) : EV X T (.Compare a [op] [b] pos) (bin fa fb g) :=
  pe_mono (pe_cmpR ho ha hb hm) fun _ _ _ h => tOp_of hg h
/-- a value that is a bool, as a test -/
def isB : OV → Option Bool
  | .d (.bool b) => some b
  | _ => none
def asB (f : M OV) : M Bool := f >>= fun o => M.lift (isB o)
theorem asB_of {f : M OV} {Q : Bool → Hp → Prop} (h : rtg X T (asB f) σ H Q) : rdg X T f σ H fun v H1 => ∃ c, v = .bl c ∧ Q c H1 := by
  obtain ⟨Z, h⟩ := h
  refine ⟨Z, rz_mono (rd_bind PBo.mono h) fun Z R o S p v H1 Z1 s1 r1 => ?_⟩
  obtain ⟨o', Z2, R2, S2, r, S', W, s2, rel, e, tk, q⟩ := p v H1 Z1 s1 r1
  cases o' with
  | d x =>
    cases x with
    | bool b =>
      cases e
      obtain ⟨f1, r2⟩ := rel.popd
      cases f1
      exact ⟨b, rfl, q H1 Z2 (Sub.refl _) r2⟩
    | _ => cases e
  | _ => cases e
theorem evt_cmp {op : CmpOp} {r : R2} {g : PyData → PyData → Option OV} (ho : OpR X (compareOp op) r) (hg : OpG X T r g) (ha : EVV X T a fa) (hb : EVV X T b fb) (hm : behindInMarks op b = false := by first | exact nomark _ (by decide) (by decide) | rfl) : EVT X T (.Compare a [op] [b] pos) (asB (bin fa fb g)) :=
  pt_mono (pt_cmpR ho ha hb hm) fun σ H Q h => tOp_of hg (asB_of h)
end
end PL

/-! PL3: operators -/
namespace PL
open PySem PySem.Spec PyProof.Rows L2 LamX

theorem flat_of_canLay : ∀ d : PyData, d.canLay0 = true → flat d = true := by
  intro d
  refine PyData.rec (motive_1 := fun d => d.canLay0 = true → flat d = true) (motive_2 := fun ds => PyData.canLayAll0 ds = true → flatAll ds = true) (motive_3 := fun _ => True) (motive_4 := fun _ => True) ?_ ?_ ?_ ?_ ?_ ?_ ?_ ?_ ?_ ?_ ?_ ?_ d
  · intro _; rfl
  · intro _ _; rfl
  · intro _ _; rfl
  · intro _ _; rfl
  · intro xs ih h; simp only [PyData.canLay0] at h; simp only [flat]; exact ih h
  · intro xs ih h; simp only [PyData.canLay0] at h; simp only [flat]; exact ih h
  · intro _ _ h; simp [PyData.canLay0] at h
  · intro _; rfl
  · intro d ds h1 h2 h
    simp only [PyData.canLayAll0, Bool.and_eq_true] at h
    simp only [flatAll, Bool.and_eq_true]
    exact ⟨h1 h.1, h2 h.2⟩
  · exact trivial
  · intros; exact trivial
  · intros; exact trivial
theorem flat_of_shaped {d : PyData} (h : SeqAt.shaped d = true) : flat d = true := flat_of_canLay d (SeqAt.canLay_of_shaped h)

section
variable {X : Cx} {T : List (Addr × Str)} {Z H : Hp} {v w : V} {x y : PyData}
theorem Fr.sqT {v : V} {K : PySem.W.Frag} {ds : List PyData} (h : Fr K Z v (.tuple ds)) (s : Sub Z H) : ∃ a xs, v = .ref a ∧ SqT K H a xs ∧ FrAll K Z xs ds := by
  cases h with
  | tup h a => exact ⟨_, _, rfl, sqT_sub h s, a⟩
theorem Fr.rdL {v : V} {K : PySem.W.Frag} {ds : List PyData} (h : Fr K Z v (.list ds)) (s : Sub Z H) : ∃ a xs, v = .ref a ∧ Rd H a (.lst xs) ∧ FrAll K Z xs ds := by
  cases h with
  | lst h a => exact ⟨_, _, rfl, Rd.sub h s, a⟩
theorem Fr.intV {v : V} {K : PySem.W.Frag} {i : Int} (h : Fr K Z v (.int i)) : v = .int i := by cases h; rfl
theorem Fr.strV {v : V} {K : PySem.W.Frag} {i : Str} (h : Fr K Z v (.str i)) : v = .str i := by cases h; rfl
theorem Fr.blV {v : V} {K : PySem.W.Frag} {i : Bool} (h : Fr K Z v (.bool i)) : v = .bl i := by cases h; rfl
theorem Fr.nonV {v : V} {K : PySem.W.Frag} (h : Fr K Z v .none) : v = .non := by cases h; rfl

/-! ### ints -/
def oI (g : Int → Int → Option OV) : PyData → PyData → Option OV
  | .int i, .int j => g i j
  | _, _ => none
theorem oI_some {g : Int → Int → Option OV} {o : OV} (e : oI g x y = some o) : ∃ i j, x = .int i ∧ y = .int j ∧ g i j = some o := by
  unfold oI at e
  split at e
  · exact ⟨_, _, rfl, rfl, e⟩
  · cases e
theorem opg_int {r : R2} {g : Int → Int → Option OV} (h : ∀ (Z : Hp) i j o (σ : L2.St) (H : Hp) (Q : VK), g i j = some o → Fin X T Z o σ H Q → r (.int i) (.int j) H Q) : OpG X T r (oI g) := by
  intro Z v w x y o σ H Q sz fx fy e fin
  obtain ⟨i, j, rfl, rfl, e⟩ := oI_some e
  rw [(fx.fr (by intros; simp)).intV, (fy.fr (by intros; simp)).intV]
  exact h Z i j o σ H Q e fin
def okI (i : Int) : Option OV := some (.d (.int i))
def okB (b : Bool) : Option OV := some (.d (.bool b))
theorem opg_add : OpG X T (rI0 fun i j => .int (i + j)) (oI fun i j => okI (i + j)) := opg_int fun Z i j o σ H Q e f => by
  cases e
  exact ⟨i, j, rfl, rfl, f.val (.int _)⟩
def oSub := oI fun i j => okI (i - j)
theorem opg_sub : OpG X T (rI0 fun i j => .int (i - j)) oSub := opg_int fun Z i j o σ H Q e f => by
  cases e
  exact ⟨i, j, rfl, rfl, f.val (.int _)⟩
def cMul (i j : Int) : Bool := (decide (-(2 ^ 64) < i) && decide (i < 2 ^ 64)) || (decide (-(2 ^ 64) < j) && decide (j < 2 ^ 64))
def oMul := oI fun i j => if cMul i j then okI (i * j) else none
theorem opg_mul : OpG X T (rI CMul fun i j => .int (i * j)) oMul := opg_int fun Z i j o σ H Q e f => by
  split at e
  · rename_i h
    cases e
    refine ⟨i, j, rfl, rfl, ?_, f.val (.int _)⟩
    simp only [cMul, Bool.or_eq_true, Bool.and_eq_true, decide_eq_true_eq] at h
    exact h
  · cases e
def oFdiv := oI fun i j => if 0 < j ∧ j < 1073741824 then okI (i / j) else none
theorem opg_fdiv : OpG X T (rI CDiv fun i j => .int (i / j)) oFdiv := opg_int fun Z i j o σ H Q e f => by
  split at e
  · rename_i h
    cases e
    exact ⟨i, j, rfl, rfl, h, f.val (.int _)⟩
  · cases e
def oMod := oI fun i j => if 0 < j then okI (i % j) else none
theorem opg_mod : OpG X T (rI (fun _ j => 0 < j) fun i j => .int (i % j)) oMod := opg_int fun Z i j o σ H Q e f => by
  split at e
  · rename_i h
    cases e
    exact ⟨i, j, rfl, rfl, h, f.val (.int _)⟩
  · cases e
def oPow := oI fun i j => if 0 ≤ j ∧ j ≤ 1000000 ∧ i.natAbs < 2 ^ 64 then okI (i ^ j.toNat) else none
theorem opg_pow : OpG X T (rI CPow fun i j => .int (i ^ j.toNat)) oPow := opg_int fun Z i j o σ H Q e f => by
  split at e
  · rename_i h
    cases e
    exact ⟨i, j, rfl, rfl, h, f.val (.int _)⟩
  · cases e
def oLt := oI fun i j => okB (decide (i < j))
def oLe := oI fun i j => okB (decide (i ≤ j))
def oGt := oI fun i j => okB (decide (j < i))
def oGe := oI fun i j => okB (decide (j ≤ i))
theorem opg_lt : OpG X T (rI0 fun i j => .bl (decide (i < j))) oLt := opg_int fun Z i j o σ H Q e f => by
  cases e
  exact ⟨i, j, rfl, rfl, f.val (.bl _)⟩
theorem opg_le : OpG X T (rI0 fun i j => .bl (decide (i ≤ j))) oLe := opg_int fun Z i j o σ H Q e f => by
  cases e
  exact ⟨i, j, rfl, rfl, f.val (.bl _)⟩
theorem opg_gt : OpG X T (rI0 fun i j => .bl (decide (j < i))) oGt := opg_int fun Z i j o σ H Q e f => by
  cases e
  exact ⟨i, j, rfl, rfl, f.val (.bl _)⟩
theorem opg_ge : OpG X T (rI0 fun i j => .bl (decide (j ≤ i))) oGe := opg_int fun Z i j o σ H Q e f => by
  cases e
  exact ⟨i, j, rfl, rfl, f.val (.bl _)⟩

/-! ### + of everything -/
def rCatR : R2 := fun x y H Q => ∃ l b xs zs, x = .ref l ∧ y = .ref b ∧ Rd H l (.lst xs) ∧ Rd H b (.lst zs) ∧ xs.length + zs.length ≤ sizeLine ∧ ∀ p, H p = none → Q (.ref p) (upd H p (.lst (xs ++ zs)))
theorem Inv.lstR {pins : List (Addr × Obj)} {σ : L2.St} {s : Shared} {l : Addr} {xs : List V} (I : Inv X pins σ H s) (hH : Rd H l (.lst xs)) : xs.length ≤ sizeLine ∧ ∃ (its : List Value) (n : Nat), Vals xs its ∧ xs.length = its.length ∧ s.heap.get? l = some { cls := .type "list", data := .seq its.toArray n } := by
  obtain ⟨z, its, n, r, e⟩ := hH.ok I.hok
  exact ⟨z, its, n, r, r.length, e⟩
theorem op_catR : OpR X (binaryOp .Add) rCatR := by
  intro pins s σ H x y v u Q I rx ry h
  obtain ⟨l, b, xs, zs, rfl, rfl, hH, hB, hz, q⟩ := h
  cases rx
  cases ry
  obtain ⟨z, its, n, r, hl, e⟩ := Inv.lstR I hH
  obtain ⟨z2, its2, n2, r2, hl2, e2⟩ := Inv.lstR I hB
  refine PySem.P.add_list e e2 ?_ (by rw [List.size_toArray, List.size_toArray]; omega)
  have ea : its.toArray ++ its2.toArray = (its ++ its2).toArray := by simp
  rw [ea]
  exact ⟨.ref _, _, I.lnew (t' := s.toks) (r.append r2) (by rw [List.length_append]; omega), rfl, q _ I.fresh⟩
/-- x + y; own: a new list is the slot's own -/
def oAdd (own : Bool) : PyData → PyData → Option OV
  | .int i, .int j => okI (i + j)
  | .str x, .str y => if x.length + y.length ≤ sizeLine then some (.d (.str (x ++ y))) else none
  | .tuple xs, .tuple ys => if xs.length + ys.length ≤ sizeLine then some (.d (.tuple (xs ++ ys))) else none
  | .list xs, .list ys => if xs.length + ys.length ≤ sizeLine then some (newL own (xs ++ ys)) else none
  | _, _ => none
def rAddA (K : PySem.W.Frag) : R2 := fun x y H Q => ((rI0 fun i j => .int (i + j)) x y H Q ∨ (∃ i j, x = .str i ∧ y = .str j ∧ i.length + j.length ≤ sizeLine ∧ Q (.str (i ++ j)) H)) ∨ (rCatA K x y H Q ∨ rCatR x y H Q)
theorem op_addA : OpR X (binaryOp .Add) (rAddA X.K) := (op_add.or op_add_str).or (op_catA.or op_catR)
theorem opg_addA {own : Bool} : OpG X T (rAddA X.K) (oAdd own) := by
  intro Z v w x y o σ H Q sz fx fy e fin
  unfold oAdd at e
  split at e
  · cases e
    rw [(fx.fr (by intros; simp)).intV, (fy.fr (by intros; simp)).intV]
    exact .inl (.inl ⟨_, _, rfl, rfl, fin.val (.int _)⟩)
  · split at e
    · cases e
      rw [(fx.fr (by intros; simp)).strV, (fy.fr (by intros; simp)).strV]
      exact .inl (.inr ⟨_, _, rfl, rfl, by assumption, fin.val (.str _)⟩)
    · cases e
  · split at e
    · rename_i xs ys h
      cases e
      have fx := fx.fr (by intros; simp)
      have fy := fy.fr (by intros; simp)
      obtain ⟨a, vs, rfl, ha, ra⟩ := fx.sqT sz
      obtain ⟨b, ws, rfl, hb, rb⟩ := fy.sqT sz
      have l1 := ra.length
      have l2 := rb.length
      refine .inr (.inl ⟨a, b, vs, ws, rfl, rfl, ha, hb, by omega, fun z => ?_, fun _ z => ?_, fun _ _ => fin.tup (ra.append rb)⟩)
      · subst z
        cases ra
        exact fin.val fy
      · subst z
        cases rb
        rw [List.append_nil] at fin
        exact fin.val fx
    · cases e
  · split at e
    · rename_i xs ys h
      cases e
      obtain ⟨a, vs, rfl, ha, ra⟩ := fx.list sz
      obtain ⟨b, ws, rfl, hb, rb⟩ := fy.list sz
      have l1 := ra.length
      have l2 := rb.length
      exact .inr (.inr ⟨a, b, vs, ws, rfl, rfl, ha, hb, by omega, fin.lst (ra.append rb)⟩)
    · cases e
  · cases e

/-! ### == != is in -/
def oEq (x y : PyData) : Option OV := if SeqAt.shaped x && SeqAt.shaped y then okB (PyData.eqv x y) else none
def oNe (x y : PyData) : Option OV := if SeqAt.shaped x && SeqAt.shaped y then okB (!PyData.eqv x y) else none
theorem opg_eq : OpG X T (rEqD X.K) oEq := by
  intro Z v w x y o σ H Q sz fx fy e fin
  unfold oEq at e
  split at e
  · rename_i h
    rw [Bool.and_eq_true] at h
    cases e
    exact ⟨x, y, fx.dp sz (flat_of_shaped h.1), fy.dp sz (flat_of_shaped h.2), h.1, h.2, fin.val (.bl _)⟩
  · cases e
theorem opg_ne : OpG X T (rNeD X.K) oNe := by
  intro Z v w x y o σ H Q sz fx fy e fin
  unfold oNe at e
  split at e
  · rename_i h
    rw [Bool.and_eq_true] at h
    cases e
    exact ⟨x, y, fx.dp sz (flat_of_shaped h.1), fy.dp sz (flat_of_shaped h.2), h.1, h.2, fin.val (.bl _)⟩
  · cases e
def isNone : PyData → Bool
  | .none => true
  | _ => false
theorem Vw.isNone_eq (h : Vw X.K Z H v x) : decide (v = .non) = isNone x := by
  rcases h with h | ⟨a, vs, ds, rfl, rfl, _⟩
  · cases h <;> first | rfl | simp [isNone, excD]
  · rfl
def oIsN (x y : PyData) : Option OV := if isNone y then okB (isNone x) else none
def oNotN (x y : PyData) : Option OV := if isNone y then okB (!isNone x) else none
theorem isNone_eq : ∀ {y : PyData}, isNone y = true → y = .none
  | .none, _ => rfl
theorem opg_isN : OpG X T (fun x y H Q => y = .non ∧ Q (.bl (decide (x = .non))) H) oIsN := by
  intro Z v w x y o σ H Q sz fx fy e fin
  unfold oIsN at e
  split at e
  · rename_i h
    cases e
    rw [isNone_eq h] at fy
    refine ⟨(fy.fr (by intros; simp)).nonV, ?_⟩
    rw [fx.isNone_eq]
    exact fin.val (.bl _)
  · cases e
theorem opg_notN : OpG X T (fun x y H Q => y = .non ∧ Q (.bl (!decide (x = .non))) H) oNotN := by
  intro Z v w x y o σ H Q sz fx fy e fin
  unfold oNotN at e
  split at e
  · rename_i h
    cases e
    rw [isNone_eq h] at fy
    refine ⟨(fy.fr (by intros; simp)).nonV, ?_⟩
    rw [fx.isNone_eq]
    exact fin.val (.bl _)
  · cases e
end
end PL

/-! PL4: expressions -/
namespace PL
open PySem PySem.Spec PyProof.Rows L2 LamX
section
variable {X : Cx} {T : List (Addr × Str)} {a b c e : Expr} {es rest : List Expr} {fa fb fc : M AV} {f g : M OV} {ft fu : M Bool} {pos : Pos} {Z R : Hp} {S : SS} {σ : L2.St} {H : Hp}

/-! ### names, constants -/
/-- slot i as a view -/
def rdV (i : Nat) : M AV := fun S => match S[i]? with
  | some (some _) => some (.ok (.bw i), S)
  | _ => none
theorem evv_var {i : Nat} {x : Str} (hN : X.N[i]? = some x) (hv : Vis X.env.scope x) (hd : (x == ("__debug__" : Str)) = false := by decide) (hcd : (x == ("__classdict__" : Str)) = false := by decide) : EVV X T (.Name x pos) (rdV i) :=
  pe_mono (pe_var hN hv hd hcd) fun σ H Q ⟨Z, R, S, r, S', W, rel, e, tk, p⟩ => by
    unfold rdV at e
    split at e
    · rename_i o q
      cases e
      obtain ⟨L, ow, _⟩ := rel.own
      obtain ⟨v, _, _, h1, _⟩ := ow.get q
      exact ⟨v, h1, p v H Z (Sub.refl Z) rel h1⟩
    · cases e
/-- slot i, frozen from now on -/
def rdZ (i : Nat) : M OV := fun S => match S[i]? with
  | some (some (.d x)) => some (.ok (.d x), S)
  | some (some (.lst xs)) => (items xs).map fun ds => (.ok (.d (.list ds)), S.set i (some (.d (.list ds))))
  | _ => none
theorem Rel.freeze {K : PySem.W.Frag} (r : Rel K T Z R S σ H) {i : Nat} {xs : List OV} {ds : List PyData} (e : S[i]? = some (some (.lst xs))) (hi : items xs = some ds) :
    ∃ v Z', σ[i]? = some (some v) ∧ Sub Z Z' ∧ Fr K Z' v (.list ds) ∧ Rel K T Z' R (S.set i (some (.d (.list ds)))) σ H := by
  obtain ⟨L, ow, n, q⟩ := r.own
  obtain ⟨v, Li, Lr, h1, h2, h3, h4⟩ := ow.get e
  rw [items_eq hi] at h2
  have hlen := ow.length
  have hlt : i < S.length := (List.getElem?_eq_some_iff.mp e).1
  cases h2 with
  | @lst a vs _ L2 ha r2 =>
    obtain ⟨rfl, fr⟩ := OwnL.toFr r2
    have n2 := (h4.nodup_iff).mp n
    have n3 : a ∉ Lr ∧ Lr.Nodup := by simpa using n2
    have hZ : Z a = none := (q a (h4.mem_iff.mpr (List.mem_append_left _ List.mem_cons_self))).1
    have hR : R a = none := (q a (h4.mem_iff.mpr (List.mem_append_left _ List.mem_cons_self))).2
    have sb := sub_upd (Z := Z) (p := a) (.lst vs) hZ
    refine ⟨.ref a, upd Z a (.lst vs), h1, sb, .lst (Rd.of upd_same) (fr.sub sb), ?_⟩
    have h5 := (h3.mono (Z' := upd Z a (.lst vs)) (H' := H) sb fun _ _ => rfl)
    obtain ⟨M, h6, D, h7⟩ := h5.put (i := i) (v := .ref a) (x := .d (.list ds)) (Li := []) (.d (.lst (Rd.of upd_same) (fr.sub sb))) (by simpa using hlt)
    have es : (S.set i none).set i (some (.d (.list ds))) = S.set i (some (.d (.list ds))) := by rw [List.set_set]
    have eσ : σ.set i (some (.ref a)) = σ := by
      apply List.ext_getElem?
      intro j
      by_cases hj : i = j
      · subst hj
        rw [List.getElem?_set_self (List.getElem?_eq_some_iff.mp h1).1, h1]
      · rw [List.getElem?_set_ne hj]
    rw [es, eσ] at h6
    have h7' : Lr.Perm (D ++ M) := by simpa using h7
    obtain ⟨n4, n5⟩ := nodup_sub ⟨D, h7'⟩ n3.2
    refine ⟨⟨M, h6, n4, fun c hc => ?_⟩, fun c o ec => ?_, r.r, fun c ps ec => ?_, r.rt, fun c o ec => ?_, r.tab⟩
    · have hcL := n5 c hc
      have hca : c ≠ a := fun z => n3.1 (z ▸ hcL)
      have := q c (h4.mem_iff.mpr (List.mem_append_right _ hcL))
      exact ⟨by rw [upd_ne hca]; exact this.1, this.2⟩
    · by_cases hca : c = a
      · subst hca; rw [upd_same] at ec; rw [← ec]; exact ha
      · rw [upd_ne hca] at ec; exact r.z c o ec
    · by_cases hca : c = a
      · subst hca; rw [upd_same] at ec; cases ec
      · rw [upd_ne hca] at ec; exact r.zt c ps ec
    · by_cases hca : c = a
      · subst hca; exact hR
      · rw [upd_ne hca] at ec; exact r.zr c o ec
theorem ev_var {i : Nat} {x : Str} (hN : X.N[i]? = some x) (hv : Vis X.env.scope x) (hd : (x == ("__debug__" : Str)) = false := by decide) (hcd : (x == ("__classdict__" : Str)) = false := by decide) : EV X T (.Name x pos) (rdZ i) :=
  pe_mono (pe_var hN hv hd hcd) fun σ H Q ⟨Z, R, S, r, S', W, rel, e, tk, p⟩ => by
    unfold rdZ at e
    split at e
    · rename_i x q
      cases e
      obtain ⟨v, h1, f⟩ := rel.get q
      exact ⟨v, h1, p v H Z (Sub.refl Z) (rel.push f)⟩
    · rename_i xs q
      cases hi : items xs with
      | none => rw [hi] at e; cases e
      | some ds =>
        rw [hi] at e
        cases e
        obtain ⟨v, Z', h1, sb, f, rel'⟩ := rel.freeze q hi
        exact ⟨v, h1, p v H Z' sb (rel'.push f)⟩
    · cases e
/-- slot i given away -/
def mvS (i : Nat) : M OV := fun S => match S[i]? with
  | some (some o) => some (.ok o, S.set i none)
  | _ => none
theorem ev_move {i : Nat} {x : Str} (hN : X.N[i]? = some x) (hv : Vis X.env.scope x) (hd : (x == ("__debug__" : Str)) = false := by decide) (hcd : (x == ("__classdict__" : Str)) = false := by decide) : EV X T (.Name x pos) (mvS i) :=
  pe_mono (pe_var hN hv hd hcd) fun σ H Q ⟨Z, R, S, r, S', W, rel, e, tk, p⟩ => by
    unfold mvS at e
    split at e
    · rename_i o q
      cases e
      obtain ⟨L, ow, n, k⟩ := rel.own
      obtain ⟨v, Li, Lr, h1, h2, h3, h4⟩ := ow.get q
      exact ⟨v, h1, p v H Z (Sub.refl Z) ⟨⟨Li ++ Lr, .own h2 h3, (h4.nodup_iff).mp n, fun a ha => k a (h4.mem_iff.mpr ha)⟩, rel.z, rel.r, rel.zt, rel.rt, rel.zr, rel.tab⟩⟩
    · cases e
def cst (x : PyData) : M OV := M.ret (.d x)
theorem ev_cst {v : V} {x : PyData} (h : PE X e (tC v)) (f : ∀ Z, Fr X.K Z v x) : EV X T e (cst x) := pe_mono h fun σ H Q ⟨Z, h⟩ => by
  obtain ⟨R, S, rel, p⟩ := rz_ret h
  exact p v H Z (Sub.refl Z) (rel.push (f Z))
theorem ev_int {i : Int} {j : Nat} : EV X T (.Constant (.int i) j pos) (cst (.int i)) := ev_cst pe_int fun _ => .int i
theorem ev_bl {i : Bool} {j : Nat} : EV X T (.Constant (.bool i) j pos) (cst (.bool i)) := ev_cst pe_bl fun _ => .bl i
theorem ev_str {i : Str} {j : Nat} : EV X T (.Constant (.str i) j pos) (cst (.str i)) := ev_cst pe_str fun _ => .str i
theorem ev_non {j : Nat} : EV X T (.Constant .none j pos) (cst .none) := ev_cst pe_non fun _ => .non
/-- a constant of the module -/
theorem ev_glob {x : Str} {v : V} {u : Value} {d : PyData} (hg : Gl X x) (hm : X.mg x = some u) (r : RelV v u) (f : ∀ Z, Fr X.K Z v d) (hd : (x == ("__debug__" : Str)) = false := by decide) : EV X T (.Name x pos) (cst d) := ev_cst (pe_glob hg hm r hd) f

/-! ### arguments -/
def argsNil : M (List AV) := M.ret []
def argsCons (f : M AV) (g : M (List AV)) : M (List AV) := f >>= fun a => g >>= fun as => M.ret (a :: as)
theorem eva_nil : EVA X T [] argsNil := pa_mono pa_nil fun σ H Q ⟨Z, h⟩ => by
  obtain ⟨R, S, rel, p⟩ := rz_ret h
  exact p [] H Z (Sub.refl Z) rel .nil
theorem eva_cons {g : M (List AV)} (ha : EVV X T e fa) (hr : EVA X T es g) (hs : starEach (e :: es) X.env = (false, eval e X.env) :: starEach es X.env := by rfl) : EVA X T (e :: es) (argsCons fa g) :=
  pa_mono (pa_cons ha hr hs) fun σ H Q ⟨Z, h⟩ => by
    refine ⟨Z, rz_mono (rv_bind PAr.mono h) fun Z R a S p v H1 Z1 s1 r1 a1 => ?_⟩
    obtain ⟨u, Z2, s2, o2, h2⟩ := p v H1 Z1 s1 r1 a1
    refine ⟨Z2, rz_mono (ra_bind PAr.mono h2) fun Z' R' as S' p' vs H2 Z3 s3 r3 a3 => ?_⟩
    obtain ⟨us, Z4, s4, o4, h4⟩ := p' vs H2 Z3 s3 r3 a3
    obtain ⟨R5, S5, rel, pf⟩ := rz_ret h4
    exact pf _ H2 Z4 (Sub.refl _) rel (.cons (o2.sub s4) o4)
/-- f(..), f built in, by its answer op -/
def callN (g : M (List AV)) (op : List PyData → Option OV) : M OV := g >>= fun as => opN op as
theorem tCB_of {r : List V → Hp → VK → Prop} {op : List PyData → Option OV} {h : M (List AV)} (hg : CallG X T r op) {Q : VK} (q : rdg X T (callN h op) σ H Q) : tCB r (rag X T h) σ H Q := by
  obtain ⟨Z, q⟩ := q
  refine ⟨Z, rz_mono (ra_bind POk.mono q) fun Z R as S p vs H1 Z1 s1 r1 a1 => ?_⟩
  obtain ⟨us, Z2, s2, o2, h2⟩ := p vs H1 Z1 s1 r1 a1
  obtain ⟨xs, o, R5, S5, sz, w, e, rel, pf⟩ := rz_opN h2 o2
  exact hg Z2 vs xs o σ H1 Q sz w e ⟨R5, S5, rel, pf⟩
theorem ev_callB {x : Str} {p : Pos} {id : String} {r : List V → Hp → VK → Prop} {op : List PyData → Option OV} {g : M (List AV)} (hc : CallR X (.builtin id) r) (ho : CallG X T r op) (hg : Gl X x) (hm : X.mg x = none) (hv : bootBuiltins x = some (.builtin id)) (ha : EVA X T (e :: es) g)
    (hn : x ≠ "__name__" := by decide) (hdb : (x == ("__debug__" : Str)) = false := by decide) (he : starEach (e :: es) X.env = (false, eval e X.env) :: starEach es X.env := by rfl) (hpl : (backTo pos (starEach es X.env)).any (·.1) = false := by rfl) : EV X T (.Call (.Name x p) (e :: es) [] pos) (callN g op) :=
  pe_mono (pe_callB hc hg hm hv ha hn hdb he hpl) fun σ H Q h => tCB_of ho h
theorem ev_callTy {x : Str} {p : Pos} {id : String} {r : List V → Hp → VK → Prop} {op : List PyData → Option OV} {g : M (List AV)} (hc : CallR X (.type id) r) (ho : CallG X T r op) (hg : Gl X x) (hm : X.mg x = none) (hv : bootBuiltins x = some (.type id)) (ha : EVA X T (e :: es) g)
    (hn : x ≠ "__name__" := by decide) (hdb : (x == ("__debug__" : Str)) = false := by decide) (he : starEach (e :: es) X.env = (false, eval e X.env) :: starEach es X.env := by rfl) (hpl : (backTo pos (starEach es X.env)).any (·.1) = false := by rfl) : EV X T (.Call (.Name x p) (e :: es) [] pos) (callN g op) :=
  pe_mono (pe_callTy hc hg hm hv ha hn hdb he hpl) fun σ H Q h => tCB_of ho h

/-! ### displays -/
/-- frozen arguments alone -/
def frs : List AV → Option (List PyData)
  | [] => some []
  | .fr x :: r => (frs r).map (x :: ·)
  | _ :: _ => none
theorem AvAll.frs {K : PySem.W.Frag} {vs : List V} {as : List AV} (h : AvAll K Z σ vs as) : ∀ {xs : List PyData}, frs as = some xs → FrAll K Z vs xs := by
  induction h with
  | nil => intro xs e; cases e; exact .nil
  | @cons v vs a as h0 h1 ih =>
    intro xs e
    cases a with
    | bw i => cases e
    | fr x =>
      unfold PL.frs at e
      cases q : PL.frs as with
      | none => rw [q] at e; cases e
      | some ys =>
        rw [q] at e
        cases e
        exact .cons h0 (ih q)
def mkTup (g : M (List AV)) : M OV := g >>= fun as => M.lift ((frs as).bind fun xs => if xs.length ≤ sizeLine then some (.d (.tuple xs)) else none)
def mkLst (own : Bool) (g : M (List AV)) : M OV := g >>= fun as => M.lift ((frs as).bind fun xs => if xs.length ≤ sizeLine then some (newL own xs) else none)
theorem rz_lift {α : Type} {P : Post α} {o : Option α} (h : rz X T P Z (M.lift o) σ H) : ∃ u R S, o = some u ∧ Rel X.K T Z R S σ H ∧ P Z R u S := by
  obtain ⟨R, S, r, S', W, rel, e, tk, p⟩ := h
  cases o with
  | none => cases e
  | some u => cases e; exact ⟨u, R, S, rfl, rel, p⟩
theorem ev_tup {k : Nat} {g : M (List AV)} (ha : EVA X T es g) : EV X T (.Tuple es k pos) (mkTup g) := pe_mono (pe_tup ha) fun σ H Q ⟨Z, h⟩ => by
  refine ⟨Z, rz_mono (ra_bind POk.mono h) fun Z R as S p vs H1 Z1 s1 r1 a1 => ?_⟩
  obtain ⟨us, Z2, s2, o2, h2⟩ := p vs H1 Z1 s1 r1 a1
  obtain ⟨o, R3, S3, e, rel, pf⟩ := rz_lift h2
  cases q : frs us with
  | none => rw [q] at e; cases e
  | some xs =>
    rw [q] at e
    have e : (if xs.length ≤ sizeLine then some (OV.d (.tuple xs)) else none) = some o := e
    split at e
    · cases e
      have fr := o2.frs q
      have hl := fr.length
      have fin : Fin X T Z2 (.d (.tuple xs)) σ H1 Q := ⟨R3, S3, rel, pf⟩
      exact ⟨by omega, fin.tup fr⟩
    · cases e
theorem ev_lst {own : Bool} {g : M (List AV)} (ha : EVA X T es g) : EV X T (.List es pos) (mkLst own g) := pe_mono (pe_lst ha) fun σ H Q ⟨Z, h⟩ => by
  refine ⟨Z, rz_mono (ra_bind POk.mono h) fun Z R as S p vs H1 Z1 s1 r1 a1 => ?_⟩
  obtain ⟨us, Z2, s2, o2, h2⟩ := p vs H1 Z1 s1 r1 a1
  obtain ⟨o, R3, S3, e, rel, pf⟩ := rz_lift h2
  cases q : frs us with
  | none => rw [q] at e; cases e
  | some xs =>
    rw [q] at e
    have e : (if xs.length ≤ sizeLine then some (newL own xs) else none) = some o := e
    split at e
    · cases e
      have fr := o2.frs q
      have hl := fr.length
      have fin : Fin X T Z2 (newL own xs) σ H1 Q := ⟨R3, S3, rel, pf⟩
      exact ⟨by omega, fin.lst fr⟩
    · cases e

/-! ### truth, and, or, not, if -/
def tru : PyData → Option Bool
  | .none => some false
  | .bool b => some b
  | .int i => some (i != 0)
  | .str s => if s.length ≤ sizeLine then some ((s.length : Int) != 0) else none
  | .list xs => some (!xs.isEmpty)
  | .tuple xs => some (!xs.isEmpty)
  | .dict _ => none
theorem Vw.tru {K : PySem.W.Frag} {v : V} {x : PyData} (h : Vw K Z H v x) (s : Sub Z H) {k : Bool} (e : tru x = some k) : TruV K v H k := by
  have emp : ∀ {vs : List V} {ds : List PyData}, FrAll K Z vs ds → ds.isEmpty = vs.isEmpty := fun r => by cases r <;> rfl
  cases x with
  | none => cases e; rw [(h.fr (by intros; simp)).nonV]; rfl
  | bool b => cases e; rw [(h.fr (by intros; simp)).blV]; rfl
  | int i => cases e; rw [(h.fr (by intros; simp)).intV]; rfl
  | str i =>
    rw [(h.fr (by intros; simp)).strV]
    have e : (if i.length ≤ sizeLine then some ((i.length : Int) != 0) else none) = some k := e
    split at e
    · cases e; exact ⟨by assumption, rfl⟩
    · cases e
  | list xs =>
    cases e
    obtain ⟨a, vs, rfl, ha, ra⟩ := h.list s
    exact .inl ⟨vs, .inl ha, by rw [emp ra]⟩
  | tuple xs =>
    cases e
    obtain ⟨a, vs, rfl, ha, ra⟩ := (h.fr (by intros; simp)).sqT s
    exact .inr (.inl ⟨vs, ha, by rw [emp ra]⟩)
  | dict _ => cases e
def truA (a : AV) : M Bool := fun S => match view S a with
  | some x => (tru x).map fun b => (.ok b, S)
  | none => none
theorem rz_truA {P : Post Bool} {u : AV} {v : V} (h : rz X T P Z (truA u) σ H) (h1 : AvOk X.K Z σ v u) : ∃ k R S, TruV X.K v H k ∧ Rel X.K T Z R S σ H ∧ P Z R k S := by
  obtain ⟨R, S, r, S', W, rel, e, tk, p⟩ := h
  unfold truA at e
  split at e
  · rename_i x e1
    cases q : tru x with
    | none => rw [q] at e; cases e
    | some k =>
      rw [q] at e
      cases e
      exact ⟨k, R, S, (rel.view h1 e1).tru rel.z q, rel, p⟩
  · cases e
def tstV (f : M AV) : M Bool := f >>= truA
theorem evt_val (ha : EVV X T a fa) (he : ∀ whole, isTrue a X.env whole = (do let v ← whole; standAt a.pos; holding [v] (truthy v)) := by intro _; rfl) : EVT X T a (tstV fa) := pt_mono (pt_truth ha he) fun σ H Q ⟨Z, h⟩ => by
  refine ⟨Z, rz_mono (rv_bind PBo.mono h) fun Z R a S p v H1 Z1 s1 r1 a1 => ?_⟩
  obtain ⟨u, Z2, s2, o2, h2⟩ := p v H1 Z1 s1 r1 a1
  obtain ⟨k, R3, S3, t, rel, pf⟩ := rz_truA h2 o2
  exact ⟨k, t, pf H1 Z2 (Sub.refl _) rel⟩
abbrev EVW (X : Cx) (T : List (Addr × Str)) (e : Expr) (f : M Bool) : Prop := PW X e (rtg X T f)
def andT (f g : M Bool) : M Bool := f >>= fun b => if b then g else M.ret false
def orT (f g : M Bool) : M Bool := f >>= fun b => if b then M.ret true else g
def notT (f : M Bool) : M Bool := f >>= fun b => M.ret (!b)
theorem evw_and1 (ha : EVT X T a ft) : EVW X T (.BoolOp .And [a] pos) ft := pw_and1 ha
theorem evw_or1 (ha : EVT X T a ft) : EVW X T (.BoolOp .Or [a] pos) ft := pw_or1 ha
theorem evw_and (ha : EVT X T a ft) (hb : EVW X T (.BoolOp .And (b :: rest) pos) fu) : EVW X T (.BoolOp .And (a :: b :: rest) pos) (andT ft fu) := pw_mono (pw_and ha hb) fun σ H Q ⟨Z, h⟩ => by
  refine ⟨Z, rz_mono (rt_bind PBo.mono h) fun Z R b S p H1 Z1 s1 r1 => ?_⟩
  obtain ⟨Z2, s2, h2⟩ := p H1 Z1 s1 r1
  cases b with
  | true => exact ⟨Z2, h2⟩
  | false =>
    obtain ⟨R3, S3, rel, pf⟩ := rz_ret h2
    exact pf H1 Z2 (Sub.refl _) rel
theorem evw_or (ha : EVT X T a ft) (hb : EVW X T (.BoolOp .Or (b :: rest) pos) fu) : EVW X T (.BoolOp .Or (a :: b :: rest) pos) (orT ft fu) := pw_mono (pw_or ha hb) fun σ H Q ⟨Z, h⟩ => by
  refine ⟨Z, rz_mono (rt_bind PBo.mono h) fun Z R b S p H1 Z1 s1 r1 => ?_⟩
  obtain ⟨Z2, s2, h2⟩ := p H1 Z1 s1 r1
  cases b with
  | false => exact ⟨Z2, h2⟩
  | true =>
    obtain ⟨R3, S3, rel, pf⟩ := rz_ret h2
    exact pf H1 Z2 (Sub.refl _) rel
theorem evt_w (h : EVW X T a ft) : EVT X T a ft := h.pt
theorem evt_not (ha : EVT X T a ft) : EVT X T (.UnaryOp .Not a pos) (notT ft) := pt_mono (pt_not ha) fun σ H Q ⟨Z, h⟩ => by
  refine ⟨Z, rz_mono (rt_bind PBo.mono h) fun Z R b S p H1 Z1 s1 r1 => ?_⟩
  obtain ⟨Z2, s2, h2⟩ := p H1 Z1 s1 r1
  obtain ⟨R3, S3, rel, pf⟩ := rz_ret h2
  exact pf H1 Z2 (Sub.refl _) rel
/-! .. as values -/
def truD : OV → Option (PyData × Bool)
  | .d x => (tru x).map fun b => (x, b)
  | _ => none
def andV (f g : M OV) : M OV := f >>= fun o => match truD o with
  | some (x, b) => if b then g else M.ret (.d x)
  | none => stuck
def orV (f g : M OV) : M OV := f >>= fun o => match truD o with
  | some (x, b) => if b then M.ret (.d x) else g
  | none => stuck
theorem rz_stuck {α : Type} {P : Post α} {C : Prop} (h : rz X T P Z stuck σ H) : C := by
  obtain ⟨R, S, r, S', W, rel, e, tk, p⟩ := h
  cases e
theorem truD_eq {o : OV} {x : PyData} {b : Bool} (h : truD o = some (x, b)) : o = .d x ∧ tru x = some b := by
  cases o with
  | d y =>
    have h : (tru y).map (fun b => (y, b)) = some (x, b) := h
    cases q : tru y with
    | none => rw [q] at h; cases h
    | some k => rw [q] at h; cases h; exact ⟨rfl, q⟩
  | _ => cases h
theorem ev_one {op : PySem.BoolOp} (h : EV X T a f) : EV X T (.BoolOp op [a] pos) f := pe_one h
theorem ev_and (ha : EV X T a f) (hb : EV X T (.BoolOp .And (b :: rest) pos) g) : EV X T (.BoolOp .And (a :: b :: rest) pos) (andV f g) := pe_mono (pe_andT ha hb) fun σ H Q ⟨Z, h⟩ => by
  refine ⟨Z, rz_mono (rd_bind POk.mono h) fun Z R o S p v H1 Z1 s1 r1 => ?_⟩
  obtain ⟨o', Z2, R2, S2, r, S', W, s2, rel, e, tk, q⟩ := p v H1 Z1 s1 r1
  cases q0 : truD o' with
  | none => rw [q0] at e; cases e
  | some xb =>
    obtain ⟨x, k⟩ := xb
    obtain ⟨rfl, tx⟩ := truD_eq q0
    rw [q0] at e
    obtain ⟨f1, r2⟩ := rel.popd
    refine ⟨k, Vw.tru (.inl f1) r2.z tx, ?_⟩
    cases k with
    | true => exact ⟨Z2, R2, S2, r, S', W, r2, e, tk, q⟩
    | false =>
      cases e
      exact q v H1 Z2 (Sub.refl _) rel
theorem ev_or (ha : EV X T a f) (hb : EV X T (.BoolOp .Or (b :: rest) pos) g) : EV X T (.BoolOp .Or (a :: b :: rest) pos) (orV f g) := pe_mono (pe_orT ha hb) fun σ H Q ⟨Z, h⟩ => by
  refine ⟨Z, rz_mono (rd_bind POk.mono h) fun Z R o S p v H1 Z1 s1 r1 => ?_⟩
  obtain ⟨o', Z2, R2, S2, r, S', W, s2, rel, e, tk, q⟩ := p v H1 Z1 s1 r1
  cases q0 : truD o' with
  | none => rw [q0] at e; cases e
  | some xb =>
    obtain ⟨x, k⟩ := xb
    obtain ⟨rfl, tx⟩ := truD_eq q0
    rw [q0] at e
    obtain ⟨f1, r2⟩ := rel.popd
    refine ⟨k, Vw.tru (.inl f1) r2.z tx, ?_⟩
    cases k with
    | false => exact ⟨Z2, R2, S2, r, S', W, r2, e, tk, q⟩
    | true =>
      cases e
      exact q v H1 Z2 (Sub.refl _) rel
def notV (f : M AV) : M OV := f >>= fun a => truA a >>= fun b => M.ret (.d (.bool (!b)))
theorem ev_not (ha : EVV X T a fa) : EV X T (.UnaryOp .Not a pos) (notV fa) := pe_mono (pe_notT ha) fun σ H Q ⟨Z, h⟩ => by
  refine ⟨Z, rz_mono (rv_bind POk.mono h) fun Z R a S p v H1 Z1 s1 r1 a1 => ?_⟩
  obtain ⟨u, Z2, s2, o2, h2⟩ := p v H1 Z1 s1 r1 a1
  obtain ⟨k, R3, S3, t, rel, pf⟩ := rz_truA (rz_mono (rt_bind POk.mono h2) fun Z R a S h => h) o2
  obtain ⟨Z4, s4, h4⟩ := pf H1 Z2 (Sub.refl _) rel
  obtain ⟨R5, S5, rel5, p5⟩ := rz_ret h4
  exact ⟨k, t, p5 (.bl (!k)) H1 Z4 (Sub.refl _) (rel5.push (.bl _))⟩
def ifE {α : Type} (c : M Bool) (f g : M α) : M α := c >>= fun b => if b then f else g
theorem ev_if (hc : EVT X T c ft) (ha : EV X T a f) (hb : EV X T b g) : EV X T (.IfExp c a b pos) (ifE ft f g) := pe_mono (pe_ifExp hc ha hb) fun σ H Q ⟨Z, h⟩ => by
  refine ⟨Z, rz_mono (rt_bind POk.mono h) fun Z R b S p H1 Z1 s1 r1 => ?_⟩
  obtain ⟨Z2, s2, h2⟩ := p H1 Z1 s1 r1
  cases b with
  | true => exact ⟨Z2, h2⟩
  | false => exact ⟨Z2, h2⟩

/-! ### a op1 b op2 c -/
def chain (fa fb fc : M AV) (g g' : PyData → PyData → Option OV) : M OV := fa >>= fun a => fb >>= fun b => op2 g a b >>= fun o => match isB o with
  | some true => fc >>= fun c => op2 g' b c
  | some false => cst (.bool false)
  | none => stuck
theorem tChain_of {r r' : R2} {g g' : PyData → PyData → Option OV} (hg : OpG X T r g) (hg' : OpG X T r' g') {Q : VK} (h : rdg X T (chain fa fb fc g g') σ H Q) : tChain r r' (rvg X T fa) (rvg X T fb) (rvg X T fc) σ H Q := by
  obtain ⟨Z, h⟩ := h
  refine ⟨Z, rz_mono (rv_bind POk.mono h) fun Z R a S p v H1 Z1 s1 r1 a1 => ?_⟩
  obtain ⟨u, Z2, s2, o2, h2⟩ := p v H1 Z1 s1 r1 a1
  refine ⟨Z2, rz_mono (rv_bind POk.mono h2) fun Z' R' b S' p' w H2 Z3 s3 r3 a3 => ?_⟩
  obtain ⟨u', Z4, s4, o4, h4⟩ := p' w H2 Z3 s3 r3 a3
  have h5 := rd_bind POk.mono h4
  obtain ⟨x, y, o, R5, S5, sz, w1, w2, e, rel, pf⟩ := rz_op2 h5 (o2.sub s4) o4
  refine hg Z4 v w x y o σ H2 _ sz w1 w2 e ⟨R5, S5, rel, fun z H3 Z5 s5 rel5 => ?_⟩
  obtain ⟨o', Z6, R6, S6, r, S', W, s6, rel6, e6, tk, q⟩ := pf z H3 Z5 s5 rel5
  cases q0 : isB o' with
  | none => rw [q0] at e6; cases e6
  | some k =>
    rw [q0] at e6
    have hz : o' = .d (.bool k) := by
      cases o' with
      | d x => cases x with
        | bool b => cases q0; rfl
        | _ => cases q0
      | _ => cases q0
    subst hz
    obtain ⟨f1, r6⟩ := rel6.popd
    cases f1
    refine ⟨k, rfl, ?_⟩
    cases k with
    | false =>
      cases e6
      exact q (.bl false) H3 Z6 (Sub.refl _) rel6
    | true =>
      have h7 : rz X T (POk X.K T σ Q) Z6 (fc >>= fun c => op2 g' u' c) σ H3 := ⟨R6, S6, r, S', W, r6, e6, tk, q⟩
      refine ⟨Z6, rz_mono (rv_bind POk.mono h7) fun Z R a S p v3 H4 Z7 s7 r7 a7 => ?_⟩
      obtain ⟨u3, Z8, s8, o8, h8⟩ := p v3 H4 Z7 s7 r7 a7
      obtain ⟨x', y', o9, R9, S9, sz9, w19, w29, e9, rel9, pf9⟩ := rz_op2 h8 ((o4.sub s6).sub s8) o8
      exact hg' Z8 w v3 x' y' o9 σ H4 Q sz9 w19 w29 e9 ⟨R9, S9, rel9, pf9⟩
theorem ev_chain {op op' : CmpOp} {r r' : R2} {g g' : PyData → PyData → Option OV} (ho : OpR X (compareOp op) r) (hg : OpG X T r g) (ho' : OpR X (compareOp op') r') (hg' : OpG X T r' g') (ha : EVV X T a fa) (hb : EVV X T b fb) (hc : EVV X T c fc)
    (hm : lastMarks [op, op'] [b, c] = false := by with_unfolding_all rfl) : EV X T (.Compare a [op, op'] [b, c] pos) (chain fa fb fc g g') := pe_mono (pe_chain ho ho' ha hb hc hm) fun σ H Q h => tChain_of hg hg' h
theorem evt_chain {op op' : CmpOp} {r r' : R2} {g g' : PyData → PyData → Option OV} (ho : OpR X (compareOp op) r) (hg : OpG X T r g) (ho' : OpR X (compareOp op') r') (hg' : OpG X T r' g') (ha : EVV X T a fa) (hb : EVV X T b fb) (hc : EVV X T c fc)
    (hm : lastMarks [op, op'] [b, c] = false := by with_unfolding_all rfl) : EVT X T (.Compare a [op, op'] [b, c] pos) (asB (chain fa fb fc g g')) := pt_mono (pt_chain ho ho' ha hb hc hm) fun σ H Q h => tChain_of hg hg' (asB_of h)
end
end PL

/-! PL5: frames, calls of defs, statements -/
namespace PL
open PySem PySem.Spec PyProof.Rows L2 LamX

/-! ### frames -/
def fr (R H : Hp) (L : List Addr) : Hp := fun a => if a ∈ L then H a else R a
section
variable {K : PySem.W.Frag} {T : List (Addr × Str)} {Z Z' R H H' : Hp} {S S1 S2 S' : SS} {σ σ1 σ2 σ' : L2.St} {A B L : List Addr}
theorem fr_in {a : Addr} (h : a ∈ L) : fr R H L a = H a := if_pos h
theorem fr_out {a : Addr} (h : a ∉ L) : fr R H L a = R a := if_neg h
/-- part of the roots put into the frame -/
theorem Rel.frame (r : Rel K T Z R S σ H) (o1 : OwnS K Z H σ1 S1 A) (o2 : OwnS K Z H σ2 S2 B) (n : (A ++ B).Nodup) (q : ∀ a ∈ A ++ B, Z a = none ∧ R a = none) : Rel K T Z (fr R H B) S1 σ1 H := by
  obtain ⟨nA, nB, dj⟩ := List.nodup_append.mp n
  have dj : ∀ a ∈ A, a ∉ B := fun a ha hb => dj a ha a hb rfl
  refine ⟨⟨A, o1, nA, fun a ha => ⟨(q a (List.mem_append_left _ ha)).1, ?_⟩⟩, r.z, fun a o e => ?_, r.zt, fun a ps e => ?_, fun a o e => ?_, r.tab⟩
  · rw [fr_out (dj a ha)]; exact (q a (List.mem_append_left _ ha)).2
  · by_cases h : a ∈ B
    · rw [fr_in h] at e; exact e
    · rw [fr_out h] at e; exact r.r a o e
  · by_cases h : a ∈ B
    · rw [fr_in h] at e
      obtain ⟨o, ho, hn⟩ := o2.at_ a h
      rw [e] at ho
      exact hn ps (Option.some.inj ho).symm
    · rw [fr_out h] at e; exact r.rt a ps e
  · by_cases h : a ∈ B
    · have := (q a (List.mem_append_right _ h)).1
      rw [e] at this; cases this
    · rw [fr_out h]; exact r.zr a o e
/-- .. and back -/
theorem Rel.unframe (r : Rel K T Z' (fr R H B) S1 σ1 H') (s : Sub Z Z') (o2 : OwnS K Z H σ2 S2 B) (nB : B.Nodup) (rB : ∀ a ∈ B, R a = none) :
    ∃ A', OwnS K Z' H' σ1 S1 A' ∧ OwnS K Z' H' σ2 S2 B ∧ (A' ++ B).Nodup ∧ (∀ a ∈ A' ++ B, Z' a = none ∧ R a = none) ∧
      ∀ {S3 : SS} {σ3 : L2.St} {C : List Addr}, OwnS K Z' H' σ3 S3 C → C.Nodup → (∀ a ∈ C, a ∈ A' ++ B) → Rel K T Z' R S3 σ3 H' := by
  obtain ⟨A', o1, n1, q1⟩ := r.own
  have hB : ∀ a ∈ B, H' a = H a := fun a ha => by
    obtain ⟨o, ho, _⟩ := o2.at_ a ha
    rw [ho]
    exact r.r a o (by rw [fr_in ha, ho])
  have hZ : ∀ a ∈ B, Z' a = none := fun a ha => by
    cases e : Z' a with
    | none => rfl
    | some o =>
      have := r.zr a o e
      rw [fr_in ha] at this
      obtain ⟨o, ho, _⟩ := o2.at_ a ha
      rw [ho] at this; cases this
  have dj : ∀ a ∈ A', a ∉ B := fun a ha hb => by
    have := (q1 a ha).2
    rw [fr_in hb] at this
    obtain ⟨o, ho, _⟩ := o2.at_ a hb
    rw [ho] at this; cases this
  have qA : ∀ a ∈ A' ++ B, Z' a = none ∧ R a = none := fun a ha => by
    rcases List.mem_append.mp ha with ha | ha
    · refine ⟨(q1 a ha).1, ?_⟩
      have := (q1 a ha).2
      rwa [fr_out (dj a ha)] at this
    · exact ⟨hZ a ha, rB a ha⟩
  refine ⟨A', o1, o2.mono s hB, List.nodup_append.mpr ⟨n1, nB, fun a ha b hb e => dj a ha (e ▸ hb)⟩, qA, fun {S3 σ3 C} o3 n3 q3 => ⟨⟨C, o3, n3, fun a ha => qA a (q3 a ha)⟩, r.z, fun a o e => ?_, r.zt, fun a ps e => ?_, fun a o e => ?_, r.tab⟩⟩
  · have nb : a ∉ B := fun h => by rw [rB a h] at e; cases e
    exact r.r a o (by rw [fr_out nb]; exact e)
  · have nb : a ∉ B := fun h => by rw [rB a h] at e; cases e
    exact r.rt a ps (by rw [fr_out nb]; exact e)
  · have h := r.zr a o e
    by_cases nb : a ∈ B
    · exact rB a nb
    · rwa [fr_out nb] at h

/-! ### arguments handed over -/
def takes : List AV → SS → Option (List OV × SS)
  | [], S => some ([], S)
  | .fr x :: as, S => (takes as S).map fun p => (.d x :: p.1, p.2)
  | .bw i :: as, S => match S[i]? with
    | some (some (.d x)) => (takes as S).map fun p => (.d x :: p.1, p.2)
    | some (some o) => (takes as (S.set i none)).map fun p => (o :: p.1, p.2)
    | _ => none
/-- what was lent comes back -/
def gives : List AV → SS → List OV → SS → SS
  | .fr _ :: as, S, _ :: os, S1 => gives as S os S1
  | .bw i :: as, S, o :: os, S1 => match S[i]? with
    | some (some (.d _)) => gives as S os S1
    | _ => gives as (S.set i none) os (S1.set i (some o))
  | _, _, _, S1 => S1
theorem perm_swap (A B C : List Addr) : (A ++ (B ++ C)).Perm (B ++ (A ++ C)) := by
  rw [← List.append_assoc, ← List.append_assoc]
  exact List.Perm.append_right _ List.perm_append_comm
theorem takes_own {as : List AV} {vs : List V} (h : AvAll K Z σ vs as) : ∀ {S S1 : SS} {os : List OV} {L : List Addr}, OwnS K Z H σ S L → takes as S = some (os, S1) →
    ∃ A B, OwnS K Z H (vs.map some) (os.map some) A ∧ OwnS K Z H σ S1 B ∧ L.Perm (A ++ B) := by
  induction h with
  | nil => intro S S1 os L o e; cases e; exact ⟨[], L, .emp, o, List.Perm.refl _⟩
  | @cons v vs a as h0 h1 ih =>
    intro S S1 os L o e
    cases a with
    | fr x =>
      unfold takes at e
      cases q : takes as S with
      | none => rw [q] at e; cases e
      | some p =>
        rw [q] at e
        cases e
        obtain ⟨A, B, o1, o2, pm⟩ := ih o q
        exact ⟨[] ++ A, B, .own (.d h0) o1, o2, pm⟩
    | bw i =>
      have h0 : σ[i]? = some (some v) := h0
      have e : (match S[i]? with
        | some (some (.d x)) => (takes as S).map fun p => (OV.d x :: p.1, p.2)
        | some (some o) => (takes as (S.set i none)).map fun p => (o :: p.1, p.2)
        | _ => none) = some (os, S1) := e
      cases q0 : S[i]? with
      | none => rw [q0] at e; cases e
      | some oo =>
        cases oo with
        | none => rw [q0] at e; cases e
        | some ov =>
          obtain ⟨v', Li, Lr, g1, g2, g3, g4⟩ := o.get q0
          rw [h0] at g1
          cases g1
          rw [q0] at e
          have other : (takes as (S.set i none)).map (fun p => (ov :: p.1, p.2)) = some (os, S1) → ∃ A B, OwnS K Z H ((v :: vs).map some) (os.map some) A ∧ OwnS K Z H σ S1 B ∧ L.Perm (A ++ B) := fun e => by
            cases q : takes as (S.set i none) with
            | none => rw [q] at e; cases e
            | some p =>
              rw [q] at e
              cases e
              obtain ⟨A, B, o1, o2, pm⟩ := ih g3 q
              refine ⟨Li ++ A, B, .own g2 o1, o2, g4.trans ?_⟩
              rw [List.append_assoc]
              exact List.Perm.append_left Li pm
          cases ov with
          | d x =>
            have e : (takes as S).map (fun p => (OV.d x :: p.1, p.2)) = some (os, S1) := e
            cases q : takes as S with
            | none => rw [q] at e; cases e
            | some p =>
              rw [q] at e
              cases e
              obtain ⟨A, B, o1, o2, pm⟩ := ih o q
              exact ⟨[] ++ A, B, .own (.d g2.frz.2) o1, o2, pm⟩
          | lst xs => exact other e
          | dct xs => exact other e
          | ins C fs => exact other e
theorem set_same {i : Nat} {v : V} (e : σ[i]? = some (some v)) : σ.set i (some v) = σ := by
  apply List.ext_getElem?
  intro j
  by_cases hj : i = j
  · subst hj
    rw [List.getElem?_set_self (List.getElem?_eq_some_iff.mp e).1, e]
  · rw [List.getElem?_set_ne hj]
theorem gives_own {as : List AV} {vs : List V} (h : AvAll K Z σ vs as) : ∀ {S S1 : SS} {os : List OV} {A B : List Addr}, S.length = S1.length → OwnS K Z' H' (vs.map some) (os.map some) A → OwnS K Z' H' σ S1 B →
    ∃ C D, OwnS K Z' H' σ (gives as S os S1) C ∧ (A ++ B).Perm (D ++ C) := by
  induction h with
  | nil =>
    intro S S1 os A B hl o1 o2
    cases os with
    | nil => exact ⟨B, A, o2, List.Perm.refl _⟩
    | cons o os => cases o1
  | @cons v vs a as h0 h1 ih =>
    intro S S1 os A B hl o1 o2
    cases os with
    | nil => cases o1
    | cons o os =>
      have o1 : OwnS K Z' H' (some v :: vs.map some) (some o :: os.map some) A := o1
      cases o1 with
      | @own _ _ _ _ L1 M1 g1 g2 =>
        have keep : ∃ C D, OwnS K Z' H' σ (gives as S os S1) C ∧ (L1 ++ M1 ++ B).Perm (D ++ C) := by
          obtain ⟨C, D, o3, pm⟩ := ih hl g2 o2
          refine ⟨C, L1 ++ D, o3, ?_⟩
          rw [List.append_assoc, List.append_assoc]
          exact List.Perm.append_left L1 pm
        cases a with
        | fr x => exact keep
        | bw i =>
          have h0 : σ[i]? = some (some v) := h0
          have back : ∃ C D, OwnS K Z' H' σ (gives as (S.set i none) os (S1.set i (some o))) C ∧ (L1 ++ M1 ++ B).Perm (D ++ C) := by
            have hi : i < S1.length := by
              rw [← o2.length]
              exact (List.getElem?_eq_some_iff.mp h0).1
            obtain ⟨M, o3, D1, pm1⟩ := o2.put (i := i) g1 hi
            rw [set_same h0] at o3
            obtain ⟨C, D, o4, pm2⟩ := ih (S := S.set i none) (by simpa using hl) g2 o3
            refine ⟨C, D1 ++ D, o4, ?_⟩
            have p1 : (L1 ++ M1 ++ B).Perm (M1 ++ (L1 ++ B)) := by rw [List.append_assoc]; exact perm_swap _ _ _
            have p2 : (M1 ++ (L1 ++ B)).Perm (M1 ++ (D1 ++ M)) := List.Perm.append_left M1 pm1
            have p3 : (M1 ++ (D1 ++ M)).Perm (D1 ++ (M1 ++ M)) := perm_swap _ _ _
            rw [List.append_assoc D1]
            exact p1.trans (p2.trans (p3.trans (List.Perm.append_left D1 pm2)))
          show ∃ C D, OwnS K Z' H' σ (match S[i]? with
            | some (some (.d _)) => gives as S os S1
            | _ => gives as (S.set i none) os (S1.set i (some o))) C ∧ _
          split
          · exact keep
          · exact back
end

/-! ### defs -/
abbrev DF : Type := List OV → Option (Except PyData OV × List OV)
/-- the promise: g tells what comes of the arguments, and what they hold then -/
def spF (K : PySem.W.Frag) (T : List (Addr × Str)) (n : Nat) (g : DF) : Sp := fun vs H Q E => vs.length = n ∧ ∃ Z R os r os', Rel K T Z R (os.map some) (vs.map some) H ∧ g os = some (r, os') ∧
  match r with
  | .ok o => ∀ v H' Z', Sub Z Z' → Rel K T Z' R (some o :: os'.map some) (some v :: vs.map some) H' → Q v H'
  | .error x => ∀ cls d H' Z', Sub Z Z' → Rel K T Z' R (os'.map some) (vs.map some) H' → IsX K Z' cls d x → E cls d H'
abbrev DefOk (P : Program) (w : World) (K : PySem.W.Frag) (T : List (Addr × Str)) (mg : Str → Option Value) (base : Heap) (k : Nat) (f : Addr) (fd : FuncData) (ps : List Str) (g : DF) : Prop :=
  FnOk P w K mg base (L2.CX P w) k f fd ps (spF K T ps.length g)
theorem DefOk.imp {P : Program} {w : World} {K : PySem.W.Frag} {T : List (Addr × Str)} {mg : Str → Option Value} {base : Heap} {k : Nat} {f : Addr} {fd : FuncData} {ps : List Str} {g g' : DF} (F : DefOk P w K T mg base k f fd ps g)
    (h : ∀ os p, g' os = some p → g os = some p) : DefOk P w K T mg base k f fd ps g' := FnOk.imp F fun vs H Q E ⟨hl, Z, R, os, r, os', rel, e, q⟩ => ⟨hl, Z, R, os, r, os', rel, h _ _ e, q⟩
theorem AvAll.length {K : PySem.W.Frag} {Z : Hp} {σ : L2.St} {vs : List V} {as : List AV} (h : AvAll K Z σ vs as) : vs.length = as.length := by
  induction h with
  | nil => rfl
  | cons _ _ ih => rw [List.length_cons, List.length_cons, ih]
def handF (g : DF) (as : List AV) : M OV := fun S => match takes as S with
  | some (os, S1) => match g os with
    | some (r, os') => some (r, gives as S os' S1)
    | none => none
  | none => none
def callF (n : Nat) (g : DF) (fa : M (List AV)) : M OV := fa >>= fun as => if as.length = n then handF g as else stuck
theorem takes_len {as : List AV} : ∀ {S S1 : SS} {os : List OV}, takes as S = some (os, S1) → S.length = S1.length ∧ os.length = as.length := by
  induction as with
  | nil => intro S S1 os e; cases e; exact ⟨rfl, rfl⟩
  | cons a as ih =>
    intro S S1 os e
    have step : ∀ {S0 : SS} {o : OV}, (takes as S0).map (fun p => (o :: p.1, p.2)) = some (os, S1) → S0.length = S.length → S.length = S1.length ∧ os.length = (a :: as).length := fun {S0 o} e hl => by
      cases q : takes as S0 with
      | none => rw [q] at e; cases e
      | some p =>
        rw [q] at e
        cases e
        obtain ⟨h1, h2⟩ := ih q
        exact ⟨by omega, by simp [h2]⟩
    cases a with
    | fr x => exact step e rfl
    | bw i =>
      unfold takes at e
      split at e
      · exact step e rfl
      · exact step e (by simp)
      · cases e
section
variable {X : Cx} {T : List (Addr × Str)} {e : Expr} {es : List Expr} {pos p : Pos} {Z R : Hp} {S : SS} {σ : L2.St} {H : Hp}
theorem call_ok {k : Nat} {f : Addr} {fd : FuncData} {ps : List Str} {g : DF} {pins : List (Addr × Obj)} {s1 : Shared} {us : List Value} {vs : List V} {as : List AV} {S' : SS} {r : Except PyData OV} {W : WX} {Q : VK}
    (F : DefOk X.prog X.w X.K T X.mg X.base k f fd ps g) (hr : Room k X.A) (hb : Binds X.K fd ps []) (I : Inv X pins σ H s1) (rv : Vals vs us) (hn : as.length = ps.length) (rel : Rel X.K T Z R S σ H) (av : AvAll X.K Z σ vs as)
    (e : handF g as S = some (r, S')) (tk : Takes X W)
    (q : match r with
      | .ok o => POk X.K T σ Q Z R o S'
      | .error x => ExPost X.K T σ Z R W x S') : wpAny (model X.prog X.w) X.A (call (.ref f) us) (EP X pins σ Q) X.xe s1 := by
  unfold handF at e
  cases et : takes as S with
  | none => rw [et] at e; cases e
  | some t =>
    obtain ⟨os, S1⟩ := t
    rw [et] at e
    cases eg : g os with
    | none => simp only [eg] at e; cases e
    | some t2 =>
      obtain ⟨r2, os'⟩ := t2
      simp only [eg, Option.some.injEq, Prod.mk.injEq] at e
      obtain ⟨rfl, rfl⟩ := e
      obtain ⟨L, ow, n, qz⟩ := id rel.own
      obtain ⟨A, B, o1, o2, pm⟩ := takes_own av ow et
      obtain ⟨tl, tl2⟩ := takes_len et
      have n2 := (pm.nodup_iff).mp n
      have qAB : ∀ a ∈ A ++ B, Z a = none ∧ R a = none := fun a ha => qz a (pm.mem_iff.mpr ha)
      have rel1 : Rel X.K T Z (fr R H B) (os.map some) (vs.map some) H := rel.frame o1 o2 n2 qAB
      have nB : B.Nodup := (List.nodup_append.mp n2).2.1
      have rB : ∀ a ∈ B, R a = none := fun a ha => (qAB a (List.mem_append_right _ ha)).2
      have hvl : vs.length = as.length := av.length
      refine run_fnSD (E := fun _ cls d H' => W cls d σ H') F hr hb .nil (fun pins' H2 s2 e2 s' I2 c2 => tk _ _ (XE.of_call I2 (fun _ _ _ h => h) c2)) I rv ?_
      rw [List.append_nil]
      refine ⟨hvl.trans hn, Z, fr R H B, os, r2, os', rel1, eg, ?_⟩
      cases r2 with
      | ok o =>
        intro v H' Z' s' rel2
        obtain ⟨A', p1, p2, p3, p4, p5⟩ := rel2.unframe s' o2 nB rB
        cases p1 with
        | @own _ _ _ _ Lo Lp w1 w2 =>
          obtain ⟨C, D, g1, g2⟩ := gives_own (S := S) av tl w2 p2
          have pmC : (Lo ++ Lp ++ B).Perm (D ++ (Lo ++ C)) := by
            rw [List.append_assoc]
            exact (List.Perm.append_left Lo g2).trans (perm_swap _ _ _)
          obtain ⟨n3, n4⟩ := nodup_sub ⟨D, pmC⟩ p3
          exact q v H' Z' s' (p5 (.own w1 g1) n3 n4)
      | error x =>
        intro cls d H' Z' s' rel2 ix
        obtain ⟨A', p1, p2, p3, p4, p5⟩ := rel2.unframe s' o2 nB rB
        obtain ⟨C, D, g1, g2⟩ := gives_own (S := S) av tl p1 p2
        obtain ⟨n3, n4⟩ := nodup_sub ⟨D, g2⟩ p3
        exact q cls d H' Z' s' (p5 g1 n3 n4) ix
theorem ev_call {k : Nat} {f : Addr} {fd : FuncData} {ps : List Str} {g : DF} {x : Str} {fa : M (List AV)} (F : DefOk X.prog X.w X.K T X.mg X.base k f fd ps g) (hr : Room k X.A) (hg : Gl X x) (hm : X.mg x = some (.ref f)) (hk : PySem.W.keepIn X.K (.ref f) = true) (hb : Binds X.K fd ps [])
    (ha : EVA X T (e :: es) fa) (hdb : (x == ("__debug__" : Str)) = false := by decide) (he : starEach (e :: es) X.env = (false, eval e X.env) :: starEach es X.env := by rfl) (hpl : (backTo pos (starEach es X.env)).any (·.1) = false := by rfl) : EV X T (.Call (.Name x p) (e :: es) [] pos) (callF ps.length g fa) := by
  refine ⟨fun pins s σ H Q I ⟨Z, h⟩ => ?_⟩
  refine wpAny_Call_Name_kw (ld_glob I hg hm ?_ hdb)
  obtain ⟨R, S, r, S', W, rel, er, tk, pq⟩ := h
  rcases bind_eq er with ⟨y, ef, rfl⟩ | ⟨as, S1, ef, eg⟩
  · refine PySem.W.callWith_K (h₀ := X.base) I.ok.mod.kin hk (thn (ha.run pos pins s σ H (fun _ _ => False) I ⟨Z, R, S, _, _, W, rel, ef, tk, pq⟩) fun us s1 ⟨vs, H1, I1, r, q⟩ => q.elim) he hpl
  · refine PySem.W.callWith_K (h₀ := X.base) I.ok.mod.kin hk (thn (ha.run pos pins s σ H (fun vs H1 => ∃ Z1, Sub Z Z1 ∧ Rel X.K T Z1 R S1 σ H1 ∧ AvAll X.K Z1 σ vs as) I ⟨Z, R, S, _, _, W, rel, ef, tk, fun vs H1 Z1 s1 r1 a1 => ⟨Z1, s1, r1, a1⟩⟩) fun us s1 ⟨vs, H1, I1, rv, Z1, sb, rel1, av⟩ => ⟨I1.kIn, ?_⟩) he hpl
    have eg : (if as.length = ps.length then handF g as else stuck) S1 = some (r, S') := eg
    split at eg
    · rename_i hn
      refine call_ok F hr hb I1 rv hn rel1 av eg tk ?_
      cases r with
      | ok o => exact POk.mono _ _ _ _ _ sb pq
      | error x => exact ExPost.mono sb pq
    · cases eg
theorem ev_call0 {k : Nat} {f : Addr} {fd : FuncData} {g : DF} {x : Str} (F : DefOk X.prog X.w X.K T X.mg X.base k f fd [] g) (hr : Room k X.A) (hg : Gl X x) (hm : X.mg x = some (.ref f)) (hk : PySem.W.keepIn X.K (.ref f) = true) (hb : Binds X.K fd [] [])
    (hdb : (x == ("__debug__" : Str)) = false := by decide) : EV X T (.Call (.Name x p) [] [] pos) (callF 0 g argsNil) := by
  refine ⟨fun pins s σ H Q I ⟨Z, h⟩ => ?_⟩
  refine wpAny_Call_Name_kw (ld_glob I hg hm ?_ hdb)
  obtain ⟨R, S, r, S', W, rel, er, tk, pq⟩ := h
  refine PySem.W.callWith_K0 I.kIn hk (call_ok (us := []) (vs := []) (as := []) F hr hb I .nil rfl rel .nil er tk ?_)
  cases r with
  | ok o => exact pq
  | error x => exact pq
end
end PL

/-! PL6: statements -/
namespace PL
open PySem PySem.Spec PyProof.Rows L2 LamX

inductive Fl where
  | nx | bk | ct
  | ret (o : OV)
  | exc (x : PyData)
abbrev SM : Type := SS → Option (Fl × SS)
/-- the slots mp hold what they held -/
def Pin (mp : List Nat) (P : Nat → V) (σ : L2.St) : Prop := ∀ i ∈ mp, σ[i]? = some (some (P i))
def PFl (K : PySem.W.Frag) (T : List (Addr × Str)) (mp : List Nat) (P : Nat → V) (D : Ends) (W : WX) (Z R : Hp) (S : SS) : Fl → Prop
  | .nx => ∀ σ' H' Z', Sub Z Z' → Rel K T Z' R S σ' H' → Pin mp P σ' → D.nx σ' H'
  | .bk => ∀ σ' H' Z', Sub Z Z' → Rel K T Z' R S σ' H' → Pin mp P σ' → D.bk σ' H'
  | .ct => ∀ σ' H' Z', Sub Z Z' → Rel K T Z' R S σ' H' → Pin mp P σ' → D.ct σ' H'
  | .ret o => ∀ v σ' H' Z', Sub Z Z' → Rel K T Z' R (some o :: S) (some v :: σ') H' → Pin mp P σ' → D.rt v H'
  | .exc x => ∀ cls d σ' H' Z', Sub Z Z' → Rel K T Z' R S σ' H' → Pin mp P σ' → IsX K Z' cls d x → W cls d σ' H'
def rsz (X : Cx) (T : List (Addr × Str)) (mp : List Nat) (Z : Hp) (f : SM) : TS := fun D σ H => ∃ R S r S' W P, Rel X.K T Z R S σ H ∧ Pin mp P σ ∧ f S = some (r, S') ∧ Takes X W ∧ PFl X.K T mp P D W Z R S' r
def rsg (X : Cx) (T : List (Addr × Str)) (mp : List Nat) (f : SM) : TS := fun D σ H => ∃ Z, rsz X T mp Z f D σ H
abbrev SV (X : Cx) (T : List (Addr × Str)) (mp : List Nat) (st : Stmt) (f : SM) : Prop := PS X st (rsg X T mp f)
abbrev SVs (X : Cx) (T : List (Addr × Str)) (mp : List Nat) (st : List Stmt) (f : SM) : Prop := PSs X st (rsg X T mp f)
theorem PFl.sub {K : PySem.W.Frag} {T : List (Addr × Str)} {mp : List Nat} {P : Nat → V} {D : Ends} {W : WX} {Z Z' R : Hp} {S : SS} {r : Fl} (s : Sub Z Z') (h : PFl K T mp P D W Z R S r) : PFl K T mp P D W Z' R S r := by
  cases r with
  | nx => exact fun σ' H' Z'' s' => h σ' H' Z'' (s.trans s')
  | bk => exact fun σ' H' Z'' s' => h σ' H' Z'' (s.trans s')
  | ct => exact fun σ' H' Z'' s' => h σ' H' Z'' (s.trans s')
  | ret o => exact fun v σ' H' Z'' s' => h v σ' H' Z'' (s.trans s')
  | exc x => exact fun c d σ' H' Z'' s' => h c d σ' H' Z'' (s.trans s')

def seqS (f g : SM) : SM := fun S => match f S with
  | some (.nx, S1) => g S1
  | r => r
def skipS : SM := fun S => some (.nx, S)
/-- an expression, then what is done of its value -/
def doE {α : Type} (f : M α) (g : α → SM) : SM := fun S => match f S with
  | some (.ok o, S1) => g o S1
  | some (.error x, S1) => some (.exc x, S1)
  | none => none
section
variable {X : Cx} {T : List (Addr × Str)} {mp : List Nat} {st : Stmt} {sts rest a b : List Stmt} {e c : Expr} {f g h : SM} {fe : M OV} {ft : M Bool} {pos : Pos}
theorem rsz_mono {D D' : Ends} {Z : Hp} {σ : L2.St} {H : Hp} (h : rsz X T mp Z f D σ H) (h1 : ∀ σ H, D.nx σ H → D'.nx σ H) (h2 : ∀ σ H, D.bk σ H → D'.bk σ H) (h3 : ∀ σ H, D.ct σ H → D'.ct σ H) (h4 : ∀ v H, D.rt v H → D'.rt v H) : rsz X T mp Z f D' σ H := by
  obtain ⟨R, S, r, S', W, P, rel, pn, e, tk, q⟩ := h
  refine ⟨R, S, r, S', W, P, rel, pn, e, tk, ?_⟩
  cases r with
  | nx => exact fun σ' H' Z' s r p => h1 _ _ (q σ' H' Z' s r p)
  | bk => exact fun σ' H' Z' s r p => h2 _ _ (q σ' H' Z' s r p)
  | ct => exact fun σ' H' Z' s r p => h3 _ _ (q σ' H' Z' s r p)
  | ret o => exact fun v σ' H' Z' s r p => h4 _ _ (q v σ' H' Z' s r p)
  | exc x => exact q
theorem svs_nil : SVs X T mp [] skipS := pss_mono pss_nil fun D σ H ⟨Z, R, S, r, S', W, P, rel, pn, e, tk, q⟩ => by
  cases e
  exact q σ H Z (Sub.refl _) rel pn
theorem svs_one (h1 : SV X T mp st f) : SVs X T mp [st] f := pss_one h1
theorem svs_cons (h1 : SV X T mp st f) (h2 : SVs X T mp rest g) : SVs X T mp (st :: rest) (seqS f g) := pss_mono (pss_cons h1 h2) fun D σ H ⟨Z, R, S, r, S', W, P, rel, pn, e, tk, q⟩ => by
  unfold seqS at e
  split at e
  · rename_i S1 e1
    refine ⟨Z, R, S, _, _, W, P, rel, pn, e1, tk, fun σ' H' Z' s rel' pn' => ?_⟩
    exact ⟨Z', R, S1, r, S', W, P, rel', pn', e, tk, PFl.sub s q⟩
  · rename_i r' hr
    refine ⟨Z, R, S, _, _, W, P, rel, pn, e, tk, ?_⟩
    cases r with
    | nx => exact absurd e (hr S')
    | bk => exact q
    | ct => exact q
    | ret o => exact q
    | exc x => exact q
theorem sv_pass : SV X T mp (.Pass pos) skipS := ps_mono ps_pass fun D σ H ⟨Z, R, S, r, S', W, P, rel, pn, e, tk, q⟩ => by
  cases e
  exact q σ H Z (Sub.refl _) rel pn
def bkS : SM := fun S => some (.bk, S)
def ctS : SM := fun S => some (.ct, S)
theorem sv_break : SV X T mp (.Break pos) bkS := ps_mono ps_break fun D σ H ⟨Z, R, S, r, S', W, P, rel, pn, e, tk, q⟩ => by
  cases e
  exact q σ H Z (Sub.refl _) rel pn
theorem sv_continue : SV X T mp (.Continue pos) ctS := ps_mono ps_continue fun D σ H ⟨Z, R, S, r, S', W, P, rel, pn, e, tk, q⟩ => by
  cases e
  exact q σ H Z (Sub.refl _) rel pn
theorem sv_doc {x : Str} {j : Nat} {pos' : Pos} : SV X T mp (.Expr (.Constant (.str x) j pos) pos') skipS := ps_mono ps_doc fun D σ H ⟨Z, R, S, r, S', W, P, rel, pn, e, tk, q⟩ => by
  cases e
  exact q σ H Z (Sub.refl _) rel pn
/-- the expression's part of a statement -/
theorem doE_of {D : Ends} {σ : L2.St} {H : Hp} {g : OV → SM} (h : rsg X T mp (doE fe g) D σ H) :
    rdg X T fe σ H fun v H1 => ∃ o Z1 R S1 r S' W P, Rel X.K T Z1 R (some o :: S1) (some v :: σ) H1 ∧ Pin mp P σ ∧ g o S1 = some (r, S') ∧ Takes X W ∧ PFl X.K T mp P D W Z1 R S' r := by
  obtain ⟨Z, R, S, r, S', W, P, rel, pn, e, tk, q⟩ := h
  unfold doE at e
  split at e
  · rename_i o S1 e1
    exact ⟨Z, R, S, _, _, W, rel, e1, tk, fun v H' Z' s rel' => ⟨o, Z', R, S1, r, S', W, P, rel', pn, e, tk, PFl.sub s q⟩⟩
  · rename_i x S1 e1
    cases e
    exact ⟨Z, R, S, _, _, W, rel, e1, tk, fun cls d H' Z' s rel' ix => q cls d σ H' Z' s rel' pn ix⟩
  · cases e

theorem doT_of {D : Ends} {σ : L2.St} {H : Hp} {g : Bool → SM} (h : rsg X T mp (doE ft g) D σ H) :
    rtg X T ft σ H fun b H1 => rsg X T mp (g b) D σ H1 := by
  obtain ⟨Z, R, S, r, S', W, P, rel, pn, e, tk, q⟩ := h
  unfold doE at e
  split at e
  · rename_i o S1 e1
    exact ⟨Z, R, S, _, _, W, rel, e1, tk, fun H' Z' s rel' => ⟨Z', R, S1, r, S', W, P, rel', pn, e, tk, PFl.sub s q⟩⟩
  · rename_i x S1 e1
    cases e
    exact ⟨Z, R, S, _, _, W, rel, e1, tk, fun cls d H' Z' s rel' ix => q cls d σ H' Z' s rel' pn ix⟩
  · cases e
def exprS (fe : M OV) : SM := doE fe fun _ => skipS
theorem sv_expr (he : EV X T e fe) (hs : swapsWith e none pos.line X.env = pure false := by rfl) : SV X T mp (.Expr e pos) (exprS fe) := ps_mono (ps_expr he hs) fun D σ H h => by
  obtain ⟨Z, h⟩ := doE_of h
  refine ⟨Z, rz_mono h fun Z R o S p v H1 Z1 s1 r1 => ?_⟩
  obtain ⟨o, Z1, R, S1, r, S', W, P, rel, pn, e, tk, q⟩ := p v H1 Z1 s1 r1
  cases e
  exact q σ H1 Z1 (Sub.refl _) rel.pop pn
def retS (fe : M OV) : SM := doE fe fun o S => some (.ret o, S)
theorem sv_ret (he : EV X T e fe) : SV X T mp (.Return (some e) pos) (retS fe) := ps_mono (ps_ret he) fun D σ H h => by
  obtain ⟨Z, h⟩ := doE_of h
  refine ⟨Z, rz_mono h fun Z R o S p v H1 Z1 s1 r1 => ?_⟩
  obtain ⟨o, Z1, R, S1, r, S', W, P, rel, pn, e, tk, q⟩ := p v H1 Z1 s1 r1
  cases e
  exact q v σ H1 Z1 (Sub.refl _) rel pn
def retN : SM := fun S => some (.ret (.d .none), S)
theorem sv_retN : SV X T mp (.Return none pos) retN := ps_mono ps_retN fun D σ H ⟨Z, R, S, r, S', W, P, rel, pn, e, tk, q⟩ => by
  cases e
  exact q .non σ H Z (Sub.refl _) (rel.push .non) pn
def ifS (ft : M Bool) (f g : SM) : SM := doE ft fun b => if b then f else g
theorem sv_if (hc : EVT X T c ft) (ha : SVs X T mp a f) (hb : SVs X T mp b g) : SV X T mp (.If c a b pos) (ifS ft f g) := ps_mono (ps_if hc ha hb) fun D σ H h => by
  obtain ⟨Z, h⟩ := doT_of h
  refine ⟨Z, rz_mono h fun Z R b S p H1 Z1 s1 r1 => ?_⟩
  have q := p H1 Z1 s1 r1
  cases b with
  | true => exact q
  | false => exact q
/-! ### stores -/
theorem Pin.set {P : Nat → V} {σ : L2.St} (p : Pin mp P σ) {i : Nat} {u : Option V} (h : i ∉ mp) : Pin mp P (σ.set i u) := fun j hj => by
  rw [List.getElem?_set_ne (by intro z; subst z; exact h hj)]
  exact p j hj
def putS (i : Nat) (o : OV) : SM := fun S => if i < S.length then some (.nx, S.set i (some o)) else none
def setS (i : Nat) (fe : M OV) : SM := doE fe (putS i)
theorem putS_of {D : Ends} {v : V} {o : OV} {Z R : Hp} {S1 S' : SS} {r : Fl} {W : WX} {P : Nat → V} {σ : L2.St} {H1 : Hp} {i : Nat} (rel : Rel X.K T Z R (some o :: S1) (some v :: σ) H1) (pn : Pin mp P σ) (e : putS i o S1 = some (r, S')) (q : PFl X.K T mp P D W Z R S' r) (hm : i ∉ mp) : D.nx (σ.set i (some v)) H1 := by
  unfold putS at e
  split at e
  · cases e
    exact q _ H1 Z (Sub.refl _) (rel.set (by assumption)) (pn.set hm)
  · cases e
theorem sv_set {i : Nat} {x : Str} {pos' : Pos} (hN : X.N.Nodup) (hi : X.N[i]? = some x) (hx : Loc X.env.scope x) (he : EV X T e fe) (hm : i ∉ mp := by decide) (hs : swapsWith e (some (.Name x pos')) pos.line X.env = pure false := by rfl)
    (hf : X.fn x = true ∨ X.env.scope.names.lookup x = some .local := by first | exact .inl rfl | exact .inr rfl | assumption) : SV X T mp (.Assign [.Name x pos'] e pos) (setS i fe) := ps_mono (ps_set hN hi hx he hs hf) fun D σ H h => by
  obtain ⟨Z, h⟩ := doE_of h
  refine ⟨Z, rz_mono h fun Z R o S p v H1 Z1 s1 r1 => ?_⟩
  obtain ⟨o, Z1, R, S1, r, S', W, P, rel, pn, e, tk, q⟩ := p v H1 Z1 s1 r1
  exact putS_of rel pn e q hm
/-! targets -/
/-- the slots but ws are as they were -/
def Off (ws : List Nat) (σ σ' : L2.St) : Prop := σ'.length = σ.length ∧ ∀ j, j ∉ ws → σ'[j]? = σ[j]?
theorem Pin.off {P : Nat → V} {σ σ' : L2.St} {ws : List Nat} (p : Pin mp P σ) (o : Off ws σ σ') (h : ∀ i ∈ mp, i ∉ ws) : Pin mp P σ' := fun j hj => (o.2 j (h j hj)).trans (p j hj)
def rgd (X : Cx) (T : List (Addr × Str)) (ws : List Nat) (g : PyData → SS → Option SS) : TG := fun v σ H Q => ∃ x Z R S S', Fr X.K Z v x ∧ Rel X.K T Z R S σ H ∧ g x S = some S' ∧ ∀ σ', Rel X.K T Z R S' σ' H → Off ws σ σ' → Q σ' H
def rgs (X : Cx) (T : List (Addr × Str)) (ws : List Nat) (g : List PyData → SS → Option SS) : TGs := fun vs σ H Q => ∃ xs Z R S S', FrAll X.K Z vs xs ∧ Rel X.K T Z R S σ H ∧ g xs S = some S' ∧ ∀ σ', Rel X.K T Z R S' σ' H → Off ws σ σ' → Q σ' H
abbrev GV (X : Cx) (T : List (Addr × Str)) (ws : List Nat) (tg : Expr) (g : PyData → SS → Option SS) : Prop := PG X tg (rgd X T ws g)
abbrev GVs (X : Cx) (T : List (Addr × Str)) (ws : List Nat) (tg : List Expr) (g : List PyData → SS → Option SS) : Prop := PGs X tg (rgs X T ws g)
theorem pg_mono {tg : Expr} {t t' : TG} (h : PG X tg t) (i : ∀ v σ H Q, t' v σ H Q → t v σ H Q) : PG X tg t' := ⟨fun pins s σ H v u Q I r q => h.run pins s σ H v u Q I r (i _ _ _ _ q)⟩
theorem pgs_mono {tg : List Expr} {t t' : TGs} (h : PGs X tg t) (i : ∀ v σ H Q, t' v σ H Q → t v σ H Q) : PGs X tg t' := ⟨fun pins s σ H v u Q I r q => h.run pins s σ H v u Q I r (i _ _ _ _ q)⟩
def gN (i : Nat) (x : PyData) (S : SS) : Option SS := if i < S.length then some (S.set i (some (.d x))) else none
def gNilD (xs : List PyData) (S : SS) : Option SS := match xs with
  | [] => some S
  | _ => none
def gConsD (g : PyData → SS → Option SS) (gs : List PyData → SS → Option SS) (xs : List PyData) (S : SS) : Option SS := match xs with
  | x :: r => (g x S).bind (gs r)
  | _ => none
def gTupD (n : Nat) (gs : List PyData → SS → Option SS) (x : PyData) (S : SS) : Option SS := match x with
  | .tuple xs => if xs.length = n then gs xs S else none
  | _ => none
theorem gv_name {i : Nat} {x : Str} (hN : X.N.Nodup) (hi : X.N[i]? = some x) (hx : Loc X.env.scope x) (hf : X.fn x = true ∨ X.env.scope.names.lookup x = some .local := by first | exact .inl rfl | exact .inr rfl | assumption) : GV X T [i] (.Name x pos) (gN i) :=
  pg_mono (pg_name hN hi hx hf) fun v σ H Q ⟨x, Z, R, S, S', f, rel, e, q⟩ => by
    unfold gN at e
    split at e
    · cases e
      exact q _ ((rel.push f).set (by assumption)) ⟨List.length_set, fun j hj => List.getElem?_set_ne (fun z => hj (by simp [z]))⟩
    · cases e
theorem gvs_nil : GVs X T [] [] gNilD := pgs_mono pgs_nil fun vs σ H Q ⟨xs, Z, R, S, S', f, rel, e, q⟩ => by
  cases f with
  | nil => cases e; exact ⟨rfl, q σ rel ⟨rfl, fun _ _ => rfl⟩⟩
  | cons _ _ => cases e
theorem gvs_cons {es : List Expr} {ws us : List Nat} {g : PyData → SS → Option SS} {gs : List PyData → SS → Option SS} (h1 : GV X T ws e g) (h2 : GVs X T us es gs)
    (hs : (assignEach (e :: es) X.env).map (·.2) = assign e X.env :: (assignEach es X.env).map (·.2) := by rfl) : GVs X T (ws ++ us) (e :: es) (gConsD g gs) := pgs_mono (pgs_cons h1 h2 hs) fun vs σ H Q ⟨xs, Z, R, S, S', f, rel, e, q⟩ => by
  cases f with
  | nil => cases e
  | @cons v vs x xs f1 f2 =>
    have e : (g x S).bind (gs xs) = some S' := e
    cases e1 : g x S with
    | none => rw [e1] at e; cases e
    | some S1 =>
      rw [e1] at e
      refine ⟨v, vs, rfl, x, Z, R, S, S1, f1, rel, e1, fun σ1 rel1 o1 => ?_⟩
      exact ⟨xs, Z, R, S1, S', f2, rel1, e, fun σ2 rel2 o2 => q σ2 rel2 ⟨o2.1.trans o1.1, fun j hj => (o2.2 j fun z => hj (List.mem_append_right _ z)).trans (o1.2 j fun z => hj (List.mem_append_left _ z))⟩⟩
theorem gv_tup {es : List Expr} {k : Nat} {ws : List Nat} {gs : List PyData → SS → Option SS} {n : Nat} (hc : X.calm = true) (h : GVs X T ws es gs)
    (hn : (assignEach es X.env).length = n := by rfl) (hst : (assignEach es X.env).findIdx? (·.1) = none := by rfl) : GV X T ws (.Tuple es k pos) (gTupD n gs) := pg_mono (pg_tup hc h hn hst) fun v σ H Q ⟨x, Z, R, S, S', f, rel, e, q⟩ => by
  cases x with
  | tuple xs =>
    have e : (if xs.length = n then gs xs S else none) = some S' := e
    split at e
    · rename_i hl
      obtain ⟨a, vs, rfl, ha, ra⟩ := f.sqT rel.z
      exact ⟨a, vs, rfl, ha, ra.length.trans hl, xs, Z, R, S, S', ra, rel, e, q⟩
    · cases e
  | _ => cases e
def asgS (g : PyData → SS → Option SS) (fe : M OV) : SM := doE fe fun o S => match o with
  | .d x => (g x S).map fun S1 => (.nx, S1)
  | _ => none
theorem sv_asg {tg : Expr} {ws : List Nat} {g : PyData → SS → Option SS} (he : EV X T e fe) (hg : GV X T ws tg g) (hm : ∀ i ∈ mp, i ∉ ws := by decide) (hs : swapsWithSole [tg] e pos.line X.env = pure false := by rfl) (hw : swappedStores [tg] e X.env = pure none := by rfl)
    (h1 : (assignEach [tg] X.env).map (·.2) = [assign tg X.env] := by rfl) : SV X T mp (.Assign [tg] e pos) (asgS g fe) := ps_mono (ps_asg he hg hs hw h1) fun D σ H h => by
  obtain ⟨Z, h⟩ := doE_of h
  refine ⟨Z, rz_mono h fun Z R o S p v H1 Z1 s1 r1 => ?_⟩
  obtain ⟨o, Z1, R, S1, r, S', W, P, rel, pn, e, tk, q⟩ := p v H1 Z1 s1 r1
  cases o with
  | d x =>
    have e : (g x S1).map (fun S1 => (Fl.nx, S1)) = some (r, S') := e
    cases eg : g x S1 with
    | none => rw [eg] at e; cases e
    | some S2 =>
      rw [eg] at e
      cases e
      obtain ⟨f, rel1⟩ := rel.popd
      exact ⟨x, Z1, R, S1, S', f, rel1, eg, fun σ' rel' o' => q σ' H1 Z1 (Sub.refl _) rel' (pn.off o' hm)⟩
  | _ => cases e
end

/-! ### while -/
section
variable {X : Cx} {T : List (Addr × Str)} {mp : List Nat} {body : List Stmt} {c : Expr} {f : SM} {ft : M Bool} {pos : Pos}
/-- a turn of a loop, then the rest -/
def turnS (b k : SM) : SM := fun S => match b S with
  | some (.nx, S1) => k S1
  | some (.ct, S1) => k S1
  | some (.bk, S1) => some (.nx, S1)
  | r => r
def whileN (ft : M Bool) (b : SM) : Nat → SM
  | 0 => fun _ => none
  | n + 1 => doE ft fun c => if c then turnS b (whileN ft b n) else skipS
theorem turnS_mono {b k k' : SM} {S : SS} {p : Fl × SS} (h : ∀ S p, k S = some p → k' S = some p) (e : turnS b k S = some p) : turnS b k' S = some p := by
  unfold turnS at e ⊢
  split at e
  · exact h _ _ e
  · exact h _ _ e
  · exact e
  · exact e
theorem whileN_mono {b : SM} : ∀ {n : Nat} {S : SS} {p : Fl × SS}, whileN ft b n S = some p → whileN ft b (n + 1) S = some p
  | 0, S, p, e => by cases e
  | n + 1, S, p, e => by
    have e : doE ft (fun c => if c then turnS b (whileN ft b n) else skipS) S = some p := e
    show doE ft (fun c => if c then turnS b (whileN ft b (n + 1)) else skipS) S = some p
    unfold doE at e ⊢
    split at e
    · rename_i o S1 e1
      cases o with
      | true => exact turnS_mono (fun S p h => whileN_mono h) e
      | false => exact e
    · exact e
    · exact e
theorem whileN_le {b : SM} {n m : Nat} {S : SS} {p : Fl × SS} (h : n ≤ m) (e : whileN ft b n S = some p) : whileN ft b m S = some p := by
  induction h with
  | refl => exact e
  | step _ ih => exact whileN_mono ih
open Classical in
noncomputable def whileS (ft : M Bool) (b : SM) : SM := fun S => if h : ∃ p, ∃ n, whileN ft b n S = some p then some h.choose else none
theorem whileS_of {b : SM} {n : Nat} {S : SS} {p : Fl × SS} (e : whileN ft b n S = some p) : whileS ft b S = some p := by
  unfold whileS
  have h : ∃ p, ∃ n, whileN ft b n S = some p := ⟨p, n, e⟩
  rw [dif_pos h]
  obtain ⟨m, hm⟩ := h.choose_spec
  have a := whileN_le (Nat.le_max_left n m) e
  have b := whileN_le (Nat.le_max_right n m) hm
  rw [a] at b
  exact b.symm
theorem whileS_n {b : SM} {S : SS} {p : Fl × SS} (e : whileS ft b S = some p) : ∃ n, whileN ft b n S = some p := by
  unfold whileS at e
  split at e
  · rename_i h
    cases e
    exact h.choose_spec
  · cases e
theorem turnS_of {D : Ends} {b k : SM} {σ : L2.St} {H : Hp} {Z R : Hp} {S : SS} {r : Fl} {S' : SS} {W : WX} {P : Nat → V} (rel : Rel X.K T Z R S σ H) (pn : Pin mp P σ) (e : turnS b k S = some (r, S')) (tk : Takes X W) (q : PFl X.K T mp P D W Z R S' r) :
    rsg X T mp b { D with nx := fun σ' H' => ∃ Z' S1, Sub Z Z' ∧ Rel X.K T Z' R S1 σ' H' ∧ Pin mp P σ' ∧ k S1 = some (r, S'), ct := fun σ' H' => ∃ Z' S1, Sub Z Z' ∧ Rel X.K T Z' R S1 σ' H' ∧ Pin mp P σ' ∧ k S1 = some (r, S'), bk := D.nx } σ H := by
  unfold turnS at e
  split at e
  · rename_i S1 e1
    exact ⟨Z, R, S, _, _, W, P, rel, pn, e1, tk, fun σ' H' Z' s rel' pn' => ⟨Z', S1, s, rel', pn', e⟩⟩
  · rename_i S1 e1
    exact ⟨Z, R, S, _, _, W, P, rel, pn, e1, tk, fun σ' H' Z' s rel' pn' => ⟨Z', S1, s, rel', pn', e⟩⟩
  · rename_i S1 e1
    cases e
    exact ⟨Z, R, S, _, _, W, P, rel, pn, e1, tk, q⟩
  · rename_i r' h1 h2 h3
    refine ⟨Z, R, S, _, _, W, P, rel, pn, e, tk, ?_⟩
    cases r with
    | nx => exact absurd e (h1 _)
    | ct => exact absurd e (h2 _)
    | bk => exact absurd e (h3 _)
    | ret o => exact q
    | exc x => exact q
theorem sv_while (hp : PassesOwn (model X.prog X.w) X.A X.env X.xe) (hc : EVT X T c ft) (hb : SVs X T mp body f) : SV X T mp (.While c body [] pos) (whileS ft f) := ps_mono (ps_while hp hc hb) fun D σ H ⟨Z, R, S, r, S', W, P, rel, pn, e, tk, q⟩ => by
  obtain ⟨n, e⟩ := whileS_n e
  refine ⟨fun m σ H => ∃ Z' S1, Sub Z Z' ∧ Rel X.K T Z' R S1 σ H ∧ Pin mp P σ ∧ whileN ft f m S1 = some (r, S'), ⟨n, Z, S, Sub.refl _, rel, pn, e⟩, ?_⟩
  rintro m σ1 H1 ⟨Z1, S1, s1, rel1, pn1, e1⟩
  cases m with
  | zero => cases e1
  | succ m =>
    have h : rsg X T mp (doE ft fun c => if c then turnS f (whileN ft f m) else skipS) D σ1 H1 := ⟨Z1, R, S1, r, S', W, P, rel1, pn1, e1, tk, PFl.sub s1 q⟩
    have e1 : doE ft (fun c => if c then turnS f (whileN ft f m) else skipS) S1 = some (r, S') := e1
    unfold doE at e1
    split at e1
    · rename_i o S2 e2
      refine ⟨Z1, R, S1, _, _, W, rel1, e2, tk, fun H2 Z2 s2 rel2 => ?_⟩
      cases o with
      | true =>
        refine ⟨fun σ' H' => ∃ Z' S1, Sub Z2 Z' ∧ Rel X.K T Z' R S1 σ' H' ∧ Pin mp P σ' ∧ whileN ft f m S1 = some (r, S'), fun σ' H' ⟨Z', S1, s', r', p', e'⟩ => ⟨m, Nat.lt_succ_self _, Z', S1, (s1.trans s2).trans s', r', p', e'⟩, ?_⟩
        exact turnS_of rel2 pn1 e1 tk (PFl.sub (s1.trans s2) q)
      | false =>
        cases e1
        exact q σ1 H2 Z2 (s1.trans s2) rel2 pn1
    · rename_i x S2 e2
      cases e1
      exact ⟨Z1, R, S1, _, _, W, rel1, e2, tk, fun cls d H' Z' s rel' ix => q cls d σ1 H' Z' (s1.trans s) rel' pn1 ix⟩
    · cases e1
end

/-! ### for -/
section
variable {X : Cx} {T : List (Addr × Str)} {mp : List Nat} {body : List Stmt} {tg iter l : Expr} {f : SM} {pos : Pos}
/-- J walks the data ds, frozen at Z -/
def Goes (K : PySem.W.Frag) (T : List (Addr × Str)) (Z : Hp) (J : It) (ds : List PyData) : Prop :=
  ∀ (Z1 R : Hp) (S : SS) (σ : L2.St) (H : Hp), Sub Z Z1 → Rel K T Z1 R S σ H → ∀ i : Nat,
    (i = ds.length → J.stop i H) ∧ ∀ d, ds[i]? = some d → J.go i H ∧ ∀ x H', J.yld i H x H' → ∃ Z2, Sub Z1 Z2 ∧ Rel K T Z2 R S σ H' ∧ Fr K Z2 x d
def PIt (K : PySem.W.Frag) (T : List (Addr × Str)) (σ : L2.St) (R0 : It → Hp → Prop) : Post (List PyData) := fun Z R ds S => ∀ J H' Z', Sub Z Z' → Rel K T Z' R S σ H' → Goes K T Z' J ds → R0 J H'
theorem PIt.mono {K : PySem.W.Frag} {σ : L2.St} {Q : It → Hp → Prop} : PMono (PIt K T σ Q) := fun Z Z' R o S s p v H' Z'' s' => p v H' Z'' (s.trans s')
def rig (X : Cx) (T : List (Addr × Str)) (f : M (List PyData)) : TI := fun σ H Q => ∃ Z, rz X T (PIt X.K T σ Q) Z f σ H
abbrev EVI (X : Cx) (T : List (Addr × Str)) (tg iter : Expr) (f : M (List PyData)) : Prop := PI X tg iter (rig X T f)
theorem pi_mono {t t' : TI} (h : PI X tg iter t) (i : ∀ σ H Q, t' σ H Q → t σ H Q) : PI X tg iter t' := ⟨fun pins s σ H Q I q => h.run pins s σ H Q I (i σ H Q q)⟩
def forL (g : PyData → SS → Option SS) (b : SM) : List PyData → SM
  | [] => skipS
  | x :: xs => fun S => match g x S with
    | some S1 => turnS b (forL g b xs) S1
    | none => none
def forS (fi : M (List PyData)) (g : PyData → SS → Option SS) (b : SM) : SM := doE fi (forL g b)
theorem sv_for {fi : M (List PyData)} {ws : List Nat} {g : PyData → SS → Option SS} (hp : PassesOwn (model X.prog X.w) X.A X.env X.xe) (hc : X.calm = true) (hi : EVI X T tg iter fi) (hg : GV X T ws tg g) (hb : SVs X T mp body f) (hm : ∀ i ∈ mp, i ∉ ws := by decide)
    (hs : ∀ x, foldedSetIterable iter X.env x = pure x := by intro _; rfl) : SV X T mp (.For tg iter body [] pos) (forS fi g f) := ps_mono (ps_for hp hc hi hg hb hs) fun D σ H ⟨Z, R, S, r, S', W, P, rel, pn, e, tk, q⟩ => by
  unfold forS doE at e
  split at e
  · rename_i ds S1 e1
    refine ⟨Z, R, S, _, _, W, rel, e1, tk, fun J H1 Z1 s1 rel1 goes => ?_⟩
    refine ⟨fun i m σ H => m = ds.length - i ∧ i ≤ ds.length ∧ ∃ Z' S2, Sub Z1 Z' ∧ Rel X.K T Z' R S2 σ H ∧ Pin mp P σ ∧ forL g f (ds.drop i) S2 = some (r, S'), ⟨_, rfl, Nat.zero_le _, Z1, S1, Sub.refl _, rel1, pn, e⟩, ?_⟩
    rintro i m σ2 H2 ⟨rfl, hi, Z2, S2, s2, rel2, pn2, e2⟩
    obtain ⟨g1, g2⟩ := goes Z2 R S2 σ2 H2 s2 rel2 i
    by_cases hlt : i < ds.length
    · obtain ⟨g3, g4⟩ := g2 ds[i] (List.getElem?_eq_getElem hlt)
      rw [List.drop_eq_getElem_cons hlt] at e2
      refine .inr ⟨g3, fun σ' H' => ∃ Z' S2, Sub Z1 Z' ∧ Rel X.K T Z' R S2 σ' H' ∧ Pin mp P σ' ∧ forL g f (ds.drop (i + 1)) S2 = some (r, S'), fun σ' H' h => ⟨ds.length - (i + 1), by omega, rfl, hlt, h⟩, fun x H3 y => ?_⟩
      obtain ⟨Z3, s3, rel3, fx⟩ := g4 x H3 y
      have e2 : (match g ds[i] S2 with
        | some S1 => turnS f (forL g f (ds.drop (i + 1))) S1
        | none => none) = some (r, S') := e2
      cases eg : g ds[i] S2 with
      | none => rw [eg] at e2; cases e2
      | some S3 =>
        rw [eg] at e2
        refine ⟨ds[i], Z3, R, S2, S3, fx, rel3, eg, fun σ4 rel4 o4 => ?_⟩
        have pn4 := pn2.off o4 hm
        have h := turnS_of (D := D) rel4 pn4 e2 tk (PFl.sub ((s1.trans s2).trans s3) q)
        obtain ⟨Z5, h5⟩ := h
        exact ⟨Z5, rsz_mono h5 (fun σ H ⟨Z', S1, s', h⟩ => ⟨Z', S1, (s2.trans s3).trans s', h⟩) (fun _ _ h => h) (fun σ H ⟨Z', S1, s', h⟩ => ⟨Z', S1, (s2.trans s3).trans s', h⟩) fun _ _ h => h⟩
    · have he : i = ds.length := by omega
      subst he
      rw [List.drop_length] at e2
      cases e2
      exact .inl ⟨g1 rfl, q σ2 H2 Z2 (s1.trans s2) rel2 pn2⟩
  · rename_i x S1 e1
    cases e
    exact ⟨Z, R, S, _, _, W, rel, e1, tk, fun cls d H' Z' s rel' ix => q cls d σ H' Z' s rel' pn ix⟩
  · cases e
end

/-! ### a def's body -/
def outF (n : Nat) (S : SS) : Option (List OV) := (S.take n).mapM id
/-- the body f of a def of n parameters and m names; mp: the parameters that are lent -/
def runF (n m : Nat) (mp : List Nat) (f : SM) : DF := fun os => if os.length = n then match f (os.map some ++ List.replicate (m - n) none) with
  | some (r, S') => match r with
    | .nx => (lentF os mp S').map fun os' => (.ok (.d .none), os')
    | .ret o => (lentF os mp S').map fun os' => (.ok o, os')
    | .exc x => (lentF os mp S').map fun os' => (.error x, os')
    | _ => none
  | none => none
  else none
where
  /-- what the parameters hold at the end: the lent ones their slots' content, the others stay (frozen) -/
  lentF (os : List OV) (mp : List Nat) (S : SS) : Option (List OV) := lentL os mp S 0
  lentL (os : List OV) (mp : List Nat) (S : SS) (i : Nat) : Option (List OV) := match os with
    | [] => some []
    | o :: r => match (if i ∈ mp then (S[i]?).join else match o with
        | .d x => some (.d x)
        | _ => none), lentL r mp S (i + 1) with
      | some o', some r' => some (o' :: r')
      | _, _ => none
end PL

/-! PL7: a def keeps the promise that its body computes -/
namespace PL
open PySem PySem.Spec PyProof.Rows L2 LamX
section
variable {K : PySem.W.Frag} {T : List (Addr × Str)} {Z Z' R H H' : Hp} {S S' : SS} {σ σ' : L2.St} {mp : List Nat}
theorem lentL_set (i : Nat) (u : Option OV) : ∀ (os : List OV) (j : Nat), i < j → runF.lentL os mp (S.set i u) j = runF.lentL os mp S j
  | [], j, _ => rfl
  | o :: os, j, h => by
    unfold runF.lentL
    rw [lentL_set i u os (j + 1) (by omega), List.getElem?_set_ne (by omega)]
theorem lent_own : ∀ (os : List OV) (vs : List V) (i : Nat) {S' : SS} {L : List Addr} {os' : List OV} {A0 : List Addr}, OwnS K Z H (vs.map some) (os.map some) A0 → Sub Z Z' → OwnS K Z' H' σ' S' L → runF.lentL os mp S' i = some os' →
    (∀ j v, i + j ∈ mp → vs[j]? = some v → σ'[i + j]? = some (some v)) → ∃ A D, OwnS K Z' H' (vs.map some) (os'.map some) A ∧ L.Perm (D ++ A)
  | [], vs, i, S', L, os', A0, h0, sb, h, e, hp => by
    cases e
    cases vs with
    | nil => exact ⟨[], L, .emp, by simp⟩
    | cons v vs => cases h0
  | o :: os, vs, i, S', L, os', A0, h0, sb, h, e, hp => by
    cases vs with
    | nil => cases h0
    | cons v vs =>
      have h0 : OwnS K Z H (some v :: vs.map some) (some o :: os.map some) A0 := h0
      cases h0 with
      | @own _ _ _ _ L1 M1 g1 g2 =>
        unfold runF.lentL at e
        split at e
        · rename_i o' r' e1 e2
          cases e
          have hp' : ∀ j w, (i + 1) + j ∈ mp → vs[j]? = some w → σ'[(i + 1) + j]? = some (some w) := fun j w hm hw => by
            have := hp (j + 1) w (by rw [show i + (j + 1) = i + 1 + j by omega]; exact hm) (by simpa using hw)
            rwa [show i + (j + 1) = i + 1 + j by omega] at this
          by_cases hm : i ∈ mp
          · rw [if_pos hm] at e1
            have hS : S'[i]? = some (some o') := by
              cases q : S'[i]? with
              | none => rw [q] at e1; cases e1
              | some u => rw [q] at e1; rw [show u = some o' from e1]
            obtain ⟨w, Li, Lr, k1, k2, k3, k4⟩ := h.get hS
            have hw := hp 0 v (by simpa using hm) rfl
            rw [Nat.add_zero] at hw
            rw [k1] at hw
            cases hw
            rw [← lentL_set i none os (i + 1) (by omega)] at e2
            obtain ⟨A, D, a1, a2⟩ := lent_own os vs (i + 1) g2 sb k3 e2 hp'
            refine ⟨Li ++ A, D, .own k2 a1, k4.trans ?_⟩
            exact (List.Perm.append_left Li a2).trans (perm_swap _ _ _)
          · rw [if_neg hm] at e1
            cases o with
            | d x =>
              cases e1
              obtain ⟨A, D, a1, a2⟩ := lent_own os vs (i + 1) g2 sb h e2 hp'
              exact ⟨[] ++ A, D, .own (.d (g1.frz.2.sub sb)) a1, a2⟩
            | _ => cases e1
        · cases e
theorem own_pad (n : Nat) : ∀ {σ : L2.St} {S : SS} {L : List Addr}, OwnS K Z H σ S L → OwnS K Z H (σ ++ List.replicate n none) (S ++ List.replicate n none) L
  | _, _, _, .emp => by
    induction n with
    | zero => exact .emp
    | succ n ih => exact .out ih
  | _, _, _, .out r => .out (own_pad n r)
  | _, _, _, .own a r => .own a (own_pad n r)
end
section
variable {P : Program} {w : World} {K : PySem.W.Frag} {T : List (Addr × Str)} {mg : Str → Option Value} {base : Heap}
theorem body_of {X : Cx} {mp : List Nat} {fden : SM} {n m : Nat} {vs : List V} {Q : VK} {E : XK} {H : Hp} {N : List Str} (hN : N.length = m) (hmp : ∀ i ∈ mp, i < n) (tk : Takes X (fun cls d _ H => E cls d H)) (h : spF X.K T n (runF n m mp fden) vs H Q E) :
    rsg X T mp fden { nx := fun _ H' => Q .non H', rt := Q } (start N vs) H := by
  obtain ⟨hl, Z, R, os, r, os', rel, e, q⟩ := h
  have hol : os.length = n := by have := rel.length; simp at this; omega
  unfold runF at e
  rw [if_pos hol] at e
  have rel0 : Rel X.K T Z R (os.map some ++ List.replicate (m - n) none) (start N vs) H := by
    obtain ⟨L, o, nd, qz⟩ := rel.own
    have := own_pad (m - n) o
    have es : L2.start N vs = vs.map some ++ List.replicate (m - n) none := by unfold L2.start; rw [hN, hl]
    rw [← es] at this
    exact ⟨⟨L, this, nd, qz⟩, rel.z, rel.r, rel.zt, rel.rt, rel.zr, rel.tab⟩
  have pin0 : Pin mp (fun i => vs.getD i .non) (start N vs) := fun i hi => by
    have hlt : i < vs.length := by rw [hl]; exact hmp i hi
    unfold L2.start
    rw [List.getElem?_append_left (by simpa using hlt), List.getElem?_map, List.getElem?_eq_getElem hlt]
    simp [List.getD, List.getElem?_eq_getElem hlt]
  cases ef : fden (os.map some ++ List.replicate (m - n) none) with
  | none => rw [ef] at e; cases e
  | some p =>
    obtain ⟨fl, S'⟩ := p
    rw [ef] at e
    refine ⟨Z, R, _, fl, S', _, fun i => vs.getD i .non, rel0, pin0, ef, tk, ?_⟩
    obtain ⟨L0, ow0, _⟩ := rel.own
    have back : ∀ {σ' : L2.St} {H' Z' : Hp} {o : OV} {v : V} {os2 : List OV}, Sub Z Z' → Rel X.K T Z' R (some o :: S') (some v :: σ') H' → Pin mp (fun i => vs.getD i .non) σ' → runF.lentF os mp S' = some os2 → Rel X.K T Z' R (some o :: os2.map some) (some v :: vs.map some) H' := fun {σ' H' Z' o v os2} sb rel' pn' el => by
      obtain ⟨L, ow, nd, qz⟩ := rel'.own
      cases ow with
      | @own _ _ _ _ Lo Ls w1 w2 =>
        obtain ⟨A, D, a1, a2⟩ := lent_own os vs 0 ow0 sb w2 el (fun j v' hm hv => by
          have := pn' (0 + j) hm
          rw [Nat.zero_add] at this ⊢
          rw [this]
          simp [List.getD, hv])
        have pm : (Lo ++ Ls).Perm (D ++ (Lo ++ A)) := (List.Perm.append_left Lo a2).trans (perm_swap _ _ _)
        obtain ⟨n3, n4⟩ := nodup_sub ⟨D, pm⟩ nd
        exact ⟨⟨Lo ++ A, .own w1 a1, n3, fun a ha => qz a (n4 a ha)⟩, rel'.z, rel'.r, rel'.zt, rel'.rt, rel'.zr, rel'.tab⟩
    cases fl with
    | bk => cases e
    | ct => cases e
    | nx =>
      have e : (runF.lentF os mp S').map (fun os' => (Except.ok (OV.d .none), os')) = some (r, os') := e
      cases el : runF.lentF os mp S' with
      | none => rw [el] at e; cases e
      | some os2 =>
        rw [el] at e
        cases e
        intro σ' H' Z' sb rel' pn'
        exact q .non H' Z' sb (back sb (rel'.push .non) pn' el)
    | ret o =>
      have e : (runF.lentF os mp S').map (fun os' => (Except.ok o, os')) = some (r, os') := e
      cases el : runF.lentF os mp S' with
      | none => rw [el] at e; cases e
      | some os2 =>
        rw [el] at e
        cases e
        intro v σ' H' Z' sb rel' pn'
        exact q v H' Z' sb (back sb rel' pn' el)
    | exc x =>
      have e : (runF.lentF os mp S').map (fun os' => (Except.error x, os')) = some (r, os') := e
      cases el : runF.lentF os mp S' with
      | none => rw [el] at e; cases e
      | some os2 =>
        rw [el] at e
        cases e
        intro cls d σ' H' Z' sb rel' pn' ix
        exact q cls d H' Z' sb (back sb (rel'.push .non) pn' el).pop ix
/-- THE RULE of a def -/
theorem def_ok {x qual : Str} {st : Stmt} {f : Addr} {fd : FuncData} {N ps : List Str} {k : Nat} {mp : List Nat} {fden : SM} (F : Fun K x qual st f fd) (S : FnScope N ps (defScope st)) (hmp : mp.all (fun i => decide (i < ps.length)) = true)
    (hb : ∀ (cdv : Value) (A : Around) (outer : List Env) (s : Shared) (H : Hp) (E : XK), Room k (A.deeper (envOfC qual (defScope st) s.heap.objs.size f cdv)) →
      SVs (cxOf (L2.CX P w) P w K mg base N qual (defScope st) f cdv A outer s H E) T mp (defBody st) fden) : DefOk P w K T mg base (k + 1) f fd ps (runF ps.length N.length mp fden) := by
  refine F.okX S (fun vs H Q E h => h.1) fun cdv A outer s H vs Q E hr h => ⟨_, hb cdv A outer s H E hr, ?_⟩
  exact body_of (X := cxOf (L2.CX P w) P w K mg base N qual (defScope st) f cdv A outer s H E) rfl (fun i hi => of_decide_eq_true (List.all_eq_true.mp hmp i hi)) (takes_of rfl rfl rfl rfl) h
end
end PL

/-! PL8: built-in functions and methods, subscripts, slices, lists of a slot's own -/
namespace PL
open PySem PySem.Spec PyProof.Rows L2 LamX
section
variable {X : Cx} {T : List (Addr × Str)} {mp : List Nat} {a b c e o : Expr} {es : List Expr} {fa fb : M AV} {ga : M (List AV)} {pos apos : Pos} {Z R H : Hp} {S : SS} {σ : L2.St}

theorem VwAll.one {K : PySem.W.Frag} {vs : List V} {x : PyData} (h : VwAll K Z H vs [x]) : ∃ v, vs = [v] ∧ Vw K Z H v x := by
  cases h with
  | cons a b => cases b; exact ⟨_, rfl, a⟩
theorem VwAll.two {K : PySem.W.Frag} {vs : List V} {x y : PyData} (h : VwAll K Z H vs [x, y]) : ∃ v w, vs = [v, w] ∧ Vw K Z H v x ∧ Vw K Z H w y := by
  cases h with
  | cons a b => cases b with
    | cons b c => cases c; exact ⟨_, _, rfl, a, b⟩
theorem Vw.int {K : PySem.W.Frag} {v : V} {i : Int} (h : Vw K Z H v (.int i)) : v = .int i := (h.fr (by intros; simp)).intV
theorem Vw.str {K : PySem.W.Frag} {v : V} {i : Str} (h : Vw K Z H v (.str i)) : v = .str i := (h.fr (by intros; simp)).strV
theorem Vw.bl {K : PySem.W.Frag} {v : V} {i : Bool} (h : Vw K Z H v (.bool i)) : v = .bl i := (h.fr (by intros; simp)).blV
theorem Vw.tup {K : PySem.W.Frag} {v : V} {ds : List PyData} (h : Vw K Z H v (.tuple ds)) (s : Sub Z H) : ∃ a xs, v = .ref a ∧ SqT K H a xs ∧ FrAll K Z xs ds := (h.fr (by intros; simp)).sqT s

/-! ### len, list, tuple, abs, int, max, min, all, any, isinstance -/
def oLen : List PyData → Option OV
  | [.list xs] => okI xs.length
  | [.tuple xs] => okI xs.length
  | [.str s] => if s.length ≤ sizeLine then okI s.length else none
  | _ => none
def rLenA (K : PySem.W.Frag) : List V → Hp → VK → Prop := fun xs H Q => (∃ p ys, xs = [.ref p] ∧ (SqL K H p ys ∨ SqT K H p ys) ∧ Q (.int ys.length) H) ∨ ∃ z, xs = [.str z] ∧ z.length ≤ sizeLine ∧ Q (.int z.length) H
theorem call_lenA : CallR X (.builtin "len") (rLenA X.K) := call_len_seq.or call_len_str
theorem cg_len : CallG X T (rLenA X.K) oLen := fun Z vs xs o σ H Q sz h e fin => by
  unfold oLen at e
  split at e
  · cases e
    obtain ⟨v, rfl, w⟩ := h.one
    obtain ⟨a, ys, rfl, ha, ra⟩ := w.list sz
    exact .inl ⟨a, ys, rfl, .inl (.inl ha), by rw [ra.length]; exact fin.val (.int _)⟩
  · cases e
    obtain ⟨v, rfl, w⟩ := h.one
    obtain ⟨a, ys, rfl, ha, ra⟩ := w.tup sz
    exact .inl ⟨a, ys, rfl, .inr ha, by rw [ra.length]; exact fin.val (.int _)⟩
  · split at e
    · cases e
      obtain ⟨v, rfl, w⟩ := h.one
      rw [w.str]
      exact .inr ⟨_, rfl, by assumption, fin.val (.int _)⟩
    · cases e
  · cases e
def oList (own : Bool) : List PyData → Option OV
  | [.list xs] => some (newL own xs)
  | [.tuple xs] => some (newL own xs)
  | _ => none
def rListA (K : PySem.W.Frag) : List V → Hp → VK → Prop := fun xs H Q => ∃ p ys, xs = [.ref p] ∧ (SqL K H p ys ∨ SqT K H p ys) ∧ ∀ l, H l = none → Q (.ref l) (upd H l (.lst ys))
theorem call_listA : CallR X (.type "list") (rListA X.K) := call_list_of
theorem cg_list {own : Bool} : CallG X T (rListA X.K) (oList own) := fun Z vs xs o σ H Q sz h e fin => by
  unfold oList at e
  split at e
  · cases e
    obtain ⟨v, rfl, w⟩ := h.one
    obtain ⟨a, ys, rfl, ha, ra⟩ := w.list sz
    exact ⟨a, ys, rfl, .inl (.inl ha), fin.lst ra⟩
  · cases e
    obtain ⟨v, rfl, w⟩ := h.one
    obtain ⟨a, ys, rfl, ha, ra⟩ := w.tup sz
    exact ⟨a, ys, rfl, .inr ha, fin.lst ra⟩
  · cases e
def oTuple : List PyData → Option OV
  | [.list xs] => some (.d (.tuple xs))
  | [.tuple xs] => some (.d (.tuple xs))
  | _ => none
def rTupleA (K : PySem.W.Frag) : List V → Hp → VK → Prop := fun xs H Q => ∃ p ys, xs = [.ref p] ∧ ((SqL K H p ys ∧ ∀ l, H l = none → Q (.ref l) (upd H l (.tup ys))) ∨ (SqT K H p ys ∧ Q (.ref p) H))
theorem call_tupleA : CallR X (.type "tuple") (rTupleA X.K) := call_tuple_of
theorem cg_tuple : CallG X T (rTupleA X.K) oTuple := fun Z vs xs o σ H Q sz h e fin => by
  unfold oTuple at e
  split at e
  · cases e
    obtain ⟨v, rfl, w⟩ := h.one
    obtain ⟨a, ys, rfl, ha, ra⟩ := w.list sz
    exact ⟨a, ys, rfl, .inl ⟨.inl ha, fin.tup ra⟩⟩
  · cases e
    obtain ⟨v, rfl, w⟩ := h.one
    have w' := w.fr (by intros; simp)
    obtain ⟨a, ys, rfl, ha, ra⟩ := w.tup sz
    exact ⟨a, ys, rfl, .inr ⟨ha, fin.val w'⟩⟩
  · cases e
def oAbs : List PyData → Option OV
  | [.int i] => okI (if i < 0 then -i else i)
  | _ => none
def rAbsA : List V → Hp → VK → Prop := fun xs H Q => ∃ i, xs = [.int i] ∧ Q (.int (if i < 0 then -i else i)) H
theorem call_absA : CallR X (.builtin "abs") rAbsA := call_abs
theorem cg_abs : CallG X T rAbsA oAbs := fun Z vs xs o σ H Q sz h e fin => by
  unfold oAbs at e
  split at e
  · cases e
    obtain ⟨v, rfl, w⟩ := h.one
    rw [w.int]
    exact ⟨_, rfl, fin.val (.int _)⟩
  · cases e
def oMax2 : List PyData → Option OV
  | [.int i, .int j] => okI (if j > i then j else i)
  | _ => none
def oMin2 : List PyData → Option OV
  | [.int i, .int j] => okI (if j < i then j else i)
  | _ => none
def rMax2 : List V → Hp → VK → Prop := fun xs H Q => ∃ i j, xs = [.int i, .int j] ∧ Q (.int (if j > i then j else i)) H
def rMin2 : List V → Hp → VK → Prop := fun xs H Q => ∃ i j, xs = [.int i, .int j] ∧ Q (.int (if j < i then j else i)) H
theorem call_max2A (hc : X.calm = true) : CallR X (.builtin "max") rMax2 := call_max2 hc
theorem call_min2A (hc : X.calm = true) : CallR X (.builtin "min") rMin2 := call_min2 hc
theorem cg_max2 : CallG X T rMax2 oMax2 := fun Z vs xs o σ H Q sz h e fin => by
  unfold oMax2 at e
  split at e
  · cases e
    obtain ⟨v, w, rfl, h1, h2⟩ := h.two
    rw [h1.int, h2.int]
    exact ⟨_, _, rfl, fin.val (.int _)⟩
  · cases e
theorem cg_min2 : CallG X T rMin2 oMin2 := fun Z vs xs o σ H Q sz h e fin => by
  unfold oMin2 at e
  split at e
  · cases e
    obtain ⟨v, w, rfl, h1, h2⟩ := h.two
    rw [h1.int, h2.int]
    exact ⟨_, _, rfl, fin.val (.int _)⟩
  · cases e
def oInt1 : List PyData → Option OV
  | [.int i] => okI i
  | [.bool k] => okI (if k then 1 else 0)
  | _ => none
def rInt1 : List V → Hp → VK → Prop := fun xs H Q => (∃ i, xs = [.int i] ∧ Q (.int i) H) ∨ ∃ k, xs = [.bl k] ∧ Q (.int (if k then 1 else 0)) H
theorem call_int1A : CallR X (.type "int") rInt1 := call_int1
theorem cg_int1 : CallG X T rInt1 oInt1 := fun Z vs xs o σ H Q sz h e fin => by
  unfold oInt1 at e
  split at e
  · cases e
    obtain ⟨v, rfl, w⟩ := h.one
    rw [w.int]
    exact .inl ⟨_, rfl, fin.val (.int _)⟩
  · cases e
    obtain ⟨v, rfl, w⟩ := h.one
    rw [w.bl]
    exact .inr ⟨_, rfl, fin.val (.int _)⟩
  · cases e
def bools : List PyData → Option (List Bool)
  | [] => some []
  | .bool b :: r => (bools r).map (b :: ·)
  | _ => none
theorem FrAll.bools {K : PySem.W.Frag} : ∀ {ds : List PyData} {vs : List V} {bs : List Bool}, FrAll K Z vs ds → bools ds = some bs → vs = bs.map V.bl
  | [], _, _, .nil, e => by cases e; rfl
  | d :: ds, _, bs, .cons (v := v) (vs := vs) h1 h2, e => by
    cases d with
    | bool b =>
      have e : (PL.bools ds).map (b :: ·) = some bs := e
      cases q : PL.bools ds with
      | none => rw [q] at e; cases e
      | some cs =>
        rw [q] at e
        cases e
        rw [h1.blV, FrAll.bools h2 q]
        rfl
    | _ => cases e
def oAll : List PyData → Option OV
  | [.list xs] => (bools xs).bind fun bs => okB (bs.all id)
  | _ => none
def oAny : List PyData → Option OV
  | [.list xs] => (bools xs).bind fun bs => okB (bs.any id)
  | _ => none
theorem cg_all : CallG X T (L2.rAll X.K) oAll := fun Z vs xs o σ H Q sz h e fin => by
  unfold oAll at e
  split at e
  · rename_i xs
    obtain ⟨v, rfl, w⟩ := h.one
    obtain ⟨a, ys, rfl, ha, ra⟩ := w.list sz
    cases q : bools xs with
    | none => rw [q] at e; cases e
    | some bs =>
      rw [q] at e
      cases e
      have := ra.bools q
      subst this
      exact ⟨a, bs, rfl, .inl ha, fin.val (.bl _)⟩
  · cases e
theorem cg_any : CallG X T (L2.rAny X.K) oAny := fun Z vs xs o σ H Q sz h e fin => by
  unfold oAny at e
  split at e
  · rename_i xs
    obtain ⟨v, rfl, w⟩ := h.one
    obtain ⟨a, ys, rfl, ha, ra⟩ := w.list sz
    cases q : bools xs with
    | none => rw [q] at e; cases e
    | some bs =>
      rw [q] at e
      cases e
      have := ra.bools q
      subst this
      exact ⟨a, bs, rfl, .inl ha, fin.val (.bl _)⟩
  · cases e

/-! ### isinstance with built-in types -/
def tyName : PyData → Option String
  | .none => some "NoneType"
  | .bool _ => some "bool"
  | .int _ => some "int"
  | .str _ => some "str"
  | .list _ => some "list"
  | .tuple _ => some "tuple"
  | .dict _ => none
theorem Vw.tyX {K : PySem.W.Frag} {v : V} {x : PyData} {n : String} (h : Vw K Z H v x) (s : Sub Z H) (e : tyName x = some n) : TyX K H v (.type n) := by
  cases x with
  | none => cases e; rw [(h.fr (by intros; simp)).nonV]; exact .base .non
  | bool b => cases e; rw [h.bl]; exact .base (.bl b)
  | int b => cases e; rw [h.int]; exact .base (.int b)
  | str b => cases e; rw [h.str]; exact .base (.str b)
  | list ds =>
    cases e
    obtain ⟨a, vs, rfl, ha, _⟩ := h.list s
    rcases ha with ha | ⟨o, ha⟩
    · exact .base (.lst ha)
    · exact .base (.frz ha)
  | tuple ds =>
    cases e
    obtain ⟨a, vs, rfl, ha, _⟩ := h.tup s
    rcases ha with (ha | ⟨o, ha⟩) | ⟨o, its, n, hk, hc, _⟩
    · exact .base (.tup ha)
    · exact .fTuple ha
    · exact .kTuple hk hc
  | dict _ => cases e
/-- a class as an argument: a built-in type, by its value -/
def evtTy (X : Cx) (e : Expr) (n : String) : Prop := PE X e (tC (.ty n))
def oIsi (n : String) (x : PyData) : Option OV := (tyName x).bind fun m => (kitB m n).bind okB
def isiV (n : String) (fa : M AV) : M OV := fa >>= fun a => op1 (oIsi n) a
theorem rz_op1 {op : PyData → Option OV} {u : AV} {v1 : V} {P : Post OV} (h : rz X T P Z (op1 op u) σ H) (h1 : AvOk X.K Z σ v1 u) :
    ∃ x o R S, Sub Z H ∧ Vw X.K Z H v1 x ∧ op x = some o ∧ Rel X.K T Z R S σ H ∧ P Z R o S := by
  obtain ⟨R, S, r, S', W, rel, e, tk, p⟩ := h
  unfold op1 at e
  split at e
  · rename_i x e1
    cases q : op x with
    | none => rw [q] at e; cases e
    | some o =>
      rw [q] at e
      cases e
      exact ⟨x, o, R, S, rel.z, rel.view h1 e1, q, rel, p⟩
  · cases e
theorem ev_isi {n : String} {p : Pos} {k : Nat} (hg : Gl X "isinstance") (hm : X.mg "isinstance" = none) (ha : EVV X T a fa) (hb : PE X b (tC (.ty n)))
    (he : starEach [a, b] X.env = (false, eval a X.env) :: starEach [b] X.env := by rfl) (he2 : starEach [b] X.env = (false, eval b X.env) :: starEach [] X.env := by rfl) (hpl : (backTo pos (starEach [b] X.env)).any (·.1) = false := by rfl) : EV X T (.Call (.Name "isinstance" p) [a, b] [] pos) (isiV n fa) :=
  pe_mono (pe_callB call_isi hg hm (by decide +kernel) (pa_cons ha (pa_cons hb pa_nil he2) he) (by decide) (by decide) he hpl) fun σ H Q ⟨Z, h⟩ => by
    refine ⟨Z, rz_mono (rv_bind POk.mono h) fun Z R a S p v H1 Z1 s1 r1 a1 => ?_⟩
    obtain ⟨u, Z2, s2, o2, h2⟩ := p v H1 Z1 s1 r1 a1
    obtain ⟨x, o, R3, S3, sz, w, e, rel, pf⟩ := rz_op1 h2 o2
    show rIsi X.K [v, .ty n] H1 Q
    unfold oIsi at e
    cases q1 : tyName x with
    | none => rw [q1] at e; cases e
    | some m =>
      rw [q1] at e
      have e : (kitB m n).bind okB = some o := e
      cases q2 : kitB m n with
      | none => rw [q2] at e; cases e
      | some k =>
        rw [q2] at e
        cases e
        exact ⟨v, .ty n, .type m, .type n, k, rfl, .ty n, w.tyX sz q1, kit_ty q2, pf _ H1 Z2 (Sub.refl _) (rel.push (.bl k))⟩
/-- isinstance(x, (A, B)) -/
def kitA (m : String) : List String → Option Bool
  | [] => some false
  | n :: ns => match kitB m n with
    | some true => some true
    | some false => kitA m ns
    | none => none
theorem kitA_any {K : PySem.W.Frag} {m : String} : ∀ {ns : List String} {b : Bool}, kitA m ns = some b → PySem.W.kitAny K (.type m) (ns.map Value.type) = some b
  | [], b, e => by cases e; rfl
  | n :: ns, b, e => by
    unfold kitA at e
    split at e
    · rename_i q
      cases e
      exact kitAny_cons (kit_ty q) (fun z => nomatch z) fun _ => rfl
    · rename_i q
      exact kitAny_cons (kit_ty q) (fun _ => kitA_any e) fun z => nomatch z
    · cases e
def oIsiT (ns : List String) (x : PyData) : Option OV := (tyName x).bind fun m => (kitA m ns).bind okB
def isiT (ns : List String) (fa : M AV) : M OV := fa >>= fun a => op1 (oIsiT ns) a
theorem clsV_all : ∀ ns : List String, Paired ClsV (ns.map V.ty) (ns.map Value.type)
  | [] => .nil
  | n :: ns => .cons (.ty n) (clsV_all ns)
theorem ev_isiT {n1 n2 : String} {e1 e2 : Expr} {p p3 : Pos} {k : Nat} (hg : Gl X "isinstance") (hm : X.mg "isinstance" = none) (ha : EVV X T a fa) (hb : PE X e1 (tC (.ty n1))) (hc : PE X e2 (tC (.ty n2)))
    (he : starEach [a, .Tuple [e1, e2] k p3] X.env = (false, eval a X.env) :: starEach [.Tuple [e1, e2] k p3] X.env := by rfl) (he2 : starEach [.Tuple [e1, e2] k p3] X.env = (false, eval (.Tuple [e1, e2] k p3) X.env) :: starEach [] X.env := by rfl)
    (he3 : starEach [e1, e2] X.env = (false, eval e1 X.env) :: starEach [e2] X.env := by rfl) (he4 : starEach [e2] X.env = (false, eval e2 X.env) :: starEach [] X.env := by rfl) (hpl : (backTo pos (starEach [.Tuple [e1, e2] k p3] X.env)).any (·.1) = false := by rfl) : EV X T (.Call (.Name "isinstance" p) [a, .Tuple [e1, e2] k p3] [] pos) (isiT [n1, n2] fa) :=
  pe_mono (pe_callB call_isiT hg hm (by decide +kernel) (pa_cons ha (pa_cons (pe_tup (pa_cons hb (pa_cons hc pa_nil he4) he3)) pa_nil he2) he) (by decide) (by decide) he hpl) fun σ H Q ⟨Z, h⟩ => by
    refine ⟨Z, rz_mono (rv_bind POk.mono h) fun Z R a S p v H1 Z1 s1 r1 a1 => ?_⟩
    obtain ⟨u, Z2, s2, o2, h2⟩ := p v H1 Z1 s1 r1 a1
    obtain ⟨x, o, R3, S3, sz, w, e, rel, pf⟩ := rz_op1 h2 o2
    refine ⟨(by show 2 ≤ sizeLine; decide), fun tp hp => ?_⟩
    have rel' := rel.frozen hp (.tup [.ty n1, .ty n2]) (fun _ z => by cases z)
    have zp : Z2 tp = none := by
      cases q : Z2 tp with
      | none => rfl
      | some w => rw [rel.z _ _ q] at hp; cases hp
    unfold oIsiT at e
    cases q1 : tyName x with
    | none => rw [q1] at e; cases e
    | some m =>
      rw [q1] at e
      have e : (kitA m [n1, n2]).bind okB = some o := e
      cases q2 : kitA m [n1, n2] with
      | none => rw [q2] at e; cases e
      | some k =>
        rw [q2] at e
        cases e
        have w' : Vw X.K (upd Z2 tp (.tup [.ty n1, .ty n2])) (upd H1 tp (.tup [.ty n1, .ty n2])) v x := by
          rcases w with w | ⟨c, ws, es, e1, e2, hc, rc⟩
          · exact .inl (w.sub (sub_upd _ zp))
          · exact .inr ⟨c, ws, es, e1, e2, by rw [upd_ne (ne_of_none hc hp)]; exact hc, rc.sub (sub_upd _ zp)⟩
        refine ⟨v, tp, [.ty n1, .ty n2], .type m, [.type n1, .type n2], k, rfl, upd_same, clsV_all [n1, n2], w'.tyX rel'.z q1, kitA_any q2, ?_⟩
        exact pf _ _ _ (sub_upd _ zp) (rel'.push (.bl k))

/-! ### x[i] -/
def oIx : PyData → PyData → Option OV
  | .list xs, .int i => (atI xs i).map .d
  | .tuple xs, .int i => (atI xs i).map .d
  | .str z, .int i => if z.length ≤ sizeLine then (atI z.cps.toList i).map fun c => .d (.str ⟨#[c]⟩) else none
  | _, _ => none
def rIxA (K : PySem.W.Frag) : R2 := fun x y H Q => (rIxL K x y H Q ∨ rIxT K x y H Q) ∨ rIxS x y H Q
theorem ix_any : IxR X (rIxA X.K) := (ix_list.or ix_tup).or ix_str
theorem FrAll.atI {K : PySem.W.Frag} {vs : List V} {ds : List PyData} {i : Int} {d : PyData} (h : FrAll K Z vs ds) (e : atI ds i = some d) : ∃ v, atI vs i = some v ∧ Fr K Z v d := by
  unfold L2.atI at e ⊢
  rw [h.length]
  cases q : ixN ds.length i with
  | none => rw [q] at e; cases e
  | some j =>
    rw [q] at e
    exact h.get e
theorem opg_ix : OpG X T (rIxA X.K) oIx := by
  intro Z v w x y o σ H Q sz fx fy e fin
  unfold oIx at e
  split at e
  · rename_i xs i
    cases q : L2.atI xs i with
    | none => rw [q] at e; cases e
    | some d =>
      rw [q] at e
      cases e
      obtain ⟨a, vs, rfl, ha, ra⟩ := fx.list sz
      obtain ⟨u, hu, fu⟩ := ra.atI q
      rw [fy.int]
      exact .inl (.inl ⟨a, vs, i, u, rfl, rfl, .inl ha, hu, fin.val fu⟩)
  · rename_i xs i
    cases q : L2.atI xs i with
    | none => rw [q] at e; cases e
    | some d =>
      rw [q] at e
      cases e
      obtain ⟨a, vs, rfl, ha, ra⟩ := fx.tup sz
      obtain ⟨u, hu, fu⟩ := ra.atI q
      rw [fy.int]
      exact .inl (.inr ⟨a, vs, i, u, rfl, rfl, ha, hu, fin.val fu⟩)
  · rename_i z i
    split at e
    · cases q : L2.atI z.cps.toList i with
      | none => rw [q] at e; cases e
      | some d =>
        rw [q] at e
        cases e
        rw [fx.str, fy.int]
        exact .inr ⟨z, i, d, rfl, rfl, by assumption, q, fin.val (.str _)⟩
    · cases e
  · cases e
theorem ev_ix {r : R2} {g : PyData → PyData → Option OV} (hr : IxR X r) (hg : OpG X T r g) (ha : EVV X T a fa) (hb : EVV X T b fb) (hs : PlainIx b := by intro _ _; rfl) : EV X T (.Subscript a b pos) (bin fa fb g) := pe_mono (pe_ix hr ha hb hs) fun _ _ _ h => tOp_of hg h

/-! ### x[lo:hi] -/
def rog (X : Cx) (T : List (Addr × Str)) (f : M (Option Int)) : TO := fun σ H Q => ∃ Z, rz X T (fun Z R o S => ∀ H' Z', Sub Z Z' → Rel X.K T Z' R S σ H' → Q o H') Z f σ H
abbrev EVO (X : Cx) (T : List (Addr × Str)) (e : Option Expr) (f : M (Option Int)) : Prop := PO X e (rog X T f)
theorem po_mono {e : Option Expr} {t t' : TO} (h : PO X e t) (i : ∀ σ H Q, t' σ H Q → t σ H Q) : PO X e t' := ⟨fun pins s σ H Q I q => h.run pins s σ H Q I (i σ H Q q)⟩
def noPart : M (Option Int) := M.ret none
def part (f : M AV) : M (Option Int) := f >>= fun a => fun S => match view S a with
  | some (.int i) => some (.ok (some i), S)
  | _ => none
theorem evo_none : EVO X T none noPart := po_mono po_none fun σ H Q ⟨Z, h⟩ => by
  obtain ⟨R, S, rel, p⟩ := rz_ret h
  exact p H Z (Sub.refl _) rel
theorem evo_some (ha : EVV X T a fa) : EVO X T (some a) (part fa) := po_mono (po_some ha) fun σ H Q ⟨Z, h⟩ => by
  have hP : PMono (fun (Z R : Hp) (o : Option Int) (S : SS) => ∀ H' Z', Sub Z Z' → Rel X.K T Z' R S σ H' → Q o H') := fun Z Z' R a S s p H' Z'' s' => p H' Z'' (s.trans s')
  refine ⟨Z, rz_mono (rv_bind hP h) fun Z R a S p v H1 Z1 s1 r1 a1 => ?_⟩
  obtain ⟨u, Z2, s2, o2, R3, S3, r, S', W, rel, e, tk, pf⟩ := p v H1 Z1 s1 r1 a1
  have e : (match view S3 u with
    | some (.int i) => some (Except.ok (some i), S3)
    | _ => none) = some (r, S') := e
  split at e
  · rename_i i q
    cases e
    exact ⟨i, (rel.view o2 q).int, pf H1 Z2 (Sub.refl _) rel⟩
  · cases e
def oSl (own : Bool) (x : PyData) (lo hi : Option Int) : Option OV := match x with
  | .list xs => some (newL own ((xs.drop (HT.sIx xs.length 0 lo)).take (HT.sIx xs.length xs.length hi - HT.sIx xs.length 0 lo)))
  | .tuple xs => some (.d (.tuple ((xs.drop (HT.sIx xs.length 0 lo)).take (HT.sIx xs.length xs.length hi - HT.sIx xs.length 0 lo))))
  | .str z => if z.length ≤ sizeLine then some (.d (.str (cutS z lo hi))) else none
  | _ => none
def slA (own : Bool) (fa : M AV) (fl fh : M (Option Int)) : M OV := fa >>= fun a => fl >>= fun l => fh >>= fun h => op1 (fun x => oSl own x l h) a
def rSlAny (K : PySem.W.Frag) : V → Option Int → Option Int → Hp → VK → Prop := fun x lo hi H Q => (rSlL K x lo hi H Q ∨ rSlA K x lo hi H Q) ∨ rSlS x lo hi H Q
theorem sl_any : SlR X (rSlAny X.K) := (sl_list.or sl_tupA).or sl_str
theorem ro_bind {P : Post OV} (hP : PMono P) {f : M (Option Int)} {g : Option Int → M OV} (h : rz X T P Z (f >>= g) σ H) : rog X T f σ H fun o H' => ∃ Z', Sub Z Z' ∧ rz X T P Z' (g o) σ H' := by
  obtain ⟨R, S, r, S', W, rel, e, tk, pf⟩ := h
  rcases bind_eq e with ⟨x, ef, rfl⟩ | ⟨a, S1, ef, eg⟩
  · exact ⟨Z, R, S, _, _, W, rel, ef, tk, pf⟩
  · refine ⟨Z, R, S, _, _, W, rel, ef, tk, fun H' Z' s' r' => ⟨Z', s', R, S1, r, S', W, r', eg, tk, ?_⟩⟩
    cases r with
    | ok o => exact hP _ _ _ _ _ s' pf
    | error x => exact ExPost.mono s' pf
theorem ev_slice {own : Bool} {lo hi : Option Expr} {fl fh : M (Option Int)} {p2 : Pos} (ha : EVV X T a fa) (hl : EVO X T lo fl) (hh : EVO X T hi fh) : EV X T (.Subscript a (.Slice lo hi none p2) pos) (slA own fa fl fh) := pe_mono (pe_slice sl_any ha hl hh) fun σ H Q ⟨Z, h⟩ => by
  refine ⟨Z, rz_mono (rv_bind POk.mono h) fun Z R a S p v H1 Z1 s1 r1 a1 => ?_⟩
  obtain ⟨u, Z2, s2, o2, h2⟩ := p v H1 Z1 s1 r1 a1
  obtain ⟨Z4, h1⟩ := ro_bind POk.mono h2
  refine ⟨Z4, rz_mono h1 fun Z R o S p H' Z' s' r' => ?_⟩
  obtain ⟨Z5, s5, h5⟩ := p H' Z' s' r'
  obtain ⟨Z6, h6⟩ := ro_bind POk.mono h5
  refine ⟨Z6, rz_mono h6 fun Z R o S p H' Z' s' r' => ?_⟩
  obtain ⟨Z7, s7, h7⟩ := p H' Z' s' r'
  obtain ⟨x, o, R8, S8, sz, w, e8, rel8, pf8⟩ := rz_op1 h7 ((o2.sub s5).sub s7)
  have fin : Fin X T Z7 o σ H' Q := ⟨R8, S8, rel8, pf8⟩
  unfold oSl at e8
  cases x with
  | list xs =>
    cases e8
    obtain ⟨a, vs, rfl, ha, ra⟩ := w.list sz
    refine .inl (.inl ⟨a, vs, rfl, .inl ha, ?_⟩)
    have hl := ra.length
    unfold cutV
    rw [hl]
    exact fin.lst ((ra.drop _).take _)
  | tuple xs =>
    cases e8
    have w' := w.fr (by intros; simp)
    obtain ⟨a, vs, rfl, ha, ra⟩ := w.tup sz
    have hl := ra.length
    refine .inl (.inr ⟨a, vs, rfl, ha, fun z => ?_, fun _ => ?_⟩)
    · rw [hl] at z
      rw [z.1, z.2] at fin
      simp only [List.drop_zero, Nat.sub_zero, List.take_length] at fin
      exact fin.val w'
    · unfold cutV
      rw [hl]
      exact fin.tup ((ra.drop _).take _)
  | str z =>
    have e8 : (if z.length ≤ sizeLine then some (OV.d (.str (cutS z _ _))) else none) = some o := e8
    split at e8
    · cases e8
      rw [w.str]
      exact .inr ⟨z, rfl, by assumption, fin.val (.str _)⟩
    · cases e8
  | _ => cases e8

/-! ### o.m(..) of frozen things -/
def tyOk (T : String) : PyData → Bool
  | .str _ => T == "str"
  | .list _ => T == "list"
  | _ => false
def chkA (T : String) (a : AV) : M Unit := fun S => match view S a with
  | some x => if tyOk T x then some (.ok (), S) else none
  | none => none
def MethG (X : Cx) (T : List (Addr × Str)) (r : V → List V → Hp → VK → Prop) (op : PyData → List PyData → Option OV) : Prop := ∀ (Z : Hp) (v : V) (vs : List V) (x : PyData) (xs : List PyData) (o : OV) (σ : L2.St) (H : Hp) (Q : VK), Sub Z H → Vw X.K Z H v x → VwAll X.K Z H vs xs → op x xs = some o → Fin X T Z o σ H Q → r v vs H Q
def opC (op : PyData → List PyData → Option OV) : List PyData → Option OV
  | x :: xs => op x xs
  | [] => none
def methN (ty : String) (fa : M AV) (g : M (List AV)) (op : PyData → List PyData → Option OV) : M OV := fa >>= fun a => chkA ty a >>= fun _ => g >>= fun as => opN (opC op) (a :: as)
theorem Vw.tyV {K : PySem.W.Frag} {v : V} {x : PyData} {ty : String} (h : Vw K Z H v x) (s : Sub Z H) (e : tyOk ty x = true) : tyV K ty v H := by
  cases x with
  | str z => rw [h.str]; exact beq_iff_eq.mp e
  | list ds =>
    obtain ⟨a, vs, rfl, ha, _⟩ := h.list s
    exact .inl ⟨beq_iff_eq.mp e, vs, .inl ha⟩
  | _ => cases e
theorem ev_meth {ty id : String} {name : Str} {r : V → List V → Hp → VK → Prop} {op : PyData → List PyData → Option OV} (pa : PlainAttrs ty) (slot : Slot ty name id) (hty : typeOf (.builtin id) = pure (.type "method_descriptor")) (hm : MtR X id r) (hg : MethG X T r op) (ho : EVV X T o fa) (ha : EVA X T (e :: es) ga)
    (hbase : attributeBase o name X.env (eval o X.env) = eval o X.env := by rfl)
    (hfew : ((backTo pos (starEach (e :: es) X.env)).all (fun x => !x.1) && (backToKw pos (keywordEach [] X.env)).all (fun x => x.1.isSome)
      && decide ((e :: es).length + ([] : List Keyword).length + (if ([] : List Keyword).isEmpty then 0 else 1) < 30)) = true := by rfl)
    (hline : (apos.endLine == pos.line) = true := by rfl) (hs : starEach (e :: es) X.env = (false, eval e X.env) :: starEach es X.env := by rfl) (hplain : (backTo pos (starEach es X.env)).any (·.1) = false := by rfl) :
    EV X T (.Call (.Attribute o name apos) (e :: es) [] pos) (methN ty fa ga op) := pe_mono (pe_bm pa slot hty hm ho ha hbase hfew hline hs hplain) fun σ H Q ⟨Z, h⟩ => by
  refine ⟨Z, rz_mono (rv_bind POk.mono h) fun Z R a S p v H1 Z1 s1 r1 a1 => ?_⟩
  obtain ⟨u, Z2, s2, o2, R3, S3, r', S', W, rel, er, tk, pf⟩ := p v H1 Z1 s1 r1 a1
  rcases bind_eq er with ⟨y, ef, rfl⟩ | ⟨x, S1, ef, eg⟩
  · unfold chkA at ef
    split at ef
    · split at ef
      · cases ef
      · cases ef
    · cases ef
  · have hx : S1 = S3 ∧ ∃ x, view S3 u = some x ∧ tyOk ty x = true := by
      unfold chkA at ef
      split at ef
      · rename_i x q
        split at ef
        · cases ef; exact ⟨rfl, x, q, by assumption⟩
        · cases ef
      · cases ef
    obtain ⟨rfl, x, vx, tx⟩ := hx
    refine ⟨(rel.view o2 vx).tyV rel.z tx, ?_⟩
    have h3 : rz X T (POk X.K T σ Q) Z2 (ga >>= fun as => opN (opC op) (u :: as)) σ H1 := ⟨R3, S1, r', S', W, rel, eg, tk, pf⟩
    refine ⟨Z2, rz_mono (ra_bind POk.mono h3) fun Z R as S p vs H2 Z3 s3 r3 a3 => ?_⟩
    obtain ⟨us, Z4, s4, o4, h4⟩ := p vs H2 Z3 s3 r3 a3
    obtain ⟨xs, o', R5, S5, sz, w, e5, rel5, pf5⟩ := rz_opN h4 (.cons (o2.sub s4) o4)
    cases w with
    | cons w1 w2 => exact hg Z4 v vs _ _ o' σ H2 Q sz w1 w2 e5 ⟨R5, S5, rel5, pf5⟩
end
end PL

/-! PL9: lists of a slot's own, loops' items, comprehensions -/
namespace PL
open PySem PySem.Spec PyProof.Rows L2 LamX
section
variable {K : PySem.W.Frag} {T : List (Addr × Str)} {Z Z' R H H' : Hp} {S S' : SS} {σ σ' : L2.St} {v : V} {x : PyData} {o : OV}
/-- the tables stay where an object that is no table and no code object is rewritten -/
theorem tabs_upd {a : Addr} {o u : HO} (t : Tabs T H) (h : H a = some o) (n1 : ∀ ps, o ≠ .tbl ps) (n2 : ∀ φ, o ≠ .ext φ) : Tabs T (upd H a u) := fun p hp => by
  obtain ⟨ps, h1, h2, h3⟩ := t p hp
  have ne : ∀ {b : Addr} {w : HO}, H b = some w → w ≠ o → b ≠ a := fun hb hw e => by
    subst e
    rw [h] at hb
    exact hw (Option.some.inj hb).symm
  refine ⟨ps, by rw [upd_ne (ne h1 fun z => n1 ps z.symm)]; exact h1, h2, fun pos cv hc => ?_⟩
  obtain ⟨c, e1, e2⟩ := h3 pos cv hc
  exact ⟨c, e1, by rw [upd_ne (ne e2 fun z => by unfold CodeO at z; exact n2 _ z.symm)]; exact e2⟩
/-- slot i holds a list of its own: it may be rewritten -/
theorem Rel.lst (r : Rel K T Z R S σ H) {i : Nat} {xs : List OV} {ds : List PyData} (e : S[i]? = some (some (.lst xs))) (hi : items xs = some ds) :
    ∃ a vs, σ[i]? = some (some (.ref a)) ∧ H a = some (.lst vs) ∧ FrAll K Z vs ds ∧ ∀ vs' ds', FrAll K Z vs' ds' → Rel K T Z R (S.set i (some (.lst (ds'.map .d)))) σ (upd H a (.lst vs')) := by
  obtain ⟨L, ow, n, q⟩ := r.own
  obtain ⟨v, Li, Lr, h1, h2, h3, h4⟩ := ow.get e
  rw [items_eq hi] at h2
  have hlt : i < S.length := (List.getElem?_eq_some_iff.mp e).1
  cases h2 with
  | @lst a vs _ L2 ha r2 =>
    obtain ⟨rfl, fr⟩ := OwnL.toFr r2
    have n2 := (h4.nodup_iff).mp n
    have n3 : a ∉ Lr ∧ Lr.Nodup := by simpa using n2
    have hZ : Z a = none := (q a (h4.mem_iff.mpr (List.mem_append_left _ List.mem_cons_self))).1
    have hR : R a = none := (q a (h4.mem_iff.mpr (List.mem_append_left _ List.mem_cons_self))).2
    refine ⟨a, vs, h1, ha, fr, fun vs' ds' fr' => ?_⟩
    have h5 : OwnS K Z (upd H a (.lst vs')) σ (S.set i none) Lr := h3.mono (Sub.refl Z) fun c hc => upd_ne fun z => n3.1 (z ▸ hc)
    obtain ⟨M, h6, D, h7⟩ := h5.put (i := i) (v := .ref a) (x := .lst (ds'.map .d)) (Li := [a]) (.lst upd_same (OwnL.ofFr fr')) (by simpa using hlt)
    have eσ : σ.set i (some (.ref a)) = σ := set_same h1
    rw [List.set_set, eσ] at h6
    obtain ⟨n4, n5⟩ := nodup_sub ⟨D, h7⟩ (by simpa using n3)
    refine ⟨⟨M, h6, n4, fun c hc => ?_⟩, fun c o ec => ?_, fun c o ec => ?_, r.zt, r.rt, r.zr, tabs_upd r.tab ha (fun _ z => by cases z) fun _ z => by cases z⟩
    · have := n5 c hc
      exact q c (h4.mem_iff.mpr (by simpa using this))
    · rw [upd_ne (fun z => by rw [z, hZ] at ec; cases ec)]; exact r.z c o ec
    · rw [upd_ne (fun z => by rw [z, hR] at ec; cases ec)]; exact r.r c o ec
end
section
variable {X : Cx} {T : List (Addr × Str)} {mp : List Nat} {a b c e l tg iter : Expr} {es : List Expr} {fa fb : M AV} {ga : M (List AV)} {pos apos : Pos} {Z R H : Hp} {S : SS} {σ : L2.St}
/-! ### methods of a list of the slot's own -/
/-- the method's rule serves op: of what the list holds and the arguments, the answer and what it holds then -/
def MutG (X : Cx) (r : V → List V → Hp → VK → Prop) (op : List PyData → List PyData → Option (PyData × List PyData)) : Prop := ∀ (Z : Hp) (p : Addr) (vs ws : List V) (ds xs : List PyData) (y : PyData) (ds' : List PyData) (H : Hp) (Q : VK), Sub Z H → H p = some (.lst vs) → FrAll X.K Z vs ds → FrAll X.K Z ws xs → op ds xs = some (y, ds') →
  (∀ w vs', Fr X.K Z w y → FrAll X.K Z vs' ds' → Q w (upd H p (.lst vs'))) → r (.ref p) ws H Q
def isL : Option (Option OV) → Option (List PyData)
  | some (some (.lst xs)) => items xs
  | _ => none
theorem isL_eq {o : Option (Option OV)} {ds : List PyData} (h : isL o = some ds) : ∃ xs, o = some (some (.lst xs)) ∧ items xs = some ds := by
  unfold isL at h
  split at h
  · exact ⟨_, rfl, h⟩
  · cases h
def mutE (i : Nat) (op : List PyData → List PyData → Option (PyData × List PyData)) (as : List AV) : M OV := fun S => match isL S[i]?, frs as with
  | some ds, some xs => (op ds xs).map fun p => (.ok (.d p.1), S.set i (some (.lst (p.2.map .d))))
  | _, _ => none
def mutM (i : Nat) (ga : M (List AV)) (op : List PyData → List PyData → Option (PyData × List PyData)) : M OV := fun S => match isL S[i]? with
  | some _ => (ga >>= mutE i op) S
  | none => none
theorem mut_core {i : Nat} {r : V → List V → Hp → VK → Prop} {op : List PyData → List PyData → Option (PyData × List PyData)} (hg : MutG X r op) {as : List AV} {vs : List V} {Q : VK} {p : Addr} (h : rz X T (POk X.K T σ Q) Z (mutE i op as) σ H) (av : AvAll X.K Z σ vs as) (hp : σ[i]? = some (some (.ref p))) : r (.ref p) vs H Q := by
  obtain ⟨R, S, r', S', W, rel, e, tk, pf⟩ := h
  unfold mutE at e
  split at e
  · rename_i ds xs e1 e2
    obtain ⟨ls, eL, eI⟩ := isL_eq e1
    cases q : op ds xs with
    | none => rw [q] at e; cases e
    | some t =>
      obtain ⟨y, ds'⟩ := t
      rw [q] at e
      cases e
      obtain ⟨a, ws, h1, h2, h3, h4⟩ := rel.lst eL eI
      rw [hp] at h1
      cases h1
      exact hg Z p ws vs ds xs y ds' H Q rel.z h2 h3 (av.frs e2) q fun w vs' fw fr' => pf w _ Z (Sub.refl _) ((h4 vs' ds' fr').push fw)
  · cases e
theorem ev_mut {i : Nat} {x : Str} {px : Pos} {id : String} {name : Str} {r : V → List V → Hp → VK → Prop} {op : List PyData → List PyData → Option (PyData × List PyData)} (slot : Slot "list" name id) (hty : typeOf (.builtin id) = pure (.type "method_descriptor")) (hm : MtR X id r) (hg : MutG X r op)
    (hN : X.N[i]? = some x) (hv : Vis X.env.scope x) (ha : EVA X T (e :: es) ga) (hd : (x == ("__debug__" : Str)) = false := by decide) (hcd : (x == ("__classdict__" : Str)) = false := by decide)
    (hbase : attributeBase (.Name x px) name X.env (eval (.Name x px) X.env) = eval (.Name x px) X.env := by rfl)
    (hfew : ((backTo pos (starEach (e :: es) X.env)).all (fun x => !x.1) && (backToKw pos (keywordEach [] X.env)).all (fun x => x.1.isSome)
      && decide ((e :: es).length + ([] : List Keyword).length + (if ([] : List Keyword).isEmpty then 0 else 1) < 30)) = true := by rfl)
    (hline : (apos.endLine == pos.line) = true := by rfl) (hs : starEach (e :: es) X.env = (false, eval e X.env) :: starEach es X.env := by rfl) (hplain : (backTo pos (starEach es X.env)).any (·.1) = false := by rfl) :
    EV X T (.Call (.Attribute (.Name x px) name apos) (e :: es) [] pos) (mutM i ga op) := pe_mono (pe_bm PySem.F.plainAttrs_list slot hty hm (pe_var hN hv hd hcd) ha hbase hfew hline hs hplain) fun σ H Q ⟨Z, R, S, r', S', W, rel, er, tk, pf⟩ => by
  unfold mutM at er
  split at er
  · rename_i ds e0
    obtain ⟨ls, eL, eI⟩ := isL_eq e0
    obtain ⟨p, ws, h1, h2, h3, h4⟩ := rel.lst eL eI
    refine ⟨.ref p, h1, .inl ⟨rfl, ws, SqL.of h2⟩, ?_⟩
    have h5 : rz X T (POk X.K T σ Q) Z (ga >>= mutE i op) σ H := ⟨R, S, r', S', W, rel, er, tk, pf⟩
    refine ⟨Z, rz_mono (ra_bind POk.mono h5) fun Z R as S p2 vs H2 Z3 s3 r3 a3 => ?_⟩
    obtain ⟨us, Z4, s4, o4, h6⟩ := p2 vs H2 Z3 s3 r3 a3
    exact mut_core hg h6 o4 h1
  · cases er
theorem ev_mut0 {i : Nat} {x : Str} {px : Pos} {id : String} {name : Str} {r : V → List V → Hp → VK → Prop} {op : List PyData → List PyData → Option (PyData × List PyData)} (slot : Slot "list" name id) (hty : typeOf (.builtin id) = pure (.type "method_descriptor")) (hm : MtR X id r) (hg : MutG X r op)
    (hN : X.N[i]? = some x) (hv : Vis X.env.scope x) (hd : (x == ("__debug__" : Str)) = false := by decide) (hcd : (x == ("__classdict__" : Str)) = false := by decide)
    (hbase : attributeBase (.Name x px) name X.env (eval (.Name x px) X.env) = eval (.Name x px) X.env := by rfl) (hline : (apos.endLine == pos.line) = true := by rfl) :
    EV X T (.Call (.Attribute (.Name x px) name apos) [] [] pos) (mutM i argsNil op) := pe_mono (pe_bm0 PySem.F.plainAttrs_list slot hty hm (pe_var hN hv hd hcd) hbase hline) fun σ H Q ⟨Z, R, S, r', S', W, rel, er, tk, pf⟩ => by
  unfold mutM at er
  split at er
  · rename_i ds e0
    obtain ⟨ls, eL, eI⟩ := isL_eq e0
    obtain ⟨p, ws, h1, h2, h3, h4⟩ := rel.lst eL eI
    refine ⟨.ref p, h1, .inl ⟨rfl, ws, SqL.of h2⟩, ?_⟩
    have h5 : rz X T (POk X.K T σ Q) Z (mutE i op []) σ H := ⟨R, S, r', S', W, rel, er, tk, pf⟩
    exact mut_core hg h5 .nil h1
  · cases er
/-- append: a frozen thing behind -/
def oAppend : List PyData → List PyData → Option (PyData × List PyData)
  | ds, [x] => if ds.length < sizeLine then some (.none, ds ++ [x]) else none
  | _, _ => none
theorem FrAll.one {K : PySem.W.Frag} {vs : List V} {x : PyData} (h : FrAll K Z vs [x]) : ∃ v, vs = [v] ∧ Fr K Z v x := by
  cases h with
  | cons a b => cases b; exact ⟨_, rfl, a⟩
theorem mg_append : MutG X rAppend oAppend := fun Z p vs ws ds xs y ds' H Q sz hp fr hw e q => by
  unfold oAppend at e
  split at e
  · rename_i x
    split at e
    · rename_i hl
      cases e
      obtain ⟨w, rfl, f⟩ := hw.one
      have hlen := fr.length
      exact ⟨p, vs, w, rfl, rfl, hp, by omega, q .non _ .non (fr.append (.cons f .nil))⟩
    · cases e
  · cases e
/-- pop() -/
def oPop : List PyData → List PyData → Option (PyData × List PyData)
  | ds, [] => (ds[ds.length - 1]?).map fun y => (y, ds.dropLast)
  | _, _ => none
theorem FrAll.dropLast {K : PySem.W.Frag} : ∀ {vs : List V} {ds : List PyData}, FrAll K Z vs ds → FrAll K Z vs.dropLast ds.dropLast := fun {vs ds} h => by
  rw [List.dropLast_eq_take, List.dropLast_eq_take, h.length]
  exact h.take _
theorem mg_pop : MutG X rPop oPop := fun Z p vs ws ds xs y ds' H Q sz hp fr hw e q => by
  unfold oPop at e
  split at e
  · cases hw
    cases q1 : ds[ds.length - 1]? with
    | none => rw [q1] at e; cases e
    | some z =>
      rw [q1] at e
      cases e
      obtain ⟨v, hv, fv⟩ := fr.get q1
      rw [← fr.length] at hv
      exact ⟨p, vs, v, rfl, rfl, hp, hv, q v _ fv fr.dropLast⟩
  · cases e
/-- pop(i) -/
def oPopAt : List PyData → List PyData → Option (PyData × List PyData)
  | ds, [.int i] => if -(2 ^ 63) ≤ i ∧ i < 2 ^ 63 then (seqIndex? i ds.length).bind fun k => (ds[k]?).map fun y => (y, ds.eraseIdx k) else none
  | _, _ => none
theorem FrAll.eraseIdx {K : PySem.W.Frag} : ∀ {vs : List V} {ds : List PyData} (k : Nat), FrAll K Z vs ds → FrAll K Z (vs.eraseIdx k) (ds.eraseIdx k)
  | _, _, _, .nil => .nil
  | _, _, 0, .cons a b => b
  | _, _, k + 1, .cons a b => .cons a (FrAll.eraseIdx k b)
theorem mg_popAt : MutG X rPopAt oPopAt := fun Z p vs ws ds xs y ds' H Q sz hp fr hw e q => by
  unfold oPopAt at e
  split at e
  · rename_i i
    split at e
    · rename_i hi
      obtain ⟨w, rfl, f⟩ := hw.one
      cases q0 : seqIndex? i ds.length with
      | none => rw [q0] at e; cases e
      | some k =>
        rw [q0] at e
        have e : (ds[k]?).map (fun y => (y, ds.eraseIdx k)) = some (y, ds') := e
        cases q1 : ds[k]? with
        | none => rw [q1] at e; cases e
        | some z =>
          rw [q1] at e
          cases e
          obtain ⟨v, hv, fv⟩ := fr.get q1
          rw [f.intV]
          exact ⟨p, vs, i, k, v, rfl, rfl, hp, hi.1, hi.2, by rw [fr.length]; exact q0, hv, q v _ fv (fr.eraseIdx k)⟩
    · cases e
  · cases e
/-- extend by a frozen list -/
def rExtendR : V → List V → Hp → VK → Prop := fun x vs H Q => ∃ l b xs zs, x = .ref l ∧ vs = [.ref b] ∧ H l = some (.lst xs) ∧ Rd H b (.lst zs) ∧ xs.length + zs.length ≤ sizeLine ∧ Q .non (upd H l (.lst (xs ++ zs)))
theorem mt_extendR : MtR X "list.extend" rExtendR := by
  intro pins s σ H x vs v us Q I rx rv h
  obtain ⟨l, b, xs, zs, rfl, rfl, hH, hB, hz, q⟩ := h
  cases rx
  obtain ⟨u, rfl, ru⟩ := rv.one
  cases ru
  obtain ⟨z, its, n, r, hl, e⟩ := I.lstM hH
  obtain ⟨z2, its2, n2, r2, hl2, e2⟩ := Inv.lstR I hB
  have hsz : its.toArray.size + its2.toArray.size ≤ sizeLine := by rw [List.size_toArray, List.size_toArray]; omega
  have hlong : ¬ (!its.toArray.isEmpty && Builtin.List.listTooLong (its.toArray.size + its2.toArray.size)) = true := by
    rw [notLongL hsz, Bool.and_false]
    exact Bool.false_ne_true
  refine call_meets F.slot_list_extend ⟨_, e, rfl⟩ F.entry_list_extend (F.args_list_extend_2 _ _)
    (AutoSeq1.list_extend_list_list_0 l its.toArray n b its2.toArray n2 hlong (by rw [List.size_toArray]; omega) (by omega)) ⟨e, e2, ?_⟩
  refine ⟨.non, _, I.lset (its' := its ++ its2) hH e (by simp) (r.append r2) ?_, rfl, q⟩
  rw [List.length_append]
  omega
def oExtend : List PyData → List PyData → Option (PyData × List PyData)
  | ds, [.list es] => if ds.length + es.length ≤ sizeLine then some (.none, ds ++ es) else none
  | _, _ => none
theorem mg_extend : MutG X rExtendR oExtend := fun Z p vs ws ds xs y ds' H Q sz hp fr hw e q => by
  unfold oExtend at e
  split at e
  · rename_i es
    split at e
    · rename_i hl
      cases e
      obtain ⟨w, rfl, f⟩ := hw.one
      cases f with
      | @lst a us _ ha ra =>
        have h1 := fr.length
        have h2 := ra.length
        exact ⟨p, a, vs, us, rfl, rfl, hp, Rd.sub ha sz, by omega, q .non _ .non (fr.append ra)⟩
    · cases e
  · cases e
/-! x[k] = v, x a list of the slot's own -/
def storeL (i : Nat) (x : PyData) (a : AV) : SM := fun S => match isL S[i]?, view S a with
  | some ds, some (.int k) => (ixN ds.length k).map fun j => (.nx, S.set i (some (.lst ((ds.set j x).map .d))))
  | _, _ => none
def putL (i : Nat) (fk : M AV) (x : PyData) : SM := fun S => match isL S[i]? with
  | some _ => doE fk (storeL i x) S
  | none => none
def setL (i : Nat) (fe : M OV) (fk : M AV) : SM := doE fe fun o => match o with
  | .d x => putL i fk x
  | _ => fun _ => none
theorem doV_of {D : Ends} {g : AV → SM} {P : Nat → V} {W : WX} {r : Fl} {S' : SS} (rel : Rel X.K T Z R S σ H) (pn : Pin mp P σ) (e : doE fa g S = some (r, S')) (tk : Takes X W) (q : PFl X.K T mp P D W Z R S' r) :
    rvg X T fa σ H fun v H1 => ∃ a Z1 S1, Sub Z Z1 ∧ Rel X.K T Z1 R S1 σ H1 ∧ AvOk X.K Z1 σ v a ∧ g a S1 = some (r, S') := by
  unfold doE at e
  split at e
  · rename_i o S1 e1
    exact ⟨Z, R, S, _, _, W, rel, e1, tk, fun v H' Z' s rel' av => ⟨o, Z', S1, s, rel', av, e⟩⟩
  · rename_i x S1 e1
    cases e
    exact ⟨Z, R, S, _, _, W, rel, e1, tk, fun cls d H' Z' s rel' ix => q cls d σ H' Z' s rel' pn ix⟩
  · cases e
theorem sv_setL {i : Nat} {x : Str} {px tpos : Pos} {fe : M OV} {fk : M AV} {k : Expr} (hN : X.N[i]? = some x) (hv : Vis X.env.scope x) (he : EV X T e fe) (hk : EVV X T k fk) (hd : (x == ("__debug__" : Str)) = false := by decide) (hcd : (x == ("__classdict__" : Str)) = false := by decide)
    (hs : swapsWithSole [.Subscript (.Name x px) k tpos] e pos.line X.env = pure false := by rfl) (hw : swappedStores [.Subscript (.Name x px) k tpos] e X.env = pure none := by rfl)
    (h1 : (assignEach [.Subscript (.Name x px) k tpos] X.env).map (·.2) = [assign (.Subscript (.Name x px) k tpos) X.env] := by rfl)
    (ha : ∀ v, assign (.Subscript (.Name x px) k tpos) X.env v = (do
      let ov ← holding [v] (eval (.Name x px) X.env)
      let iv ← holding [v, ov] (eval k X.env)
      standAt tpos
      holding [v, ov, iv] (setItem ov iv v)
      release [v, ov, iv] []) := by intro _; rfl) : SV X T mp (.Assign [.Subscript (.Name x px) k tpos] e pos) (setL i fe fk) :=
  ps_mono (ps_asg he (pg_sub (pe_var hN hv hd hcd) hk set_list ha) hs hw h1) fun D σ H h => by
    obtain ⟨Z, h⟩ := doE_of h
    refine ⟨Z, rz_mono h fun Z R o S p v H1 Z1 s1 r1 => ?_⟩
    obtain ⟨o, Z1, R, S1, r, S', W, P, rel, pn, e, tk, q⟩ := p v H1 Z1 s1 r1
    cases o with
    | d y =>
      obtain ⟨fy, rel1⟩ := rel.popd
      have e : putL i fk y S1 = some (r, S') := e
      unfold putL at e
      split at e
      · rename_i ds e0
        obtain ⟨ls, eL, eI⟩ := isL_eq e0
        obtain ⟨p, ws, g1, g2, g3, g4⟩ := rel1.lst eL eI
        obtain ⟨Z2, h2⟩ := doV_of rel1 pn e tk q
        refine ⟨.ref p, g1, Z2, rz_mono h2 fun Z R a S p2 v2 H2 Z2 s2 r2 a2 => ?_⟩
        obtain ⟨a, Z3, S3, s3, rel3, av3, e3⟩ := p2 v2 H2 Z2 s2 r2 a2
        unfold storeL at e3
        split at e3
        · rename_i ds3 k3 i3 v3
          obtain ⟨ls3, eL3, eI3⟩ := isL_eq i3
          obtain ⟨p3, ws3, k1, k2, k3', k4⟩ := rel3.lst eL3 eI3
          rw [g1] at k1
          cases k1
          cases q3 : ixN ds3.length k3 with
          | none => rw [q3] at e3; cases e3
          | some j =>
            rw [q3] at e3
            cases e3
            rw [(rel3.view av3 v3).int]
            refine ⟨p, ws3, k3, j, rfl, rfl, k2, by rw [k3'.length]; exact q3, ?_⟩
            have rel4 := k4 _ _ (k3'.set j (fy.sub s3))
            exact q σ _ Z3 s3 rel4 pn
        · cases e3
      · cases e
    | _ => cases e

/-! ### what loops walk -/
theorem pi_seqA {l : Expr} {tl : TE} (hl : PE X l tl) : PI X tg l (fun σ H R => tl σ H fun x H1 => ∃ a, x = .ref a ∧ (((∃ xs, SqL X.K H1 a xs) ∧ R (Itl X.K a) H1) ∨ ((∃ xs, SqT X.K H1 a xs) ∧ R (Itt X.K a) H1))) := by
  refine ⟨fun pins s σ H R I h => ?_⟩
  refine thn (hl.run pins s σ H _ I h) fun v s1 ⟨x, H1, I1, r1, q1⟩ => ?_
  obtain ⟨a, e, ⟨⟨xs, hq⟩, q⟩ | ⟨⟨xs, hq⟩, q⟩⟩ := q1
  · subst e
    cases r1
    obtain ⟨its, rv, p, hz⟩ := I1.list hq
    refine wpAny_pyIter_list p.isList ?_
    refine ⟨s1.heap.objs.size, [s1.heap.objs.size], _, _, H1, rfl, I1.kept (t' := s1.toks) fun b o e => Heap.get?_push_of_some _ e, turn_list a _, ⟨_, Heap.get?_push_size _ rfl, rfl, rfl⟩, fun b hb => ?_, q⟩
    have e : b = s1.heap.objs.size := by simpa using hb
    subst e
    exact I1.fpOk (Nat.le_refl _) (I1.hok.fresh (Nat.le_refl _))
  · subst e
    cases r1
    obtain ⟨its, rv, p, hz⟩ := I1.tuple hq
    refine wpAny_pyIter_tuple (show s1.heap.IsTuple a its.toArray from p) ?_
    refine ⟨s1.heap.objs.size, [s1.heap.objs.size], _, _, H1, rfl, I1.kept (t' := s1.toks) fun b o e => Heap.get?_push_of_some _ e, turn_tuple a _, ⟨_, Heap.get?_push_size _ rfl, rfl, rfl⟩, fun b hb => ?_, q⟩
    have e : b = s1.heap.objs.size := by simpa using hb
    subst e
    exact I1.fpOk (Nat.le_refl _) (I1.hok.fresh (Nat.le_refl _))
def seqOf : OV → Option (List PyData)
  | .d (.list xs) => some xs
  | .d (.tuple xs) => some xs
  | _ => none
def itE (f : M OV) : M (List PyData) := f >>= fun o => M.lift (seqOf o)
theorem evi_seq {f : M OV} (h : EV X T iter f) : EVI X T tg iter (itE f) := pi_mono (pi_seqA h) fun σ H R0 ⟨Z, h⟩ => by
  refine ⟨Z, rz_mono (rd_bind PIt.mono h) fun Z R o S p v H1 Z1 s1 r1 => ?_⟩
  obtain ⟨o', Z2, R2, S2, r, S', W, s2, rel, e, tk, q⟩ := p v H1 Z1 s1 r1
  cases hq : seqOf o' with
  | none => rw [hq] at e; cases e
  | some ds =>
    rw [hq] at e
    cases e
    have goes : ∀ (J : It), (∀ (Z3 : Hp) (H3 : Hp), Sub Z2 Z3 → Sub Z3 H3 → ∀ i : Nat, (i = ds.length → J.stop i H3) ∧ ∀ d, ds[i]? = some d → J.go i H3 ∧ ∀ x H', J.yld i H3 x H' → H' = H3 ∧ Fr X.K Z3 x d) → Goes X.K T Z2 J ds := fun J hJ Z3 R3 S3 σ3 H3 s3 rel3 i => by
      obtain ⟨g1, g2⟩ := hJ Z3 H3 s3 rel3.z i
      refine ⟨g1, fun d hd => ?_⟩
      obtain ⟨g3, g4⟩ := g2 d hd
      refine ⟨g3, fun x H' y => ?_⟩
      obtain ⟨rfl, f⟩ := g4 x H' y
      exact ⟨Z3, Sub.refl _, rel3, f⟩
    cases o' with
    | d x =>
      obtain ⟨f1, r2⟩ := rel.popd
      cases x with
      | list xs =>
        cases hq
        cases f1 with
        | @lst a vs _ ha ra =>
          refine ⟨a, rfl, .inl ⟨⟨vs, .inl (Rd.sub ha r2.z)⟩, q _ H1 Z2 (Sub.refl _) r2 (goes _ fun Z3 H3 s3 sz i => ⟨fun hi => ⟨vs, .inl (Rd.sub (Rd.sub ha s3) sz), by rw [ra.length, hi]; exact Nat.le_refl _⟩, fun d hd => ?_⟩)⟩⟩
          obtain ⟨u, hu, fu⟩ := ra.get hd
          refine ⟨⟨vs, u, .inl (Rd.sub (Rd.sub ha s3) sz), hu⟩, fun x H' ⟨e1, e2⟩ => ⟨e1, ?_⟩⟩
          have := e2 vs (.inl (Rd.sub (Rd.sub ha s3) sz))
          rw [hu] at this
          cases this
          exact fu.sub s3
      | tuple xs =>
        cases hq
        cases f1 with
        | @tup a vs _ ha ra =>
          refine ⟨a, rfl, .inr ⟨⟨vs, sqT_sub ha r2.z⟩, q _ H1 Z2 (Sub.refl _) r2 (goes _ fun Z3 H3 s3 sz i => ⟨fun hi => ⟨vs, sqT_sub (sqT_sub ha s3) sz, by rw [ra.length, hi]; exact Nat.le_refl _⟩, fun d hd => ?_⟩)⟩⟩
          obtain ⟨u, hu, fu⟩ := ra.get hd
          refine ⟨⟨vs, u, sqT_sub (sqT_sub ha s3) sz, hu⟩, fun x H' ⟨e1, e2⟩ => ⟨e1, ?_⟩⟩
          have := e2 vs (sqT_sub (sqT_sub ha s3) sz)
          rw [hu] at this
          cases this
          exact fu.sub s3
      | _ => cases hq
    | _ => cases hq
/-- for c in s, s a text -/
def strOf : OV → Option (List PyData)
  | .d (.str z) => some (z.cps.toList.map fun c => .str ⟨#[c]⟩)
  | _ => none
def itS (f : M OV) : M (List PyData) := f >>= fun o => M.lift (strOf o)
theorem evi_str {f : M OV} (h : EV X T iter f) : EVI X T tg iter (itS f) := pi_mono (pi_str h) fun σ H R0 ⟨Z, h⟩ => by
  refine ⟨Z, rz_mono (rd_bind PIt.mono h) fun Z R o S p v H1 Z1 s1 r1 => ?_⟩
  obtain ⟨o', Z2, R2, S2, r, S', W, s2, rel, e, tk, q⟩ := p v H1 Z1 s1 r1
  cases o' with
  | d x =>
    cases x with
    | str z =>
      cases e
      obtain ⟨f1, r2⟩ := rel.popd
      refine ⟨z, f1.strV, q _ H1 Z2 (Sub.refl _) r2 fun Z3 R3 S3 σ3 H3 s3 rel3 i => ⟨fun hi => ?_, fun d hd => ?_⟩⟩
      · show z.cps.size ≤ i
        rw [hi, List.length_map, Array.length_toList]; exact Nat.le_refl _
      · rw [List.getElem?_map] at hd
        cases hc : z.cps.toList[i]? with
        | none => rw [hc] at hd; cases hd
        | some c =>
          rw [hc] at hd
          cases hd
          rw [Array.getElem?_toList] at hc
          refine ⟨(Array.getElem?_eq_some_iff.mp hc).1, fun x H' ⟨e1, c', e2, e3⟩ => ?_⟩
          subst e1 e3
          rw [hc] at e2
          cases e2
          exact ⟨Z3, Sub.refl _, rel3, .str _⟩
    | _ => cases e
  | _ => cases e
/-- range -/
def rngD (lo : Int) (n : Nat) : List PyData := (List.range n).map fun k => .int (lo + (k : Nat))
def rng1 (ga : M (List AV)) : M (List PyData) := ga >>= fun as => fun S => match views S as with
  | some [.int j] => if -(2 ^ 62) ≤ j ∧ j < 2 ^ 62 then some (.ok (rngD 0 j.toNat), S) else none
  | _ => none
def rng2 (ga : M (List AV)) : M (List PyData) := ga >>= fun as => fun S => match views S as with
  | some [.int i, .int j] => if (-(2 ^ 62) ≤ i ∧ i < 2 ^ 62) ∧ -(2 ^ 62) ≤ j ∧ j < 2 ^ 62 then some (.ok (rngD i (j - i).toNat), S) else none
  | _ => none
theorem goes_rng {K : PySem.W.Frag} (lo : Int) (n : Nat) : Goes K T Z (Itr lo n) (rngD lo n) := fun Z3 R3 S3 σ3 H3 s3 rel3 i => ⟨fun hi => by
    show n ≤ i
    rw [hi, rngD, List.length_map, List.length_range]; exact Nat.le_refl _, fun d hd => by
    unfold rngD at hd
    rw [List.getElem?_map] at hd
    cases hc : (List.range n)[i]? with
    | none => rw [hc] at hd; cases hd
    | some c =>
      rw [hc] at hd
      cases hd
      obtain ⟨h1, h2⟩ := List.getElem?_eq_some_iff.mp hc
      rw [List.getElem_range] at h2
      subst h2
      have h1' : i < n := by simpa using h1
      refine ⟨h1', fun x H' ⟨e1, e2⟩ => ?_⟩
      subst e1 e2
      exact ⟨Z3, Sub.refl _, rel3, .int _⟩⟩
theorem evi_rng1 {p : Pos} (hg : Gl X "range") (hm : X.mg "range" = none) (ha : EVA X T [a] ga) (hs : starEach [a] X.env = [(false, eval a X.env)] := by rfl) : EVI X T tg (.Call (.Name "range" p) [a] [] pos) (rng1 ga) := pi_mono (pi_range1 hg hm ha hs) fun σ H R0 ⟨Z, h⟩ => by
  refine ⟨Z, rz_mono (ra_bind PIt.mono h) fun Z R as S p vs H2 Z3 s3 r3 a3 => ?_⟩
  obtain ⟨us, Z4, s4, o4, R5, S5, r, S', W, rel, e, tk, q⟩ := p vs H2 Z3 s3 r3 a3
  have e : (match views S5 us with
    | some [.int j] => if -(2 ^ 62) ≤ j ∧ j < 2 ^ 62 then some (Except.ok (rngD 0 j.toNat), S5) else none
    | _ => none) = some (r, S') := e
  split at e
  · rename_i j hv
    split at e
    · rename_i hb
      cases e
      obtain ⟨v, rfl, w⟩ := (rel.views o4 hv).one
      rw [w.int]
      exact ⟨j, rfl, hb.1, hb.2, q _ H2 Z4 (Sub.refl _) rel (goes_rng 0 _)⟩
    · cases e
  · cases e
theorem evi_rng2 {p : Pos} (hg : Gl X "range") (hm : X.mg "range" = none) (ha : EVA X T [a, b] ga) (hs : starEach [a, b] X.env = [(false, eval a X.env), (false, eval b X.env)] := by rfl) (hs2 : starEach [b] X.env = [(false, eval b X.env)] := by rfl) : EVI X T tg (.Call (.Name "range" p) [a, b] [] pos) (rng2 ga) := pi_mono (pi_range2 hg hm ha hs hs2) fun σ H R0 ⟨Z, h⟩ => by
  refine ⟨Z, rz_mono (ra_bind PIt.mono h) fun Z R as S p vs H2 Z3 s3 r3 a3 => ?_⟩
  obtain ⟨us, Z4, s4, o4, R5, S5, r, S', W, rel, e, tk, q⟩ := p vs H2 Z3 s3 r3 a3
  have e : (match views S5 us with
    | some [.int i, .int j] => if (-(2 ^ 62) ≤ i ∧ i < 2 ^ 62) ∧ -(2 ^ 62) ≤ j ∧ j < 2 ^ 62 then some (Except.ok (rngD i (j - i).toNat), S5) else none
    | _ => none) = some (r, S') := e
  split at e
  · rename_i i j hv
    split at e
    · rename_i hb
      cases e
      obtain ⟨v, w, rfl, w1, w2⟩ := (rel.views o4 hv).two
      rw [w1.int, w2.int]
      exact ⟨i, j, rfl, ⟨hb.1.1, hb.1.2, hb.2.1, hb.2.2⟩, q _ H2 Z4 (Sub.refl _) rel (goes_rng i _)⟩
    · cases e
  · cases e
end

/-! ### comprehensions -/
def wipeS (S : SS) : List Nat → SS
  | [] => S
  | i :: is => (wipeS S is).set i none
/-- the items of [elt for target in .. if ..] -/
def compL (g : PyData → SS → Option SS) (ft : M Bool) (fe : M OV) (vs : List Nat) : List PyData → List PyData → SS → Option (List PyData × SS)
  | [], acc, S => some (acc, S)
  | d :: ds, acc, S => match g d S with
    | none => none
    | some S1 => match ft S1 with
      | some (.ok true, S2) => match fe S2 with
        | some (.ok (.d y), S3) => if acc.length < sizeLine then compL g ft fe vs ds (acc ++ [y]) (wipeS S3 vs) else none
        | _ => none
      | some (.ok false, S2) => compL g ft fe vs ds acc (wipeS S2 vs)
      | _ => none
def compE (own : Bool) (fi : M (List PyData)) (g : PyData → SS → Option SS) (ft : M Bool) (fe : M OV) (vs : List Nat) : M OV := fi >>= fun ds => fun S => if vs.all (fun i => decide (i < S.length)) then (compL g ft fe vs ds [] (wipeS S vs)).map fun p => (.ok (newL own p.1), p.2) else none
def tYesM : M Bool := M.ret true
section
variable {X : Cx} {T : List (Addr × Str)} {mp : List Nat} {a b c e l tg iter elt : Expr} {ifs : List Expr} {pos : Pos} {Z R H : Hp} {S : SS} {σ : L2.St}
theorem Rel.wipe {K : PySem.W.Frag} (r : Rel K T Z R S σ H) : ∀ vs : List Nat, Rel K T Z R (wipeS S vs) (L2.wipe σ vs) H
  | [] => r
  | i :: is => (Rel.wipe r is).clear i none
theorem wipeS_len : ∀ vs : List Nat, (wipeS S vs).length = S.length
  | [] => rfl
  | i :: is => by unfold wipeS; rw [List.length_set, wipeS_len is]
theorem wipeS_get : ∀ (vs : List Nat) (i : Nat), i ∈ vs → i < S.length → (wipeS S vs)[i]? = some none
  | j :: is, i, h, hl => by
    unfold wipeS
    by_cases e : j = i
    · subst e
      rw [List.getElem?_set_self (by rw [wipeS_len]; exact hl)]
    · rw [List.getElem?_set_ne e]
      exact wipeS_get is i (by simpa [Ne.symm e] using h) hl
/-- slots that hold nothing may be anything -/
theorem Rel.unwipe {K : PySem.W.Frag} {S1 : SS} : ∀ (ws : List Nat) {σ : L2.St}, Rel K T Z R S1 (L2.wipe σ ws) H → (∀ i ∈ ws, S1[i]? = some none) → Rel K T Z R S1 σ H := by
  intro ws
  induction ws with
  | nil => intro σ r _; exact r
  | cons i is ih =>
    intro σ r h
    have h1 := r.blank (i := i) (u := (L2.wipe σ is)[i]?.join) (h i List.mem_cons_self)
    have e : ((L2.wipe σ (i :: is)).set i ((L2.wipe σ is)[i]?.join)) = L2.wipe σ is := by
      show ((L2.wipe σ is).set i none).set i _ = _
      rw [List.set_set]
      apply List.ext_getElem?
      intro j
      by_cases hj : i = j
      · subst hj
        by_cases hl : i < (L2.wipe σ is).length
        · rw [List.getElem?_set_self hl, List.getElem?_eq_getElem hl]; rfl
        · rw [List.getElem?_eq_none (by simpa using hl), List.getElem?_eq_none (by simpa using hl)]
      · rw [List.getElem?_set_ne hj]
    rw [e] at h1
    exact ih h1 fun j hj => h j (List.mem_cons_of_mem _ hj)
abbrev EVTs (X : Cx) (T : List (Addr × Str)) (ifs : List Expr) (f : M Bool) : Prop := PTs X ifs (rtg X T f)
theorem evts_nil : EVTs X T [] tYesM := ⟨fun pins s σ H Q I ⟨Z, h⟩ => (pts_nil (X := X)).run pins s σ H Q I (by
  obtain ⟨R, S, rel, p⟩ := rz_ret h
  exact p H Z (Sub.refl _) rel)⟩
theorem evts_one {ft : M Bool} (h : EVT X T c ft) : EVTs X T [c] ft := pts_one h
/-- the list in the making is a part of the frame -/
theorem Rel.addR {K : PySem.W.Frag} (r : Rel K T Z R S σ H) {D : Addr} (hD : H D = none) (vs : List V) : Rel K T Z (upd R D (.lst vs)) S σ (upd H D (.lst vs)) := by
  obtain ⟨L, ow, n, q⟩ := r.own
  have lp : ∀ a ∈ L, a ≠ D := fun a ha e => by
    obtain ⟨w, hw, _⟩ := ow.at_ a ha
    rw [e, hD] at hw; cases hw
  refine ⟨⟨L, ow.mono (Sub.refl Z) (fun a ha => upd_ne (lp a ha)), n, fun a ha => ⟨(q a ha).1, by rw [upd_ne (lp a ha)]; exact (q a ha).2⟩⟩, fun a o e => ?_, fun a o e => ?_, r.zt, fun a ps e => ?_, fun a o e => ?_, r.tab.ext fun a o e => ?_⟩
  · rw [upd_ne (ne_of_none (r.z a o e) hD)]; exact r.z a o e
  · by_cases h : a = D
    · subst h; rw [upd_same] at e ⊢; exact e
    · rw [upd_ne h] at e ⊢; exact r.r a o e
  · by_cases h : a = D
    · subst h; rw [upd_same] at e; cases e
    · rw [upd_ne h] at e; exact r.rt a ps e
  · by_cases h : a = D
    · subst h
      have := r.z a o e
      rw [hD] at this; cases this
    · rw [upd_ne h]; exact r.zr a o e
  · rw [upd_ne (ne_of_none e hD)]; exact e
/-- .. it grows -/
theorem Rel.setR {K : PySem.W.Frag} {D : Addr} {vs vs' : List V} (r : Rel K T Z (upd R D (.lst vs)) S σ H) : Rel K T Z (upd R D (.lst vs')) S σ (upd H D (.lst vs')) := by
  obtain ⟨L, ow, n, q⟩ := r.own
  have hD : H D = some (.lst vs) := r.r D _ upd_same
  have lp : ∀ a ∈ L, a ≠ D := fun a ha e => by
    have := (q a ha).2
    rw [e, upd_same] at this; cases this
  have zD : Z D = none := by
    cases e : Z D with
    | none => rfl
    | some o => have := r.zr D o e; rw [upd_same] at this; cases this
  refine ⟨⟨L, ow.mono (Sub.refl Z) (fun a ha => upd_ne (lp a ha)), n, fun a ha => ⟨(q a ha).1, by have := (q a ha).2; rw [upd_ne (lp a ha)] at this ⊢; exact this⟩⟩, fun a o e => ?_, fun a o e => ?_, r.zt, fun a ps e => ?_, fun a o e => ?_, tabs_upd r.tab hD (fun _ z => by cases z) fun _ z => by cases z⟩
  · rw [upd_ne (fun z => by rw [z, zD] at e; cases e)]; exact r.z a o e
  · by_cases h : a = D
    · subst h; rw [upd_same] at e ⊢; exact e
    · rw [upd_ne h] at e ⊢
      exact r.r a o (by rw [upd_ne h]; exact e)
  · by_cases h : a = D
    · subst h; rw [upd_same] at e; cases e
    · rw [upd_ne h] at e
      exact r.rt a ps (by rw [upd_ne h]; exact e)
  · by_cases h : a = D
    · subst h; rw [zD] at e; cases e
    · have := r.zr a o e
      rw [upd_ne h] at this ⊢; exact this
/-- .. and is done -/
theorem Rel.doneR {K : PySem.W.Frag} {own : Bool} {D : Addr} {vs : List V} {ds : List PyData} (r : Rel K T Z (upd R D (.lst vs)) S σ H) (hR : R D = none) (f : FrAll K Z vs ds) : ∃ Z', Sub Z Z' ∧ Rel K T Z' R (some (newL own ds) :: S) (some (.ref D) :: σ) H := by
  obtain ⟨L, ow, n, q⟩ := r.own
  have hD : H D = some (.lst vs) := r.r D _ upd_same
  have lp : ∀ a ∈ L, a ≠ D := fun a ha e => by
    have := (q a ha).2
    rw [e, upd_same] at this; cases this
  have zD : Z D = none := by
    cases e : Z D with
    | none => rfl
    | some o => have := r.zr D o e; rw [upd_same] at this; cases this
  have qR : ∀ a ∈ L, R a = none := fun a ha => by have := (q a ha).2; rwa [upd_ne (lp a ha)] at this
  have rR : Sub R H := fun a o e => r.r a o (by rw [upd_ne (fun z => by rw [z, hR] at e; cases e)]; exact e)
  have rt : ∀ a ps, R a ≠ some (.tbl ps) := fun a ps e => r.rt a ps (by rw [upd_ne (fun z => by rw [z, hR] at e; cases e)]; exact e)
  cases own with
  | true =>
    refine ⟨Z, Sub.refl _, ⟨⟨[D] ++ L, .own (.lst hD (OwnL.ofFr f)) ow, List.nodup_cons.mpr ⟨fun z => lp D z rfl, n⟩, fun a ha => ?_⟩, r.z, rR, r.zt, rt, fun a o e => ?_, r.tab⟩⟩
    · rcases List.mem_cons.mp ha with rfl | ha
      · exact ⟨zD, hR⟩
      · exact ⟨(q a ha).1, qR a ha⟩
    · have := r.zr a o e
      rwa [upd_ne (fun z => by rw [z, zD] at e; cases e)] at this
  | false =>
    have sb := sub_upd (Z := Z) (p := D) (.lst vs) zD
    refine ⟨upd Z D (.lst vs), sb, ⟨⟨[] ++ L, .own (.d (.lst (Rd.of upd_same) (f.sub sb))) (ow.mono sb fun _ _ => rfl), n, fun a ha => ⟨by rw [upd_ne (lp a ha)]; exact (q a ha).1, qR a ha⟩⟩, fun a o e => ?_, rR, fun a ps e => ?_, rt, fun a o e => ?_, r.tab⟩⟩
    · by_cases h : a = D
      · subst h; rw [upd_same] at e; rw [← e]; exact hD
      · rw [upd_ne h] at e; exact r.z a o e
    · by_cases h : a = D
      · subst h; rw [upd_same] at e; cases e
      · rw [upd_ne h] at e; exact r.zt a ps e
    · by_cases h : a = D
      · subst h; exact hR
      · rw [upd_ne h] at e
        have := r.zr a o e
        rwa [upd_ne h] at this
/-- readings without exceptions: they lean on nothing but K -/
def rz0 (K : PySem.W.Frag) (T : List (Addr × Str)) {α : Type} (P : Post α) (Z : Hp) (f : M α) (σ : L2.St) (H : Hp) : Prop := ∃ R S a S', Rel K T Z R S σ H ∧ f S = some (.ok a, S') ∧ P Z R a S'
theorem rz0_rz {Y : Cx} {α : Type} {P : Post α} {f : M α} (h : rz0 Y.K T P Z f σ H) : rz Y T P Z f σ H := by
  obtain ⟨R, S, a, S', rel, e, p⟩ := h
  exact ⟨R, S, .ok a, S', fun _ _ _ _ => False, rel, e, L2.takes0, p⟩
theorem pts_mono {Y : Cx} {ifs : List Expr} {t t' : TT} (h : PTs Y ifs t) (i : ∀ σ H Q, t' σ H Q → t σ H Q) : PTs Y ifs t' := ⟨fun pins s σ H Q I q => h.run pins s σ H Q I (i σ H Q q)⟩
theorem wipe_in (ws : List Nat) (τ : L2.St) (j : Nat) (h : j ∈ ws) : (L2.wipe τ ws)[j]? = if j < τ.length then some none else none := by
  induction ws with
  | nil => cases h
  | cons i is ih =>
    show ((L2.wipe τ is).set i none)[j]? = _
    by_cases e : i = j
    · subst e
      by_cases hl : i < τ.length
      · rw [List.getElem?_set_self (by rw [L2.wipe_length]; exact hl), if_pos hl]
      · rw [List.getElem?_eq_none (by rw [List.length_set, L2.wipe_length]; omega), if_neg hl]
    · rw [List.getElem?_set_ne e]
      exact ih (by simpa [Ne.symm e] using h)
theorem wipe_off {σ σ' : L2.St} {vs ws : List Nat} (o : Off ws (L2.wipe σ vs) σ') (h : ∀ i ∈ ws, i ∈ vs) : L2.wipe σ' vs = L2.wipe σ vs := by
  have hl : σ'.length = σ.length := o.1.trans (L2.wipe_length σ vs)
  apply List.ext_getElem?
  intro j
  by_cases hj : j ∈ vs
  · rw [wipe_in vs σ' j hj, wipe_in vs σ j hj, hl]
  · rw [L2.wipe_out hj, o.2 j fun z => hj (h j z)]
theorem ri_bind {β : Type} {P : Post β} (hP : PMono P) {f : M (List PyData)} {g : List PyData → M β} (h : rz X T P Z (f >>= g) σ H) : rig X T f σ H fun J H1 => ∃ ds Z1, Sub Z Z1 ∧ Goes X.K T Z1 J ds ∧ rz X T P Z1 (g ds) σ H1 := by
  obtain ⟨R, S, r, S', W, rel, e, tk, p⟩ := h
  rcases bind_eq e with ⟨x, ef, rfl⟩ | ⟨a, S1, ef, eg⟩
  · exact ⟨Z, R, S, _, _, W, rel, ef, tk, p⟩
  · refine ⟨Z, R, S, _, _, W, rel, ef, tk, fun J H1 Z1 s1 r1 go => ⟨a, Z1, s1, go, R, S1, r, S', W, r1, eg, tk, ?_⟩⟩
    cases r with
    | ok o => exact hP _ _ _ _ _ s1 p
    | error z => exact ExPost.mono s1 p
theorem lc_of {own : Bool} {vs ws : List Nat} {fi : M (List PyData)} {g : PyData → SS → Option SS} {ft : M Bool} {fe : M OV} (hw : ∀ i ∈ ws, i ∈ vs) : ∀ (σ : L2.St) (H : Hp) (Q : VK), rdg X T (compE own fi g ft fe vs) σ H Q →
    tLc (rig X T fi) (rgd X T ws g) (fun σ H Q => ∃ Z, rz0 X.K T (PBo X.K T σ Q) Z ft σ H) (fun σ H Q => ∃ Z, rz0 X.K T (POk X.K T σ Q) Z fe σ H) vs σ H Q := fun σ H Q ⟨Z, h⟩ => by
  obtain ⟨Z0, h⟩ := ri_bind POk.mono h
  refine ⟨Z0, rz_mono h fun Z R o S p J H1 Z1 s1 r1 go1 D hD => ?_⟩
  obtain ⟨ds, Z2, s2, go, R, S, r, S', W, rel, e, tk, pf⟩ := p J H1 Z1 s1 r1 go1
  have e : (if vs.all (fun i => decide (i < S.length)) then (compL g ft fe vs ds [] (wipeS S vs)).map (fun p => (Except.ok (newL own p.1), p.2)) else none) = some (r, S') := e
  split at e
  · rename_i hall
    cases q0 : compL g ft fe vs ds [] (wipeS S vs) with
    | none => rw [q0] at e; cases e
    | some t =>
      obtain ⟨accF, S9⟩ := t
      rw [q0] at e
      cases e
      have hR : R D = none := by
        cases q : R D with
        | none => rfl
        | some w => rw [rel.r _ _ q] at hD; cases hD
      have hlt : ∀ i ∈ vs, i < S.length := fun i hi => of_decide_eq_true (List.all_eq_true.mp hall i hi)
      refine ⟨fun i m H => m = ds.length - i ∧ i ≤ ds.length ∧ ∃ Z' S2 accV acc, Sub Z2 Z' ∧ Rel X.K T Z' (upd R D (.lst accV)) S2 (L2.wipe σ vs) H ∧ FrAll X.K Z' accV acc ∧ S2.length = S.length ∧ (∀ i ∈ vs, S2[i]? = some none) ∧ compL g ft fe vs (ds.drop i) acc S2 = some (accF, S9),
        ⟨_, rfl, Nat.zero_le _, Z2, wipeS S _, [], [], Sub.refl _, (rel.wipe _).addR hD [], .nil, wipeS_len _, fun i hi => wipeS_get _ i hi (hlt i hi), q0⟩, ?_⟩
      rintro i m H3 ⟨rfl, hi, Z3, S3, accV, acc, s3, rel3, fa, hl3, hn3, e3⟩
      obtain ⟨g1, g2⟩ := go Z3 _ S3 _ H3 s3 rel3 i
      by_cases hlt2 : i < ds.length
      · obtain ⟨g3, g4⟩ := g2 ds[i] (List.getElem?_eq_getElem hlt2)
        rw [List.drop_eq_getElem_cons hlt2] at e3
        refine .inr ⟨g3, fun H' => ∃ Z' S2 accV acc, Sub Z2 Z' ∧ Rel X.K T Z' (upd R D (.lst accV)) S2 (L2.wipe σ vs) H' ∧ FrAll X.K Z' accV acc ∧ S2.length = S.length ∧ (∀ i ∈ vs, S2[i]? = some none) ∧ compL g ft fe vs (ds.drop (i + 1)) acc S2 = some (accF, S9),
          fun H' hh => ⟨ds.length - (i + 1), by omega, rfl, hlt2, hh⟩, fun x H4 y => ?_⟩
        obtain ⟨Z4, s4, rel4, fx⟩ := g4 x H4 y
        unfold compL at e3
        cases eg : g ds[i] S3 with
        | none => rw [eg] at e3; cases e3
        | some S5 =>
          rw [eg] at e3
          refine ⟨ds[i], Z4, _, S3, S5, fx, rel4, eg, fun σ5 rel5 off => ⟨wipe_off off hw, ?_⟩⟩
          have hσ : L2.wipe σ5 vs = L2.wipe σ vs := wipe_off off hw
          have hσl : σ5.length = S.length := by rw [off.1, rel4.length, hl3]
          simp only at e3
          cases et : ft S5 with
          | none => rw [et] at e3; cases e3
          | some tt =>
            obtain ⟨tr, S6⟩ := tt
            rw [et] at e3
            cases tr with
            | error _ => cases e3
            | ok b =>
              refine ⟨Z4, _, S5, b, S6, rel5, et, fun H6 Z6 s6 rel6 => ?_⟩
              cases b with
              | false =>
                rw [if_neg Bool.false_ne_true]
                have hl6 : S6.length = S.length := by rw [← rel6.length, hσl]
                have rel7 := rel6.wipe vs
                rw [hσ] at rel7
                exact ⟨Z6, wipeS S6 _, accV, acc, (s3.trans s4).trans s6, rel7, fa.sub (s4.trans s6), (wipeS_len _).trans hl6, fun i hi => wipeS_get _ i hi (by rw [hl6]; exact hlt i hi), e3⟩
              | true =>
                rw [if_pos rfl]
                simp only at e3
                cases ee : fe S6 with
                | none => rw [ee] at e3; cases e3
                | some ts =>
                  obtain ⟨tv, S7⟩ := ts
                  rw [ee] at e3
                  cases tv with
                  | error _ => cases e3
                  | ok ov =>
                    cases ov with
                    | d yD =>
                      simp only at e3
                      split at e3
                      · rename_i hsz
                        refine ⟨Z6, _, S6, _, S7, rel6, ee, fun y H7 Z7 s7 rel7 => ?_⟩
                        obtain ⟨fy, rel8⟩ := rel7.popd
                        refine ⟨accV, rel8.r D _ upd_same, by rw [fa.length]; exact hsz, ?_⟩
                        have hl7 : S7.length = S.length := by rw [← rel8.length, hσl]
                        have rel9 := (rel8.setR (vs' := accV ++ [y])).wipe vs
                        rw [hσ] at rel9
                        exact ⟨Z7, wipeS S7 _, accV ++ [y], acc ++ [yD], ((s3.trans s4).trans s6).trans s7, rel9, (fa.sub ((s4.trans s6).trans s7)).append (.cons fy .nil), (wipeS_len _).trans hl7, fun i hi => wipeS_get _ i hi (by rw [hl7]; exact hlt i hi), e3⟩
                      · cases e3
                    | lst _ => cases e3
                    | dct _ => cases e3
                    | ins _ _ => cases e3
      · have he : i = ds.length := by omega
        subst he
        rw [List.drop_length] at e3
        cases e3
        refine .inl ⟨g1 rfl, ?_⟩
        obtain ⟨Z5, s5, rel5⟩ := (rel3.unwipe _ hn3).doneR (own := own) hR fa
        exact pf _ H3 Z5 (s3.trans s5) rel5
  · cases e
theorem ev_comp {own : Bool} {scope : Scope} {ownN : List (Str × Nat)} {ws : List Nat} {fi : M (List PyData)} {g : PyData → SS → Option SS} {ft : M Bool} {fe : M OV} (hc : X.calm = true) (hN : X.N.Nodup) (hi : EVI X T tg iter fi) (ok : BlkOk X.N X.env.scope scope ownN)
    (hg : ∀ (s : Shared) (H : Hp) (C : Addr) (cl : List (Str × Addr)) (fp : List Addr), GV (X.blk s H scope (compEnvC scope cl C X.env) fp) T ws tg g) (ht : ∀ (s : Shared) (H : Hp) (C : Addr) (cl : List (Str × Addr)) (fp : List Addr), EVTs (X.blk s H scope (compEnvC scope cl C X.env) fp) T ifs ft)
    (he : ∀ (s : Shared) (H : Hp) (C : Addr) (cl : List (Str × Addr)) (fp : List Addr), EV (X.blk s H scope (compEnvC scope cl C X.env) fp) T elt fe) (hw : ∀ i ∈ ws, i ∈ ownN.map (·.2) := by decide) (hs : ∀ x, foldedSetIterable iter X.env x = pure x := by intro _; rfl) :
    EV X T (.ListComp elt [⟨tg, iter, ifs, 0⟩] scope pos) (compE own fi g ft fe (ownN.map (·.2))) :=
  pe_mono (pe_lc (g := rgd X T ws g) (tt := fun σ H Q => ∃ Z, rz0 X.K T (PBo X.K T σ Q) Z ft σ H) (te := fun σ H Q => ∃ Z, rz0 X.K T (POk X.K T σ Q) Z fe σ H) hc hN hi ok hg
    (fun s H C cl fp => pts_mono (ht s H C cl fp) fun σ H Q ⟨Z, h⟩ => ⟨Z, rz0_rz h⟩) (fun s H C cl fp => pe_mono (he s H C cl fp) fun σ H Q ⟨Z, h⟩ => ⟨Z, rz0_rz h⟩) hs) fun σ H Q h => lc_of hw σ H Q h
theorem sv_setC {i : Nat} {y : Str} {py spos : Pos} {mp : List Nat} {own : Bool} {scope : Scope} {ownN : List (Str × Nat)} {ws : List Nat} {fi : M (List PyData)} {g : PyData → SS → Option SS} {ft : M Bool} {fe : M OV} (hc : X.calm = true) (hN : X.N.Nodup) (hy : X.N[i]? = some y) (hyl : X.env.scope.names.lookup y = some .local)
    (hsw : swapsWith (.ListComp elt [⟨tg, iter, ifs, 0⟩] scope pos) (some (.Name y py)) spos.line X.env = pure true) (hi : EVI X T tg iter fi) (ok : BlkOk X.N X.env.scope scope ownN)
    (hg : ∀ (s : Shared) (H : Hp) (C : Addr) (cl : List (Str × Addr)) (fp : List Addr), GV (X.blk s H scope (compEnvC scope cl C X.env) fp) T ws tg g) (ht : ∀ (s : Shared) (H : Hp) (C : Addr) (cl : List (Str × Addr)) (fp : List Addr), EVTs (X.blk s H scope (compEnvC scope cl C X.env) fp) T ifs ft)
    (he : ∀ (s : Shared) (H : Hp) (C : Addr) (cl : List (Str × Addr)) (fp : List Addr), EV (X.blk s H scope (compEnvC scope cl C X.env) fp) T elt fe) (hw : ∀ i ∈ ws, i ∈ ownN.map (·.2) := by decide) (hm : i ∉ mp := by decide) (hs : ∀ x, foldedSetIterable iter X.env x = pure x := by intro _; rfl) :
    SV X T mp (.Assign [.Name y py] (.ListComp elt [⟨tg, iter, ifs, 0⟩] scope pos) spos) (setS i (compE own fi g ft fe (ownN.map (·.2)))) :=
  ps_mono (ps_setLc (g := rgd X T ws g) (tt := fun σ H Q => ∃ Z, rz0 X.K T (PBo X.K T σ Q) Z ft σ H) (te := fun σ H Q => ∃ Z, rz0 X.K T (POk X.K T σ Q) Z fe σ H) hc hN hy hyl hsw hi ok hg
    (fun s H C cl fp => pts_mono (ht s H C cl fp) fun σ H Q ⟨Z, h⟩ => ⟨Z, rz0_rz h⟩) (fun s H C cl fp => pe_mono (he s H C cl fp) fun σ H Q ⟨Z, h⟩ => ⟨Z, rz0_rz h⟩) hs) fun D σ H h => by
  obtain ⟨Z, h⟩ := doE_of h
  refine lc_of hw σ H _ ⟨Z, rz_mono h fun Z R o S p v H1 Z1 s1 r1 => ?_⟩
  obtain ⟨o, Z1, R, S1, r, S', W, P, rel, pn, e, tk, q⟩ := p v H1 Z1 s1 r1
  exact putS_of rel pn e q hm
end
end PL

/-! PL10: exceptions: raised, caught and kept, asked for their class; lambdas -/
namespace PL
open PySem PySem.Spec PyProof.Rows L2 LamX

/-! ### raise C('..') -/
def raiseS (C : Addr) : SM := fun S => some (.exc (excD C []), S)
section
variable {X : Cx} {T : List (Addr × Str)} {mp : List Nat} {e : Expr} {pos : Pos}
theorem sv_raise {C : Addr} (hc : X.calm = true) (he : PMk X e (fun _ H Q => Q (.ref C) none H)) : SV X T mp (.Raise (some e) none pos) (raiseS C) := ⟨fun pins s σ H D I ⟨Z, R, S, r, S', W, P, rel, pn, er, tk, q⟩ => by
  cases er
  exact (ps_raise hc tk he).run pins s σ H D I (q (.ref C) none σ H Z (Sub.refl _) rel pn ⟨C, [], rfl, rfl, .inl ⟨rfl, rfl⟩⟩)⟩
end

/-! ### an exception is tracked from now on -/
section
variable {X : Cx} {pins : List (Addr × Obj)} {σ : L2.St} {H : Hp} {s : Shared}
theorem exV_ok {P : Program} {w : World} {H : Hp} {h : Heap} {a : Addr} {cls : Value} {d : Option Addr} {oe : Obj} {vs : Array Value} (e : h.get? a = some oe) (z : Zc cls d oe) (hd : oe.data = .fields vs) : ObjOk P w H h a (ExV cls d a) :=
  ⟨⟨oe, vs, e, z, hd⟩, ⟨oe, e⟩, fun _ _ ⟨o, v, q, r⟩ k => ⟨o, v, k o q, r⟩⟩
theorem Inv.track {a : Addr} {cls : Value} {d : Option Addr} {oe : Obj} {vs : Array Value} (I : Inv X pins σ H s) (ha : s.heap.get? a = some oe) (hz : Zc cls d oe) (hd : oe.data = .fields vs) (hn : H a = none) (nL : a ≠ X.env.locals) (nF : a ∉ X.fs)
    (new : X.s_0.heap.get? a = none) (np : ∀ p ∈ X.pn ++ pins, p.1 ≠ a) : Inv X pins σ (upd H a (ExV cls d a)) s := by
  have nC : ∀ x c, X.env.cells.lookup x = some c → c ≠ a := fun x c hc z => by
    obtain ⟨v, o, ho, hcell⟩ := I.cell x c hc
    rw [z, ha] at ho
    cases ho
    rw [hd] at hcell
    cases hcell
  refine ⟨I.ok, I.os, I.bare, ⟨I.base.keep, I.base.slot, fun b o e n hx => ?_, I.base.there, fun b xs e => ?_, fun b o u e => ?_, fun b ps e => ?_⟩, I.loc, I.cell, ?_, fun x c e => ?_, fun p hp => ?_, ?_, I.len⟩
  · rw [upd_ne (fun z => by rw [z, new] at e; cases e)]
    exact I.base.free b o e n hx
  · have h := I.base.tups b xs e
    rw [upd_ne (ne_of_none h hn)]; exact h
  · have h := I.base.frzs b o u e
    rw [upd_ne (ne_of_none h hn)]; exact h
  · obtain ⟨more, h⟩ := I.base.tbls b ps e
    exact ⟨more, by rw [upd_ne (ne_of_none h hn)]; exact h⟩
  · rw [upd_ne (Ne.symm nL)]; exact I.free
  · rw [upd_ne (nC x c e)]; exact I.freeC x c e
  · obtain ⟨h1, h2, h3⟩ := I.pin p hp
    exact ⟨h1, by rw [upd_ne (np p hp)]; exact h2, h3⟩
  · exact I.hok.laidN (fun _ _ h => h) hn (exV_ok ha hz hd)
end

/-! ### try: .. except x as n: .. where the exception is kept -/
def wKeep (K : PySem.W.Frag) (c : Value) (i : Nat) (ts : Addr → Value → Option Addr → TS) (Wout : WX) (D : Ends) : WX := fun cls d σ H =>
  ∃ b, PySem.W.exmOne K cls c = some b ∧ (b = true → ∀ a, H a = none → ts a cls d { nx := fun σ' H' => D.nx (σ'.set i none) (upd H' a (ExV cls d a)), rt := fun _ _ => False } (σ.set i (some (.ref a))) H) ∧
    (b = false → Wout cls d σ H)
section
variable {X : Cx} {x n : Str} {c : Value} {i : Nat} {body suite : List Stmt} {b₀ : Stmt} {np pos pos' : Pos} {tb : WX → TS} {ts : Addr → Value → Option Addr → TS} {Wout : WX}
theorem ps_try_keep (hex : X.ex = []) (hs : X.stack = X.env :: X.outer) (hf : X.env.frame = some X.env.locals) (hN : X.N.Nodup) (hi : X.N[i]? = some n) (hln : X.env.kindOf n = some .local) (hc : L2.Names X x c) (tk : Takes X Wout)
    (hb : ∀ (W : WX) (pn : List (Addr × Obj)) (xe : Value → Shared → Prop), Takes (X.tr pn xe) W → PassesOwn (model X.prog X.w) X.A X.env xe → PSs (X.tr pn xe) body (tb W))
    (hsu : ∀ (a : Addr) (oe : Obj) (cls : Value) (d : Option Addr) (pn : List (Addr × Obj)), Zc cls d oe → (∃ vs, oe.data = .fields vs) → PSs (X.suite a ((a, oe) :: pn)) (b₀ :: suite) (ts a cls d)) :
    PS X (.Try body [.ExceptHandler (some (.Name x np)) (some n) (b₀ :: suite) pos'] [] [] pos) (fun D σ H => tb (wKeep X.K c i ts Wout D) D σ H) := by
  refine ⟨fun pins s σ H D I h => ?_⟩
  have ok := I.ok
  have hfr : X.A.frames = some (X.env :: X.outer) := by rw [ok.frames, hs]
  have hloc : Loc X.env.scope n := .inl hln
  refine wpAny_Try_except ?_
  refine wpAny_mono ((hb (wKeep X.K c i ts Wout D) (X.pn ++ pins) (fun e s₁ => wpAny (model X.prog X.w) X.A (noteFrame e X.env) (fun _ s₂ => wpAny (model X.prog X.w) X.A (setFlight e none) (fun _ s₃ =>
    wpAny (model X.prog X.w) X.A (handleBy e X.env [.ExceptHandler (some (.Name x np)) (some n) (b₀ :: suite) pos']) (SP X pins D) X.xe s₃) X.xe s₂) X.xe s₁) (fun u s' xx => ?_) PassesOwn.looking).run [] s σ H D (I.toTry _) h) (fun f s1 hsp => ?_) (fun e s1 he => he)
  · -- the catch
    obtain ⟨a, B, sI, pins', σ', H', cls, d, rfl, J', nb, up, sky, na, os, ag, b, hb1, hyes, hno⟩ := xx
    have J : Inv X pins σ' H' sI := J'.ofTry ok
    have sky' : Sky B (X.env :: X.outer) a (Zc cls d) X.env.locals s'.heap := by rw [← hs]; exact sky
    show wpAny (model X.prog X.w) X.A (noteFrame (.ref a) X.env) _ _ _
    refine Sky.land Zc.steady hfr hf sky' fun h3 fl3 up3 => ?_
    have J3 : Inv X pins σ' H' { s' with heap := h3 } := J.landed nb fl3.1 (up.trans up3) os ag
    obtain ⟨oe3, vs3, he3, hz3, hd3⟩ := fl3.there
    have notFr : ∀ {h : Heap} {o : Obj} {vs : Array Value}, h.FunFrames B (X.env :: X.outer) → h.get? a = some o → o.data = .fields vs → a ∉ L2.frs (X.env :: X.outer) := fun {h o vs} ff e dd hm => by
      obtain ⟨_, o', e', hnf⟩ := ff.mem hm
      rw [e] at e'; cases e'
      exact hnf _ dd
    have nfr := notFr fl3.2.2.1 he3 hd3
    have nL : a ≠ X.env.locals := fun z => nfr (List.mem_filterMap.mpr ⟨X.env, List.mem_cons_self, by rw [hf, z]⟩)
    have nF : a ∉ X.fs := fun hm => by
      obtain ⟨e, he, q⟩ := List.mem_filterMap.mp hm
      exact nfr (List.mem_filterMap.mpr ⟨e, List.mem_cons_of_mem _ he, q⟩)
    have Bn : B.get? a = none := fl3.2.1
    have In : sI.heap.get? a = none := by
      cases q : sI.heap.get? a with
      | none => rfl
      | some o =>
        have := nb a o q (by rw [hs]; exact nfr)
        rw [Bn] at this; cases this
    have new0 : X.s_0.heap.get? a = none := by
      cases q : X.s_0.heap.get? a with
      | none => rfl
      | some o =>
        obtain ⟨o', e'⟩ := J.base.there a o q (by rw [hex]; simp)
        rw [In] at e'; cases e'
    have np0 : ∀ p ∈ X.pn ++ pins, p.1 ≠ a := fun p hp z => by
      have := (J.pin p hp).1
      rw [z, In] at this; cases this
    have S3 := J3.suite he3 hd3 na nL nF
    refine wpAny_handleBy_cons (codeAny_handlers_test ?_) (by intro q; cases q)
    have LT : PySem.W.Looks (model X.prog X.w) h3 (typeOf (.ref a)) cls := fun A Q E s k q => wpAny_typeOf_ref (k _ _ he3) (by rw [hz3.1]; exact q)
    have LM := PySem.W.exm_one (M := model X.prog X.w) (J3.kIn) LT hb1
    have test : ∀ {Q : Value → Shared → Prop} {E : Value → Shared → Prop}, Q c { s' with heap := h3 } → wpAny (model X.prog X.w) (X.A.mark (some (.ref a))) (eval (.Name x np) X.env) Q E { s' with heap := h3 } := fun {Q E} q => by
      obtain ⟨hg, hdbg, hm | ⟨hm, hv, hnn⟩⟩ := hc
      · exact ld_glob (X := X.suite a ((a, oe3) :: (X.pn ++ pins))) S3 hg hm q hdbg
      · exact ld_blt (X := X.suite a ((a, oe3) :: (X.pn ++ pins))) S3 hg hm hv q hnn hdbg
    refine test (LM.here ?_)
    cases b with
    | true =>
      refine codeAny_handlers_suite_as ?_
      refine HandSPX.lands_againZ fl3 fun h4 fl4 up4 => ?_
      have J4 : Inv X pins σ' H' { s' with heap := h4 } := J.landed nb fl4.1 ((up.trans up3).trans up4) os ag
      obtain ⟨oe4, vs4, he4, hz4, hd4⟩ := fl4.there
      have S4 := J4.suite he4 hd4 na nL nF
      refine store_ok (X := X.suite a ((a, oe4) :: (X.pn ++ pins))) (v := .ref a) S4 hN hi hloc rfl (fun s5 S5 => ?_) (.inr hln)
      refine wpAny_mono ((hsu a oe4 cls d (X.pn ++ pins) hz4 ⟨_, hd4⟩).run [] s5 _ H' _ S5 (hyes rfl a na)) (fun f s6 hsp => ?_) (fun _ _ z => False.elim z)
      cases f with
      | next =>
        obtain ⟨σ6, H6, S6, q6⟩ := hsp
        obtain ⟨e6, n6, _⟩ := S6.pin (a, oe4) (List.mem_append_left _ List.mem_cons_self)
        have J6 : Inv X pins σ6 H6 s6 := S6.unsuite ok
        have J7 : Inv X pins σ6 (upd H6 a (ExV cls d a)) s6 := Inv.track J6 e6 hz4 hd4 n6 nL nF new0 np0
        exact gone_ok J7 hN hi hln fun s7 J8 => ⟨_, _, J8, q6⟩
      | brk => obtain ⟨_, _, _, q6⟩ := hsp; exact q6.elim
      | cont => obtain ⟨_, _, _, q6⟩ := hsp; exact q6.elim
      | ret u => obtain ⟨_, _, _, _, _, q6⟩ := hsp; exact q6.elim
    | false =>
      show wpAny _ X.A (handleBy (.ref a) X.env []) _ _ _
      refine wpAny_handleBy_nil ?_
      obtain ⟨k1, k2, k3, oe, vs, T, oT, ts', he, hz, hd, h1, hr⟩ := id fl3
      unfold PySem.passOn
      refine wpAny_bind (wpAny_field he hd h1 ?_)
      rw [if_neg (show ¬ ((Value.ref T == Value.none) = true) from by simp)]
      have fin : wpAny (model X.prog X.w) X.A (setFlight (.ref a) X.env.frame) (fun _ s4 => wpAny (model X.prog X.w) X.A (throw (.ref a) : Sem Flow) (SP X pins D) X.xe s4) X.xe { s' with heap := h3 } := by
        rw [hf]
        refine HandSPX.setFlight_upZ fl3 fun h4 hh4 up4 => wpAny_throw (tk _ _ ?_)
        exact ⟨a, B, sI, pins, σ', H', cls, d, rfl, J, nb, (up.trans up3).trans up4, .inr (.inr (by rw [hs]; exact hh4)), na, os, ag, hno rfl⟩
      first
        | exact wpAny_bind (wpAny_pure (wpAny_bind fin))
        | exact wpAny_bind fin
  · cases f with
    | next =>
      obtain ⟨σ', H', J', q⟩ := hsp
      exact wpAny_execs_nil ⟨σ', H', J'.ofTry ok, q⟩
    | brk =>
      obtain ⟨σ', H', J', q⟩ := hsp
      exact ⟨σ', H', J'.ofTry ok, q⟩
    | cont =>
      obtain ⟨σ', H', J', q⟩ := hsp
      exact ⟨σ', H', J'.ofTry ok, q⟩
    | ret u =>
      obtain ⟨v, σ', H', J', r, q⟩ := hsp
      exact ⟨v, σ', H', J'.ofTry ok, r, q⟩
end

theorem takesLen {Y : Cx} {W : WX} (tk : Takes Y W) : Takes Y (fun cls d σ H => σ.length = Y.N.length → W cls d σ H) := fun u s' ⟨a, B, sI, pins, σ, H, cls, d, e, I, nb, up, sky, na, os, ag, w⟩ =>
  tk u s' ⟨a, B, sI, pins, σ, H, cls, d, e, I, nb, up, sky, na, os, ag, w I.len⟩
/-! ### f(lambda: e), f: x = None; try: the lambda() except C as n: x = n; return x -/
/-- what f makes of the lambda's reading: CS the class; keep: the value is kept too (otherwise None stands for it) -/
def TKeep (K : PySem.W.Frag) (CS : Addr) (keep : Bool) : (XK → Hp → VK → Prop) → Hp → VK → Prop := fun tl H Q =>
  tl (fun cls d H' => ∃ b, PySem.W.exmOne K cls (.ref CS) = some b ∧ (b = true → ∀ a, H' a = none → Q (.ref a) (upd H' a (ExV cls d a))) ∧ (b = false → False)) H (fun v H' => Q (if keep then v else .non) H')
section
variable {X : Cx}
theorem set3 {σ : L2.St} {u v : Option V} (h : σ.length = 3) : ((σ.set 2 u).set 1 v).set 2 none = [σ[0], v, none] := by
  match σ, h with
  | [a, b, c], _ => rfl
/-- try: x() as a statement -/
theorem keep_gives {Ng : List Str} {x a e n r q : Str} {sg : Scope} {g CS : Addr} {cdg : Value} {j : Nat} {p1 p2 p3 p4 p5 p6 p7 p8 p9 p10 p11 p12 p13 p14 : Pos} (hNg : Ng = [a, r, n]) (nd : Ng.Nodup) (hge : sg.names.lookup e = some .globalImplicit) (hme : X.mg e = some (.ref CS)) (hde : (e == ("__debug__" : Str)) = false)
    (hla : sg.names.lookup a = some .local) (hlr : sg.names.lookup r = some .local) (hln : sg.names.lookup n = some .local) (hdr : (r == ("__debug__" : Str)) = false) (hdr2 : (r == ("__classdict__" : Str)) = false) (hdn : (n == ("__debug__" : Str)) = false) (hdn2 : (n == ("__classdict__" : Str)) = false)
    (hsw1 : ∀ Y : Cx, Y.env.scope = sg → swapsWith (.Constant .none j p1) (some (.Name r p2)) p3.line Y.env = pure false) (hsw2 : ∀ Y : Cx, Y.env.scope = sg → swapsWith (.Call (.Name a p4) [] [] p5) none p6.line Y.env = pure false) (hsw3 : ∀ Y : Cx, Y.env.scope = sg → swapsWith (.Name n p8) (some (.Name r p9)) p10.line Y.env = pure false) :
    GivesTo X Ng x sg g cdg [.Assign [.Name r p2] (.Constant .none j p1) p3, .Try [.Expr (.Call (.Name a p4) [] [] p5) p6] [.ExceptHandler (some (.Name e p7)) (some n) [.Assign [.Name r p9] (.Name n p8) p10] p11] [] [] p12, .Return (some (.Name r p13)) p14] a q (TKeep X.K CS false) := by
  subst hNg
  intro f c' s H Q tl act hc h
  have hgl : Gl (cxOf C8.CX0 X.prog X.w X.K X.mg X.base [a, r, n] x sg g cdg X.A X.stack s H C8.E0).nox e := hge
  refine ⟨_, pss_cons (ps_set (i := 1) nd rfl (.inl hlr) pe_non (hsw1 _ rfl) (.inl rfl)) (pss_cons (ps_try_keep (X := (cxOf C8.CX0 X.prog X.w X.K X.mg X.base [a, r, n] x sg g cdg X.A X.stack s H C8.E0).nox) (i := 2) (c := .ref CS)
      (ts := fun a cls d => tAsg (tVar 2) (gName 1))
      (tb := fun W D σ H => σ = [some (.ref f), some .non, none] ∧ ∃ Ech : XK, (∀ cls d σ' H', Ech cls d H' → σ'.length = 3 → W cls d σ' H') ∧ H c' = some (CodeO c' q) ∧ tl Ech H fun _ H1 => D.nx σ H1)
      rfl rfl rfl nd rfl hln ⟨hgl, hde, .inl hme⟩ L2.takes0 (fun W pn xe tk _ => ?_) (fun a oe cls d pn _ _ => pss_one (ps_set (i := 1) nd rfl (.inl hlr) (pe_var (i := 2) rfl (.inl hln) hdn hdn2) (hsw3 _ rfl) (.inl rfl))))
    (pss_one (ps_ret (pe_var (i := 1) rfl (.inl hlr) hdr hdr2)))), ?_⟩
  · refine ⟨fun pins s' σ H' D I h' => ?_⟩
    obtain ⟨hσ, Ech, hW, h2, h3⟩ := h'
    have hp := act _ pn xe Ech p4 p5 (takesLen tk) (fun cls d σ' H' h hl => hW cls d σ' H' h hl)
    have hq := pss_one (ps_expr (pos := p6) hp (hsw2 _ rfl))
    exact hq.run pins s' σ H' D I ⟨by rw [hσ]; rfl, h2, h3⟩
  · refine ⟨rfl, fun cls d H' => ∃ b, PySem.W.exmOne X.K cls (.ref CS) = some b ∧ (b = true → ∀ a, H' a = none → Q (.ref a) (upd H' a (ExV cls d a))) ∧ (b = false → False), fun cls d σ' H' ⟨b, e1, e2, e3⟩ hl => ⟨b, e1, fun hb a' ha' => ?_, fun hb => e3 hb⟩, hc, ?_⟩
    · match σ', hl with
      | [s0, s1, s2], _ => exact ⟨.ref a', rfl, .ref a', rfl, e2 hb a' ha'⟩
    · have ef : (fun (_ : V) (H' : Hp) => Q .non H') = fun (_ : V) (H1 : Hp) => ∃ v, [some (V.ref f), some V.non, none][1]? = some (some v) ∧ Q v H1 := by
        funext _ H1
        exact propext ⟨fun h => ⟨.non, rfl, h⟩, fun ⟨v, e, h⟩ => by cases e; exact h⟩
      have h' : tl (fun cls d H' => ∃ b, PySem.W.exmOne X.K cls (.ref CS) = some b ∧ (b = true → ∀ a, H' a = none → Q (.ref a) (upd H' a (ExV cls d a))) ∧ (b = false → False)) H (fun v H' => Q .non H') := h
      rw [ef] at h'
      exact h'
end
/-! .. as an expression -/
def excC : PyData → Option Addr
  | .dict ((.none, .int C) :: _) => some C.toNat
  | _ => none
theorem excC_excD (C : Addr) (fs : List (Str × PyData)) : excC (excD C fs) = some C := by
  show some ((C : Nat) : Int).toNat = some C
  rw [Int.toNat_natCast]
def exm (K : PySem.W.Frag) (CS : Addr) (x : PyData) : Option Bool := (excC x).bind fun C => PySem.W.exmOne K (.ref C) (.ref CS)
def caughtM (K : PySem.W.Frag) (CS : Addr) (keep : Bool) (fe : M OV) : M OV := fun S => match fe S with
  | some (.ok o, S') => some (.ok (if keep then o else .d .none), S')
  | some (.error x, S') => match exm K CS x with
    | some true => some (.ok (.d x), S')
    | _ => none
  | none => none
theorem Rel.extN {K : PySem.W.Frag} {T : List (Addr × Str)} {Z R H H1 : Hp} {S : SS} {σ : L2.St} (r : Rel K T Z R S σ H) (e : ExtN H H1) (t : Tabs T H1) : Rel K T Z R S σ H1 := by
  obtain ⟨L, ow, n, q⟩ := r.own
  refine ⟨⟨L, ow.mono (Sub.refl Z) (fun a ha => ?_), n, q⟩, fun a o h => e a o (r.z a o h) fun ps hp => r.zt a ps (hp ▸ h), fun a o h => e a o (r.r a o h) fun ps hp => r.rt a ps (hp ▸ h), r.zt, r.rt, r.zr, t⟩
  obtain ⟨o, ho, hn⟩ := ow.at_ a ha
  rw [ho]
  exact e a o ho hn
theorem Fr.ofIsX {K : PySem.W.Frag} {Z : Hp} {cls : Value} {d : Option Addr} {x : PyData} {a : Addr} (h : IsX K Z cls d x) (n : Z a = none) : Fr K (upd Z a (ExV cls d a)) (.ref a) x := by
  obtain ⟨C, fs, rfl, rfl, ⟨rfl, rfl⟩ | ⟨nf, dx, ws, rfl, hd, fr⟩⟩ := h
  · exact .exc0 upd_same
  · exact .exc (dx := dx) (ws := ws) nf upd_same (by rw [upd_ne (ne_of_none hd n)]; exact hd) (fr.sub (sub_upd _ n))
section
variable {X : Cx} {T : List (Addr × Str)}
theorem ev_lam {x a : Str} {g c P CS : Addr} {k : Nat} {keep : Bool} {pg : Arguments} {bg : List Stmt} {sg : Scope} {dV kV doc pm cdv ct oc : Value} {an od : Option Addr} {osl : Array (Option Value)} {Ng : List Str} {fe : M OV}
    {params : Arguments} {body : Expr} {scope : Scope} {p lpos pos : Pos} (hg : Gl X x) (hm : X.mg x = some (.ref g)) (hk : PySem.W.keepIn X.K (.ref g) = true)
    (lk : X.K.lookup g = some ⟨oc, od, .func (PySem.W.fnOf x x pg bg sg dV kV doc pm an cdv ct), osl⟩) (hcg : PySem.W.codeIn X.K cdv x = true) (hb : L2.Binds X.K (PySem.W.fnOf x x pg bg sg dV kV doc pm an cdv ct) [a] []) (Sg : FnScope Ng [a] sg) (hNg : Ng[0]? = some a) (hva : Vis sg a)
    (hG : GivesTo X Ng x sg g cdv bg a (X.env.qual ++ "<lambda>") (TKeep X.K CS keep))
    (TB : TabB X.base X.mg c P) (hcode : X.env.code = .ref c) (hmT : (P, X.env.qual ++ "<lambda>") ∈ T) (hu : ∀ p ∈ T, p.1 = P → p.2 = X.env.qual ++ "<lambda>") (hr : Room (k + 2) X.A) (L : LamS X.env.scope scope) (hdef : defaultsOf params X.env = ([], []))
    (hbind : ∀ (q : Str) (cl : List (Str × Addr)) (pm cv ctv : Value), bindArgs (PySem.W.kla_fn "<lambda>" q params body scope cl pm cv ctv) ⟨[], []⟩ = pure [])
    (hbody : ∀ (A : Around) (outer : List Env) (s : Shared) (H : Hp) (E : XK) (f c' : Addr), Room k (A.deeper (lamEnv X scope s.heap.objs.size f c')) → EV (lamCx X A outer s H E scope f c') T body fe)
    (hdb : (x == ("__debug__" : Str)) = false := by decide) (hd : (a == ("__debug__" : Str)) = false := by decide) (hcd : (a == ("__classdict__" : Str)) = false := by decide) :
    EV X T (.Call (.Name x p) [.Lambda params body scope lpos] [] pos) (caughtM X.K CS keep fe) :=
  pe_mono (pe_lamcall (t := fun E σ H Q => ∃ Z R S r S', Rel X.K T Z R S σ H ∧ fe S = some (r, S') ∧
      match r with
      | .ok o => POk X.K T σ Q Z R o S'
      | .error x => ∀ cls d H' Z', Sub Z Z' → Rel X.K T Z' R S' σ H' → IsX X.K Z' cls d x → E cls d H') hg hm hk lk hcg hb Sg hNg hva hG TB hcode hmT hu hr L hdef hbind
    (fun A outer s H E f c' hr' => pe_mono (hbody A outer s H E f c' hr') fun σ H Q ⟨Z, R, S, r, S', rel, e, q⟩ => ⟨Z, R, S, r, S', fun cls d _ H => E cls d H, rel, e, takes_of rfl rfl rfl rfl, by
      cases r with
      | ok o => exact q
      | error x => exact q⟩) hdb hd hcd) fun σ H Q ⟨Z, R, S, r, S', W, rel, e, tk, pf⟩ => by
  refine ⟨rel.tab, fun H1 ext tabs1 => ?_⟩
  have rel1 := rel.extN ext tabs1
  unfold caughtM at e
  cases ef : fe S with
  | none => rw [ef] at e; cases e
  | some t =>
    obtain ⟨r0, S0⟩ := t
    rw [ef] at e
    refine ⟨Z, R, S, r0, S0, rel1, ef, ?_⟩
    cases r0 with
    | ok o =>
      cases e
      intro v H' Z' sb rel'
      cases keep with
      | true => exact pf v H' Z' sb rel'
      | false => exact pf .non H' Z' sb (rel'.pop.push .non)
    | error y =>
      have e : (match exm X.K CS y with
        | some true => some (Except.ok (OV.d y), S0)
        | _ => none) = some (r, S') := e
      split at e
      · rename_i hx
        cases e
        intro cls d H' Z' sb rel' ix
        obtain ⟨C, fs, hc, hy, _⟩ := id ix
        refine ⟨true, ?_, fun _ a ha => ?_, fun z => nomatch z⟩
        · subst hc hy
          unfold exm at hx
          rw [excC_excD] at hx
          exact hx
        · have zn : Z' a = none := by
            cases q : Z' a with
            | none => rfl
            | some w => rw [rel'.z _ _ q] at ha; cases ha
          have rel2 := rel'.frozen ha (ExV cls d a) (fun ps z => by unfold ExV at z; cases z)
          exact pf (.ref a) _ _ (sb.trans (sub_upd _ zn)) (rel2.push (Fr.ofIsX ix zn))
      · cases e

/-! ### isinstance(e, C), C a class of one's own -/
def kq (K : PySem.W.Frag) (c : Value) (x : PyData) : Option Bool := match tyName x with
  | some m => PySem.W.kitOne K (.type m) c
  | none => (excC x).bind fun C => PySem.W.kitOne K (.ref C) c
def rIsiE (K : PySem.W.Frag) (D : Addr) : List V → Hp → VK → Prop := fun xs H Q => ∃ (a : Addr) (c : V) (u : Value) (b : Bool), xs = [.ref a, c] ∧ ClsV c u ∧ H a = some (ExV (.ref D) none a) ∧ PySem.W.kitOne K (.ref D) u = some b ∧ Q (.bl b) H
theorem call_isiE {D : Addr} (C : ExcC X.K D) : CallR X (.builtin "isinstance") (rIsiE X.K D) := by
  intro pins s σ H xs us Q I r h
  obtain ⟨a, c, cv, b, rfl, hcv, hH, e, q⟩ := h
  cases r with
  | cons rx rr =>
    cases rr with
    | cons rt rr =>
      cases rr
      cases rx
      have ec := hcv.eq rt
      subst ec
      obtain ⟨⟨oe, vs, hget, hz, hv⟩, _⟩ := I.hok a _ hH
      have J : PySem.W.InstAt s.heap a oe D none := by
        obtain ⟨oc, od, oda, osl⟩ := oe
        obtain ⟨h1, h2⟩ := hz
        dsimp only at h1 h2 hv
        subst h1 h2 hv
        exact ⟨hget, rfl, rfl, trivial⟩
      exact PySem.W.kia_one (PySem.W.handS_kitx_exc C.hg C.hk C.hs C.hd C.ha C.hn C.ht C.hm) I.kIn J e (fun z => nomatch z) fun tk => ⟨.bl b, H, I.kept (t' := tk) fun _ _ z => z, rfl, q⟩
/-- isinstance(x, c) of data, exceptions of the classes Ds among them -/
def rIsiX (K : PySem.W.Frag) (Ds : List Addr) : List V → Hp → VK → Prop := fun xs H Q => rIsi K xs H Q ∨ ∃ D ∈ Ds, rIsiE K D xs H Q
theorem call_isiX {Ds : List Addr} (C : ∀ D ∈ Ds, ExcC X.K D) : CallR X (.builtin "isinstance") (rIsiX X.K Ds) := by
  intro pins s σ H xs us Q I r h
  rcases h with h | ⟨D, hD, h⟩
  · exact call_isi pins s σ H xs us Q I r h
  · exact call_isiE (C D hD) pins s σ H xs us Q I r h
/-- an exception without attributes -/
def isX0 : PyData → Option Addr
  | .dict [(.none, .int C)] => some C.toNat
  | _ => none
def oIsiX (K : PySem.W.Frag) (Ds : List Addr) (c : Value) (x : PyData) : Option OV := match tyName x with
  | some m => (PySem.W.kitOne K (.type m) c).bind okB
  | none => match isX0 x with
    | some D => if D ∈ Ds then (PySem.W.kitOne K (.ref D) c).bind okB else none
    | none => none
def isiX (K : PySem.W.Frag) (Ds : List Addr) (c : Value) (fa : M AV) : M OV := fa >>= fun a => op1 (oIsiX K Ds c) a
theorem Fr.getExc0 {K : PySem.W.Frag} {Z : Hp} {v : V} {x : PyData} {D : Addr} (f : Fr K Z v x) (e : isX0 x = some D) : ∃ a, v = .ref a ∧ Z a = some (ExV (.ref D) none a) := by
  cases f with
  | @exc0 a C h =>
    have e : some ((C : Nat) : Int).toNat = some D := e
    rw [Int.toNat_natCast] at e
    cases e
    exact ⟨a, rfl, h⟩
  | @exc a C dx ws fs n h h2 fr =>
    exfalso
    cases fs with
    | nil => exact n rfl
    | cons p ps => cases e
  | _ => cases e
theorem ev_isiX {Ds : List Addr} {a b : Expr} {fa : M AV} {cv : V} {c : Value} {p pos : Pos} (C : ∀ D ∈ Ds, ExcC X.K D) (hg : Gl X "isinstance") (hm : X.mg "isinstance" = none) (ha : EVV X T a fa) (hb : PE X b (tC cv)) (hcl : ClsV cv c)
    (he : starEach [a, b] X.env = (false, eval a X.env) :: starEach [b] X.env := by rfl) (he2 : starEach [b] X.env = (false, eval b X.env) :: starEach [] X.env := by rfl) (hpl : (backTo pos (starEach [b] X.env)).any (·.1) = false := by rfl) : EV X T (.Call (.Name "isinstance" p) [a, b] [] pos) (isiX X.K Ds c fa) :=
  pe_mono (pe_callB (call_isiX C) hg hm (by decide +kernel) (pa_cons ha (pa_cons hb pa_nil he2) he) (by decide) (by decide) he hpl) fun σ H Q ⟨Z, h⟩ => by
    refine ⟨Z, rz_mono (rv_bind POk.mono h) fun Z R a S p v H1 Z1 s1 r1 a1 => ?_⟩
    obtain ⟨u, Z2, s2, o2, h2⟩ := p v H1 Z1 s1 r1 a1
    obtain ⟨x, o, R3, S3, sz, w, e, rel, pf⟩ := rz_op1 h2 o2
    have fin : ∀ k, o = .d (.bool k) → Q (.bl k) H1 := fun k ek => by subst ek; exact pf _ H1 Z2 (Sub.refl _) (rel.push (.bl k))
    unfold oIsiX at e
    split at e
    · rename_i m q1
      cases q2 : PySem.W.kitOne X.K (.type m) c with
      | none => rw [q2] at e; cases e
      | some k =>
        rw [q2] at e
        cases e
        exact .inl ⟨v, cv, .type m, c, k, rfl, hcl, w.tyX sz q1, q2, fin k rfl⟩
    · split at e
      · rename_i q0 D q1
        split at e
        · rename_i hD
          cases q2 : PySem.W.kitOne X.K (.ref D) c with
          | none => rw [q2] at e; cases e
          | some k =>
            rw [q2] at e
            cases e
            have f := w.fr (fun ds z => by subst z; cases q1)
            obtain ⟨a, rfl, hZ⟩ := f.getExc0 q1
            exact .inr ⟨D, hD, a, cv, c, k, rfl, hcl, sz _ _ hZ, q2, fin k rfl⟩
        · cases e
      · cases e
end
end PL

/-! PL11: dicts of a slot's own -/
namespace PL
open PySem PySem.Spec PyProof.Rows L2 LamX

def getO (xs : List (Key × OV)) (k : Key) : Option OV := (xs.find? fun kv => decide (kv.1 = k)).map (·.2)
def putO (xs : List (Key × OV)) (k : Key) (o : OV) : List (Key × OV) :=
  if (xs.any fun kv => decide (kv.1 = k)) = true then xs.map (fun kv => if kv.1 = k then (kv.1, o) else kv) else xs ++ [(k, o)]
section
variable {K : PySem.W.Frag} {T : List (Addr × Str)} {Z Z' R H H' : Hp} {S S' : SS} {σ σ' : L2.St} {v : V} {x : PyData} {o : OV}
theorem ownD_get {k : Key} : ∀ {xs : List (Key × OV)} {ws : List V} {L : List Addr}, OwnL K Z H ws (xs.map (·.2)) L → getO xs k = some o → ∃ v Lv, valV ((xs.map (·.1)).zip ws) k = some v ∧ Own K Z H v o Lv ∧ (∀ a ∈ Lv, a ∈ L)
  | [], ws, L, h, e => by cases e
  | (k0, o0) :: xs, ws, L, h, e => by
    cases ws with
    | nil => cases h
    | cons w ws =>
      have h : OwnL K Z H (w :: ws) (o0 :: xs.map (·.2)) L := h
      cases h with
      | @cons _ _ _ _ L1 M1 h1 h2 =>
        by_cases hk : k0 = k
        · refine ⟨w, L1, valV_pos hk, ?_, fun a ha => List.mem_append_left _ ha⟩
          have : getO ((k0, o0) :: xs) k = some o0 := by simp [getO, List.find?_cons, hk]
          rw [this] at e; cases e; exact h1
        · have : getO ((k0, o0) :: xs) k = getO xs k := by simp [getO, List.find?_cons, hk]
          rw [this] at e
          obtain ⟨v, Lv, g1, g2, g3⟩ := ownD_get h2 e
          refine ⟨v, Lv, ?_, g2, fun a ha => List.mem_append_right _ (g3 a ha)⟩
          rw [← g1]
          exact valV_neg hk
theorem ownD_map {k : Key} {y : PyData} (f : Fr K Z v y) : ∀ {xs : List (Key × OV)} {ws : List V} {L : List Addr}, OwnL K Z H ws (xs.map (·.2)) L →
    ∃ ws' L', ((xs.map (·.1)).zip ws).map (fun kv => if kv.1 = k then (kv.1, v) else kv) = ((xs.map fun kv => if kv.1 = k then (kv.1, OV.d y) else kv).map (·.1)).zip ws' ∧ OwnL K Z H ws' ((xs.map fun kv => if kv.1 = k then (kv.1, OV.d y) else kv).map (·.2)) L' ∧ (∃ D, L.Perm (D ++ L'))
  | [], ws, L, h => by cases h; exact ⟨[], [], rfl, .nil, [], List.Perm.refl _⟩
  | (k0, o0) :: xs, ws, L, h => by
    cases ws with
    | nil => cases h
    | cons w ws =>
      have h : OwnL K Z H (w :: ws) (o0 :: xs.map (·.2)) L := h
      cases h with
      | @cons _ _ _ _ L1 M1 h1 h2 =>
        obtain ⟨ws', L', g1, g2, D, g3⟩ := ownD_map f h2
        by_cases hk : k0 = k
        · refine ⟨v :: ws', [] ++ L', ?_, ?_, L1 ++ D, ?_⟩
          · simp only [List.map_cons, List.zip_cons_cons, hk, if_true]
            rw [g1]
          · simp only [List.map_cons, hk, if_true]
            exact OwnL.cons (.d f) g2
          · rw [List.append_assoc, List.nil_append]
            exact List.Perm.append_left L1 g3
        · refine ⟨w :: ws', L1 ++ L', ?_, ?_, D, ?_⟩
          · simp only [List.map_cons, List.zip_cons_cons, hk, if_false]
            rw [g1]
          · simp only [List.map_cons, hk, if_false]
            exact OwnL.cons h1 g2
          · exact (List.Perm.append_left L1 g3).trans (perm_swap _ _ _)
theorem any_zip {k : Key} : ∀ {xs : List (Key × OV)} {ws : List V}, ws.length = xs.length → (((xs.map (·.1)).zip ws).any fun kv => decide (kv.1 = k)) = xs.any fun kv => decide (kv.1 = k)
  | [], ws, h => by cases ws <;> rfl
  | x :: xs, [], h => by cases h
  | x :: xs, w :: ws, h => by
    simp only [List.map_cons, List.zip_cons_cons, List.any_cons]
    rw [any_zip (by simpa using h)]
theorem OwnL.snoc {f : Fr K Z v x} : ∀ {ws : List V} {xs : List OV} {L : List Addr}, OwnL K Z H ws xs L → OwnL K Z H (ws ++ [v]) (xs ++ [.d x]) L
  | _, _, _, .nil => OwnL.cons (L := []) (M := []) (.d f) .nil
  | _, _, _, .cons a b => .cons a (OwnL.snoc (f := f) b)
theorem ownD_put {k : Key} {y : PyData} (f : Fr K Z v y) {xs : List (Key × OV)} {ws : List V} {L : List Addr} (h : OwnL K Z H ws (xs.map (·.2)) L) :
    ∃ ws' L', putK ((xs.map (·.1)).zip ws) k v = ((putO xs k (.d y)).map (·.1)).zip ws' ∧ OwnL K Z H ws' ((putO xs k (.d y)).map (·.2)) L' ∧ (∃ D, L.Perm (D ++ L')) := by
  have hl : ws.length = xs.length := by rw [h.length, List.length_map]
  unfold putK putO
  rw [any_zip hl]
  by_cases e : (xs.any fun kv => decide (kv.1 = k)) = true
  · rw [if_pos e, if_pos e]
    exact ownD_map f h
  · rw [if_neg e, if_neg e]
    refine ⟨ws ++ [v], L, ?_, ?_, [], List.Perm.refl _⟩
    · rw [List.map_append, List.zip_append (by rw [List.length_map, hl])]
      rfl
    · rw [List.map_append]
      exact OwnL.snoc (f := f) h
/-- the slot i holds a dict of its own -/
theorem Rel.dct (r : Rel K T Z R S σ H) {i : Nat} {xs : List (Key × OV)} (e : S[i]? = some (some (.dct xs))) :
    ∃ a ws L, σ[i]? = some (some (.ref a)) ∧ H a = some (.dK ((xs.map (·.1)).zip ws)) ∧ OwnL K Z H ws (xs.map (·.2)) L ∧
      ∀ {kvs : List (Key × V)} {ws' : List V} {xs' : List (Key × OV)} {L' : List Addr}, kvs = (xs'.map (·.1)).zip ws' → OwnL K Z H ws' (xs'.map (·.2)) L' → (∃ D, L.Perm (D ++ L')) → Rel K T Z R (S.set i (some (.dct xs'))) σ (upd H a (.dK kvs)) := by
  obtain ⟨L, ow, n, q⟩ := r.own
  obtain ⟨v, Li, Lr, h1, h2, h3, h4⟩ := ow.get e
  have hlt : i < S.length := (List.getElem?_eq_some_iff.mp e).1
  cases h2 with
  | @dct a ws _ L2 ha r2 =>
    have n2 := (h4.nodup_iff).mp n
    have n3 : a ∉ L2 ++ Lr ∧ (L2 ++ Lr).Nodup := by simpa using n2
    have hq := q a (h4.mem_iff.mpr (List.mem_append_left _ List.mem_cons_self))
    refine ⟨a, ws, L2, h1, ha, r2, fun {kvs ws' xs' L'} ek o' pm => ?_⟩
    have upd_eq : ∀ c ∈ L2 ++ Lr, upd H a (.dK kvs) c = H c := fun c hc => upd_ne fun z => n3.1 (z ▸ hc)
    obtain ⟨D, pm⟩ := pm
    have subL : ∀ c ∈ L', c ∈ L2 := fun c hc => pm.mem_iff.mpr (List.mem_append_right _ hc)
    have o2 : Own K Z (upd H a (.dK kvs)) (.ref a) (.dct xs') (a :: L') := .dct (by rw [upd_same, ek]) (o'.mono (Sub.refl Z) fun c hc => upd_eq c (List.mem_append_left _ (subL c hc)))
    have h5 : OwnS K Z (upd H a (.dK kvs)) σ (S.set i none) Lr := h3.mono (Sub.refl Z) fun c hc => upd_eq c (List.mem_append_right _ hc)
    obtain ⟨M, h6, D2, h7⟩ := h5.put (i := i) o2 (by simpa using hlt)
    rw [List.set_set, set_same h1] at h6
    have nL' : ((a :: L') ++ Lr).Nodup := by
      have pm2 : (a :: L2 ++ Lr).Perm (D ++ (a :: L' ++ Lr)) := by
        have p1 : (a :: L2).Perm (D ++ (a :: L')) := (List.Perm.cons a pm).trans (List.perm_middle.symm)
        have p2 := List.Perm.append_right Lr p1
        rwa [List.append_assoc] at p2
      exact (nodup_sub ⟨D, pm2⟩ n2).1
    obtain ⟨n4, n5⟩ := nodup_sub ⟨D2, h7⟩ nL'
    refine ⟨⟨M, h6, n4, fun c hc => ?_⟩, fun c o ec => ?_, fun c o ec => ?_, r.zt, r.rt, r.zr, tabs_upd r.tab ha (fun _ z => by cases z) fun _ z => by cases z⟩
    · have := n5 c hc
      refine q c (h4.mem_iff.mpr ?_)
      rcases List.mem_append.mp this with hc | hc
      · rcases List.mem_cons.mp hc with rfl | hc
        · exact List.mem_append_left _ List.mem_cons_self
        · exact List.mem_append_left _ (List.mem_cons_of_mem _ (subL c hc))
      · exact List.mem_append_right _ hc
    · rw [upd_ne (fun z => by rw [z, hq.1] at ec; cases ec)]; exact r.z c o ec
    · rw [upd_ne (fun z => by rw [z, hq.2] at ec; cases ec)]; exact r.r c o ec
end
section
variable {X : Cx} {T : List (Addr × Str)} {mp : List Nat} {e : Expr} {fe : M OV} {pos : Pos} {Z R H : Hp} {S : SS} {σ : L2.St}
def asDct : Option (Option OV) → Option (List (Key × OV))
  | some (some (.dct xs)) => some xs
  | _ => none
theorem asDct_eq {o : Option (Option OV)} {xs : List (Key × OV)} (h : asDct o = some xs) : o = some (some (.dct xs)) := by
  unfold asDct at h
  split at h
  · cases h; rfl
  · cases h
/-- d['k'], d a dict of the slot's own, a frozen thing there -/
def dgetS (i : Nat) (k : Str) : M OV := fun S => match (asDct S[i]?).bind fun xs => getO xs (.inr k) with
  | some (.d y) => some (.ok (.d y), S)
  | _ => none
theorem ev_dget {i j : Nat} {x k : Str} {px p2 : Pos} (hu : X.A.units + 1 < cLine) (hN : X.N[i]? = some x) (hv : Vis X.env.scope x) (hd : (x == ("__debug__" : Str)) = false := by decide) (hcd : (x == ("__classdict__" : Str)) = false := by decide) (hs : NoSl (.Constant (.str k) j p2) := by intro _ _; rfl) :
    EV X T (.Subscript (.Name x px) (.Constant (.str k) j p2) pos) (dgetS i k) := pe_mono (pe_dget hu (pe_var hN hv hd hcd) pe_str hs) fun σ H Q ⟨Z, R, S, r, S', W, rel, er, tk, pf⟩ => by
  unfold dgetS at er
  split at er
  · rename_i y q
    cases er
    cases q1 : asDct S[i]? with
    | none => rw [q1] at q; cases q
    | some xs =>
      rw [q1] at q
      obtain ⟨a, ws, L, h1, h2, h3, _⟩ := rel.dct (asDct_eq q1)
      obtain ⟨v, Lv, g1, g2, _⟩ := ownD_get h3 q
      obtain ⟨_, f⟩ := g2.frz
      refine ⟨.ref a, h1, a, v, rfl, ?_, pf v H Z (Sub.refl _) (rel.push f)⟩
      rw [← g1]
      exact DGet.k (k := .inr k) h2
  · cases er
/-- d['k'] = e, a frozen thing -/
def dputS (i : Nat) (k : Str) (fe : M OV) : SM := doE fe fun o S => match o, asDct S[i]? with
  | .d y, some xs => if xs.length < sizeLine then some (.nx, S.set i (some (.dct (putO xs (.inr k) (.d y))))) else none
  | _, _ => none
theorem sv_dput {i j : Nat} {x k : Str} {px p2 p3 : Pos} (hu : X.A.units + 1 < cLine) (hN : X.N[i]? = some x) (hv : Vis X.env.scope x) (he : EV X T e fe) (hs : swapsWith e (some (.Subscript (.Name x px) (.Constant (.str k) j p2) p3)) pos.line X.env = pure false := by rfl) (hd : (x == ("__debug__" : Str)) = false := by decide) (hcd : (x == ("__classdict__" : Str)) = false := by decide) :
    SV X T mp (.Assign [.Subscript (.Name x px) (.Constant (.str k) j p2) p3] e pos) (dputS i k fe) := ps_mono (ps_dput hu (pe_var hN hv hd hcd) pe_str he hs) fun D σ H h => by
  obtain ⟨Z, h⟩ := doE_of h
  refine ⟨Z, rz_mono h fun Z R o S p v H1 Z1 s1 r1 => ?_⟩
  obtain ⟨o, Z1, R, S1, r, S', W, P, rel, pn, e, tk, q⟩ := p v H1 Z1 s1 r1
  cases o with
  | d y =>
    obtain ⟨f, rel1⟩ := rel.popd
    cases q1 : asDct S1[i]? with
    | none => rw [q1] at e; cases e
    | some xs =>
      rw [q1] at e
      have e : (if xs.length < sizeLine then some (Fl.nx, S1.set i (some (.dct (putO xs (.inr k) (.d y))))) else none) = some (r, S') := e
      split at e
      · rename_i hl
        cases e
        obtain ⟨a, ws, L, h1, h2, h3, h4⟩ := rel1.dct (asDct_eq q1)
        obtain ⟨ws', L', g1, g2, g3⟩ := ownD_put (k := .inr k) f h3
        have hlw : ws.length = xs.length := by rw [h3.length, List.length_map]
        refine ⟨.ref a, h1, a, _, rfl, DPut.k (k := .inr k) h2 ?_, q σ _ Z1 (Sub.refl _) (h4 g1 g2 g3) pn⟩
        rw [List.length_zip, List.length_map, hlw, Nat.min_self]
        exact hl
      · cases e
  | lst _ => cases e
  | dct _ => cases e
  | ins _ _ => cases e

/-! ### a list of its own within the dict -/
theorem ownL_set {K : PySem.W.Frag} : ∀ {ws : List V} {xs : List OV} {L : List Addr} {j : Nat} {ds : List PyData}, OwnL K Z H ws xs L → L.Nodup → xs[j]? = some (.lst (ds.map .d)) →
    ∃ b vs, ws[j]? = some (.ref b) ∧ H b = some (.lst vs) ∧ FrAll K Z vs ds ∧ b ∈ L ∧ ∀ vs' ds', FrAll K Z vs' ds' → OwnL K Z (upd H b (.lst vs')) ws (xs.set j (.lst (ds'.map .d))) L
  | _, _, _, j, _, .nil, _, e => by simp at e
  | _, _, _, 0, ds, .cons (L := L1) (M := M1) h1 h2, n, e => by
    simp at e
    subst e
    cases h1 with
    | @lst b vs _ L2 hb r2 =>
      obtain ⟨rfl, fr⟩ := OwnL.toFr r2
      have nb : b ∉ M1 := by
        intro hm
        exact (List.nodup_append.mp n).2.2 b (by simp) b hm rfl
      refine ⟨b, vs, rfl, hb, fr, by simp, fun vs' ds' fr' => ?_⟩
      exact OwnL.cons (.lst upd_same (OwnL.ofFr fr')) (h2.mono (Sub.refl Z) fun c hc => upd_ne fun z => nb (z ▸ hc))
  | _, _, _, j + 1, ds, .cons (L := L1) (M := M1) h1 h2, n, e => by
    obtain ⟨b, vs, g1, g2, g3, g4, g5⟩ := ownL_set (j := j) h2 (List.nodup_append.mp n).2.1 (by simpa using e)
    have nb : b ∉ L1 := fun hm => (List.nodup_append.mp n).2.2 b hm b g4 rfl
    refine ⟨b, vs, by simpa using g1, g2, g3, List.mem_append_right _ g4, fun vs' ds' fr' => ?_⟩
    exact OwnL.cons (h1.mono (Sub.refl Z) fun c hc => upd_ne fun z => nb (z ▸ hc)) (g5 vs' ds' fr')
/-- where the key stands -/
def ixO (xs : List (Key × OV)) (k : Key) : Option Nat := xs.findIdx? fun kv => decide (kv.1 = k)
theorem ixO_val {k : Key} : ∀ {xs : List (Key × OV)} {ws : List V} {j : Nat} {v : V}, ixO xs k = some j → ws[j]? = some v → ws.length = xs.length → valV ((xs.map (·.1)).zip ws) k = some v
  | [], ws, j, v, e, _, _ => by simp [ixO] at e
  | x :: xs, [], j, v, e, h, _ => by simp at h
  | x :: xs, w :: ws, j, v, e, h, hl => by
    unfold ixO at e
    rw [List.findIdx?_cons] at e
    by_cases hk : x.1 = k
    · rw [if_pos (by simpa using hk)] at e
      cases e
      simp at h
      subst h
      exact valV_pos hk
    · rw [if_neg (by simpa using hk)] at e
      cases q : xs.findIdx? (fun kv => decide (kv.1 = k)) with
      | none => rw [q] at e; cases e
      | some j' =>
        rw [q] at e
        simp only [Option.map_some, Option.some.injEq] at e
        subst e
        have := ixO_val (xs := xs) (ws := ws) (j := j') (v := v) q (by simpa using h) (by simpa using hl)
        rw [← this]
        exact valV_neg hk
/-- the dict's own list at k: its place, its items -/
def lstAt (S : SS) (i : Nat) (k : Key) : Option (List (Key × OV) × Nat × List PyData) := (asDct S[i]?).bind fun xs => (ixO xs k).bind fun j => match xs[j]? with
  | some (_, .lst os) => (items os).map fun ds => (xs, j, ds)
  | _ => none
theorem lstAt_eq {i : Nat} {k : Key} {xs : List (Key × OV)} {j : Nat} {ds : List PyData} (h : lstAt S i k = some (xs, j, ds)) : S[i]? = some (some (.dct xs)) ∧ ixO xs k = some j ∧ (xs.map (·.2))[j]? = some (.lst (ds.map .d)) := by
  unfold lstAt at h
  cases q1 : asDct S[i]? with
  | none => rw [q1] at h; cases h
  | some ys =>
    rw [q1] at h
    simp only [Option.bind_some] at h
    cases q2 : ixO ys k with
    | none => rw [q2] at h; cases h
    | some j' =>
      rw [q2] at h
      simp only [Option.bind_some] at h
      split at h
      · rename_i kk os q3
        cases q4 : items os with
        | none => rw [q4] at h; cases h
        | some es =>
          rw [q4] at h
          cases h
          exact ⟨asDct_eq q1, q2, by rw [List.getElem?_map, q3]; simp [items_eq q4]⟩
      · cases h
theorem Rel.lstAt {K : PySem.W.Frag} (r : Rel K T Z R S σ H) {i : Nat} {k : Key} {xs : List (Key × OV)} {j : Nat} {ds : List PyData} (h : lstAt S i k = some (xs, j, ds)) :
    ∃ a b ws vs, σ[i]? = some (some (.ref a)) ∧ H a = some (.dK ((xs.map (·.1)).zip ws)) ∧ valV ((xs.map (·.1)).zip ws) k = some (.ref b) ∧ H b = some (.lst vs) ∧ FrAll K Z vs ds ∧
      ∀ vs' ds', FrAll K Z vs' ds' → Rel K T Z R (S.set i (some (.dct ((xs.map (·.1)).zip ((xs.map (·.2)).set j (.lst (ds'.map .d))))))) σ (upd H b (.lst vs')) := by
  obtain ⟨e1, e2, e3⟩ := lstAt_eq h
  obtain ⟨L, ow, n, q⟩ := r.own
  obtain ⟨v, Li, Lr, h1, h2, h3, h4⟩ := ow.get e1
  have hlt : i < S.length := (List.getElem?_eq_some_iff.mp e1).1
  have n2 := (h4.nodup_iff).mp n
  cases h2 with
  | @dct a ws _ L2 ha r2 =>
    have n3 : a ∉ L2 ++ Lr ∧ (L2 ++ Lr).Nodup := by simpa using n2
    obtain ⟨b, vs, g1, g2, g3, g4, g5⟩ := ownL_set r2 (List.nodup_append.mp n3.2).1 e3
    have hlw : ws.length = xs.length := by rw [r2.length, List.length_map]
    refine ⟨a, b, ws, vs, h1, ha, ixO_val e2 g1 hlw, g2, g3, fun vs' ds' fr' => ?_⟩
    have hab : a ≠ b := fun z => n3.1 (List.mem_append_left _ (z ▸ g4))
    have hbr : b ∉ Lr := fun z => (List.nodup_append.mp n3.2).2.2 b g4 b z rfl
    have hqb := q b (h4.mem_iff.mpr (List.mem_append_left _ (List.mem_cons_of_mem _ g4)))
    have lk : ((xs.map (·.1)).zip ((xs.map (·.2)).set j (.lst (ds'.map .d)))).map (·.1) = xs.map (·.1) := List.map_fst_zip (by simp)
    have lv : ((xs.map (·.1)).zip ((xs.map (·.2)).set j (.lst (ds'.map .d)))).map (·.2) = (xs.map (·.2)).set j (.lst (ds'.map .d)) := List.map_snd_zip (by simp)
    have o2 : Own K Z (upd H b (.lst vs')) (.ref a) (.dct ((xs.map (·.1)).zip ((xs.map (·.2)).set j (.lst (ds'.map .d))))) (a :: L2) := .dct (by rw [upd_ne hab, lk]; exact ha) (by rw [lv]; exact g5 vs' ds' fr')
    have h5 : OwnS K Z (upd H b (.lst vs')) σ (S.set i none) Lr := h3.mono (Sub.refl Z) fun c hc => upd_ne fun z => hbr (z ▸ hc)
    obtain ⟨M, h6, D2, h7⟩ := h5.put (i := i) o2 (by simpa using hlt)
    rw [List.set_set, set_same h1] at h6
    obtain ⟨n4, n5⟩ := nodup_sub ⟨D2, h7⟩ n2
    exact ⟨⟨M, h6, n4, fun c hc => q c (h4.mem_iff.mpr (n5 c hc))⟩, fun c o ec => by rw [upd_ne (fun z => by rw [z, hqb.1] at ec; cases ec)]; exact r.z c o ec, fun c o ec => by rw [upd_ne (fun z => by rw [z, hqb.2] at ec; cases ec)]; exact r.r c o ec, r.zt, r.rt, r.zr, tabs_upd r.tab g2 (fun _ z => by cases z) fun _ z => by cases z⟩
/-- d['k'].pop(0) -/
def dpop0 (i : Nat) (k : Str) : M OV := fun S => match lstAt S i (.inr k) with
  | some (xs, j, y :: ds) => some (.ok (.d y), S.set i (some (.dct ((xs.map (·.1)).zip ((xs.map (·.2)).set j (.lst (ds.map .d)))))))
  | _ => none
theorem ev_dpop0 {i j j2 : Nat} {x k : Str} {px p2 p3 p4 apos : Pos} (hu : X.A.units + 1 < cLine) (hN : X.N[i]? = some x) (hv : Vis X.env.scope x) (hd : (x == ("__debug__" : Str)) = false := by decide) (hcd : (x == ("__classdict__" : Str)) = false := by decide) (hs : NoSl (.Constant (.str k) j p2) := by intro _ _; rfl)
    (hbase : attributeBase (.Subscript (.Name x px) (.Constant (.str k) j p2) p3) "pop" X.env (eval (.Subscript (.Name x px) (.Constant (.str k) j p2) p3) X.env) = eval (.Subscript (.Name x px) (.Constant (.str k) j p2) p3) X.env := by rfl)
    (hfew : ((backTo pos (starEach [.Constant (.int 0) j2 p4] X.env)).all (fun x => !x.1) && (backToKw pos (keywordEach [] X.env)).all (fun x => x.1.isSome)
      && decide (([.Constant (.int 0) j2 p4] : List Expr).length + ([] : List Keyword).length + (if ([] : List Keyword).isEmpty then 0 else 1) < 30)) = true := by rfl)
    (hline : (apos.endLine == pos.line) = true := by rfl) (hst : starEach [.Constant (.int 0) j2 p4] X.env = (false, eval (.Constant (.int 0) j2 p4) X.env) :: starEach [] X.env := by rfl) (hplain : (backTo pos (starEach [] X.env)).any (·.1) = false := by rfl) :
    EV X T (.Call (.Attribute (.Subscript (.Name x px) (.Constant (.str k) j p2) p3) "pop" apos) [.Constant (.int 0) j2 p4] [] pos) (dpop0 i k) :=
  pe_mono (pe_bm PySem.F.plainAttrs_list PySem.F.slot_list_pop PySem.F.type_list_pop mt_popAt (pe_dget hu (pe_var hN hv hd hcd) pe_str hs) (pa_cons pe_int pa_nil hst) hbase hfew hline hst hplain) fun σ H Q ⟨Z, R, S, r, S', W, rel, er, tk, pf⟩ => by
  unfold dpop0 at er
  split at er
  · rename_i xs jj y ds q
    cases er
    obtain ⟨a, b, ws, vs, h1, h2, h3, h4, h5, h6⟩ := rel.lstAt q
    cases h5 with
    | @cons v vs _ _ fv fr =>
      refine ⟨.ref a, h1, a, .ref b, rfl, by rw [← h3]; exact DGet.k (k := .inr k) h2, .inl ⟨rfl, _, SqL.of h4⟩, ?_⟩
      refine ⟨b, v :: vs, 0, 0, v, rfl, rfl, h4, by decide, by decide, ?_, rfl, pf v _ Z (Sub.refl _) ((h6 vs ds fr).push fv)⟩
      simp [seqIndex?]
  · cases er
/-- d['k'] != [] -/
def dfull (i : Nat) (k : Str) : M Bool := fun S => match lstAt S i (.inr k) with
  | some (_, _, ds) => if SeqAt.shaped (.list ds) then some (.ok (!ds.isEmpty), S) else none
  | _ => none
theorem evt_dfull {i j : Nat} {x k : Str} {px p2 p3 p4 : Pos} (hu : X.A.units + 64 < cLine) (hN : X.N[i]? = some x) (hv : Vis X.env.scope x) (hd : (x == ("__debug__" : Str)) = false := by decide) (hcd : (x == ("__classdict__" : Str)) = false := by decide) (hs : NoSl (.Constant (.str k) j p2) := by intro _ _; rfl) :
    EVT X T (.Compare (.Subscript (.Name x px) (.Constant (.str k) j p2) p3) [.NotEq] [.List [] p4] pos) (dfull i k) :=
  pt_mono (pt_cmpR (op_neD hu) (pe_dget (by omega) (pe_var hN hv hd hcd) pe_str hs) (pe_lst pa_nil) (nomark _)) fun σ H Q ⟨Z, R, S, r, S', W, rel, er, tk, pf⟩ => by
  unfold dfull at er
  split at er
  · rename_i xs jj ds q
    split at er
    · rename_i hsh
      cases er
      obtain ⟨a, b, ws, vs, h1, h2, h3, h4, h5, h6⟩ := rel.lstAt q
      refine ⟨.ref a, h1, a, .ref b, rfl, by rw [← h3]; exact DGet.k (k := .inr k) h2, by decide, fun p hp => ?_⟩
      have rel2 := rel.frozen hp (.lst []) (fun _ z => by cases z)
      have zp : Z p = none := by
        cases q : Z p with
        | none => rfl
        | some w => rw [rel.z _ _ q] at hp; cases hp
      have sb := sub_upd (Z := Z) (p := p) (.lst []) zp
      refine ⟨.list ds, .list [], .lst (SqL.of (by rw [upd_ne (ne_of_none h4 hp)]; exact h4)) (DpAll.sub rel2.z ((h5.sub sb).dp (by have := flat_of_shaped hsh; simpa only [flat] using this))), .lst (SqL.of upd_same) .nil, hsh, rfl, _, rfl, ?_⟩
      have e : (!PyData.eqv (.list ds) (.list [])) = !ds.isEmpty := by cases ds <;> rfl
      rw [e]
      exact pf _ _ sb rel2
    · cases er
  · cases er
end
end PL

/-! PL12: rows of owned values: dict displays, parallel assignments -/
namespace PL
open PySem PySem.Spec PyProof.Rows L2 LamX

def PLs (K : PySem.W.Frag) (T : List (Addr × Str)) (σ : L2.St) (Q : List V → Hp → Prop) : Post (List OV) := fun Z R os S => ∀ vs H' Z', Sub Z Z' → vs.length = os.length → Rel K T Z' R (os.map some ++ S) (vs.map some ++ σ) H' → Q vs H'
theorem PLs.mono {K : PySem.W.Frag} {T : List (Addr × Str)} {σ : L2.St} {Q : List V → Hp → Prop} : PMono (PLs K T σ Q) := fun Z Z' R o S s p v H' Z'' s' => p v H' Z'' (s.trans s')
def rlg (X : Cx) (T : List (Addr × Str)) (f : M (List OV)) : TA := fun σ H Q => ∃ Z, rz X T (PLs X.K T σ Q) Z f σ H
abbrev EVL (X : Cx) (T : List (Addr × Str)) (es : List Expr) (f : M (List OV)) : Prop := PA X es (rlg X T f)
def osNil : M (List OV) := M.ret []
def osCons (f : M OV) (g : M (List OV)) : M (List OV) := f >>= fun o => g >>= fun os => M.ret (o :: os)
section
variable {X : Cx} {T : List (Addr × Str)} {e : Expr} {es : List Expr} {f : M OV} {g : M (List OV)} {Z R H : Hp} {S : SS} {σ : L2.St} {pos : Pos}
/-- the value on top is held, then the rest of the row -/
theorem hold_rest {o : OV} {v : V} {S1 : SS} {r : Except PyData (List OV)} {S' : SS} {W : WX} {Q : List V → Hp → Prop} (rel : Rel X.K T Z R (some o :: S1) (some v :: σ) H)
    (q1 : ∀ os, r = .ok os → PLs X.K T σ Q Z R os S') (q2 : ∀ x, r = .error x → ExPost X.K T σ Z R W x S') (eg : (g >>= fun os => M.ret (o :: os)) S1 = some (r, S')) (tk : Takes X W) : rz X T (PLs X.K T σ fun vs H' => Q (v :: vs) H') Z g σ H := by
  obtain ⟨L, ow, n, qz⟩ := id rel.own
  cases ow with
  | @own _ _ _ _ B A w1 w2 =>
    have oB : OwnS X.K Z H [some v] [some o] B := by
      have := OwnS.own w1 (OwnS.emp (K := X.K) (Z := Z) (H := H))
      rwa [List.append_nil] at this
    have n2 : (A ++ B).Nodup := (List.perm_append_comm.nodup_iff).mp n
    have qq : ∀ a ∈ A ++ B, Z a = none ∧ R a = none := fun a ha => qz a (List.perm_append_comm.mem_iff.mpr ha)
    have rel1 := rel.frame w2 oB n2 qq
    have nB : B.Nodup := (List.nodup_append.mp n2).2.1
    have rB : ∀ a ∈ B, R a = none := fun a ha => (qq a (List.mem_append_right _ ha)).2
    rcases bind_eq eg with ⟨x, ef, rfl⟩ | ⟨os, S2, ef, eg⟩
    · refine ⟨fr R H B, S1, _, _, W, rel1, ef, tk, fun cls d H' Z' s' r' ix => ?_⟩
      obtain ⟨A', p1, p2, p3, p4, p5⟩ := r'.unframe s' oB nB rB
      exact q2 _ rfl cls d H' Z' s' (p5 p1 (List.nodup_append.mp p3).1 fun a ha => List.mem_append_left _ ha) ix
    · cases eg
      refine ⟨fr R H B, S1, _, _, W, rel1, ef, tk, fun vs H' Z' s' hl r' => ?_⟩
      obtain ⟨A', p1, p2, p3, p4, p5⟩ := r'.unframe s' oB nB rB
      refine q1 _ rfl (v :: vs) H' Z' s' (by simp [hl]) ?_
      cases p2 with
      | @own _ _ _ _ B1 B2 w3 w4 =>
        cases w4
        rw [List.append_nil] at p5 p3
        have pm := List.perm_append_comm (l₁ := A') (l₂ := B1)
        exact p5 (OwnS.own w3 p1) ((pm.nodup_iff).mp p3) fun a ha => pm.mem_iff.mpr ha
theorem evl_nil : EVL X T [] osNil := pa_mono pa_nil fun σ H Q ⟨Z, h⟩ => by
  obtain ⟨R, S, rel, p⟩ := rz_ret h
  exact p [] H Z (Sub.refl Z) rfl rel
theorem evl_cons (ha : EV X T e f) (hr : EVL X T es g) (hs : starEach (e :: es) X.env = (false, eval e X.env) :: starEach es X.env := by rfl) : EVL X T (e :: es) (osCons f g) :=
  pa_mono (pa_cons ha hr hs) fun σ H Q ⟨Z, h⟩ => by
    refine ⟨Z, rz_mono (rd_bind PLs.mono h) fun Z R o S p v H1 Z1 s1 r1 => ?_⟩
    obtain ⟨o', Z2, R2, S2, r, S', W, s2, rel, e, tk, q⟩ := p v H1 Z1 s1 r1
    exact ⟨Z2, hold_rest rel (fun os z => by subst z; exact q) (fun x z => by subst z; exact q) e tk⟩

/-! ### parallel assignment -/
def putLs : List Nat → List OV → SS → SS
  | i :: is, o :: os, S => putLs is os (S.set i (some o))
  | _, _, S => S
def putV : List Nat → List V → L2.St → L2.St
  | i :: is, v :: vs, σ => putV is vs (σ.set i (some v))
  | _, _, σ => σ
theorem Rel.puts : ∀ {is : List Nat} {os : List OV} {vs : List V} {S : SS} {σ : L2.St}, Rel X.K T Z R (os.map some ++ S) (vs.map some ++ σ) H → vs.length = os.length → is.length = os.length → (∀ i ∈ is, i < S.length) → Rel X.K T Z R (putLs is os S) (putV is vs σ) H
  | [], [], [], S, σ, r, _, _, _ => r
  | i :: is, o :: os, v :: vs, S, σ, r, h1, h2, h3 => by
    have hl : os.length = vs.length := by simpa using h1.symm
    have r1 := Rel.set (i := os.length + i) r (by
      have := h3 i List.mem_cons_self
      show _ < (os.map some ++ S).length
      rw [List.length_append, List.length_map]; omega)
    have e1 : (os.map some ++ S).set (os.length + i) (some o) = os.map some ++ S.set i (some o) := by
      rw [List.set_append_right _ _ (by simp)]
      simp
    have e2 : (vs.map some ++ σ).set (os.length + i) (some v) = vs.map some ++ σ.set i (some v) := by
      rw [hl, List.set_append_right _ _ (by simp)]
      simp
    have r2 : Rel X.K T Z R (os.map some ++ S.set i (some o)) (vs.map some ++ σ.set i (some v)) H := by
      rw [← e1, ← e2]
      exact r1
    have := Rel.puts (is := is) r2 hl.symm (by simpa using h2) fun j hj => by rw [List.length_set]; exact h3 j (List.mem_cons_of_mem _ hj)
    exact this
  | [], [], _ :: _, _, _, _, h, _, _ => by cases h
  | [], _ :: _, _, _, _, _, _, h, _ => by cases h
  | _ :: _, [], _, _, _, _, _, h, _ => by cases h
  | _ :: _, _ :: _, [], _, _, _, h, _, _ => by cases h
inductive Tgs (X : Cx) : List Expr → List Nat → List Str → Prop
  | nil : Tgs X [] [] []
  | cons {i : Nat} {x : Str} {p : Pos} {es : List Expr} {is : List Nat} {xs : List Str} : X.N[i]? = some x → Loc X.env.scope x → (X.fn x = true ∨ X.env.scope.names.lookup x = some .local) → Tgs X es is xs → Tgs X (.Name x p :: es) (i :: is) (x :: xs)
theorem putV_set {i : Nat} {u : Option V} : ∀ {is : List Nat} {vs : List V} {σ : L2.St}, i ∉ is → putV is vs (σ.set i u) = (putV is vs σ).set i u
  | [], _, _, _ => rfl
  | j :: is, [], _, _ => rfl
  | j :: is, v :: vs, σ, h => by
    show putV is vs ((σ.set i u).set j (some v)) = _
    rw [List.set_comm _ _ (by intro z; exact h (z ▸ List.mem_cons_self)), putV_set (fun z => h (List.mem_cons_of_mem _ z))]
    rfl
theorem aio_left {M : Model} {A : Around} {E : Value → Shared → Prop} {pins : List (Addr × Obj)} {H : Hp} {Q : Unit → Shared → Prop} (hN : X.N.Nodup) : ∀ {es : List Expr} {is : List Nat} {xs : List Str} {vs : List V} {us : List Value} {σ : L2.St} {s : Shared}, Tgs X es is xs → vs.length = is.length → Vals vs us → Inv X pins σ H s →
    (∀ s', Inv X pins (putV is vs σ) H s' → Q () s') → wpAny M A (assignInOrder ((assignEach es X.env).map (·.2)) us) Q E s := by
  intro es is xs vs us σ s h
  induction h generalizing vs us σ s with
  | nil =>
    intro hl r I q
    cases vs with
    | nil => cases r; exact assignInOrder_nil (q s I)
    | cons v vs => cases hl
  | cons h1 h2 h3 h4 ih =>
    intro hl r I q
    cases r with
    | nil => cases hl
    | cons r rr => exact assignInOrder_cons (wpAny_assign_Name (store_ok I hN h1 h2 r (fun s' I' => ih (by simpa using hl) rr I' q) h3))
theorem aio_right {M : Model} {A : Around} {E : Value → Shared → Prop} {pins : List (Addr × Obj)} {H : Hp} {Q : Unit → Shared → Prop} (hN : X.N.Nodup) : ∀ {es : List Expr} {is : List Nat} {xs : List Str} {vs : List V} {us : List Value} {σ : L2.St} {s : Shared} {B : List (Value → Sem Unit)} {bs : List Value}, Tgs X es is xs → is.Nodup → vs.length = is.length → Vals vs us → Inv X pins σ H s →
    (∀ s', Inv X pins (putV is vs σ) H s' → wpAny M A (assignInOrder B bs) Q E s') → wpAny M A (assignInOrder ((xs.reverse.map fun n => bindName X.env n) ++ B) (us.reverse ++ bs)) Q E s := by
  intro es is xs vs us σ s B bs h
  induction h generalizing vs us σ s B bs with
  | nil =>
    intro nd hl r I q
    cases vs with
    | nil => cases r; exact q s I
    | cons v vs => cases hl
  | @cons i x p es is xs h1 h2 h3 h4 ih =>
    intro nd hl r I q
    cases r with
    | nil => cases hl
    | @cons v u vs us r rr =>
      have e1 : (((x :: xs).reverse.map fun n => bindName X.env n) ++ B) = (xs.reverse.map fun n => bindName X.env n) ++ ((fun w => bindName X.env x w) :: B) := by simp
      have e2 : (u :: us).reverse ++ bs = us.reverse ++ (u :: bs) := by simp
      rw [e1, e2]
      obtain ⟨n1, n2⟩ := List.nodup_cons.mp nd
      refine ih n2 (by simpa using hl) rr I fun s' I' => ?_
      refine assignInOrder_cons (wpAny_bindName (store_ok I' hN h1 h2 r (fun s2 I2 => q s2 ?_) h3))
      rw [← putV_set n1] at I2
      exact I2
theorem Tgs.len {es : List Expr} {is : List Nat} {xs : List Str} (h : Tgs X es is xs) : es.length = is.length ∧ xs.length = is.length ∧ (assignEach es X.env).length = is.length ∧ (assignEach es X.env).findIdx? (·.1) = none := by
  induction h with
  | nil => exact ⟨rfl, rfl, rfl, rfl⟩
  | @cons i x p es is xs h1 h2 h3 h4 ih =>
    obtain ⟨i1, i2, i3, i4⟩ := ih
    refine ⟨by simp [i1], by simp [i2], ?_, ?_⟩
    · show ((false, assign (.Name x p) X.env) :: assignEach es X.env).length = _
      simp [i3]
    · show ((false, assign (.Name x p) X.env) :: assignEach es X.env).findIdx? (·.1) = none
      rw [List.findIdx?_cons]
      simp [i4]
def parS (is : List Nat) (fo : M (List OV)) : SM := doE fo fun os S => if os.length = is.length ∧ is.length ≤ 16 ∧ ∀ i ∈ is, i < S.length then some (.nx, putLs is os S) else none
theorem doL_of {mp : List Nat} {D : Ends} {g : List OV → SM} {fo : M (List OV)} (h : rsg X T mp (doE fo g) D σ H) :
    rlg X T fo σ H fun vs H1 => ∃ os Z1 R S1 r S' W P, vs.length = os.length ∧ Rel X.K T Z1 R (os.map some ++ S1) (vs.map some ++ σ) H1 ∧ Pin mp P σ ∧ g os S1 = some (r, S') ∧ Takes X W ∧ PFl X.K T mp P D W Z1 R S' r := by
  obtain ⟨Z, R, S, r, S', W, P, rel, pn, e, tk, q⟩ := h
  unfold doE at e
  split at e
  · rename_i o S1 e1
    exact ⟨Z, R, S, _, _, W, rel, e1, tk, fun v H' Z' s hl rel' => ⟨o, Z', R, S1, r, S', W, P, hl, rel', pn, e, tk, PFl.sub s q⟩⟩
  · rename_i x S1 e1
    cases e
    exact ⟨Z, R, S, _, _, W, rel, e1, tk, fun cls d H' Z' s rel' ix => q cls d σ H' Z' s rel' pn ix⟩
  · cases e
theorem Pin.puts {mp : List Nat} {P : Nat → V} : ∀ {is : List Nat} {vs : List V} {σ : L2.St}, Pin mp P σ → (∀ i ∈ is, i ∉ mp) → Pin mp P (putV is vs σ)
  | [], _, _, p, _ => p
  | i :: is, [], _, p, _ => p
  | i :: is, v :: vs, σ, p, h => by
    have := Pin.puts (is := is) (vs := vs) (p.set (u := some v) (h i List.mem_cons_self)) fun j hj => h j (List.mem_cons_of_mem _ hj)
    exact this
theorem sv_par {mp : List Nat} {tgs es : List Expr} {is : List Nat} {xs : List Str} {fo : M (List OV)} {k k2 : Nat} {pt pt2 : Pos} (hc : X.calm = true) (hN : X.N.Nodup) (ht : Tgs X tgs is xs) (he : EVL X T es fo) (hd : is.Nodup := by decide) (hm : ∀ i ∈ is, i ∉ mp := by decide)
    (hw : swappedStores [.Tuple tgs k pt] (.Tuple es k2 pt2) X.env = pure none ∨ swappedStores [.Tuple tgs k pt] (.Tuple es k2 pt2) X.env = pure (some xs) := by first | exact .inl rfl | exact .inr rfl)
    (hs : swapsWithSole [.Tuple tgs k pt] (.Tuple es k2 pt2) pos.line X.env = pure false := by rfl) : SV X T mp (.Assign [.Tuple tgs k pt] (.Tuple es k2 pt2) pos) (parS is fo) := ⟨fun pins s σ H D I h => by
  have h := doL_of h
  rw [exec_Assign_arm]
  refine wpAny_bind (wpAny_standAt ?_)
  rw [hs]
  refine wpAny_bind (wpAny_pure ?_)
  rw [if_neg (by decide)]
  refine wpAny_bind (Tuple_ (thn (he.run _ pins s σ H _ I h) fun us s1 ⟨vs, H1, I1, r1, os, Z1, R, S1, r, S', W, P, hl, rel, pn, e, tk, q⟩ => ?_))
  split at e
  · rename_i hcnd
    obtain ⟨c1, c2, c3⟩ := hcnd
    cases e
    have hvl : vs.length = is.length := hl.trans c1
    have hul : us.length = is.length := r1.length ▸ hvl
    refine wpAny_newObj_type ?_ (by show us.toArray.size ≤ sizeLine; rw [List.size_toArray, hul]; exact Nat.le_trans c2 (by rw [sizeLine_eq]; decide))
    have I2 : Inv X pins σ H1 { s1 with heap := s1.heap.push { cls := .type "tuple", data := .seq us.toArray } } := I1.kept (t' := s1.toks) fun b o e => Heap.get?_push_of_some _ e
    have fin := q (putV is vs σ) H1 Z1 (Sub.refl _) (rel.puts hl c1.symm c3) (pn.puts hm)
    obtain ⟨t1, t2, t3, t4⟩ := ht.len
    rcases hw with hw | hw
    · rw [hw]
      refine wpAny_bind (wpAny_pure ?_)
      show wpAny (model X.prog X.w) X.A (do assign (.Tuple tgs k pt) X.env (.ref s1.heap.objs.size); pure Flow.next) _ _ _
      refine wpAny_bind (assign_Tuple_tuple (items := us.toArray) (I.ok.hd hc) (IsTup.new s1.heap _) (by rw [t3, List.size_toArray, hul]) t4 fun h' hx => ?_)
      have I3 := I2.kept (h' := h') (t' := s1.toks) fun b o e => hx b o (Nat.ne_of_lt (Heap.lt_size e)) e
      exact aio_left (M := model X.prog X.w) hN ht hvl (by simpa using r1) I3 fun s' I' => wpAny_pure ⟨_, H1, I', fin⟩
    · rw [hw]
      refine wpAny_bind (wpAny_pure ?_)
      show wpAny (model X.prog X.w) X.A (do rule "assign.swapped-stores"; let items ← unpackItems (.ref s1.heap.objs.size) xs.length none; assignInOrder (xs.reverse.map fun n => bindName X.env n) items.reverse; pure Flow.next) _ _ _
      have hxl : xs.length = us.toArray.size := by rw [t2, List.size_toArray, hul]
      rw [hxl]
      refine wpAny_bind (wpAny_rule (wpAny_bind (unpackItems_tuple (items := us.toArray) (I.ok.hd hc) (IsTup.new s1.heap _) fun h' hx' => ?_)))
      have I3 := I2.kept (h' := h') (t' := s1.toks) fun b o e => hx' b o (Nat.ne_of_lt (Heap.lt_size e)) e
      have := aio_right (M := model X.prog X.w) (A := X.A) (E := X.xe) (B := []) (bs := []) (Q := fun _ s' => SP X pins D Flow.next s') hN ht hd hvl r1 I3 fun s' I' => assignInOrder_nil ⟨_, H1, I', fin⟩
      rw [List.append_nil, List.append_nil] at this
      exact wpAny_bind (thn this fun _ s' q => wpAny_pure q)
  · cases e⟩

/-! ### dict displays -/
structure EVD (X : Cx) (T : List (Addr × Str)) (pos : Pos) (keys : List (Option Expr)) (values : List Expr) (ks : List Str) (f : M (List OV)) : Prop where
  ex : ∃ trs, PPs X pos keys values trs ∧ ∀ σ H Q, (∃ Z, rz X T (PLs X.K T σ fun vs H' => Q ((ks.map V.str).zip vs) H') Z f σ H) → tPairs trs σ H Q
theorem evd_nil : EVD X T pos [] [] [] osNil := ⟨[], pps_nil, fun σ H Q ⟨Z, h⟩ => by
  obtain ⟨R, S, rel, p⟩ := rz_ret h
  exact p [] H Z (Sub.refl Z) rfl rel⟩
theorem evd_cons {k : Str} {j : Nat} {p : Pos} {keys : List (Option Expr)} {values : List Expr} {ks : List Str} (ha : EV X T e f) (hr : EVD X T pos keys values ks g) : EVD X T pos (some (.Constant (.str k) j p) :: keys) (e :: values) (k :: ks) (osCons f g) := by
  obtain ⟨trs, hp, hd⟩ := hr.ex
  refine ⟨(tC (.str k), rdg X T f) :: trs, pps_cons pe_str ha hp, fun σ H Q ⟨Z, h⟩ => ?_⟩
  refine ⟨Z, rz_mono (rd_bind PLs.mono h) fun Z R o S p v H1 Z1 s1 r1 => ?_⟩
  obtain ⟨o', Z2, R2, S2, r, S', W, s2, rel, e, tk, q⟩ := p v H1 Z1 s1 r1
  exact hd σ H1 _ ⟨Z2, hold_rest (Q := fun vs H' => Q (((k :: ks).map V.str).zip vs) H') rel (fun os z => by subst z; exact q) (fun x z => by subst z; exact q) e tk⟩
theorem Rel.addX (r : Rel X.K T Z R S σ H) {D : Addr} (hD : H D = none) (u : HO) (hu : ∀ ps, u ≠ .tbl ps) : Rel X.K T Z (upd R D u) S σ (upd H D u) := by
  obtain ⟨L, ow, n, q⟩ := r.own
  have lp : ∀ a ∈ L, a ≠ D := fun a ha e => by
    obtain ⟨w, hw, _⟩ := ow.at_ a ha
    rw [e, hD] at hw; cases hw
  refine ⟨⟨L, ow.mono (Sub.refl Z) (fun a ha => upd_ne (lp a ha)), n, fun a ha => ⟨(q a ha).1, by rw [upd_ne (lp a ha)]; exact (q a ha).2⟩⟩, fun a o e => ?_, fun a o e => ?_, r.zt, fun a ps e => ?_, fun a o e => ?_, r.tab.ext fun a o e => ?_⟩
  · rw [upd_ne (ne_of_none (r.z a o e) hD)]; exact r.z a o e
  · by_cases h : a = D
    · subst h; rw [upd_same] at e ⊢; exact e
    · rw [upd_ne h] at e ⊢; exact r.r a o e
  · by_cases h : a = D
    · subst h; rw [upd_same] at e; exact hu ps (Option.some.inj e)
    · rw [upd_ne h] at e; exact r.rt a ps e
  · by_cases h : a = D
    · subst h
      have := r.z a o e
      rw [hD] at this; cases this
    · rw [upd_ne h]; exact r.zr a o e
  · rw [upd_ne (ne_of_none e hD)]; exact e
theorem own_split : ∀ {vs : List V} {os : List OV} {σ : L2.St} {S : SS} {L : List Addr}, vs.length = os.length → OwnS X.K Z H (vs.map some ++ σ) (os.map some ++ S) L → ∃ L1 L2, OwnL X.K Z H vs os L1 ∧ OwnS X.K Z H σ S L2 ∧ L = L1 ++ L2
  | [], [], _, _, L, _, h => ⟨[], L, .nil, h, rfl⟩
  | v :: vs, o :: os, _, _, _, hl, h => by
    cases h with
    | own a b =>
      obtain ⟨L1, L2, h1, h2, rfl⟩ := own_split (by simpa using hl) b
      exact ⟨_, L2, .cons a h1, h2, by rw [List.append_assoc]⟩
  | [], _ :: _, _, _, _, hl, _ => by cases hl
  | _ :: _, [], _, _, _, hl, _ => by cases hl
theorem keys_zip : ∀ (ks : List Str) (os : List OV), ks.length = os.length → ((ks.map (Sum.inr : Str → Key)).zip os).map (·.1) = ks.map Sum.inr ∧ ((ks.map (Sum.inr : Str → Key)).zip os).map (·.2) = os
  | [], [], _ => ⟨rfl, rfl⟩
  | k :: ks, o :: os, h => by
    obtain ⟨h1, h2⟩ := keys_zip ks os (by simpa using h)
    exact ⟨by simp [h1], by simp [h2]⟩
  | [], _ :: _, h => by cases h
  | _ :: _, [], h => by cases h
theorem Rel.dctR {D : Addr} {ks : List Str} {vs : List V} {os : List OV} (r : Rel X.K T Z (upd R D (.dK [])) (os.map some ++ S) (vs.map some ++ σ) H) (hR : R D = none) (h1 : vs.length = os.length) (h2 : ks.length = os.length) :
    Rel X.K T Z R (some (.dct ((ks.map Sum.inr).zip os)) :: S) (some (.ref D) :: σ) (upd H D (.dK ((ks.map Sum.inr).zip vs))) := by
  obtain ⟨L, ow, n, q⟩ := r.own
  have hD : H D = some (.dK []) := r.r D _ upd_same
  have lp : ∀ a ∈ L, a ≠ D := fun a ha e => by
    have := (q a ha).2
    rw [e, upd_same] at this; cases this
  have zD : Z D = none := by
    cases e : Z D with
    | none => rfl
    | some o => have := r.zr D o e; rw [upd_same] at this; cases this
  have qR : ∀ a ∈ L, R a = none := fun a ha => by have := (q a ha).2; rwa [upd_ne (lp a ha)] at this
  obtain ⟨L1, L2, o1, o2, rfl⟩ := own_split h1 ow
  have o1' := o1.mono (H' := upd H D (.dK ((ks.map Sum.inr).zip vs))) (Sub.refl Z) fun a ha => upd_ne (lp a (List.mem_append_left _ ha))
  have o2' := o2.mono (H' := upd H D (.dK ((ks.map Sum.inr).zip vs))) (Sub.refl Z) fun a ha => upd_ne (lp a (List.mem_append_right _ ha))
  obtain ⟨e1, e2⟩ := keys_zip ks os h2
  refine ⟨⟨D :: L1 ++ L2, .own (.dct (ws := vs) (by rw [upd_same, e1]) (by rw [e2]; exact o1')) o2', List.nodup_cons.mpr ⟨fun z => lp D z rfl, n⟩, fun a ha => ?_⟩, fun a o e => ?_, fun a o e => ?_, r.zt, fun a ps e => ?_, fun a o e => ?_, tabs_upd r.tab hD (fun _ z => by cases z) fun _ z => by cases z⟩
  · rcases List.mem_cons.mp ha with rfl | ha
    · exact ⟨zD, hR⟩
    · exact ⟨(q a ha).1, qR a ha⟩
  · rw [upd_ne (fun z => by rw [z, zD] at e; cases e)]; exact r.z a o e
  · have ne : a ≠ D := fun z => by rw [z, hR] at e; cases e
    rw [upd_ne ne]
    exact r.r a o (by rw [upd_ne ne]; exact e)
  · have ne : a ≠ D := fun z => by rw [z, hR] at e; cases e
    exact r.rt a ps (by rw [upd_ne ne]; exact e)
  · have := r.zr a o e
    rwa [upd_ne (fun z => by rw [z, zD] at e; cases e)] at this
theorem merge_zip : ∀ (kvs acc : List (Key × V)), ((acc ++ kvs).map (·.1)).Nodup → mergeK acc kvs = acc ++ kvs
  | [], acc, _ => by rw [List.append_nil]; rfl
  | p :: kvs, acc, h => by
    have e : putK acc p.1 p.2 = acc ++ [p] := by
      unfold putK
      rw [if_neg]
      intro z
      obtain ⟨q, h1, h2⟩ := List.any_eq_true.mp z
      have h2 := of_decide_eq_true h2
      rw [List.map_append, List.map_cons] at h
      have := (List.nodup_append.mp h).2.2 q.1 (List.mem_map_of_mem h1) p.1 List.mem_cons_self
      exact this h2
    show mergeK (putK acc p.1 p.2) kvs = _
    rw [e, merge_zip kvs (acc ++ [p]) (by rw [List.append_assoc]; exact h), List.append_assoc]
    rfl
def dispM (ks : List Str) (f : M (List OV)) : M OV := f >>= fun os => M.lift (if os.length = ks.length then some (.dct ((ks.map Sum.inr).zip os)) else none)
theorem map_zip_kV : ∀ (ks : List Str) (vs : List V), (((ks.map (Sum.inr : Str → Key)).zip vs).map fun kv => (kV kv.1, kv.2)) = (ks.map V.str).zip vs
  | [], _ => rfl
  | k :: ks, [] => rfl
  | k :: ks, v :: vs => by
    have := map_zip_kV ks vs
    simp only [List.map_cons, List.zip_cons_cons]
    rw [this]
    rfl
theorem ev_disp {keys : List (Option Expr)} {values : List Expr} {ks : List Str} (h : EVD X T pos keys values ks g) (hk : ks.Nodup := by decide) (hall : keys.all (·.isSome) = true := by rfl) (hl : keys.length = values.length := by rfl) (h0 : keys ≠ [] := by simp)
    (h15 : keys.length ≤ 15 := by decide) (hl2 : ks.length = keys.length := by rfl) : EV X T (.Dict keys values pos) (dispM ks g) := by
  obtain ⟨trs, hp, hd⟩ := h.ex
  refine pe_mono (pe_disp hp hall hl h0 h15) fun σ H Q ⟨Z, R, S, r, S', W, rel, e, tk, q⟩ => ?_
  intro p hpn
  have hR : R p = none := by
    cases e : R p with
    | none => rfl
    | some o => rw [rel.r p o e] at hpn; cases hpn
  have rel1 := rel.addX hpn (.dK []) (fun _ z => by cases z)
  refine hd σ _ _ ⟨Z, upd R p (.dK []), S, ?_⟩
  have back : ∀ {S0 : SS} {Z' H' : Hp}, Rel X.K T Z' (upd R p (.dK [])) S0 σ H' → Rel X.K T Z' R S0 σ H' := fun {S0 Z' H'} r => by
    obtain ⟨L, ow, n, q⟩ := r.own
    have lp : ∀ a ∈ L, a ≠ p := fun a ha e => by
      have := (q a ha).2
      rw [e, upd_same] at this; cases this
    have zD : Z' p = none := by
      cases e : Z' p with
      | none => rfl
      | some o => have := r.zr p o e; rw [upd_same] at this; cases this
    refine ⟨⟨L, ow, n, fun a ha => ⟨(q a ha).1, by have := (q a ha).2; rwa [upd_ne (lp a ha)] at this⟩⟩, r.z, fun a o e => ?_, r.zt, fun a ps e => ?_, fun a o e => ?_, r.tab⟩
    · have ne : a ≠ p := fun z => by rw [z, hR] at e; cases e
      exact r.r a o (by rw [upd_ne ne]; exact e)
    · have ne : a ≠ p := fun z => by rw [z, hR] at e; cases e
      exact r.rt a ps (by rw [upd_ne ne]; exact e)
    · have := r.zr a o e
      rwa [upd_ne (fun z => by rw [z, zD] at e; cases e)] at this
  rcases bind_eq e with ⟨x, ef, rfl⟩ | ⟨os, S1, ef, eg⟩
  · exact ⟨_, _, W, rel1, ef, tk, fun cls d H' Z' s r' ix => q cls d H' Z' s (back r') ix⟩
  · have eg : (if os.length = ks.length then some (OV.dct ((ks.map Sum.inr).zip os)) else none).map (fun a => (Except.ok a, S1)) = some (r, S') := eg
    split at eg
    · rename_i hn
      cases eg
      refine ⟨_, _, W, rel1, ef, tk, fun vs H' Z' s hl' r' => ?_⟩
      refine ⟨r'.r p _ upd_same, (ks.map Sum.inr).zip vs, (map_zip_kV ks vs).symm, ?_, ?_⟩
      · rw [List.length_zip, List.length_map]
        omega
      · rw [merge_zip _ [] ?_, List.nil_append]
        · exact q _ _ Z' s (r'.dctR hR hl' hn.symm)
        · rw [List.nil_append]
          have e1 : ((ks.map (Sum.inr : Str → Key)).zip vs).map (·.1) = ks.map Sum.inr := by
            rw [List.map_fst_zip]
            rw [List.length_map]; omega
          rw [e1]
          exact List.Pairwise.map _ (fun a b h z => h (Sum.inr.inj z)) hk
    · cases eg
end
end PL

/-! PL13: texts, in, list * int, chains of three, keywords, repr -/
namespace PL
open PySem PySem.Spec PyProof.Rows L2 LamX

section
variable {X : Cx} {T : List (Addr × Str)} {Z R H : Hp} {S : SS} {σ : L2.St} {pos : Pos}
/-! ### texts -/
def strsD : List PyData → Option (List Str)
  | [] => some []
  | .str x :: r => (strsD r).map (x :: ·)
  | _ => none
theorem FrAll.strsD {K : PySem.W.Frag} : ∀ {ds : List PyData} {vs : List V} {ys : List Str}, FrAll K Z vs ds → strsD ds = some ys → vs = ys.map V.str
  | [], _, _, h, e => by cases h; cases e; rfl
  | d :: ds, _, _, h, e => by
    cases h with
    | cons a b =>
      cases d with
      | str x =>
        cases a
        have e : (PL.strsD ds).map (x :: ·) = some _ := e
        cases q : PL.strsD ds with
        | none => rw [q] at e; cases e
        | some zs =>
          rw [q] at e; cases e
          rw [FrAll.strsD b q]; rfl
      | _ => cases e
def joinO (a : Str) (ds : List PyData) : Option OV := (strsD ds).bind fun ys => if (ys.map (·.length)).sum + ys.length * a.length ≤ 16777216 then some (.d (.str (Txt.join a ys))) else none
def oJoin : PyData → List PyData → Option OV
  | .str a, [.list ds] => joinO a ds
  | .str a, [.tuple ds] => joinO a ds
  | _, _ => none
def rJoinA (K : PySem.W.Frag) : V → List V → Hp → VK → Prop := fun x xs H Q => ∃ a p, ∃ ys : List Str, x = .str a ∧ xs = [.ref p] ∧ (SqL K H p (ys.map V.str) ∨ SqT K H p (ys.map V.str)) ∧
    (ys.map (·.length)).sum + ys.length * a.length ≤ 16777216 ∧ Q (.str (Txt.join a ys)) H
theorem mt_joinA : MtR X "str.join" (rJoinA X.K) := mt_join
theorem joinO_some {a : Str} {ds : List PyData} {o : OV} (e : joinO a ds = some o) : ∃ ys, strsD ds = some ys ∧ (ys.map (·.length)).sum + ys.length * a.length ≤ 16777216 ∧ o = .d (.str (Txt.join a ys)) := by
  unfold joinO at e
  cases q : strsD ds with
  | none => rw [q] at e; cases e
  | some ys =>
    rw [q] at e
    have e : (if _ then _ else _) = some o := e
    split at e
    · cases e; exact ⟨ys, rfl, by assumption, rfl⟩
    · cases e
theorem mg_join : MethG X T (rJoinA X.K) oJoin := by
  intro Z v vs x xs o σ H Q sz hv hvs e fin
  unfold oJoin at e
  split at e
  · obtain ⟨ys, h1, h2, rfl⟩ := joinO_some e
    obtain ⟨w, rfl, hw⟩ := hvs.one
    obtain ⟨a, us, rfl, ha, fr⟩ := hw.list sz
    have := fr.strsD h1
    subst this
    exact ⟨_, a, ys, hv.str, rfl, .inl (.inl ha), h2, fin.val (.str _)⟩
  · obtain ⟨ys, h1, h2, rfl⟩ := joinO_some e
    obtain ⟨w, rfl, hw⟩ := hvs.one
    obtain ⟨a, us, rfl, ha, fr⟩ := hw.tup sz
    have := fr.strsD h1
    subst this
    exact ⟨_, a, ys, hv.str, rfl, .inr ha, h2, fin.val (.str _)⟩
  · cases e
def oFind : PyData → List PyData → Option OV
  | .str a, [.str b] => okI (Txt.find a b)
  | _, _ => none
def rFindA : V → List V → Hp → VK → Prop := fun x xs H Q => ∃ a b, x = .str a ∧ xs = [.str b] ∧ Q (.int (Txt.find a b)) H
theorem mt_findA : MtR X "str.find" rFindA := mt_find
theorem mg_find : MethG X T rFindA oFind := by
  intro Z v vs x xs o σ H Q sz hv hvs e fin
  unfold oFind at e
  split at e
  · cases e
    obtain ⟨w, rfl, hw⟩ := hvs.one
    exact ⟨_, _, hv.str, by rw [hw.str], fin.val (.int _)⟩
  · cases e

/-! ### in -/
def oIn (x y : PyData) : Option OV := match y with
  | .list ds => if SeqAt.shaped x && SeqAt.shaped (.list ds) then okB (ds.any fun z => PyData.eqv z x) else none
  | _ => none
def oNotIn (x y : PyData) : Option OV := match y with
  | .list ds => if SeqAt.shaped x && SeqAt.shaped (.list ds) then okB (!ds.any fun z => PyData.eqv z x) else none
  | _ => none
theorem opg_in : OpG X T (rInD X.K) oIn := by
  intro Z v w x y o σ H Q sz fx fy e fin
  unfold oIn at e
  split at e
  · split at e
    · rename_i h
      rw [Bool.and_eq_true] at h
      cases e
      exact ⟨x, _, fx.dp sz (flat_of_shaped h.1), fy.dp sz (flat_of_shaped h.2), h.1, h.2, fin.val (.bl _)⟩
    · cases e
  · cases e
theorem opg_notIn : OpG X T (rNotInD X.K) oNotIn := by
  intro Z v w x y o σ H Q sz fx fy e fin
  unfold oNotIn at e
  split at e
  · split at e
    · rename_i h
      rw [Bool.and_eq_true] at h
      cases e
      exact ⟨x, _, fx.dp sz (flat_of_shaped h.1), fy.dp sz (flat_of_shaped h.2), h.1, h.2, fin.val (.bl _)⟩
    · cases e
  · cases e

/-! ### list * int -/
def rRepR : R2 := fun x y H Q => ∃ l k xs, x = .ref l ∧ y = .int k ∧ Rd H l (.lst xs) ∧ -(2 ^ 63) ≤ k ∧ k < 2 ^ 63 ∧ xs.length * k.toNat ≤ sizeLine ∧
  ∀ p, H p = none → Q (.ref p) (upd H p (.lst (List.replicate k.toNat xs).flatten))
theorem op_repR : OpR X (binaryOp .Mult) rRepR := by
  intro pins s σ H x y v u Q I rx ry h
  obtain ⟨l, k, xs, rfl, rfl, hH, h1, h2, hz, q⟩ := h
  cases rx
  obtain ⟨t, rfl⟩ := ry
  obtain ⟨z, its, n, r, hl, e⟩ := Inv.lstR I hH
  have hlen : its.toArray.size * k.toNat ≤ sizeLine := by rw [List.size_toArray, ← hl]; exact hz
  have hcap : ¬ its.toArray.size * k.toNat > (2 ^ 63 - 1) / 8 := by
    have : (sizeLine : Nat) ≤ (2 ^ 63 - 1) / 8 := by decide
    omega
  have hfit : ¬ (!Builtin.List.listFitsIndex k) = true := by
    rw [fitsIndex_both h1 h2]
    exact Bool.false_ne_true
  have hlong : ¬ Builtin.List.listTooLong (its.toArray.size * k.toNat) = true := by
    rw [notLongL hlen]
    exact Bool.false_ne_true
  have hnew : List.foldl (fun x1 x2 => x1 ++ x2) #[] (List.replicate (if its.toArray.isEmpty = true then 0 else k.toNat) its.toArray) = (List.replicate k.toNat its).flatten.toArray := by
    have f0 : ∀ m : Nat, List.foldl (fun x1 x2 => x1 ++ x2) #[] (List.replicate m its.toArray) = (List.replicate m its).flatten.toArray := fun m => by
      have := foldl_rep its m []
      rw [List.nil_append] at this
      exact this
    rw [f0]
    cases its with
    | nil => simp
    | cons a r' => rw [if_neg (by simp)]
  refine wpAny_binaryOp_repeat_ref (T := "list") (U := "int") (by decide) ⟨_, e, rfl⟩ (fun s' => typeIs_int s' k t) noFill_list_mul F.fills_int_mul F.slot_int_rmul repeat_list F.slot_int_index.lookup
    (call_meets F.slot_int_rmul (typeIs_int s k t) F.entry_int_rmul (F.args_int_rmul_2 _ _) (int___rmul___int_list k t l its.toArray n)
      ⟨e, rfl, ⟨_, e, rfl⟩, call_meets F.slot_list_mul ⟨_, e, rfl⟩ F.entry_list_mul (F.args_list_mul_2 _ _) (AutoListH.list___mul___list_int_3 l its.toArray n k t hfit hcap hlong) ⟨e, ?_⟩⟩)
  rw [hnew]
  exact ⟨.ref _, _, I.lnew (t' := s.toks) (r.rep k.toNat) (by rw [PyProof.Rows.lm_len_rep_flat, Nat.mul_comm]; exact hz), rfl, q _ I.fresh⟩
def rMulA : R2 := fun x y H Q => rI CMul (fun i j => .int (i * j)) x y H Q ∨ rRepR x y H Q
theorem op_mulA : OpR X (binaryOp .Mult) rMulA := op_mul.or op_repR
def oMulA (own : Bool) : PyData → PyData → Option OV
  | .int i, .int j => if cMul i j then okI (i * j) else none
  | .list ds, .int k => if -(2 ^ 63) ≤ k ∧ k < 2 ^ 63 ∧ ds.length * k.toNat ≤ sizeLine then some (newL own (List.replicate k.toNat ds).flatten) else none
  | _, _ => none
theorem FrAll.rep {K : PySem.W.Frag} {vs : List V} {ds : List PyData} (h : FrAll K Z vs ds) : ∀ n : Nat, FrAll K Z (List.replicate n vs).flatten (List.replicate n ds).flatten
  | 0 => .nil
  | n + 1 => by
    rw [List.replicate_succ, List.replicate_succ, List.flatten_cons, List.flatten_cons]
    exact h.append (FrAll.rep h n)
theorem opg_mulA {own : Bool} : OpG X T rMulA (oMulA own) := by
  intro Z v w x y o σ H Q sz fx fy e fin
  unfold oMulA at e
  split at e
  · rename_i i j
    exact .inl (opg_mul Z v w (.int i) (.int j) o σ H Q sz fx fy e fin)
  · rename_i ds k
    split at e
    · rename_i hc
      cases e
      obtain ⟨a, vs, rfl, ha, fr⟩ := fx.list sz
      rw [fy.int]
      exact .inr ⟨a, k, vs, rfl, rfl, ha, hc.1, hc.2.1, by rw [fr.length]; exact hc.2.2, fin.lst (fr.rep _)⟩
    · cases e
  · cases e

/-! ### a < b < c < d as a test -/
def tCh3 (r r' r'' : R2) (ta tb tc td : TE) : TT := fun σ H Q => ta σ H fun x H1 => tb σ H1 fun y H2 => r x y H2 fun z H3 => ∃ k, z = .bl k ∧
  (if k = true then tc σ H3 fun w H4 => r' y w H4 fun z H5 => ∃ k, z = .bl k ∧ (if k = true then td σ H5 fun u H6 => r'' w u H6 fun z H7 => ∃ k, z = .bl k ∧ Q k H7 else Q false H5) else Q false H3)
theorem pt_ch3 {a b c d : Expr} {ta tb tc td : TE} {op op' op'' : CmpOp} {r r' r'' : R2} (ho : OpR X (compareOp op) r) (ho' : OpR X (compareOp op') r') (ho'' : OpR X (compareOp op'') r'') (ha : PE X a ta) (hb : PE X b tb) (hc : PE X c tc) (hd : PE X d td)
    (hm : lastMarks [op, op', op''] [b, c, d] = false := by with_unfolding_all rfl) : PT X (.Compare a [op, op', op''] [b, c, d] pos) (tCh3 r r' r'' ta tb tc td) := by
  refine ⟨fun pins s σ H Q I h => ?_⟩
  refine isTrue_chain (thn (ha.run pins s σ H _ I h) fun v s1 ⟨x, H1, I1, r1, q1⟩ => test_link (thn (hb.run pins s1 σ H1 _ I1 q1) fun u s2 ⟨y, H2, I2, r2, q2⟩ =>
    thn (ho pins s2 σ H2 x y v u _ I2 r1 r2 q2) fun d s3 ⟨z, H3, I3, r3, k, e, q3⟩ => ?_)) hm
  subst e
  cases r3
  refine wpAny_truthy_bool ?_
  cases k with
  | false => exact ite_ff ⟨H3, I3, q3⟩
  | true =>
    refine ite_tt (test_link (thn (hc.run pins s3 σ H3 _ I3 q3) fun w' s4 ⟨z', H4, I4, r4, q4⟩ => thn (ho' pins s4 σ H4 y z' u w' _ I4 r2 r4 q4) fun d' s5 ⟨z2, H5, I5, r5, k2, e2, q5⟩ => ?_))
    subst e2
    cases r5
    refine wpAny_truthy_bool ?_
    cases k2 with
    | false => exact ite_ff ⟨H5, I5, q5⟩
    | true =>
      refine ite_tt (test_last (thn (hd.run pins s5 σ H5 _ I5 q5) fun w'' s6 ⟨z6, H6, I6, r6, q6⟩ => thn (ho'' pins s6 σ H6 z' z6 w' w'' _ I6 r4 r6 q6) fun d' s7 ⟨z7, H7, I7, r7, k7, e7, q7⟩ => ?_))
      subst e7
      cases r7
      exact wpAny_truthy_bool ⟨H7, I7, q7⟩
theorem opB_of {β : Type} {r : R2} {g : PyData → PyData → Option OV} {P : Post β} {u w : AV} {v1 v2 : V} {cont : Bool → M β} {Q' : VK} (hg : OpG X T r g) (hP : PMono P) (h : rz X T P Z (asB (op2 g u w) >>= cont) σ H) (o1 : AvOk X.K Z σ v1 u) (o2 : AvOk X.K Z σ v2 w)
    (hq : ∀ k H' Z', Sub Z Z' → rz X T P Z' (cont k) σ H' → Q' (.bl k) H') : r v1 v2 H Q' := by
  have h1 := rt_bind hP h
  have h2 := rd_bind PBo.mono h1
  obtain ⟨x, y, o, R, S, sz, w1, w2, e, rel, pf⟩ := rz_op2 h2 o1 o2
  refine hg Z v1 v2 x y o σ H _ sz w1 w2 e ⟨R, S, rel, fun z H3 Z5 s5 rel5 => ?_⟩
  obtain ⟨o', Z6, R6, S6, r', S', W, s6, rel6, e6, tk, q⟩ := pf z H3 Z5 s5 rel5
  cases o' with
  | d x =>
    cases x with
    | bool b =>
      cases e6
      obtain ⟨f1, r2⟩ := rel6.popd
      cases f1
      obtain ⟨Z7, s7, q7⟩ := q H3 Z6 (Sub.refl _) r2
      exact hq b H3 Z7 s7 q7
    | _ => cases e6
  | _ => cases e6
def ch3 (fa fb fc fd : M AV) (g g' g'' : PyData → PyData → Option OV) : M Bool := fa >>= fun a => fb >>= fun b => asB (op2 g a b) >>= fun k => match k with
  | true => fc >>= fun c => asB (op2 g' b c) >>= fun k => match k with
    | true => fd >>= fun d => asB (op2 g'' c d) >>= fun k => M.ret k
    | false => M.ret false
  | false => M.ret false
theorem evt_ch3 {a b c d : Expr} {fa fb fc fd : M AV} {op op' op'' : CmpOp} {r r' r'' : R2} {g g' g'' : PyData → PyData → Option OV} (ho : OpR X (compareOp op) r) (hg : OpG X T r g) (ho' : OpR X (compareOp op') r') (hg' : OpG X T r' g') (ho'' : OpR X (compareOp op'') r'') (hg'' : OpG X T r'' g'') (ha : EVV X T a fa) (hb : EVV X T b fb) (hc : EVV X T c fc) (hd : EVV X T d fd)
    (hm : lastMarks [op, op', op''] [b, c, d] = false := by with_unfolding_all rfl) : EVT X T (.Compare a [op, op', op''] [b, c, d] pos) (ch3 fa fb fc fd g g' g'') := pt_mono (pt_ch3 ho ho' ho'' ha hb hc hd hm) fun σ H Q ⟨Z, h⟩ => by
  refine ⟨Z, rz_mono (rv_bind PBo.mono h) fun Z R a S p v H1 Z1 s1 r1 a1 => ?_⟩
  obtain ⟨u1, Z2, s2, o2, h2⟩ := p v H1 Z1 s1 r1 a1
  refine ⟨Z2, rz_mono (rv_bind PBo.mono h2) fun Z' R' b S' p' w H2 Z3 s3 r3 a3 => ?_⟩
  obtain ⟨u2, Z4, s4, o4, h4⟩ := p' w H2 Z3 s3 r3 a3
  refine opB_of hg PBo.mono h4 (AvOk.sub o2 s4) o4 fun k H3 Z5 s5 h5 => ⟨k, rfl, ?_⟩
  cases k with
  | false =>
    obtain ⟨R6, S6, rel6, p6⟩ := rz_ret h5
    exact p6 H3 Z5 (Sub.refl _) rel6
  | true =>
    refine ⟨Z5, rz_mono (rv_bind PBo.mono h5) fun Z' R' b S' p' w' H4 Z6 s6 r6 a6 => ?_⟩
    obtain ⟨u3, Z7, s7, o7, h7⟩ := p' w' H4 Z6 s6 r6 a6
    refine opB_of hg' PBo.mono h7 (AvOk.sub (AvOk.sub o4 s5) s7) o7 fun k H5 Z8 s8 h8 => ⟨k, rfl, ?_⟩
    cases k with
    | false =>
      obtain ⟨R6, S6, rel6, p6⟩ := rz_ret h8
      exact p6 H5 Z8 (Sub.refl _) rel6
    | true =>
      refine ⟨Z8, rz_mono (rv_bind PBo.mono h8) fun Z' R' b S' p' w'' H6 Z9 s9 r9 a9 => ?_⟩
      obtain ⟨u4, Z10, s10, o10, h10⟩ := p' w'' H6 Z9 s9 r9 a9
      refine opB_of hg'' PBo.mono h10 (AvOk.sub (AvOk.sub o7 s8) s10) o10 fun k H7 Z11 s11 h11 => ⟨k, rfl, ?_⟩
      obtain ⟨R6, S6, rel6, p6⟩ := rz_ret h11
      exact p6 H7 Z11 (Sub.refl _) rel6
end
end PL

/-! PL14: keywords, repr -/
namespace PL
open PySem PySem.Spec PyProof.Rows L2 LamX

section
variable {X : Cx} {T : List (Addr × Str)} {Z R H : Hp} {S : SS} {σ : L2.St} {pos : Pos}
/-! ### repr, where nothing is being shown already -/
def rReprD (K : PySem.W.Frag) : List V → Hp → VK → Prop := fun xs H Q => ∃ v d, xs = [v] ∧ Dp K H v d ∧ d.showable = true ∧ d.hasDict = false ∧ d.shown.length ≤ sizeLine ∧ d.depth ≤ 60 ∧ Q (.str d.shown) H
theorem call_reprD (hg : X.A.guards = some []) (hu : X.A.units + 64 < cLine) : CallR X (.builtin "repr") (rReprD X.K) := by
  intro pins s σ H xs us Q I r h
  obtain ⟨v, d, rfl, hd, h1, h2, h3, h4, q⟩ := h
  cases r with
  | cons r1 rs =>
    cases rs
    have ref : ∀ {a : Addr} {u : Value}, v = .ref a → RelV v u → wpAny (model X.prog X.w) X.A (call (.builtin "repr") [u]) (EP X pins σ Q) X.xe s := fun {a u} ev ru => by
      subst ev
      cases ru
      obtain ⟨as, rd⟩ := Dp.reads I d _ _ hd rfl
      refine repr_of_reads' rd h1 (PyData.noDict_hsm h2) hg (by omega) (fun b o e => e) (fun h' u tk hk => ?_) h3
      exact ⟨.str d.shown, H, I.kept hk, ⟨u, rfl⟩, q⟩
    cases hd with
    | non =>
      cases r1
      exact P.repr_of_none ⟨.str _, H, I.tok _, ⟨_, rfl⟩, q⟩
    | bl b =>
      cases r1
      exact P.repr_of_bool ⟨.str _, H, I.tok _, ⟨_, rfl⟩, q⟩
    | int i =>
      obtain ⟨t, rfl⟩ := r1
      exact P.repr_of_int (of_decide_eq_true h1) ⟨.str _, H, I.tok _, ⟨_, rfl⟩, q⟩
    | str x =>
      obtain ⟨t, rfl⟩ := r1
      exact P.repr_of_str ⟨.str _, H, I.tok _, ⟨_, rfl⟩, q⟩ h3
    | lst hs ha => exact ref rfl r1
    | tup hs ha => exact ref rfl r1
def oRepr : List PyData → Option OV
  | [d] => if flat d && d.showable && !d.hasDict && decide (d.shown.length ≤ sizeLine) && decide (d.depth ≤ 60) then some (.d (.str d.shown)) else none
  | _ => none
theorem cg_repr : CallG X T (rReprD X.K) oRepr := fun Z vs xs o σ H Q sz h e fin => by
  unfold oRepr at e
  split at e
  · split at e
    · rename_i d hc
      cases e
      simp only [Bool.and_eq_true, decide_eq_true_eq, Bool.not_eq_true'] at hc
      obtain ⟨⟨⟨⟨c1, c2⟩, c3⟩, c4⟩, c5⟩ := hc
      obtain ⟨v, rfl, hv⟩ := h.one
      exact ⟨v, d, rfl, hv.dp sz c1, c2, c3, c4, c5, fin.val (.str _)⟩
    · cases e
  · cases e

/-! ### f(k = e, j = e'), the parameters being [j, k] -/
theorem run_fnKD {CX : CXT} {k : Nat} {f : Addr} {fd : FuncData} {ps ks : List Str} {sp : Sp} {pins : List (Addr × Obj)} {s : Shared} {Q : VK} {us ws : List Value} {vs zs : List V} {g : List Value → List Value → List Value} {gV : List V → List V → List V} {E : L2.St → XK} (F : FnOk X.prog X.w X.K X.mg X.base CX k f fd ps sp) (hr : Room k X.A) (hb : KBinds X.K fd ps ks g gV) (hx : PassesAt CX X σ (E σ))
    (I : Inv X pins σ H s) (r : Vals vs us) (rz : Vals zs ws) (h : sp (gV vs zs) H Q (E σ)) : wpAny (model X.prog X.w) X.A (call (.ref f) us (ks.zip ws)) (EP X pins σ Q) X.xe s := by
  have r2 := hb.rel r rz
  have hl : (g us ws).length = ps.length := by rw [← r2.length]; exact F.len _ _ _ _ h
  refine wpAny_call (codeAny_mono (F.run X.A X.stack s H ⟨us, ks.zip ws⟩ (g us ws) (gV vs zs) Q (E σ) hr I.env0 (hb.to s us ws I.kIn hl) r2 h) fun r s' hq => ?_)
  cases r with
  | error e => exact hx pins H s e s' I hq
  | ok fl =>
    cases fl with
    | ret u => exact I.after hq
    | next => exact False.elim hq
    | brk => exact False.elim hq
    | cont => exact False.elim hq
abbrev EVK (X : Cx) (T : List (Addr × Str)) (kws : List Keyword) (f : M (List AV)) : Prop := PK X kws (rag X T f)
theorem pk_mono {kws : List Keyword} {t t' : TA} (h : PK X kws t) (i : ∀ σ H Q, t' σ H Q → t σ H Q) : PK X kws t' := ⟨fun pos pins s σ H Q I q => h.run pos pins s σ H Q I (i σ H Q q)⟩
theorem evk_nil : EVK X T [] argsNil := pk_mono pk_nil fun σ H Q ⟨Z, h⟩ => by
  obtain ⟨R, S, rel, p⟩ := rz_ret h
  exact p [] H Z (Sub.refl Z) rel .nil
theorem evk_cons {nm : Option Str} {e : Expr} {kp : Pos} {kws : List Keyword} {fa : M AV} {g : M (List AV)} (ha : EVV X T e fa) (hr : EVK X T kws g) : EVK X T (⟨nm, e, kp⟩ :: kws) (argsCons fa g) :=
  pk_mono (pk_cons ha hr) fun σ H Q ⟨Z, h⟩ => by
    refine ⟨Z, rz_mono (rv_bind PAr.mono h) fun Z R a S p v H1 Z1 s1 r1 a1 => ?_⟩
    obtain ⟨u, Z2, s2, o2, h2⟩ := p v H1 Z1 s1 r1 a1
    refine ⟨Z2, rz_mono (ra_bind PAr.mono h2) fun Z' R' as S' p' vs H2 Z3 s3 r3 a3 => ?_⟩
    obtain ⟨us, Z4, s4, o4, h4⟩ := p' vs H2 Z3 s3 r3 a3
    obtain ⟨R5, S5, rel, pf⟩ := rz_ret h4
    exact pf _ H2 Z4 (Sub.refl _) rel (.cons (o2.sub s4) o4)
def sw2 {α : Type} : List α → List α
  | [a, b] => [b, a]
  | l => l
def callK2 (g : DF) (fa : M (List AV)) : M OV := fa >>= fun as => if as.length = 2 then handF g (sw2 as) else stuck
theorem call_okK {k : Nat} {f : Addr} {fd : FuncData} {ps ks : List Str} {g : DF} {pins : List (Addr × Obj)} {s1 : Shared} {us : List Value} {vs : List V} {as : List AV} {S' : SS} {r : Except PyData OV} {W : WX} {Q : VK} {gv : List Value → List Value → List Value} {gV : List V → List V → List V}
    (F : DefOk X.prog X.w X.K T X.mg X.base k f fd ps g) (hr : Room k X.A) (hb : KBinds X.K fd ps ks gv gV) (I : Inv X pins σ H s1) (rv : Vals vs us) (hn : as.length = ps.length) (rel : Rel X.K T Z R S σ H) (av : AvAll X.K Z σ (gV [] vs) as)
    (q1 : ∀ o, r = .ok o → POk X.K T σ Q Z R o S') (q2 : ∀ x, r = .error x → ExPost X.K T σ Z R W x S') (e : handF g as S = some (r, S')) (tk : Takes X W) : wpAny (model X.prog X.w) X.A (call (.ref f) [] (ks.zip us)) (EP X pins σ Q) X.xe s1 := by
  unfold handF at e
  cases et : takes as S with
  | none => rw [et] at e; cases e
  | some t =>
    obtain ⟨os, S1⟩ := t
    rw [et] at e
    cases eg : g os with
    | none => simp only [eg] at e; cases e
    | some t2 =>
      obtain ⟨r2, os'⟩ := t2
      simp only [eg, Option.some.injEq, Prod.mk.injEq] at e
      obtain ⟨rfl, rfl⟩ := e
      obtain ⟨L, ow, n, qz⟩ := id rel.own
      obtain ⟨A, B, o1, o2, pm⟩ := takes_own av ow et
      obtain ⟨tl, tl2⟩ := takes_len et
      have n2 := (pm.nodup_iff).mp n
      have qAB : ∀ a ∈ A ++ B, Z a = none ∧ R a = none := fun a ha => qz a (pm.mem_iff.mpr ha)
      have rel1 : Rel X.K T Z (fr R H B) (os.map some) ((gV [] vs).map some) H := rel.frame o1 o2 n2 qAB
      have nB : B.Nodup := (List.nodup_append.mp n2).2.1
      have rB : ∀ a ∈ B, R a = none := fun a ha => (qAB a (List.mem_append_right _ ha)).2
      have hvl : (gV [] vs).length = as.length := av.length
      refine run_fnKD (E := fun _ cls d H' => W cls d σ H') F hr hb (fun pins' H2 s2 e2 s' I2 c2 => tk _ _ (XE.of_call I2 (fun _ _ _ h => h) c2)) I .nil rv ?_
      refine ⟨hvl.trans hn, Z, fr R H B, os, r2, os', rel1, eg, ?_⟩
      cases r2 with
      | ok o =>
        intro v H' Z' s' rel2
        obtain ⟨A', p1, p2, p3, p4, p5⟩ := rel2.unframe s' o2 nB rB
        cases p1 with
        | @own _ _ _ _ Lo Lp w1 w2 =>
          obtain ⟨C, D, g1, g2⟩ := gives_own (S := S) av tl w2 p2
          have pmC : (Lo ++ Lp ++ B).Perm (D ++ (Lo ++ C)) := by
            rw [List.append_assoc]
            exact (List.Perm.append_left Lo g2).trans (perm_swap _ _ _)
          obtain ⟨n3, n4⟩ := nodup_sub ⟨D, pmC⟩ p3
          exact q1 _ rfl v H' Z' s' (p5 (.own w1 g1) n3 n4)
      | error x =>
        intro cls d H' Z' s' rel2 ix
        obtain ⟨A', p1, p2, p3, p4, p5⟩ := rel2.unframe s' o2 nB rB
        obtain ⟨C, D, g1, g2⟩ := gives_own (S := S) av tl p1 p2
        obtain ⟨n3, n4⟩ := nodup_sub ⟨D, g2⟩ p3
        exact q2 _ rfl cls d H' Z' s' (p5 g1 n3 n4) ix
def sw0 {α : Type} : List α → List α → List α
  | [], ws => sw2 ws
  | _ :: _, _ => []
theorem kb_swap {K : PySem.W.Frag} {fd : FuncData} {j k : Str} (h : ∀ (s : Shared) (a b : Value), K.In s.heap → BindsTo s fd ⟨[], [(k, b), (j, a)]⟩ [(j, a), (k, b)]) : KBinds K fd [j, k] [k, j] sw0 sw0 := by
  refine ⟨fun s us ws hK hl => ?_, fun ru rz => ?_⟩
  · cases us with
    | cons u us => cases hl
    | nil =>
      match ws, hl with
      | [b, a], _ => exact h s a b hK
  · cases ru with
    | cons _ _ => exact .nil
    | nil =>
      cases rz with
      | nil => exact .nil
      | cons a b =>
        cases b with
        | nil => exact .cons a .nil
        | cons b c =>
          cases c with
          | nil => exact .cons b (.cons a .nil)
          | cons c d => exact .cons a (.cons b (.cons c d))
theorem AvAll.sw {K : PySem.W.Frag} {vs : List V} {as : List AV} (h : AvAll K Z σ vs as) : AvAll K Z σ (sw2 vs) (sw2 as) := by
  cases h with
  | nil => exact .nil
  | cons a b =>
    cases b with
    | nil => exact .cons a .nil
    | cons b c =>
      cases c with
      | nil => exact .cons b (.cons a .nil)
      | cons c d => exact .cons a (.cons b (.cons c d))
theorem ev_callK2 {k : Nat} {f : Addr} {fd : FuncData} {a b : Str} {g : DF} {x : Str} {p : Pos} {fa : M (List AV)} {kws : List Keyword} (F : DefOk X.prog X.w X.K T X.mg X.base k f fd [a, b] g) (hr : Room k X.A) (hg : Gl X x) (hm : X.mg x = some (.ref f)) (hk : PySem.W.keepIn X.K (.ref f) = true) (hb : KBinds X.K fd [a, b] [b, a] sw0 sw0)
    (hkw : EVK X T kws fa) (hall : (backToKw pos (keywordEach kws X.env)).all (·.1.isSome) = true := by rfl) (hks : (backToKw pos (keywordEach kws X.env)).filterMap (·.1) = [b, a] := by rfl)
    (hdb : (x == ("__debug__" : Str)) = false := by decide)
    (hpl : ((backTo pos (starEach [] X.env)).any (·.1) || (backToKw pos (keywordEach kws X.env)).any (·.1.isNone)) = false := by rfl) : EV X T (.Call (.Name x p) [] kws pos) (callK2 g fa) := by
  refine ⟨fun pins s σ H Q I ⟨Z, h⟩ => ?_⟩
  refine wpAny_Call_Name_kw (ld_glob I hg hm ?_ hdb)
  obtain ⟨R, S, r, S', W, rel, er, tk, pq⟩ := h
  rcases bind_eq er with ⟨y, ef, rfl⟩ | ⟨as, S1, ef, eg⟩
  · refine PySem.W.callWith_KW0 (h₀ := X.base) I.ok.mod.kin hk hall (thn (hkw.run pos pins s σ H (fun _ _ => False) I ⟨Z, R, S, _, _, W, rel, ef, tk, pq⟩) fun us s1 ⟨vs, H1, I1, r, q⟩ => q.elim) hpl
  · refine PySem.W.callWith_KW0 (h₀ := X.base) I.ok.mod.kin hk hall (thn (hkw.run pos pins s σ H (fun vs H1 => ∃ Z1, Sub Z Z1 ∧ Rel X.K T Z1 R S1 σ H1 ∧ AvAll X.K Z1 σ vs as) I ⟨Z, R, S, _, _, W, rel, ef, tk, fun vs H1 Z1 s1 r1 a1 => ⟨Z1, s1, r1, a1⟩⟩) fun us s1 ⟨vs, H1, I1, rv, Z1, sb, rel1, av⟩ => ⟨I1.kIn, ?_⟩) hpl
    have eg : (if as.length = 2 then handF g (sw2 as) else stuck) S1 = some (r, S') := eg
    rw [hks]
    split at eg
    · rename_i hn
      refine call_okK (as := sw2 as) F hr hb I1 rv ?_ rel1 av.sw ?_ ?_ eg tk
      · match as, hn with
        | [_, _], _ => rfl
      · intro o e
        subst e
        exact POk.mono _ _ _ _ _ sb pq
      · intro x e
        subst e
        exact ExPost.mono sb pq
    · cases eg
end
end PL

/-! PL15: what the printed derivations name -/
namespace PL
open PySem PySem.Spec PyProof.Rows L2 LamX

section
variable {X : Cx} {T : List (Addr × Str)} {Z R H : Hp} {S : SS} {σ : L2.St} {pos : Pos} {a : Expr} {fa : M AV}
def oNeg : PyData → Option OV
  | .int i => okI (-i)
  | _ => none
def negV (fa : M AV) : M OV := fa >>= fun a => op1 oNeg a
theorem ev_neg (ha : EVV X T a fa) : EV X T (.UnaryOp .USub a pos) (negV fa) := pe_mono (pe_un un_neg ha) fun σ H Q ⟨Z, h⟩ => by
  refine ⟨Z, rz_mono (rv_bind POk.mono h) fun Z R a S p v H1 Z1 s1 r1 a1 => ?_⟩
  obtain ⟨u, Z2, s2, o2, h2⟩ := p v H1 Z1 s1 r1 a1
  obtain ⟨x, o, R3, S3, sz, w, e, rel, pf⟩ := rz_op1 h2 o2
  cases x with
  | int i =>
    cases e
    exact ⟨i, w.int, pf _ H1 Z2 (Sub.refl _) (rel.push (.int _))⟩
  | _ => cases e
def oIsNotB : PyData → PyData → Option OV
  | .bool a, .bool b => okB (!decide (a = b))
  | _, _ => none
theorem opg_isNotB : OpG X T rNotB oIsNotB := by
  intro Z v w x y o σ H Q sz fx fy e fin
  unfold oIsNotB at e
  split at e
  · cases e
    exact ⟨_, _, fx.bl, fy.bl, fin.val (.bl _)⟩
  · cases e
theorem u64 {k : Nat} (hr : Room k X.A) : X.A.units + 64 < cLine := by have := hr.un; omega
theorem u65 {k : Nat} (hr : Room k X.A) : X.A.units + 65 < cLine := by have := hr.un; omega
theorem u1 {k : Nat} (hr : Room k X.A) : X.A.units + 1 < cLine := by have := hr.un; omega
end
end PL

/-! PL16: the script; a law's body where nothing is being shown -/
namespace PL
open PySem PySem.Spec PyProof.Rows L2 LamX

section
variable {X : Cx} {T : List (Addr × Str)} {Z R H : Hp} {S : SS} {σ : L2.St} {pos : Pos} {a iter tg : Expr} {fa : M AV}
def scrOf : PyData → Option (List PyData)
  | .dict [(.bool true, .list ds)] => some ds
  | _ => none
theorem scrOf_eq {x : PyData} {ds : List PyData} (e : scrOf x = some ds) : x = .dict [(.bool true, .list ds)] := by
  unfold scrOf at e
  split at e
  · cases e; rfl
  · cases e
theorem Fr.ofScr {K : PySem.W.Frag} {v : V} {x : PyData} {ds : List PyData} (h : Fr K Z v x) (e : scrOf x = some ds) : ∃ (a : Addr) (ns : List Int), v = .ref a ∧ ds = ns.map PyData.int ∧ SqL K Z a (ns.map V.int) := by
  have e := scrOf_eq e
  cases h with
  | @scr a ns h =>
    refine ⟨a, ns, rfl, ?_, h⟩
    unfold scrD at e
    injection e with e
    injection e with e _
    injection e with _ e
    injection e with e
    exact e.symm
  | exc0 h => simp [excD] at e
  | exc n h h2 r => simp [excD] at e
  | _ => cases e
def oLenS : List PyData → Option OV
  | [x] => (scrOf x).bind fun ds => okI ds.length
  | _ => none
theorem cg_lenS : CallG X T (rLenA X.K) oLenS := fun Z vs xs o σ H Q sz h e fin => by
  unfold oLenS at e
  split at e
  · rename_i x
    cases q : scrOf x with
    | none => rw [q] at e; cases e
    | some ds =>
      rw [q] at e
      cases e
      obtain ⟨v, rfl, w⟩ := h.one
      have f := w.fr (fun ds' z => by subst z; cases q)
      obtain ⟨a, ns, rfl, rfl, hs⟩ := f.ofScr q
      refine .inl ⟨a, ns.map V.int, rfl, .inl (sqL_sub hs sz), ?_⟩
      have := fin.val (.int _)
      rw [List.length_map] at this ⊢
      exact this
  · cases e
def scrO : OV → Option (List PyData)
  | .d x => scrOf x
  | _ => none
def itScr (f : M OV) : M (List PyData) := f >>= fun o => M.lift (scrO o)
theorem evi_scr {f : M OV} (h : EV X T iter f) : EVI X T tg iter (itScr f) := pi_mono (pi_seqA h) fun σ H R0 ⟨Z, h⟩ => by
  refine ⟨Z, rz_mono (rd_bind PIt.mono h) fun Z R o S p v H1 Z1 s1 r1 => ?_⟩
  obtain ⟨o', Z2, R2, S2, r, S', W, s2, rel, e, tk, q⟩ := p v H1 Z1 s1 r1
  cases hq : scrO o' with
  | none => rw [hq] at e; cases e
  | some ds =>
    rw [hq] at e
    cases e
    cases o' with
    | d x =>
      obtain ⟨f1, r2⟩ := rel.popd
      have hq : scrOf x = some ds := hq
      obtain ⟨a, ns, rfl, rfl, hs⟩ := f1.ofScr hq
      refine ⟨a, rfl, .inl ⟨⟨_, sqL_sub hs r2.z⟩, q _ H1 Z2 (Sub.refl _) r2 fun Z3 R3 S3 σ3 H3 s3 rel3 i => ?_⟩⟩
      have hs3 := sqL_sub (sqL_sub hs s3) rel3.z
      refine ⟨fun hi => ⟨_, hs3, by rw [List.length_map, hi, List.length_map]; exact Nat.le_refl _⟩, fun d hd => ?_⟩
      obtain ⟨n, hn, rfl⟩ : ∃ n, ns[i]? = some n ∧ d = .int n := by
        rw [List.getElem?_map] at hd
        cases e : ns[i]? with
        | none => rw [e] at hd; cases hd
        | some n => rw [e] at hd; cases hd; exact ⟨n, rfl, rfl⟩
      have hu : (ns.map V.int)[i]? = some (V.int n) := by rw [List.getElem?_map, hn]; rfl
      refine ⟨⟨_, _, hs3, hu⟩, fun x H' ⟨e1, e2⟩ => ?_⟩
      subst e1
      have := e2 _ hs3
      rw [hu] at this
      cases this
      exact ⟨Z3, Sub.refl _, rel3, .int n⟩
    | _ => cases hq
end

/-! ### a body run at a known place -/
theorem run_at {CX : CXT} {P : Program} {w : World} {K : PySem.W.Frag} {mg : Str → Option Value} {base : Heap} {f : Addr} {name qual : Str} {params : Arguments} {body : List Stmt} {scope : Scope} {dV kV doc pm cdv ct oc : Value} {an od : Option Addr}
    {osl : Array (Option Value)} {N ps : List Str} {A : Around} {outer : List Env} {s : Shared} {H : Hp} {args : Args} {us : List Value} {vs : List V} {Q : VK} {E : XK} {t : TS}
    (lk : K.lookup f = some ⟨oc, od, .func (PySem.W.fnOf name qual params body scope dV kV doc pm an cdv ct), osl⟩) (hcd : PySem.W.codeIn K cdv qual = true) (S : FnScope N ps scope) (hl : vs.length = ps.length)
    (hdep : A.depth < recursionLimit) (hhd : A.handled = none) (e0 : Env0 P w K mg base A outer s H) (hb : BindsTo s (PySem.W.fnOf name qual params body scope dV kV doc pm an cdv ct) args (ps.zip us)) (r : Vals vs us)
    (ht : PSs (cxOf CX P w K mg base N qual scope f cdv A outer s H E) body t) (hq : t { nx := fun _ H' => Q .non H', rt := Q } (L2.start N vs) H) :
    codeAny (model P w) A (.call (.ref f) args) (CR CX outer P w H s Q E) s := by
  have stay : ∀ b o, base.get? b = some o → s.heap.get? b = some o := fun b o e => (e0.bs b o e).1
  have KX : K.In s.heap := e0.mod.kin.keeps stay
  refine codeAny_call_function hdep (KX _ _ lk) rfl S.co S.gen rfl (PySem.W.codeRec_of KX hcd) (hb _ _ _ _ ?_)
  refine wpAny_newFunctionEnv_cells S.kind (fun ⟨n, v⟩ hy => (S.par n (List.of_mem_zip hy).1).imp id fun q => ⟨q, PySem.W.cellsFrom_some _ _ _ (.inl q)⟩) fun env he s1 x => ?_
  subst he
  refine ⟨(e0.mod.nolimit.keeps stay).keeps x.toInCall.keep, codeAny_func ?_⟩
  refine wpAny_mono (ht.run [] s1 _ H _ (inv_start S hhd e0 hl r x) hq) (fun fl s' hs => ?_) fun e s' hs => hs
  match fl, hs with
  | .ret u, ⟨v, _, H', J, rv, q⟩ => exact ⟨v, H', J.os, J.bare, J.base, J.hok, rv, q⟩
  | .next, ⟨_, H', J, q⟩ => exact ⟨V.non, H', J.os, J.bare, J.base, J.hok, rfl, q⟩
  | .brk, ⟨_, _, _, q⟩ => exact False.elim q
  | .cont, ⟨_, _, _, q⟩ => exact False.elim q

/-! ### the law's call: what is tracked are the tables and the script -/
/-- the tables, and the script where the written part does not hold it -/
def lawH (K : PySem.W.Frag) (ts : List Addr) (a : Addr) (vs : List Value) (ns : List Int) : Hp := fun b =>
  if b ∈ ts then some (.tbl #[]) else if b = a ∧ K.lookup a = none then some (.frz { cls := .type "list", data := .seq vs.toArray } (.lst (ns.map V.int))) else none
theorem lawH_cases {K : PySem.W.Frag} {ts : List Addr} {a b : Addr} {vs : List Value} {ns : List Int} {u : HO} (e : lawH K ts a vs ns b = some u) :
    (b ∈ ts ∧ u = .tbl #[]) ∨ (b ∉ ts ∧ b = a ∧ K.lookup a = none ∧ u = .frz { cls := .type "list", data := .seq vs.toArray } (.lst (ns.map V.int))) := by
  unfold lawH at e
  by_cases h1 : b ∈ ts
  · rw [if_pos h1] at e; cases e; exact .inl ⟨h1, rfl⟩
  · rw [if_neg h1] at e
    by_cases h2 : b = a ∧ K.lookup a = none
    · rw [if_pos h2] at e; cases e; exact .inr ⟨h1, h2.1, h2.2, rfl⟩
    · rw [if_neg h2] at e; cases e
theorem law_callG {P : Program} {w : World} {K : PySem.W.Frag} {mg mb : Str → Option Value} {CX : CXT} {fa a : Addr} {cs : List (Addr × Addr)} {s₁ : Shared} {vs : List Value} {ns : List Int}
    (KX : K.In s₁.heap) (hns : s₁.heap.Ns mainGlobals mg) (hb : s₁.heap.Ns builtinsNs mb) (hbb : ∀ x : Str, x ≠ "__name__" → mb x = bootBuiltins x) (hlim : s₁.heap.NoLimit) (hg : s₁.gens = #[])
    (hT : ∀ p ∈ cs, s₁.heap.get? p.2 = some { cls := .none, data := .fields #[] }) (nT : ∀ p ∈ cs, K.lookup p.2 = none) (C : ∀ p ∈ cs, PySem.W.CodeHd s₁.heap p.1 p.2)
    (hbm : ∃ (bm : Addr) (ob : Obj), mg "__builtins__" = some (.ref bm) ∧ bm ≠ builtinsNs ∧ s₁.heap.get? bm = some ob ∧ ob.cls = .type "module" ∧ ob.dict = some builtinsNs ∧ ob.data = .plain)
    (ha : s₁.heap.get? a = some { cls := .type "list", data := .seq vs.toArray }) (hi : IntsAre vs ns) (hl : ns.length ≤ sizeLine)
    (F : ∀ (base : Heap) (H : Hp), (∀ p ∈ cs, TabB base mg p.1 p.2) → Env0 P w K mg base callerA [] s₁ H → (∀ p ∈ cs, H p.2 = some (.tbl #[])) → SqL K H a (ns.map V.int) →
      codeAny (model P w) callerA (.call (.ref fa) ⟨[.ref a], []⟩) (CR CX [] P w H s₁ (fun v _ => v = .bl true) fun _ _ _ => False) s₁)
    (hCX : ∀ H e s', CX [] H s₁ (fun _ _ _ => False) e s' → False) :
    codeAny (model P w) callerA (.call (.ref fa) ⟨[.ref a], []⟩) (fun r s' => r = .ok (.ret (.bool true)) ∧ OldK s₁.heap s'.heap ∧ s'.os = s₁.os ∧ AllBare s'.gens) s₁ := by
  have rv := vals_ints hi
  have lenV := hi.length
  have tab : ∀ b ∈ cs.map (·.2), s₁.heap.get? b = some { cls := .none, data := .fields #[] } ∧ K.lookup b = none := fun b hb => by
    obtain ⟨p, hp, rfl⟩ := List.mem_map.mp hb
    exact ⟨hT p hp, nT p hp⟩
  have nat : a ∉ cs.map (·.2) := fun z => by
    have q := (tab a z).1
    rw [ha] at q
    injection q with q
    injection q with _ _ q
    cases q
  generalize eH : lawH K (cs.map (·.2)) a vs ns = H
  have hH : ∀ p ∈ cs, H p.2 = some (.tbl #[]) := fun p hp => by
    rw [← eH]
    exact if_pos (List.mem_map_of_mem hp)
  -- an object of another kind is not tracked
  have free : ∀ {b : Addr} {o : Obj}, s₁.heap.get? b = some o → (∀ us n, o.data ≠ .seq us n) → o.data ≠ .fields #[] → H b = none := fun {b o} e h1 h2 => by
    cases q : H b with
    | none => rfl
    | some u =>
      rw [← eH] at q
      rcases lawH_cases q with ⟨hb, _⟩ | ⟨_, rfl, _, _⟩
      · rw [(tab b hb).1] at e; cases e; exact (h2 rfl).elim
      · rw [ha] at e; cases e; exact (h1 _ _ rfl).elim
  have inB : ∀ {b : Addr} {o : Obj}, s₁.heap.get? b = some o → H b = none → (hidT s₁.heap H).get? b = some o := fun e n => hidT_get e n
  have dictB : ∀ {b : Addr} {m : Str → Option Value}, s₁.heap.Ns b m → (hidT s₁.heap H).Ns b m := fun {b m} ⟨o, es, ep, e, d, r⟩ =>
    ⟨o, es, ep, inB e (free e (fun us n z => by rw [d] at z; cases z) fun z => by rw [d] at z; cases z), d, r⟩
  have kB : K.In (hidT s₁.heap H) := fun b o e => inB (KX b o e) (by
    cases q : H b with
    | none => rfl
    | some u =>
      rw [← eH] at q
      rcases lawH_cases q with ⟨hb, _⟩ | ⟨_, rfl, hk, _⟩
      · rw [(tab b hb).2] at e; cases e
      · rw [hk] at e; cases e)
  have md : L2.Mod K mg (hidT s₁.heap H) := ⟨kB, dictB hns, ⟨mb, dictB hb, hbb⟩, let ⟨mc, h1, h2⟩ := hlim; ⟨mc, dictB h1, h2⟩⟩
  have ok : HOk P w H s₁.heap := fun b u e => by
    rw [← eH] at e
    rcases lawH_cases e with ⟨hb, rfl⟩ | ⟨_, rfl, _, rfl⟩
    · exact (tab b hb).1
    · exact ⟨ha, by rw [List.length_map]; exact hl, vs, _, rv, ha⟩
  have e0 : Env0 P w K mg (hidT s₁.heap H) callerA [] s₁ H := ⟨rfl, md, fun b o e => of_hidT e, Nat.le_of_eq (hidT_size _ _), trivial, fun b hb => absurd (show b ∈ ([] : List Addr) from hb) (by simp), ok, .of_eq hg⟩
  have sq : SqL K H a (ns.map V.int) := by
    cases hk : K.lookup a with
    | some o =>
      have e := KX a o hk
      rw [ha] at e
      cases e
      exact .inr ⟨_, vs.toArray, _, hk, rfl, rfl, rfl, by rw [List.size_toArray, lenV]; exact hl, by simpa using rv⟩
    | none =>
      refine .inl (.inr ⟨{ cls := .type "list", data := .seq vs.toArray }, ?_⟩)
      rw [← eH]
      exact (if_neg nat).trans (if_pos ⟨rfl, hk⟩)
  have tb : ∀ p ∈ cs, TabB (hidT s₁.heap H) mg p.1 p.2 := fun p hp => by
    have hTp := hT p hp
    refine ⟨?_, ?_, fun z => ?_⟩
    · obtain ⟨o, us, file, tf, flags, tg, inF, text, tt, e1, r1, r2, r3, r4, r5, r6, r7, r8, hne⟩ := C p hp
      refine ⟨o, us, file, tf, flags, tg, inF, text, tt, inB e1 (free e1 (fun us n z => by rw [r2] at z; cases z) fun z => ?_), r1, r2, r3, r4, r5, r6, r7, r8, hne⟩
      rw [r2] at z
      cases z
      simp at r3
    · obtain ⟨bm, ob, b1, b2, b3, b4, b5, b6⟩ := hbm
      refine ⟨bm, ob, b1, b2, fun q => ?_, fun q => ?_, inB b3 (free b3 (fun us n z => by rw [b6] at z; cases z) fun z => by rw [b6] at z; cases z), b4, b5, b6⟩
      · obtain ⟨o, es, ep, e, hd, _⟩ := hns
        rw [q, e] at b3
        cases b3
        rw [hd] at b6
        cases b6
      · rw [q, hTp] at b3
        cases b3
        cases b6
    · obtain ⟨o, es, ep, e, hd, _⟩ := hns
      rw [z, hTp] at e
      cases e
      cases hd
  refine codeAny_mono (F _ H tb e0 hH sq) fun r s' h => ?_
  match r, h with
  | .error e, h => exact (hCX H e s' h).elim
  | .ok .next, h => exact False.elim h
  | .ok .brk, h => exact False.elim h
  | .ok .cont, h => exact False.elim h
  | .ok (.ret u), ⟨v, H', os, bare, un, ok', r', q⟩ =>
    have q : v = .bl true := q
    subst q
    obtain rfl : u = Value.bool true := r'
    have old : ∀ b o, b ∉ cs.map (·.2) → s₁.heap.get? b = some o → s'.heap.get? b = some o := fun b o nb e => by
      cases q : H b with
      | none => exact un.keep b o e q (fun z => absurd (show b ∈ ([] : List Addr) from z) (by simp)) (by simp)
      | some u =>
        have q0 := q
        rw [← eH] at q
        rcases lawH_cases q with ⟨hb, _⟩ | ⟨_, rfl, _, rfl⟩
        · exact absurd hb nb
        · have := (ok' b _ (un.frzs b _ _ q0)).1
          rw [ha] at e; cases e
          exact this
    have grown : ∀ b ∈ cs.map (·.2), ∃ more : Array Value, s'.heap.get? b = some { cls := .none, data := .fields more } := fun b hb => by
      obtain ⟨p, hp, rfl⟩ := List.mem_map.mp hb
      obtain ⟨more, z⟩ := un.tbls p.2 #[] (hH p hp)
      exact ⟨_, ok' p.2 _ z⟩
    refine ⟨rfl, ⟨fun b o e => ?_, fun b o e => ?_⟩, os, bare⟩
    · by_cases hb : b ∈ cs.map (·.2)
      · obtain ⟨more, hm⟩ := grown b hb
        obtain ⟨p, hp, rfl⟩ := List.mem_map.mp hb
        rw [hT p hp] at e
        cases e
        exact .inr (.inl ⟨((C p hp).tab (hT p hp)).isCodeTable, rfl, #[], more, rfl, by rw [Array.empty_append]; exact hm⟩)
      · exact .inl (old b o hb e)
    · by_cases hb : b ∈ cs.map (·.2)
      · obtain ⟨more, hm⟩ := grown b hb
        exact ⟨_, hm⟩
      · exact ⟨o, old b o hb e⟩
end PL

/-! PL17: the law's start and end -/
namespace PL
open PySem PySem.Spec PyProof.Rows L2 LamX

theorem rsg_start {X : Cx} {T : List (Addr × Str)} {H : Hp} {a : Addr} {ns : List Int} {N : List Str} {f : SM} {S' : SS} {m : Nat} (hT : ∀ p ∈ T, H p.1 = some (.tbl #[])) (hs : SqL X.K H a (ns.map V.int)) (hm : N.length = m + 1)
    (e : f (some (.d (scrD ns)) :: List.replicate m none) = some (.ret (.d (.bool true)), S')) :
    rsg X T [0] f { nx := fun _ _ => V.non = V.bl true, rt := fun v _ => v = .bl true } (L2.start N [.ref a]) H := by
  let Z : Hp := fun b => match H b with
    | some (.tbl _) => none
    | o => o
  have zH : ∀ {b : Addr} {o : HO}, H b = some o → (∀ ps, o ≠ .tbl ps) → Z b = some o := fun {b o} e n => by
    show (match H b with | some (.tbl _) => none | o => o) = _
    rw [e]
    cases o with
    | tbl ps => exact absurd rfl (n ps)
    | _ => rfl
  have zs : ∀ b o, Z b = some o → H b = some o ∧ ∀ ps, o ≠ .tbl ps := fun b o e => by
    have e : (match H b with | some (.tbl _) => none | o => o) = some o := e
    split at e
    · cases e
    · rename_i h
      exact ⟨e, fun ps z => by subst z; exact h ps e⟩
  have hsz : SqL X.K Z a (ns.map V.int) := by
    rcases hs with (h | ⟨o, h⟩) | h
    · exact .inl (.inl (zH h fun _ z => by cases z))
    · exact .inl (.inr ⟨o, zH h fun _ z => by cases z⟩)
    · exact .inr h
  have own : ∀ n : Nat, OwnS X.K Z H (List.replicate n none) (List.replicate n none) [] := fun n => by
    induction n with
    | zero => exact .emp
    | succ n ih => exact .out ih
  have est : L2.start N [.ref a] = some (.ref a) :: List.replicate m none := by
    unfold L2.start
    rw [hm]
    rfl
  rw [est]
  have o1 : OwnS X.K Z H (some (.ref a) :: List.replicate m none) (some (.d (scrD ns)) :: List.replicate m none) ([] ++ []) := .own (.d (.scr hsz)) (own m)
  refine ⟨Z, fun _ => none, _, _, S', fun _ _ _ _ => False, fun _ => .ref a, ⟨⟨_, o1, List.nodup_nil, fun b hb => (by cases hb)⟩, fun b o e => (zs b o e).1, fun b o e => (by cases e), fun b ps e => (zs b _ e).2 ps rfl, fun b ps e => (by cases e), fun b o e => rfl, fun p hp => ?_⟩, fun i hi => ?_, e, L2.takes0, ?_⟩
  · exact ⟨#[], hT p hp, trivial, fun pos cv hc => by cases hc⟩
  · rw [List.mem_singleton.mp hi]; rfl
  · intro v σ' H' Z' s' rel' pn'
    exact (rel'.popd.1).blV

def LawG (l : PySem.W.OpenLaw) (w : World) (K : PySem.W.Frag) (n : Nat) (mg : Str → Option Value) (fa : Addr) (h : Heap) : Prop :=
  ∃ cs : List (Addr × Addr), (∀ p ∈ cs, h.get? p.2 = some { cls := .none, data := .fields #[] }) ∧ (∀ p ∈ cs, K.lookup p.2 = none) ∧ (∀ p ∈ cs, PySem.W.CodeHd h p.1 p.2) ∧
    ∀ (base : Heap) (H : Hp) (s : Shared) (a : Addr) (ns : List Int), ns.length ≤ n → (∀ z ∈ ns, Builtin.Int.intBits z ≤ 1048576) → (∀ p ∈ cs, TabB base mg p.1 p.2) → Env0 l.prog w K mg base callerA [] s H → (∀ p ∈ cs, H p.2 = some (.tbl #[])) → SqL K H a (ns.map V.int) →
      codeAny (model l.prog w) callerA (.call (.ref fa) ⟨[.ref a], []⟩) (CR (L2.CX l.prog w) [] l.prog w H s (fun v _ => v = .bl true) fun _ _ _ => False) s
theorem walkG {l : PySem.W.OpenLaw} {n : Nat} {q : Program} {loose : List Str} {XP : (Str → Option Value) → Heap → Prop} {YP : World → Heap → Prop} {d dL : DefRec} {K : Params → PySem.W.Frag} {x : Str}
    (hn : l.most = some n) (hn2 : n ≤ sizeLine) (hdf : d.params.defaults = []) (hr : (recsOf q).find? (fun e => e.name == x) = some dL) (hY : ∀ (w : World) (h : Heap), YP w h → (K w.params).In h)
    (F : ∀ (w : World) (mg : Str → Option Value) (fa : Addr) (h : Heap), YP w h → (K w.params).In h → h.Ns mainGlobals mg → mg d.name = some (.ref fa) → (∀ c P, PySem.W.tabIn (K w.params) x = some (c, P) → PySem.W.CodeHd h c P ∧ h.get? P = some (PySem.W.tabObj #[])) → LawG l w (K w.params) n mg fa h) :
    PySem.W.WalkO q loose XP YP l.row.toRowW d [] (fun f vs => PySem.call f vs) := by
  refine Att.attach_callB hn hdf fun w s₀ s₁ mg mb fa o pm cd doc a vs ns G Y ho hd hcd hmg hobj hints hlen hbits hg => ?_
  obtain ⟨cs, hT, nT, C, hF⟩ := F w mg fa _ Y (hY w _ Y) G.T.g hmg fun c P e => PySem.W.tab_of G.T (hY w _ Y) hr e
  exact law_callG (hY w _ Y) G.T.g G.T.b G.T.builtins G.T.nolimit hg hT nT C G.T.bmain hobj hints (Nat.le_trans hlen hn2) (fun base H tb e0 hH sq => hF base H _ a ns hlen hbits tb e0 hH sq) fun H e s' ⟨_, _, _, _, _, _, _, _, _, _, _, _, z⟩ => z

theorem kitCls_of {K : PySem.W.Frag} {C S : Addr} {b : Bool} (h2 : PySem.W.isClsIn K S = true) (h3 : PySem.W.typeIn K (.ref S) = some (.type "type")) (h4 : PySem.W.subIn K (.ref C) (.ref S) = some b) : PySem.W.kitCls K (.ref C) (.ref S) = some b := by
  have e2 : ((PySem.W.clsIn K S).isSome && PySem.W.typeIn K (.ref S) == some (.type "type")) = true := by
    have h2' : (PySem.W.clsIn K S).isSome = true := h2
    rw [h2', h3] <;> rfl
  exact (if_pos e2).trans h4
theorem exm_of {K : PySem.W.Frag} {C S : Addr} {b : Bool} (h1 : PySem.W.subIn K (.ref S) (.type "BaseException") = some true) (h2 : PySem.W.isClsIn K S = true) (h3 : PySem.W.typeIn K (.ref S) = some (.type "type")) (h4 : PySem.W.subIn K (.ref C) (.ref S) = some b) : PySem.W.exmOne K (.ref C) (.ref S) = some b := by
  have e1 : (PySem.W.subIn K (.ref S) (.type "BaseException") == some true) = true := by rw [h1] <;> rfl
  exact (if_pos e1).trans (kitCls_of h2 h3 h4)
theorem kit_self {K : PySem.W.Frag} {C : Addr} : PySem.W.kitOne K (.ref C) (.ref C) = some true := if_pos (by simp)
theorem kit_of {K : PySem.W.Frag} {C S : Addr} {b : Bool} (h0 : (C == S) = false) (h2 : PySem.W.isClsIn K S = true) (h3 : PySem.W.typeIn K (.ref S) = some (.type "type")) (h4 : PySem.W.subIn K (.ref C) (.ref S) = some b) : PySem.W.kitOne K (.ref C) (.ref S) = some b := by
  have ne : ¬ (Value.ref C == Value.ref S) = true := fun z => by
    have := beq_iff_eq.mp z
    injection this with this
    rw [this] at h0
    simp at h0
  exact (if_neg ne).trans (kitCls_of h2 h3 h4)
theorem tab_is {K : PySem.W.Frag} {x : Str} {f cl Pt : Addr} {oc : Value} {od : Option Addr} {fd : FuncData} {sl : Array (Option Value)} {oc2 : Value} {od2 : Option Addr} {vs : Array Value} {sl2 : Array (Option Value)} (a : PySem.W.nsIn K mainGlobals x = some (some (.ref f))) (l : K.lookup f = some ⟨oc, od, .func fd, sl⟩) (hc : fd.code = .ref cl)
    (l2 : K.lookup cl = some ⟨oc2, od2, .fields vs, sl2⟩) (h : vs[11]? = some (.ref Pt)) : PySem.W.tabIn K x = some (cl, Pt) := by
  unfold PySem.W.tabIn
  rw [a]
  simp only
  rw [l]
  simp only
  rw [hc]
  simp only
  rw [l2]
  simp only
  rw [h]
end PL

/-! PL18: reckoning with the pure functions: each combinator's unfolding as a rule of simp -/
namespace PL
open PySem PySem.Spec PyProof.Rows L2 LamX

section
variable {α β : Type} {S : SS}
@[simp] theorem bind_S (f : M α) (g : α → M β) (S : SS) : (f >>= g) S = match f S with
  | none => none
  | some (.error e, S') => some (.error e, S')
  | some (.ok a, S') => g a S' := rfl
@[simp] theorem ret_S (a : α) (S : SS) : M.ret a S = some (.ok a, S) := rfl
@[simp] theorem lift_S (o : Option α) (S : SS) : M.lift o S = o.map fun a => (.ok a, S) := rfl
@[simp] theorem stuck_S (S : SS) : (stuck : M α) S = none := rfl
@[simp] theorem cst_S (x : PyData) (S : SS) : cst x S = some (.ok (.d x), S) := rfl
@[simp] theorem rdV_S (i : Nat) (S : SS) : rdV i S = match S[i]? with
  | some (some _) => some (.ok (.bw i), S)
  | _ => none := rfl
@[simp] theorem rdZ_S (i : Nat) (S : SS) : rdZ i S = match S[i]? with
  | some (some (.d x)) => some (.ok (.d x), S)
  | some (some (.lst xs)) => (items xs).map fun ds => (.ok (.d (.list ds)), S.set i (some (.d (.list ds))))
  | _ => none := rfl
@[simp] theorem mvS_S (i : Nat) (S : SS) : mvS i S = match S[i]? with
  | some (some o) => some (.ok o, S.set i none)
  | _ => none := rfl
@[simp] theorem seqS_S (f g : SM) (S : SS) : seqS f g S = match f S with
  | some (.nx, S1) => g S1
  | r => r := rfl
@[simp] theorem skipS_S (S : SS) : skipS S = some (.nx, S) := rfl
@[simp] theorem doE_S (f : M α) (g : α → SM) (S : SS) : doE f g S = match f S with
  | some (.ok o, S1) => g o S1
  | some (.error x, S1) => some (.exc x, S1)
  | none => none := rfl
@[simp] theorem raiseS_S (C : Addr) (S : SS) : raiseS C S = some (.exc (excD C []), S) := rfl
@[simp] theorem putS_S (i : Nat) (o : OV) (S : SS) : putS i o S = if i < S.length then some (.nx, S.set i (some o)) else none := rfl
@[simp] theorem setS_S (i : Nat) (f : M OV) (S : SS) : setS i f S = doE f (putS i) S := rfl
@[simp] theorem retS_S (f : M OV) (S : SS) : retS f S = doE f (fun o S => some (.ret o, S)) S := rfl
@[simp] theorem retN_S (S : SS) : retN S = some (.ret (.d .none), S) := rfl
@[simp] theorem exprS_S (f : M OV) (S : SS) : exprS f S = doE f (fun _ => skipS) S := rfl
@[simp] theorem ifS_S (c : M Bool) (f g : SM) (S : SS) : ifS c f g S = doE c (fun b => if b then f else g) S := rfl
@[simp] theorem asB_S (f : M OV) (S : SS) : asB f S = (f >>= fun o => M.lift (isB o)) S := rfl
@[simp] theorem toV_S (f : M OV) (S : SS) : toV f S = (f >>= fun o => M.lift ((frD o).map .fr)) S := rfl
@[simp] theorem op1_S (op : PyData → Option OV) (a : AV) (S : SS) : op1 op a S = match view S a with
  | some x => (op x).map fun o => (.ok o, S)
  | none => none := rfl
@[simp] theorem op2_S (op : PyData → PyData → Option OV) (a b : AV) (S : SS) : op2 op a b S = match view S a, view S b with
  | some x, some y => (op x y).map fun o => (.ok o, S)
  | _, _ => none := rfl
@[simp] theorem opN_S (op : List PyData → Option OV) (as : List AV) (S : SS) : opN op as S = match views S as with
  | some xs => (op xs).map fun o => (.ok o, S)
  | none => none := rfl
@[simp] theorem bin_S (fa fb : M AV) (op : PyData → PyData → Option OV) (S : SS) : bin fa fb op S = (fa >>= fun a => fb >>= fun b => op2 op a b) S := rfl
@[simp] theorem truA_S (a : AV) (S : SS) : truA a S = match view S a with
  | some x => (tru x).map fun b => (.ok b, S)
  | none => none := rfl
@[simp] theorem tstV_S (f : M AV) (S : SS) : tstV f S = (f >>= truA) S := rfl
@[simp] theorem andT_S (f g : M Bool) (S : SS) : andT f g S = (f >>= fun b => if b then g else M.ret false) S := rfl
@[simp] theorem orT_S (f g : M Bool) (S : SS) : orT f g S = (f >>= fun b => if b then M.ret true else g) S := rfl
@[simp] theorem notT_S (f : M Bool) (S : SS) : notT f S = (f >>= fun b => M.ret (!b)) S := rfl
@[simp] theorem notV_S (f : M AV) (S : SS) : notV f S = (f >>= fun a => truA a >>= fun b => M.ret (OV.d (.bool (!b)))) S := rfl
@[simp] theorem andV_S (f g : M OV) (S : SS) : andV f g S = (f >>= fun o => match truD o with
  | some (x, b) => if b then g else M.ret (.d x)
  | none => stuck) S := rfl
@[simp] theorem orV_S (f g : M OV) (S : SS) : orV f g S = (f >>= fun o => match truD o with
  | some (x, b) => if b then M.ret (.d x) else g
  | none => stuck) S := rfl
@[simp] theorem ifE_S (c : M Bool) (f g : M α) (S : SS) : ifE c f g S = (c >>= fun b => if b then f else g) S := rfl
@[simp] theorem chain_S (fa fb fc : M AV) (g g' : PyData → PyData → Option OV) (S : SS) : chain fa fb fc g g' S = (fa >>= fun a => fb >>= fun b => op2 g a b >>= fun o => match isB o with
  | some true => fc >>= fun c => op2 g' b c
  | some false => cst (.bool false)
  | none => stuck) S := rfl
@[simp] theorem ch3_S (fa fb fc fd : M AV) (g g' g'' : PyData → PyData → Option OV) (S : SS) : ch3 fa fb fc fd g g' g'' S = (fa >>= fun a => fb >>= fun b => asB (op2 g a b) >>= fun k => match k with
  | true => fc >>= fun c => asB (op2 g' b c) >>= fun k => match k with
    | true => fd >>= fun d => asB (op2 g'' c d) >>= fun k => M.ret k
    | false => M.ret false
  | false => M.ret false) S := rfl
@[simp] theorem argsNil_S (S : SS) : argsNil S = some (.ok [], S) := rfl
@[simp] theorem argsCons_S (f : M AV) (g : M (List AV)) (S : SS) : argsCons f g S = (f >>= fun a => g >>= fun as => M.ret (a :: as)) S := rfl
@[simp] theorem osNil_S (S : SS) : osNil S = some (.ok [], S) := rfl
@[simp] theorem osCons_S (f : M OV) (g : M (List OV)) (S : SS) : osCons f g S = (f >>= fun a => g >>= fun as => M.ret (a :: as)) S := rfl
@[simp] theorem callN_S (g : M (List AV)) (op : List PyData → Option OV) (S : SS) : callN g op S = (g >>= fun as => opN op as) S := rfl
@[simp] theorem mkTup_S (g : M (List AV)) (S : SS) : mkTup g S = (g >>= fun as => M.lift ((frs as).bind fun xs => if xs.length ≤ sizeLine then some (OV.d (.tuple xs)) else none)) S := rfl
@[simp] theorem mkLst_S (own : Bool) (g : M (List AV)) (S : SS) : mkLst own g S = (g >>= fun as => M.lift ((frs as).bind fun xs => if xs.length ≤ sizeLine then some (newL own xs) else none)) S := rfl
@[simp] theorem slA_S (own : Bool) (fa : M AV) (fl fh : M (Option Int)) (S : SS) : slA own fa fl fh S = (fa >>= fun a => fl >>= fun l => fh >>= fun h => op1 (fun x => oSl own x l h) a) S := rfl
@[simp] theorem noPart_S (S : SS) : noPart S = some (.ok none, S) := rfl
@[simp] theorem part_S (f : M AV) (S : SS) : part f S = match f S with
  | none => none
  | some (.error e, S') => some (.error e, S')
  | some (.ok a, S') => match view S' a with
    | some (.int i) => some (.ok (some i), S')
    | _ => none := by
  show M.bind f _ S = _
  unfold M.bind
  cases f S with
  | none => rfl
  | some t =>
    obtain ⟨r, S'⟩ := t
    cases r <;> rfl
@[simp] theorem isiV_S (n : String) (f : M AV) (S : SS) : isiV n f S = (f >>= fun a => op1 (oIsi n) a) S := rfl
@[simp] theorem isiT_S (ns : List String) (f : M AV) (S : SS) : isiT ns f S = (f >>= fun a => op1 (oIsiT ns) a) S := rfl
@[simp] theorem isiX_S (K : PySem.W.Frag) (Ds : List Addr) (c : Value) (f : M AV) (S : SS) : isiX K Ds c f S = (f >>= fun a => op1 (oIsiX K Ds c) a) S := rfl
@[simp] theorem chkA_S (T : String) (a : AV) (S : SS) : chkA T a S = match view S a with
  | some x => if tyOk T x then some (.ok (), S) else none
  | none => none := rfl
@[simp] theorem methN_S (ty : String) (fa : M AV) (g : M (List AV)) (op : PyData → List PyData → Option OV) (S : SS) : methN ty fa g op S = (fa >>= fun a => chkA ty a >>= fun _ => g >>= fun as => opN (opC op) (a :: as)) S := rfl
@[simp] theorem mutM_S (i : Nat) (ga : M (List AV)) (op : List PyData → List PyData → Option (PyData × List PyData)) (S : SS) : mutM i ga op S = match isL S[i]? with
  | some _ => (ga >>= mutE i op) S
  | none => none := rfl
@[simp] theorem mutE_S (i : Nat) (op : List PyData → List PyData → Option (PyData × List PyData)) (as : List AV) (S : SS) : mutE i op as S = match isL S[i]?, frs as with
  | some ds, some xs => (op ds xs).map fun p => (.ok (.d p.1), S.set i (some (.lst (p.2.map .d))))
  | _, _ => none := rfl
@[simp] theorem itE_S (f : M OV) (S : SS) : itE f S = (f >>= fun o => M.lift (seqOf o)) S := rfl
@[simp] theorem itScr_S (f : M OV) (S : SS) : itScr f S = (f >>= fun o => M.lift (scrO o)) S := rfl
@[simp] theorem rng1_S (ga : M (List AV)) (S : SS) : rng1 ga S = match ga S with
  | none => none
  | some (.error e, S') => some (.error e, S')
  | some (.ok as, S') => match views S' as with
    | some [.int j] => if -(2 ^ 62) ≤ j ∧ j < 2 ^ 62 then some (.ok (rngD 0 j.toNat), S') else none
    | _ => none := by
  show M.bind ga _ S = _
  unfold M.bind
  cases ga S with
  | none => rfl
  | some t =>
    obtain ⟨r, S'⟩ := t
    cases r <;> rfl
@[simp] theorem compE_S (own : Bool) (fi : M (List PyData)) (g : PyData → SS → Option SS) (ft : M Bool) (fe : M OV) (vs : List Nat) (S : SS) : compE own fi g ft fe vs S = match fi S with
  | none => none
  | some (.error e, S') => some (.error e, S')
  | some (.ok ds, S') => if vs.all (fun i => decide (i < S'.length)) then (compL g ft fe vs ds [] (wipeS S' vs)).map fun p => (.ok (newL own p.1), p.2) else none := by
  show M.bind fi _ S = _
  unfold M.bind
  cases fi S with
  | none => rfl
  | some t =>
    obtain ⟨r, S'⟩ := t
    cases r <;> rfl
@[simp] theorem callF_S (n : Nat) (g : DF) (fa : M (List AV)) (S : SS) : callF n g fa S = (fa >>= fun as => if as.length = n then handF g as else stuck) S := rfl
@[simp] theorem callK2_S (g : DF) (fa : M (List AV)) (S : SS) : callK2 g fa S = (fa >>= fun as => if as.length = 2 then handF g (sw2 as) else stuck) S := rfl
@[simp] theorem handF_S (g : DF) (as : List AV) (S : SS) : handF g as S = match takes as S with
  | some (os, S1) => match g os with
    | some (r, os') => some (r, gives as S os' S1)
    | none => none
  | none => none := rfl
@[simp] theorem caughtM_S (K : PySem.W.Frag) (CS : Addr) (keep : Bool) (fe : M OV) (S : SS) : caughtM K CS keep fe S = match fe S with
  | some (.ok o, S') => some (.ok (if keep then o else .d .none), S')
  | some (.error x, S') => match exm K CS x with
    | some true => some (.ok (.d x), S')
    | _ => none
  | none => none := rfl
@[simp] theorem dgetS_S (i : Nat) (k : Str) (S : SS) : dgetS i k S = match (asDct S[i]?).bind fun xs => getO xs (.inr k) with
  | some (.d y) => some (.ok (.d y), S)
  | _ => none := rfl
@[simp] theorem dputS_S (i : Nat) (k : Str) (fe : M OV) (S : SS) : dputS i k fe S = doE fe (fun o S => match o, asDct S[i]? with
  | .d y, some xs => if xs.length < sizeLine then some (.nx, S.set i (some (.dct (putO xs (.inr k) (.d y))))) else none
  | _, _ => none) S := rfl
@[simp] theorem dpop0_S (i : Nat) (k : Str) (S : SS) : dpop0 i k S = match lstAt S i (.inr k) with
  | some (xs, j, y :: ds) => some (.ok (.d y), S.set i (some (.dct ((xs.map (·.1)).zip ((xs.map (·.2)).set j (.lst (ds.map .d)))))))
  | _ => none := rfl
@[simp] theorem dfull_S (i : Nat) (k : Str) (S : SS) : dfull i k S = match lstAt S i (.inr k) with
  | some (_, _, ds) => if SeqAt.shaped (.list ds) then some (.ok (!ds.isEmpty), S) else none
  | _ => none := rfl
@[simp] theorem parS_S (is : List Nat) (fo : M (List OV)) (S : SS) : parS is fo S = doE fo (fun os S => if os.length = is.length ∧ is.length ≤ 16 ∧ ∀ i ∈ is, i < S.length then some (.nx, putLs is os S) else none) S := rfl
@[simp] theorem negV_S (f : M AV) (S : SS) : negV f S = (f >>= fun a => op1 oNeg a) S := rfl
@[simp] theorem dispM_S (ks : List Str) (f : M (List OV)) (S : SS) : dispM ks f S = (f >>= fun os => M.lift (if os.length = ks.length then some (OV.dct ((ks.map Sum.inr).zip os)) else none)) S := rfl
@[simp] theorem forS_S (fi : M (List PyData)) (g : PyData → SS → Option SS) (b : SM) (S : SS) : forS fi g b S = doE fi (forL g b) S := rfl
@[simp] theorem tYesM_S (S : SS) : tYesM S = some (.ok true, S) := rfl
@[simp] theorem gN_S (i : Nat) (x : PyData) (S : SS) : gN i x S = if i < S.length then some (S.set i (some (.d x))) else none := rfl
@[simp] theorem gTupD_t (n : Nat) (gs : List PyData → SS → Option SS) (xs : List PyData) (S : SS) : gTupD n gs (.tuple xs) S = if xs.length = n then gs xs S else none := rfl
@[simp] theorem gConsD_c (g : PyData → SS → Option SS) (gs : List PyData → SS → Option SS) (x : PyData) (r : List PyData) (S : SS) : gConsD g gs (x :: r) S = (g x S).bind (gs r) := rfl
@[simp] theorem gNilD_n (S : SS) : gNilD [] S = some S := rfl
@[simp] theorem newL_f (ds : List PyData) : newL false ds = .d (.list ds) := rfl
@[simp] theorem newL_t (ds : List PyData) : newL true ds = .lst (ds.map .d) := rfl
@[simp] theorem items_d (ds : List PyData) : items (ds.map .d) = some ds := items_map ds
@[simp] theorem items_n : items [] = some [] := rfl
@[simp] theorem view_fr (S : SS) (x : PyData) : view S (.fr x) = some x := rfl
@[simp] theorem view_bw (S : SS) (i : Nat) : view S (.bw i) = viewO S[i]? := rfl
@[simp] theorem viewO_d (x : PyData) : viewO (some (some (.d x))) = some x := rfl
@[simp] theorem viewO_l (xs : List OV) : viewO (some (some (.lst xs))) = (items xs).map .list := rfl
@[simp] theorem views_n (S : SS) : views S [] = some [] := rfl
@[simp] theorem views_c (S : SS) (a : AV) (as : List AV) : views S (a :: as) = match view S a, views S as with
    | some x, some xs => some (x :: xs)
    | _, _ => none := rfl
@[simp] theorem frs_n : frs [] = some [] := rfl
@[simp] theorem frs_c (x : PyData) (r : List AV) : frs (.fr x :: r) = (frs r).map (x :: ·) := rfl
@[simp] theorem takes_n (S : SS) : takes [] S = some ([], S) := rfl
@[simp] theorem takes_f (x : PyData) (as : List AV) (S : SS) : takes (.fr x :: as) S = (takes as S).map fun p => (.d x :: p.1, p.2) := rfl
@[simp] theorem takes_b (i : Nat) (as : List AV) (S : SS) : takes (.bw i :: as) S = match S[i]? with
    | some (some (.d x)) => (takes as S).map fun p => (.d x :: p.1, p.2)
    | some (some o) => (takes as (S.set i none)).map fun p => (o :: p.1, p.2)
    | _ => none := rfl
@[simp] theorem gives_n (S : SS) (os : List OV) (S1 : SS) : gives [] S os S1 = S1 := rfl
@[simp] theorem gives_f (x : PyData) (as : List AV) (S S1 : SS) (o : OV) (os : List OV) : gives (.fr x :: as) S (o :: os) S1 = gives as S os S1 := rfl
@[simp] theorem gives_b (i : Nat) (as : List AV) (S S1 : SS) (o : OV) (os : List OV) : gives (.bw i :: as) S (o :: os) S1 = match S[i]? with
    | some (some (.d _)) => gives as S os S1
    | _ => gives as (S.set i none) os (S1.set i (some o)) := rfl
@[simp] theorem frD_d (x : PyData) : frD (.d x) = some x := rfl
@[simp] theorem isB_d (b : Bool) : isB (.d (.bool b)) = some b := rfl
@[simp] theorem truD_d (x : PyData) : truD (.d x) = (tru x).map fun b => (x, b) := rfl
@[simp] theorem tru_b (b : Bool) : tru (.bool b) = some b := rfl
@[simp] theorem isL_l (xs : List OV) : isL (some (some (.lst xs))) = items xs := rfl
@[simp] theorem seqOf_l (xs : List PyData) : seqOf (.d (.list xs)) = some xs := rfl
@[simp] theorem seqOf_t (xs : List PyData) : seqOf (.d (.tuple xs)) = some xs := rfl
@[simp] theorem scrO_s (ns : List Int) : scrO (.d (scrD ns)) = some (ns.map .int) := rfl
@[simp] theorem scrOf_s (ns : List Int) : scrOf (scrD ns) = some (ns.map .int) := rfl
@[simp] theorem asDct_d (xs : List (Key × OV)) : asDct (some (some (.dct xs))) = some xs := rfl
@[simp] theorem opC_c (op : PyData → List PyData → Option OV) (x : PyData) (xs : List PyData) : opC op (x :: xs) = op x xs := rfl
@[simp] theorem tyOk_str (z : Str) : tyOk "str" (.str z) = true := rfl
@[simp] theorem okI_e (i : Int) : okI i = some (.d (.int i)) := rfl
@[simp] theorem okB_e (b : Bool) : okB b = some (.d (.bool b)) := rfl
@[simp] theorem oAdd_i (own : Bool) (i j : Int) : oAdd own (.int i) (.int j) = some (.d (.int (i + j))) := rfl
@[simp] theorem oAdd_l (own : Bool) (xs ys : List PyData) : oAdd own (.list xs) (.list ys) = if xs.length + ys.length ≤ sizeLine then some (newL own (xs ++ ys)) else none := rfl
@[simp] theorem oSub_i (i j : Int) : oSub (.int i) (.int j) = some (.d (.int (i - j))) := rfl
@[simp] theorem oMulA_i (own : Bool) (i j : Int) : oMulA own (.int i) (.int j) = if cMul i j then some (.d (.int (i * j))) else none := rfl
@[simp] theorem oMulA_l (own : Bool) (xs : List PyData) (k : Int) : oMulA own (.list xs) (.int k) = if -(2 ^ 63) ≤ k ∧ k < 2 ^ 63 ∧ xs.length * k.toNat ≤ sizeLine then some (newL own (List.replicate k.toNat xs).flatten) else none := rfl
@[simp] theorem oFdiv_i (i j : Int) : oFdiv (.int i) (.int j) = if 0 < j ∧ j < 1073741824 then some (.d (.int (i / j))) else none := rfl
@[simp] theorem oMod_i (i j : Int) : oMod (.int i) (.int j) = if 0 < j then some (.d (.int (i % j))) else none := rfl
@[simp] theorem oPow_i (i j : Int) : oPow (.int i) (.int j) = if 0 ≤ j ∧ j ≤ 1000000 ∧ i.natAbs < 2 ^ 64 then some (.d (.int (i ^ j.toNat))) else none := rfl
@[simp] theorem oLt_i (i j : Int) : oLt (.int i) (.int j) = some (.d (.bool (decide (i < j)))) := rfl
@[simp] theorem oLe_i (i j : Int) : oLe (.int i) (.int j) = some (.d (.bool (decide (i ≤ j)))) := rfl
@[simp] theorem oGt_i (i j : Int) : oGt (.int i) (.int j) = some (.d (.bool (decide (j < i)))) := rfl
@[simp] theorem oGe_i (i j : Int) : oGe (.int i) (.int j) = some (.d (.bool (decide (j ≤ i)))) := rfl
@[simp] theorem oNeg_i (i : Int) : oNeg (.int i) = some (.d (.int (-i))) := rfl
@[simp] theorem oLen_l (xs : List PyData) : oLen [.list xs] = some (.d (.int xs.length)) := rfl
@[simp] theorem oLen_t (xs : List PyData) : oLen [.tuple xs] = some (.d (.int xs.length)) := rfl
@[simp] theorem oLenS_s (ns : List Int) : oLenS [scrD ns] = some (.d (.int ns.length)) := by simp [oLenS]
@[simp] theorem oList_l (own : Bool) (xs : List PyData) : oList own [.list xs] = some (newL own xs) := rfl
@[simp] theorem oList_t (own : Bool) (xs : List PyData) : oList own [.tuple xs] = some (newL own xs) := rfl
@[simp] theorem oTuple_l (xs : List PyData) : oTuple [.list xs] = some (.d (.tuple xs)) := rfl
@[simp] theorem oTuple_t (xs : List PyData) : oTuple [.tuple xs] = some (.d (.tuple xs)) := rfl
@[simp] theorem oAbs_i (i : Int) : oAbs [.int i] = okI (if i < 0 then -i else i) := rfl
@[simp] theorem oInt1_i (i : Int) : oInt1 [.int i] = okI i := rfl
@[simp] theorem oMax2_i (i j : Int) : oMax2 [.int i, .int j] = okI (if j > i then j else i) := rfl
@[simp] theorem oMin2_i (i j : Int) : oMin2 [.int i, .int j] = okI (if j < i then j else i) := rfl
@[simp] theorem oAll_l (xs : List PyData) : oAll [.list xs] = (bools xs).bind fun bs => okB (bs.all id) := rfl
@[simp] theorem oIx_l (xs : List PyData) (i : Int) : oIx (.list xs) (.int i) = (atI xs i).map .d := rfl
@[simp] theorem oIx_t (xs : List PyData) (i : Int) : oIx (.tuple xs) (.int i) = (atI xs i).map .d := rfl
@[simp] theorem oSl_l (own : Bool) (xs : List PyData) (lo hi : Option Int) : oSl own (.list xs) lo hi = some (newL own ((xs.drop (HT.sIx xs.length 0 lo)).take (HT.sIx xs.length xs.length hi - HT.sIx xs.length 0 lo))) := rfl
@[simp] theorem oSl_t (own : Bool) (xs : List PyData) (lo hi : Option Int) : oSl own (.tuple xs) lo hi = some (.d (.tuple ((xs.drop (HT.sIx xs.length 0 lo)).take (HT.sIx xs.length xs.length hi - HT.sIx xs.length 0 lo)))) := rfl
@[simp] theorem oAppend_e (ds : List PyData) (x : PyData) : oAppend ds [x] = if ds.length < sizeLine then some (.none, ds ++ [x]) else none := rfl
theorem shp_i (i : Int) : SeqAt.shaped (.int i) = true := by simp [SeqAt.shaped, PyData.canLay0, PyData.depth]
theorem shp_s {i : Str} (h : PyData.strOk i = true) : SeqAt.shaped (.str i) = true := by simp [SeqAt.shaped, PyData.canLay0, PyData.depth, h]
theorem shp_b (i : Bool) : SeqAt.shaped (.bool i) = true := by simp [SeqAt.shaped, PyData.canLay0, PyData.depth]
theorem shp_n : SeqAt.shaped .none = true := by simp [SeqAt.shaped, PyData.canLay0, PyData.depth]
theorem beqI (i j : Int) : (i == j) = decide (i = j) := by rw [Bool.eq_iff_iff]; simp
theorem beqS (i j : Str) : (i == j) = decide (i = j) := by rw [Bool.eq_iff_iff]; simp
@[simp] theorem oEq_i (i j : Int) : oEq (.int i) (.int j) = some (.d (.bool (decide (i = j)))) := by
  simp [oEq, shp_i, PyData.eqv, beqI]
@[simp] theorem oNe_i (i j : Int) : oNe (.int i) (.int j) = some (.d (.bool (!decide (i = j)))) := by
  simp [oNe, shp_i, PyData.eqv, beqI]
@[simp] theorem oEq_s {i j : Str} (h1 : PyData.strOk i = true) (h2 : PyData.strOk j = true) : oEq (.str i) (.str j) = some (.d (.bool (decide (i = j)))) := by
  simp [oEq, shp_s h1, shp_s h2, PyData.eqv, beqS]
@[simp] theorem oNe_s {i j : Str} (h1 : PyData.strOk i = true) (h2 : PyData.strOk j = true) : oNe (.str i) (.str j) = some (.d (.bool (!decide (i = j)))) := by
  simp [oNe, shp_s h1, shp_s h2, PyData.eqv, beqS]
end
end PL

/-! PL19: loops and comprehensions by plain laws -/
namespace PL
open PySem PySem.Spec PyProof.Rows L2 LamX

theorem compL_fil {g : PyData → SS → Option SS} {ft : M Bool} {fe : M OV} {vs : List Nat} {S : SS} {p : PyData → Bool} {h : PyData → PyData} : ∀ {ds acc : List PyData}, acc.length + ds.length ≤ sizeLine →
    (∀ d ∈ ds, ∃ S1 S2, g d S = some S1 ∧ ft S1 = some (.ok (p d), S2) ∧ (p d = true → ∃ S3, fe S2 = some (.ok (.d (h d)), S3) ∧ wipeS S3 vs = S) ∧ (p d = false → wipeS S2 vs = S)) →
    compL g ft fe vs ds acc S = some (acc ++ (ds.filter p).map h, S)
  | [], acc, _, _ => by simp [compL]
  | d :: ds, acc, hl, H => by
    obtain ⟨S1, S2, e1, e2, e3, e4⟩ := H d List.mem_cons_self
    rw [List.length_cons] at hl
    unfold compL
    rw [e1]
    simp only
    rw [e2]
    cases hp : p d with
    | true =>
      obtain ⟨S3, e5, e6⟩ := e3 hp
      simp only
      rw [e5]
      simp only
      rw [if_pos (by omega), e6, compL_fil (by rw [List.length_append, List.length_singleton]; omega) fun d' hd => H d' (List.mem_cons_of_mem _ hd)]
      rw [List.filter_cons_of_pos hp]
      simp
    | false =>
      simp only
      rw [e4 hp, compL_fil (by omega) fun d' hd => H d' (List.mem_cons_of_mem _ hd)]
      rw [List.filter_cons_of_neg (by simp [hp])]
theorem compL_map {g : PyData → SS → Option SS} {fe : M OV} {vs : List Nat} {S : SS} {h : PyData → PyData} {ds acc : List PyData} (hl : acc.length + ds.length ≤ sizeLine)
    (H : ∀ d ∈ ds, ∃ S1 S3, g d S = some S1 ∧ fe S1 = some (.ok (.d (h d)), S3) ∧ wipeS S3 vs = S) : compL g tYesM fe vs ds acc S = some (acc ++ ds.map h, S) := by
  have := compL_fil (g := g) (ft := tYesM) (fe := fe) (vs := vs) (S := S) (p := fun _ => true) (h := h) (ds := ds) (acc := acc) hl fun d hd => by
    obtain ⟨S1, S3, e1, e2, e3⟩ := H d hd
    exact ⟨S1, S1, e1, rfl, fun _ => ⟨S3, e2, e3⟩, fun z => by cases z⟩
  rw [this, List.filter_eq_self.mpr (fun _ _ => rfl)]
/-- a comprehension whose items change the state: by an invariant -/
theorem compL_inv {g : PyData → SS → Option SS} {fe : M OV} {vs : List Nat} (I : Nat → List PyData → SS → Prop) : ∀ {ds acc : List PyData} {S : SS} {n : Nat}, acc.length + ds.length ≤ sizeLine → I n acc S →
    (∀ k d acc S, ds[k]? = some d → I (n + k) acc S → ∃ S1 y S3, g d S = some S1 ∧ fe S1 = some (.ok (.d y), S3) ∧ I (n + k + 1) (acc ++ [y]) (wipeS S3 vs)) →
    ∃ acc' S', compL g tYesM fe vs ds acc S = some (acc', S') ∧ I (n + ds.length) acc' S' ∧ acc'.length = acc.length + ds.length
  | [], acc, S, n, _, hi, _ => ⟨acc, S, rfl, hi, rfl⟩
  | d :: ds, acc, S, n, hl, hi, H => by
    obtain ⟨S1, y, S3, e1, e2, h2⟩ := H 0 d acc S rfl hi
    rw [List.length_cons] at hl
    obtain ⟨acc', S', h3, h4, h5⟩ := compL_inv I (ds := ds) (acc := acc ++ [y]) (S := wipeS S3 vs) (n := n + 1) (by rw [List.length_append, List.length_singleton]; omega) h2 fun k d' acc S hd hI => by
      have := H (k + 1) d' acc S (by simpa using hd) (by rw [show n + (k + 1) = n + 1 + k by omega]; exact hI)
      rw [show n + (k + 1) + 1 = n + 1 + k + 1 by omega] at this
      exact this
    refine ⟨acc', S', ?_, by rw [List.length_cons, show n + (ds.length + 1) = n + 1 + ds.length by omega]; exact h4, by rw [h5, List.length_append, List.length_singleton, List.length_cons]; omega⟩
    unfold compL
    rw [e1]
    simp only [tYesM_S]
    rw [e2]
    simp only
    rw [if_pos (by omega), h3]
theorem forL_inv {g : PyData → SS → Option SS} {b : SM} (I : Nat → SS → Prop) : ∀ {ds : List PyData} {S : SS} {n : Nat}, I n S →
    (∀ k d S, ds[k]? = some d → I (n + k) S → ∃ S1 S2, g d S = some S1 ∧ b S1 = some (.nx, S2) ∧ I (n + k + 1) S2) →
    ∃ S', forL g b ds S = some (.nx, S') ∧ I (n + ds.length) S'
  | [], S, n, hi, _ => ⟨S, rfl, hi⟩
  | d :: ds, S, n, hi, H => by
    obtain ⟨S1, S2, e1, e2, h2⟩ := H 0 d S rfl hi
    obtain ⟨S', h3, h4⟩ := forL_inv I (ds := ds) (S := S2) (n := n + 1) h2 fun k d' S hd hI => by
      have := H (k + 1) d' S (by simpa using hd) (by rw [show n + (k + 1) = n + 1 + k by omega]; exact hI)
      rw [show n + (k + 1) + 1 = n + 1 + k + 1 by omega] at this
      exact this
    refine ⟨S', ?_, by rw [List.length_cons, show n + (ds.length + 1) = n + 1 + ds.length by omega]; exact h4⟩
    unfold forL
    rw [e1]
    simp only
    unfold turnS
    rw [e2]
    exact h3
/-- a while loop by an invariant and a measure -/
theorem whileN_inv {ft : M Bool} {b : SM} (I : Nat → SS → Prop) (J : SS → Prop) : ∀ {m : Nat} {S : SS}, I m S →
    (∀ m S, I m S → (∃ S1, ft S = some (.ok false, S1) ∧ J S1) ∨ ∃ S1 S2 m', ft S = some (.ok true, S1) ∧ b S1 = some (.nx, S2) ∧ m' < m ∧ I m' S2) →
    ∃ S', whileN ft b (m + 1) S = some (.nx, S') ∧ J S' := by
  intro m
  induction m using Nat.strongRecOn with
  | ind m ih =>
    intro S hi H
    rcases H m S hi with ⟨S1, e, hj⟩ | ⟨S1, S2, m', e1, e2, hm, hi2⟩
    · refine ⟨S1, ?_, hj⟩
      unfold whileN
      simp [e]
    · obtain ⟨S', h1, h2⟩ := ih m' hm hi2 H
      refine ⟨S', ?_, h2⟩
      unfold whileN
      simp only [doE_S, e1]
      rw [if_pos (by trivial)]
      unfold turnS
      rw [e2]
      exact whileN_le (by omega) h1
theorem whileS_inv {ft : M Bool} {b : SM} (I : Nat → SS → Prop) (J : SS → Prop) {m : Nat} {S : SS} (hi : I m S)
    (H : ∀ m S, I m S → (∃ S1, ft S = some (.ok false, S1) ∧ J S1) ∨ ∃ S1 S2 m', ft S = some (.ok true, S1) ∧ b S1 = some (.nx, S2) ∧ m' < m ∧ I m' S2) :
    ∃ S', whileS ft b S = some (.nx, S') ∧ J S' := by
  obtain ⟨S', h1, h2⟩ := whileN_inv I J hi H
  exact ⟨S', whileS_of h1, h2⟩
end PL

/-! PL20: constant dicts of the program with int keys -/
namespace PL
open PySem PySem.Spec PyProof.Rows L2 LamX

inductive CEnt (K : PySem.W.Frag) : List DictEntry → List (Int × PyData) → Prop
  | nil : CEnt K [] []
  | cons {e : DictEntry} {i : Int} {t : Tok} {v : V} {x : PyData} {es : List DictEntry} {tab : List (Int × PyData)} : e.key = .int i t → e.hash = hashInt i → RelV v e.val → (∀ Z, Fr K Z v x) → CEnt K es tab → CEnt K (e :: es) ((i, x) :: tab)
structure CInt (K : PySem.W.Frag) (d : Addr) (tab : List (Int × PyData)) : Prop where
  ex : ∃ es n, K.lookup d = some ⟨.type "dict", none, .dict es n, #[]⟩ ∧ CEnt K es.toList tab
  low : (d == sysModules) = false
def lookI (tab : List (Int × PyData)) (k : Int) : Option PyData := (tab.find? fun p => decide (p.1 = k)).map (·.2)
section
variable {X : Cx} {T : List (Addr × Str)} {d : Addr} {tab : List (Int × PyData)} {K : PySem.W.Frag}
theorem CEnt.keys {es : List DictEntry} (h : CEnt K es tab) : ∀ e ∈ es, ∃ i t, e.key = .int i t ∧ e.hash = hashInt i := by
  induction h with
  | nil => intro e he; cases he
  | cons h1 h2 h3 h4 _ ih =>
    intro e he
    rcases List.mem_cons.mp he with rfl | he
    · exact ⟨_, _, h1, h2⟩
    · exact ih e he
theorem CEnt.find {es : List DictEntry} (h : CEnt K es tab) (k : Int) : (∀ x, lookI tab k = some x → ∃ u v, (es.find? fun e => Value.isInt k e.key).map (·.val) = some u ∧ RelV v u ∧ ∀ Z, Fr K Z v x) ∧ (lookI tab k = none → (es.find? fun e => Value.isInt k e.key).map (·.val) = none) := by
  induction h with
  | nil => exact ⟨fun x e => (by cases e), fun _ => rfl⟩
  | @cons e i t v x es tab h1 h2 h3 h4 _ ih =>
    have hk : Value.isInt k e.key = decide (i = k) := by
      rw [h1]
      by_cases z : i = k
      · subst z; simp [Value.isInt]
      · simp [Value.isInt, z]
    by_cases z : i = k
    · subst z
      have a : lookI ((i, x) :: tab) i = some x := by simp [lookI]
      rw [a]
      refine ⟨fun y e' => ?_, fun e' => by cases e'⟩
      cases e'
      refine ⟨e.val, v, ?_, h3, h4⟩
      rw [List.find?_cons, hk]; simp
    · have a : lookI ((i, x) :: tab) k = lookI tab k := by simp [lookI, List.find?_cons, z]
      rw [a]
      have b : (e :: es).find? (fun e => Value.isInt k e.key) = es.find? (fun e => Value.isInt k e.key) := by
        rw [List.find?_cons, hk, decide_eq_false z]
      rw [b]
      exact ih
theorem CInt.map {P : Program} {w : World} {h : Heap} (D : CInt K d tab) (X : K.In h) : ∃ f : Int → Option Value, h.MapOf (intKind P w) d f ∧ (∀ k x, lookI tab k = some x → ∃ u v, f k = some u ∧ RelV v u ∧ ∀ Z, Fr K Z v x) ∧ ∀ k, lookI tab k = none → f k = none := by
  obtain ⟨es, n, hl, ce⟩ := D.ex
  have fb : ∀ k : Int, findBy Value.isInt es k = (es.toList.find? fun e => Value.isInt k e.key).map (·.val) := fun k => by
    obtain ⟨l⟩ := es
    unfold findBy
    rw [List.find?_toArray]
  refine ⟨fun k => findBy Value.isInt es k, ⟨_, es, n, X _ _ hl, ⟨rfl, rfl, rfl⟩, rfl, fun e he => ?_, fun _ => rfl⟩, fun k x e => ?_, fun k e => ?_⟩
  · obtain ⟨i, t, e1, e2⟩ := ce.keys e (Array.mem_toList_iff.mpr he)
    exact ⟨i, by rw [e1]; exact intKind_is P w i t, e2⟩
  · obtain ⟨u, v, h1, h2, h3⟩ := (ce.find k).1 x e
    exact ⟨u, v, (fb k).trans h1, h2, h3⟩
  · show findBy Value.isInt es k = none
    rw [fb]
    exact (ce.find k).2 e
def rCin (d : Addr) (tab : List (Int × PyData)) (neg : Bool) : R2 := fun x y H Q => ∃ k, x = .int k ∧ y = .ref d ∧ Q (.bl (if neg then !(lookI tab k).isSome else (lookI tab k).isSome)) H
theorem some_of {D : CInt K d tab} {f : Int → Option Value} (h1 : ∀ k x, lookI tab k = some x → ∃ u v, f k = some u ∧ RelV v u ∧ ∀ Z, Fr K Z v x) (h2 : ∀ k, lookI tab k = none → f k = none) (k : Int) : (f k).isSome = (lookI tab k).isSome := by
  cases e : lookI tab k with
  | none => rw [h2 k e]; rfl
  | some x => obtain ⟨u, v, g, _⟩ := h1 k x e; rw [g]; rfl
theorem op_cin (D : CInt X.K d tab) : OpR X (compareOp .In) (rCin d tab false) := by
  intro pins s σ H x y v u Q I rx ry h
  obtain ⟨k, rfl, rfl, q⟩ := h
  obtain ⟨t, rfl⟩ := rx
  cases ry
  obtain ⟨f, m, h1, h2⟩ := D.map (P := X.prog) (w := X.w) I.kIn
  refine wpAny_in_of (intKind_is X.prog X.w k t) D.low m ?_
  rw [some_of (D := D) h1 h2]
  exact ⟨.bl _, H, I.tok _, rfl, q⟩
theorem op_cnotIn (D : CInt X.K d tab) : OpR X (compareOp .NotIn) (rCin d tab true) := by
  intro pins s σ H x y v u Q I rx ry h
  obtain ⟨k, rfl, rfl, q⟩ := h
  obtain ⟨t, rfl⟩ := rx
  cases ry
  obtain ⟨f, m, h1, h2⟩ := D.map (P := X.prog) (w := X.w) I.kIn
  refine wpAny_notIn_of (intKind_is X.prog X.w k t) D.low m ?_
  rw [some_of (D := D) h1 h2]
  exact ⟨.bl _, H, I.tok _, rfl, q⟩
def rCix (K : PySem.W.Frag) (d : Addr) (tab : List (Int × PyData)) : R2 := fun x y H Q => ∃ k z, x = .ref d ∧ y = .int k ∧ lookI tab k = some z ∧ ∀ v, (∀ Z, Fr K Z v z) → Q v H
theorem ix_cint (D : CInt X.K d tab) : IxR X (rCix X.K d tab) := by
  intro value slice pins s σ H x y v u Q I rx ry h hs
  obtain ⟨k, z, rfl, rfl, e, q⟩ := h
  obtain rfl : v = Value.ref d := rx
  obtain ⟨t, rfl⟩ := ry
  obtain ⟨f, m, h1, h2⟩ := D.map (P := X.prog) (w := X.w) I.kIn
  obtain ⟨u, r, g1, g2, g3⟩ := h1 k z e
  exact tail_any m.typeIs slot_dict_getitem.lookup (wpAny_getItem_of (intKind_is X.prog X.w k t) m g1 ⟨r, H, I.tok _, g2, q r g3⟩) hs
/-! as readings -/
variable {a : Expr} {fa : M AV} {pos p : Pos} {x : Str}
def oCin (tab : List (Int × PyData)) (neg : Bool) : PyData → Option OV
  | .int k => okB (if neg then !(lookI tab k).isSome else (lookI tab k).isSome)
  | _ => none
def cinM (tab : List (Int × PyData)) (neg : Bool) (fa : M AV) : M OV := fa >>= fun a => op1 (oCin tab neg) a
theorem cin_of {neg : Bool} {σ : L2.St} {H : Hp} {Q : VK} (h : rdg X T (cinM tab neg fa) σ H Q) : tOp (rCin d tab neg) (rvg X T fa) (tC (.ref d)) σ H Q := by
  obtain ⟨Z, h⟩ := h
  refine ⟨Z, rz_mono (rv_bind POk.mono h) fun Z R a S p v H1 Z1 s1 r1 a1 => ?_⟩
  obtain ⟨u, Z2, s2, o2, h2⟩ := p v H1 Z1 s1 r1 a1
  obtain ⟨x, o, R3, S3, sz, w, e, rel, pf⟩ := rz_op1 h2 o2
  cases x with
  | int k =>
    cases e
    exact ⟨k, w.int, rfl, pf _ H1 Z2 (Sub.refl _) (rel.push (.bl _))⟩
  | _ => cases e
theorem evt_cnotIn (D : CInt X.K d tab) (hg : Gl X x) (hm : X.mg x = some (.ref d)) (ha : EVV X T a fa) (hd : (x == ("__debug__" : Str)) = false := by decide) (hmk : behindInMarks .NotIn (.Name x p) = false := by with_unfolding_all rfl) : EVT X T (.Compare a [.NotIn] [.Name x p] pos) (asB (cinM tab true fa)) :=
  pt_mono (pt_cmpR (op_cnotIn D) ha (pe_glob (v := .ref d) hg hm rfl hd) hmk) fun σ H Q h => cin_of (asB_of h)
theorem evt_cin (D : CInt X.K d tab) (hg : Gl X x) (hm : X.mg x = some (.ref d)) (ha : EVV X T a fa) (hd : (x == ("__debug__" : Str)) = false := by decide) (hmk : behindInMarks .In (.Name x p) = false := by with_unfolding_all rfl) : EVT X T (.Compare a [.In] [.Name x p] pos) (asB (cinM tab false fa)) :=
  pt_mono (pt_cmpR (op_cin D) ha (pe_glob (v := .ref d) hg hm rfl hd) hmk) fun σ H Q h => cin_of (asB_of h)
def oCix (tab : List (Int × PyData)) : PyData → Option OV
  | .int k => (lookI tab k).map .d
  | _ => none
def cixM (tab : List (Int × PyData)) (fa : M AV) : M OV := fa >>= fun a => op1 (oCix tab) a
theorem ev_cix (D : CInt X.K d tab) (hg : Gl X x) (hm : X.mg x = some (.ref d)) (ha : EVV X T a fa) (hd : (x == ("__debug__" : Str)) = false := by decide) (hs : PlainIx a := by intro _ _; rfl) : EV X T (.Subscript (.Name x p) a pos) (cixM tab fa) :=
  pe_mono (pe_ix (ix_cint D) (pe_glob (v := .ref d) hg hm rfl hd) ha hs) fun σ H Q ⟨Z, h⟩ => by
  refine ⟨Z, rz_mono (rv_bind POk.mono h) fun Z R a S p v H1 Z1 s1 r1 a1 => ?_⟩
  obtain ⟨u, Z2, s2, o2, h2⟩ := p v H1 Z1 s1 r1 a1
  obtain ⟨x, o, R3, S3, sz, w, e, rel, pf⟩ := rz_op1 h2 o2
  cases x with
  | int k =>
    have e : (lookI tab k).map OV.d = some o := e
    cases q : lookI tab k with
    | none => rw [q] at e; cases e
    | some z =>
      rw [q] at e
      cases e
      exact ⟨k, z, rfl, w.int, q, fun r hr => pf r H1 Z2 (Sub.refl _) (rel.push (hr Z2))⟩
  | _ => cases e
/-! text keys -/
def lookS (tab : List (Str × PyData)) (k : Str) : Option PyData := (tab.find? fun p => decide (p.1 = k)).map (·.2)
def CStr (K : PySem.W.Frag) (w : World) (d : Addr) (tab : List (Str × PyData)) : Prop := ∀ z x, lookS tab z = some x → ∃ v, KDct K w d z v ∧ ∀ Z, Fr K Z v x
def oCixS (tab : List (Str × PyData)) : PyData → Option OV
  | .str k => (lookS tab k).map .d
  | _ => none
def cixMS (tab : List (Str × PyData)) (fa : M AV) : M OV := fa >>= fun a => op1 (oCixS tab) a
theorem ev_cixS {tabS : List (Str × PyData)} (D : CStr X.K X.w d tabS) (hg : Gl X x) (hm : X.mg x = some (.ref d)) (ha : EVV X T a fa) (hd : (x == ("__debug__" : Str)) = false := by decide) (hs : PlainIx a := by intro _ _; rfl) : EV X T (.Subscript (.Name x p) a pos) (cixMS tabS fa) :=
  pe_mono (pe_ix ix_kdict (pe_glob (v := .ref d) hg hm rfl hd) ha hs) fun σ H Q ⟨Z, h⟩ => by
  refine ⟨Z, rz_mono (rv_bind POk.mono h) fun Z R a S p v H1 Z1 s1 r1 a1 => ?_⟩
  obtain ⟨u, Z2, s2, o2, h2⟩ := p v H1 Z1 s1 r1 a1
  obtain ⟨x, o, R3, S3, sz, w, e, rel, pf⟩ := rz_op1 h2 o2
  cases x with
  | str k =>
    have e : (lookS tabS k).map OV.d = some o := e
    cases q : lookS tabS k with
    | none => rw [q] at e; cases e
    | some z =>
      rw [q] at e
      cases e
      obtain ⟨r, kd, hr⟩ := D k z q
      exact ⟨d, k, r, rfl, w.str, kd, pf r H1 Z2 (Sub.refl _) (rel.push (hr Z2))⟩
  | _ => cases e
end
end PL

/-! PL21: zip of texts, lists, tuples in any mix; enumerate -/
namespace PL
open PySem PySem.Spec PyProof.Rows L2 LamX

theorem pairedV : ∀ {xs : List V} {us : List Value} {i : Nat} {u : Value}, Paired RelV xs us → us[i]? = some u → ∃ x, xs[i]? = some x ∧ RelV x u
  | _, _, _, _, .nil, e => by simp at e
  | _, _, 0, _, .cons a _, e => by simp at e; subst e; exact ⟨_, rfl, a⟩
  | _, _, i + 1, _, .cons _ b, e => by
    obtain ⟨x, h1, h2⟩ := pairedV (i := i) b (by simpa using e)
    exact ⟨x, by simpa using h1, h2⟩
/-- a source of items: what it begins, what it draws -/
structure Src (P : Program) (w : World) (K : PySem.W.Frag) (v : V) (xs : List V) (go : Hp → Prop) (ex : List Addr) (tn : Addr → Nat → Heap → Prop) : Prop where
  obj : ∀ it i h, tn it i h → ∃ o, h.get? it = some o ∧ ∀ c, o.data ≠ .cell c
  keep : ∀ it i h h', tn it i h → (∀ o, h.get? it = some o → h'.get? it = some o) → tn it i h'
  beg : ∀ (X : Cx), X.prog = P → X.w = w → X.K = K → ∀ (pins : List (Addr × Obj)) (s : Shared) (σ : L2.St) (H : Hp) (u : Value), Inv X pins σ H s → go H → RelV v u →
    (∀ b ∈ ex, b < s.heap.objs.size) ∧ ∃ (o : Obj) (HH : Heap → Prop), Begins u o HH ∧ HH s.heap ∧ ∀ it h, h.get? it = some o → tn it 0 h
  drw : ∀ (X : Cx), X.prog = P → X.w = w → X.K = K → X.A.handled = none → ∀ (pins : List (Addr × Obj)) (s : Shared) (σ : L2.St) (H : Hp), Inv X pins σ H s → go H → ∀ it i, tn it i s.heap → it ∉ ex →
    ∃ (Pv : Nat → Value → Prop) (St : Nat → Heap → Prop), Draws P w X.A.in1 it (it :: ex) xs.length Pv St ∧ St i s.heap ∧ (∀ i u, Pv i u → ∃ x, xs[i]? = some x ∧ RelV x u) ∧ ∀ i h, St i h → tn it i h

theorem src_list {P : Program} {w : World} {K : PySem.W.Frag} {a : Addr} {xs : List V} : Src P w K (.ref a) xs (fun H => SqL K H a xs) [a] (fun it i h => h.IsListIter it a i) where
  obj := fun it i h ⟨o, e, c, d⟩ => ⟨o, e, fun v z => by rw [d] at z; cases z⟩
  keep := fun it i h h' st k => st.at k
  beg := by
    intro X hP hw hK pins s σ H u I g r
    subst hP hw hK
    cases r
    obtain ⟨its, rv, p, _⟩ := I.list g
    refine ⟨fun b hb => ?_, _, _, begins_list a its.toArray, p.isList, fun it h e => ⟨_, e, rfl, rfl⟩⟩
    rw [List.mem_singleton.mp hb]; exact p.lt
  drw := by
    intro X hP hw hK hh pins s σ H I g it i st hn
    subst hP hw hK
    obtain ⟨its, rv, p, _⟩ := I.list g
    have hl := rv.length
    refine ⟨_, _, (show its.toArray.size = xs.length by simp; omega) ▸ Draws.list (show X.A.in1.handled = none from hh) it a (fun z => hn (by simp [z])) its.toArray, ⟨st, p.isList⟩, fun i u e => ?_, fun i h st => st.1⟩
    exact pairedV rv (by simpa using e)
theorem src_tup {P : Program} {w : World} {K : PySem.W.Frag} {a : Addr} {xs : List V} : Src P w K (.ref a) xs (fun H => SqT K H a xs) [a] (fun it i h => h.IsTupleIter it a i) where
  obj := fun it i h ⟨o, e, c, d⟩ => ⟨o, e, fun v z => by rw [d] at z; cases z⟩
  keep := fun it i h h' st k => st.at k
  beg := by
    intro X hP hw hK pins s σ H u I g r
    subst hP hw hK
    cases r
    obtain ⟨its, rv, p, _⟩ := I.tuple g
    obtain ⟨o1, ho1, _⟩ := id p
    refine ⟨fun b hb => ?_, _, _, begins_tuple a its.toArray, p, fun it h e => ⟨_, e, rfl, rfl⟩⟩
    rw [List.mem_singleton.mp hb]; exact Heap.lt_size ho1
  drw := by
    intro X hP hw hK hh pins s σ H I g it i st hn
    subst hP hw hK
    obtain ⟨its, rv, p, _⟩ := I.tuple g
    have hl := rv.length
    refine ⟨_, _, (show its.toArray.size = xs.length by simp; omega) ▸ Draws.tuple (show X.A.in1.handled = none from hh) it a (fun z => hn (by simp [z])) its.toArray, ⟨st, p⟩, fun i u e => ?_, fun i h st => st.1⟩
    exact pairedV rv (by simpa using e)
theorem src_str {P : Program} {w : World} {K : PySem.W.Frag} {z : Str} : Src P w K (.str z) (z.cps.toList.map fun c => V.str ⟨#[c]⟩) (fun _ => True) [] (fun it i h => ∃ t, h.IsStrIter it (strIterType z) z t i) where
  obj := fun it i h ⟨t, o, e, c, d⟩ => ⟨o, e, fun v z => by rw [d] at z; cases z⟩
  keep := fun it i h h' ⟨t, o, ho, r⟩ k => ⟨t, o, k o ho, r⟩
  beg := by
    intro X hP hw hK pins s σ H u I g r
    obtain ⟨t, rfl⟩ := r
    exact ⟨(fun b hb => nomatch hb), _, _, begins_text z t, trivial, fun it h e => ⟨t, _, e, rfl, rfl⟩⟩
  drw := by
    intro X hP hw hK hh pins s σ H I g it i st hn
    obtain ⟨t, st⟩ := st
    refine ⟨_, _, (show z.cps.size = (z.cps.toList.map fun c => V.str ⟨#[c]⟩).length by simp) ▸ Draws.text (show X.A.in1.handled = none from hh) it z t, st, fun i u ⟨c, t2, e, eu⟩ => ⟨.str ⟨#[c]⟩, ?_, ?_⟩, fun i h st => ⟨t, st⟩⟩
    · rw [List.getElem?_map, Array.getElem?_toList, e]; rfl
    · exact ⟨t2, eu⟩
/-- pairs of two sources -/
def Itz2 (xs ys : List V) (g1 g2 : Hp → Prop) : It :=
  ⟨fun i H => g1 H ∧ g2 H ∧ i < min xs.length ys.length,
    fun i H v H' => ∃ T x y, v = .ref T ∧ H T = none ∧ H' = upd H T (.tup [x, y]) ∧ xs[i]? = some x ∧ ys[i]? = some y,
    fun i H => g1 H ∧ g2 H ∧ i = min xs.length ys.length⟩
theorem turn_zip2 {P : Program} {w : World} {K : PySem.W.Frag} {v1 v2 : V} {xs ys : List V} {g1 g2 : Hp → Prop} {e1 e2 : List Addr} {t1 t2 : Addr → Nat → Heap → Prop} {elts : List Expr} {kk : Nat} {tpos : Pos} {z TI TO i1 i2 : Addr}
    (S1 : Src P w K v1 xs g1 e1 t1) (S2 : Src P w K v2 ys g2 e2 t2) (D : ZipSep2 z TI TO i1 i2 (i1 :: e1) (i2 :: e2)) (n1 : i1 ∉ e1) (n2 : i2 ∉ e2) :
    Turn P w K (.Tuple elts kk tpos) (Itz2 xs ys g1 g2) [z, TI, TO, i1, i2] z (fun i h => IsZip h z TI TO .none ∧ IsTupOf2 h TI (.ref i1) (.ref i2) ∧ (∃ x y, IsTupOf2 h TO x y) ∧ t1 i1 i h ∧ t2 i2 i h) where
  mem := by simp
  obj := fun i h st c hc => by
    obtain ⟨hz, hTI, ⟨x, y, hTO⟩, h1, h2⟩ := st
    have e' : c = z ∨ c = TI ∨ c = TO ∨ c = i1 ∨ c = i2 := by simpa using hc
    rcases e' with q | q | q | q | q
    · rw [q]; exact ⟨_, hz, fun v q => nomatch q⟩
    · rw [q]; exact ⟨_, hTI, fun v q => nomatch q⟩
    · rw [q]; exact ⟨_, hTO, fun v q => nomatch q⟩
    · rw [q]; exact S1.obj _ _ _ h1
    · rw [q]; exact S2.obj _ _ _ h2
  keep := fun i h h' st k => by
    obtain ⟨hz, hTI, ⟨x, y, hTO⟩, h1, h2⟩ := st
    exact ⟨k z (by simp) _ hz, k TI (by simp) _ hTI, ⟨x, y, k TO (by simp) _ hTO⟩, S1.keep _ _ _ _ h1 (fun o q => k i1 (by simp) o q), S2.keep _ _ _ _ h2 (fun o q => k i2 (by simp) o q)⟩
  item := by
    intro X hP hw hK hc i pins s σ H E I hf st hg
    subst hP hw hK
    obtain ⟨hz, hTI, ⟨x0, y0, hTO⟩, h1, h2⟩ := st
    obtain ⟨gx, gy, hi⟩ := hg
    obtain ⟨P1, St1, D1, s1, r1, b1⟩ := S1.drw X rfl rfl rfl (I.ok.hd hc) pins s σ H I gx i1 i h1 n1
    obtain ⟨P2, St2, D2, s2, r2, b2⟩ := S2.drw X rfl rfl rfl (I.ok.hd hc) pins s σ H I gy i2 i h2 n2
    have hzl : z < s.heap.objs.size := Heap.lt_size hz
    refine wpAny_pyNext_zipD2_item D D1 D2 hz hTI hTO s1 s2 (by omega) (by omega) fun u u2 h' tk p1 p2 z' TO' h1' h2' hT hsz hk => ?_
    obtain ⟨x, hx, ru⟩ := r1 i u p1
    obtain ⟨y, hy, ru2⟩ := r2 i u2 p2
    refine ⟨_, rfl, wpAny_letOwnedTupleGo_zip (s := { s with heap := h', toks := tk }) z' fun h'' z'' sb => ?_⟩
    have hT2 : h''.get? s.heap.objs.size = some { cls := .type "tuple", data := .seq #[u, u2] } := (sb.2 _ (Nat.ne_of_gt hzl)).trans hT
    have new : ObjOk X.prog X.w (upd H s.heap.objs.size (.tup [x, y])) h'' s.heap.objs.size (.tup [x, y]) :=
      ⟨by show 2 ≤ sizeLine; decide, [u, u2], .cons ru (.cons ru2 .nil), ⟨_, hT2, rfl, _, rfl⟩⟩
    have I1 : Inv X pins σ (upd H s.heap.objs.size (.tup [x, y])) { s with heap := h'', toks := tk } :=
      I.turnedNew (t' := tk) (ch := [z, TI, TO, i1, i2]) (fun c o hb q => (sb.2 c (fun q' => hb (by simp [q']))).trans (hk c o (fun q' => hb (by simp [q'])) (fun q' => hb (by simp [q'])) (fun q' => hb (by simp [q'])) (fun q' => hb (by simp [q'])) q)) hf (Nat.le_refl _) new
    refine ⟨.ref s.heap.objs.size, _, I1, rfl, ⟨_, x, y, rfl, I.hok.fresh (Nat.le_refl _), rfl, hx, hy⟩, ⟨z'', ?_, ⟨u, u2, ?_⟩, ?_, ?_⟩, fun c hcm => ?_⟩
    · exact (sb.2 _ D.TIz).trans (hk _ _ D.TIz D.TITO D.TIi1 D.TIi2 hTI)
    · exact (sb.2 _ D.TOz).trans TO'
    · exact S1.keep _ _ _ _ (b1 _ _ h1') fun o q => (sb.2 _ (fun e => D.zf1 (by rw [← e]; exact D.mem1))).trans q
    · exact S2.keep _ _ _ _ (b2 _ _ h2') fun o q => (sb.2 _ (fun e => D.zf2 (by rw [← e]; exact D.mem2))).trans q
    · have hlt : c < s.heap.objs.size := by
        have e' : c = z ∨ c = TI ∨ c = TO ∨ c = i1 ∨ c = i2 := by simpa using hcm
        rcases e' with q | q | q | q | q
        · rw [q]; exact hzl
        · rw [q]; exact Heap.lt_size hTI
        · rw [q]; exact Heap.lt_size hTO
        · rw [q]; obtain ⟨_, e1, _⟩ := S1.obj _ _ _ h1; exact Heap.lt_size e1
        · rw [q]; obtain ⟨_, e2, _⟩ := S2.obj _ _ _ h2; exact Heap.lt_size e2
      rw [upd_ne (Nat.ne_of_lt hlt)]
      exact (hf c hcm).1
  done := by
    intro X hP hw hK hc i pins s σ H E I hf st hg
    subst hP hw hK
    obtain ⟨hz, hTI, ⟨x0, y0, hTO⟩, h1, h2⟩ := st
    obtain ⟨gx, gy, hi⟩ := hg
    obtain ⟨P1, St1, D1, s1, r1, b1⟩ := S1.drw X rfl rfl rfl (I.ok.hd hc) pins s σ H I gx i1 i h1 n1
    obtain ⟨P2, St2, D2, s2, r2, b2⟩ := S2.drw X rfl rfl rfl (I.ok.hd hc) pins s σ H I gy i2 i h2 n2
    exact wpAny_pyNext_zipD2_end D D1 D2 hz hTI hTO s1 s2 (by omega) (by omega) (by omega) fun h' tk hk => ⟨rfl, I.turnedL (t' := tk) (ch := [z, TI, TO, i1, i2]) (fun c o hb q =>
      hk c o (fun q' => hb (by simp [q'])) (fun q' => hb (by simp [q'])) (fun q' => hb (by simp [q'])) (fun q' => hb (by simp [q'])) q) hf⟩
  self := fun A i s Q E st h => wpAny_pyIter_zip st.1 h

def iZip2 (P : Program) (w : World) (K : PySem.W.Frag) (ta : TA) : TI := fun σ H R => ta σ H fun vs H1 => ∃ (v1 v2 : V) (xs ys : List V) (g1 g2 : Hp → Prop) (e1 e2 : List Addr) (t1 t2 : Addr → Nat → Heap → Prop), vs = [v1, v2] ∧ Src P w K v1 xs g1 e1 t1 ∧ Src P w K v2 ys g2 e2 t2 ∧ g1 H1 ∧ g2 H1 ∧ R (Itz2 xs ys g1 g2) H1
theorem pi_zip2 {X : Cx} {e e2 : Expr} {ta : TA} {p pos tpos : Pos} {elts : List Expr} {kk : Nat} (hg : Gl X "zip") (hm : X.mg "zip" = none) (ha : PA X [e, e2] ta)
    (hs : starEach [e, e2] X.env = (false, eval e X.env) :: starEach [e2] X.env := by rfl) (hpl : (backTo pos (starEach [e2] X.env)).any (·.1) = false := by rfl) :
    PI X (.Tuple elts kk tpos) (.Call (.Name "zip" p) [e, e2] [] pos) (iZip2 X.prog X.w X.K ta) := by
  refine ⟨fun pins s σ H R I h => ?_⟩
  refine Call_ (ld_blt I hg hm PyProof.Rows.boot_zip (PyProof.Rows.callWith_type1 (thn (ha.run pos pins s σ H _ I h) fun us s1 ⟨vs, H1, I1, r1, q1⟩ => ?_) hs hpl))
  obtain ⟨v1, v2, xs, ys, g1, g2, x1, x2, t1, t2, ex, S1, S2, gx, gy, q⟩ := q1
  subst ex
  cases r1 with
  | cons r rr =>
    cases rr with
    | cons r' rr =>
      cases rr
      obtain ⟨b1, o1, HH1, B1, h1, k1⟩ := S1.beg X rfl rfl rfl pins s1 σ H1 _ I1 gx r
      obtain ⟨b2, o2, HH2, B2, h2, k2⟩ := S2.beg X rfl rfl rfl pins s1 σ H1 _ I1 gy r'
      refine zip_begins2 B1 B2 h1 h2 fun h' hz hTI hTO e1 e2 hsz hk => wpAny_pyIter_zip hz ?_
      have I2 : Inv X pins σ H1 { s1 with heap := h' } := I1.kept (t' := s1.toks) hk
      refine ⟨s1.heap.objs.size + 4, [s1.heap.objs.size + 4, s1.heap.objs.size + 2, s1.heap.objs.size + 3, s1.heap.objs.size, s1.heap.objs.size + 1], _, _, H1, rfl, I2,
        turn_zip2 S1 S2 (zip_sep2 b1 b2) (fun z => Nat.lt_irrefl _ (b1 _ z)) (fun z => Nat.lt_irrefl _ (Nat.lt_trans (Nat.lt_succ_self _) (b2 _ z))), ⟨hz, hTI, ⟨_, _, hTO⟩, k1 _ _ e1, k2 _ _ e2⟩, fun c hcm => ?_, q⟩
      have e' : c = s1.heap.objs.size + 4 ∨ c = s1.heap.objs.size + 2 ∨ c = s1.heap.objs.size + 3 ∨ c = s1.heap.objs.size ∨ c = s1.heap.objs.size + 1 := by simpa using hcm
      have hle : s1.heap.objs.size ≤ c := by
        rcases e' with z | z | z | z | z
        · rw [z]; exact Nat.le_add_right _ _
        · rw [z]; exact Nat.le_add_right _ _
        · rw [z]; exact Nat.le_add_right _ _
        · rw [z]; exact Nat.le_refl _
        · rw [z]; exact Nat.le_add_right _ _
      exact I1.fpOk hle (I1.hok.fresh hle)

/-! as readings -/
def seqD : PyData → Option (List PyData)
  | .str z => some (z.cps.toList.map fun c => .str ⟨#[c]⟩)
  | .list xs => some xs
  | .tuple xs => some xs
  | _ => none
theorem frAll_str {K : PySem.W.Frag} {Z : Hp} : ∀ l : List Nat, FrAll K Z (l.map fun c => V.str ⟨#[c]⟩) (l.map fun c => PyData.str ⟨#[c]⟩)
  | [] => .nil
  | c :: l => .cons (.str _) (frAll_str l)
theorem src_of {P : Program} {w : World} {K : PySem.W.Frag} {Z : Hp} {v : V} {x : PyData} {ds : List PyData} (f : Fr K Z v x) (e : seqD x = some ds) :
    ∃ (xs : List V) (g : Hp → Prop) (ex : List Addr) (t : Addr → Nat → Heap → Prop), Src P w K v xs g ex t ∧ FrAll K Z xs ds ∧ ∀ Z' H, Sub Z Z' → Sub Z' H → g H := by
  cases f with
  | str z => cases e; exact ⟨_, _, _, _, src_str, frAll_str _, fun _ _ _ _ => trivial⟩
  | lst h a => cases e; exact ⟨_, _, _, _, src_list, a, fun Z' H s1 s2 => .inl (Rd.sub (Rd.sub h s1) s2)⟩
  | tup h a => cases e; exact ⟨_, _, _, _, src_tup, a, fun Z' H s1 s2 => sqT_sub (sqT_sub h s1) s2⟩
  | _ => cases e
def zipD : List PyData → Option (List PyData)
  | [x, y] => match seqD x, seqD y with
    | some xs, some ys => some (List.zipWith (fun a b => .tuple [a, b]) xs ys)
    | _, _ => none
  | _ => none
def zipE (ga : M (List AV)) : M (List PyData) := ga >>= fun as => M.lift ((frs as).bind zipD)
theorem goes_zip {K : PySem.W.Frag} {T : List (Addr × Str)} {Z : Hp} {xs ys : List V} {ds es : List PyData} {g1 g2 : Hp → Prop} (fx : FrAll K Z xs ds) (fy : FrAll K Z ys es) (h1 : ∀ Z' H, Sub Z Z' → Sub Z' H → g1 H) (h2 : ∀ Z' H, Sub Z Z' → Sub Z' H → g2 H) :
    Goes K T Z (Itz2 xs ys g1 g2) (List.zipWith (fun a b => PyData.tuple [a, b]) ds es) := fun Z1 R S σ H s1 rel i => by
  have l1 := fx.length
  have l2 := fy.length
  refine ⟨fun hi => ⟨h1 _ _ s1 rel.z, h2 _ _ s1 rel.z, by rw [hi, List.length_zipWith, l1, l2]⟩, fun d hd => ?_⟩
  obtain ⟨dx, dy, e1, e2, rfl⟩ : ∃ dx dy, ds[i]? = some dx ∧ es[i]? = some dy ∧ PyData.tuple [dx, dy] = d := by
    rw [List.getElem?_zipWith] at hd
    split at hd
    · rename_i a b e1 e2
      exact ⟨a, b, e1, e2, Option.some.inj hd⟩
    · cases hd
  have k1 : i < ds.length := (List.getElem?_eq_some_iff.mp e1).1
  have k2 : i < es.length := (List.getElem?_eq_some_iff.mp e2).1
  refine ⟨⟨h1 _ _ s1 rel.z, h2 _ _ s1 rel.z, by omega⟩, fun x H' ⟨t, u, w, ex, ht, eH, hx, hy⟩ => ?_⟩
  subst ex eH
  obtain ⟨u', a1, f1⟩ := fx.get e1
  obtain ⟨w', a2, f2⟩ := fy.get e2
  rw [hx] at a1; cases a1
  rw [hy] at a2; cases a2
  have r2 := rel.frozen ht (.tup [u, w]) (fun _ z => by cases z)
  have zp : Z1 t = none := by
    cases e : Z1 t with
    | none => rfl
    | some o => rw [rel.z _ _ e] at ht; cases ht
  exact ⟨upd Z1 t (.tup [u, w]), sub_upd _ zp, r2, .tup (SqT.of upd_same) (.cons (f1.sub (s1.trans (sub_upd _ zp))) (.cons (f2.sub (s1.trans (sub_upd _ zp))) .nil))⟩
section
variable {X : Cx} {T : List (Addr × Str)} {e e2 : Expr} {ga : M (List AV)} {p pos tpos : Pos} {elts : List Expr} {kk : Nat}
theorem evi_zip (hg : Gl X "zip") (hm : X.mg "zip" = none) (ha : EVA X T [e, e2] ga)
    (hs : starEach [e, e2] X.env = (false, eval e X.env) :: starEach [e2] X.env := by rfl) (hpl : (backTo pos (starEach [e2] X.env)).any (·.1) = false := by rfl) :
    EVI X T (.Tuple elts kk tpos) (.Call (.Name "zip" p) [e, e2] [] pos) (zipE ga) := pi_mono (pi_zip2 hg hm ha hs hpl) fun σ H R0 ⟨Z, h⟩ => by
  refine ⟨Z, rz_mono (ra_bind PIt.mono h) fun Z R as S p vs H1 Z1 s1 r1 a1 => ?_⟩
  obtain ⟨us, Z2, s2, o2, h2⟩ := p vs H1 Z1 s1 r1 a1
  obtain ⟨ds, R3, S3, e, rel, pf⟩ := rz_lift h2
  cases q : frs us with
  | none => rw [q] at e; cases e
  | some as =>
    rw [q] at e
    have e : zipD as = some ds := e
    unfold zipD at e
    split at e
    · rename_i x y
      split at e
      · rename_i xs ys q1 q2
        cases e
        have f := o2.frs q
        cases f with
        | cons f1 f =>
          cases f with
          | cons f2 f =>
            cases f
            obtain ⟨us1, g1, x1, t1, S1, k1, m1⟩ := src_of (P := X.prog) (w := X.w) f1 q1
            obtain ⟨us2, g2, x2, t2, S2, k2, m2⟩ := src_of (P := X.prog) (w := X.w) f2 q2
            exact ⟨_, _, us1, us2, g1, g2, x1, x2, t1, t2, rfl, S1, S2, m1 _ _ (Sub.refl _) rel.z, m2 _ _ (Sub.refl _) rel.z, pf _ H1 Z2 (Sub.refl _) rel (goes_zip k1 k2 m1 m2)⟩
      · cases e
    · cases e
end
end PL

/-! PL22: for k, v in D.items(), D a dict of the written program -/
namespace PL
open PySem PySem.Spec PyProof.Rows L2 LamX

/-- entries as pairs -/
inductive CPair (K : PySem.W.Frag) : List DictEntry → List (V × V) → List (PyData × PyData) → Prop
  | nil : CPair K [] [] []
  | cons {e : DictEntry} {k v : V} {a x : PyData} {es : List DictEntry} {vs : List (V × V)} {tab : List (PyData × PyData)} : RelV k e.key → (∀ Z, Fr K Z k a) → RelV v e.val → (∀ Z, Fr K Z v x) → CPair K es vs tab → CPair K (e :: es) ((k, v) :: vs) ((a, x) :: tab)
structure CItm (K : PySem.W.Frag) (d : Addr) (tab : List (PyData × PyData)) : Prop where
  ex : ∃ es n vs, K.lookup d = some ⟨.type "dict", none, .dict es n, #[]⟩ ∧ CPair K es.toList vs tab
  low : (d == sysModules) = false
section
variable {K : PySem.W.Frag}
theorem CPair.len {es : List DictEntry} {vs : List (V × V)} {tab : List (PyData × PyData)} (h : CPair K es vs tab) : es.length = vs.length ∧ vs.length = tab.length := by
  induction h with
  | nil => exact ⟨rfl, rfl⟩
  | cons _ _ _ _ _ ih => exact ⟨congrArg (· + 1) ih.1, congrArg (· + 1) ih.2⟩
theorem CPair.at {es : List DictEntry} {vs : List (V × V)} {tab : List (PyData × PyData)} (h : CPair K es vs tab) : ∀ (i : Nat) (e : DictEntry), es[i]? = some e → ∃ p q, vs[i]? = some p ∧ tab[i]? = some q ∧ RelV p.1 e.key ∧ RelV p.2 e.val ∧ (∀ Z, Fr K Z p.1 q.1) ∧ ∀ Z, Fr K Z p.2 q.2 := by
  induction h with
  | nil => intro i e q; simp at q
  | cons h1 h2 h3 h4 _ ih =>
    intro i e q
    cases i with
    | zero => simp at q; subst q; exact ⟨_, _, rfl, rfl, h1, h3, h2, h4⟩
    | succ i => exact ih i e (by simpa using q)
theorem CEnt.pairs {es : List DictEntry} {tab : List (Int × PyData)} (h : CEnt K es tab) : ∃ vs, CPair K es vs (tab.map fun p => (.int p.1, p.2)) := by
  induction h with
  | nil => exact ⟨_, .nil⟩
  | @cons e i t v x es tab h1 h2 h3 h4 _ ih =>
    obtain ⟨vs, ih⟩ := ih
    exact ⟨_, .cons (k := .int i) (by rw [h1]; exact ⟨t, rfl⟩) (fun _ => .int i) h3 h4 ih⟩
theorem CInt.itm {d : Addr} {tab : List (Int × PyData)} (D : CInt K d tab) : CItm K d (tab.map fun p => (.int p.1, p.2)) := by
  obtain ⟨es, n, hl, ce⟩ := D.ex
  obtain ⟨vs, cp⟩ := ce.pairs
  exact ⟨⟨es, n, vs, hl, cp⟩, D.low⟩
end
def Itc (vs : List (V × V)) : It :=
  ⟨fun i _ => i < vs.length, fun i H v H' => ∃ T p, v = .ref T ∧ H T = none ∧ H' = upd H T (.tup [p.1, p.2]) ∧ vs[i]? = some p, fun i _ => i = vs.length⟩
theorem turn_citems {P : Program} {w : World} {K : PySem.W.Frag} {d it : Addr} {es : Array DictEntry} {n : Nat} {vs : List (V × V)} {tab : List (PyData × PyData)} {elts : List Expr} {kk : Nat} {tpos : Pos}
    (hl : K.lookup d = some ⟨.type "dict", none, .dict es n, #[]⟩) (ce : CPair K es.toList vs tab) :
    Turn P w K (.Tuple elts kk tpos) (Itc vs) [it] it (fun i h => ∃ ok ov, IsItemIter h it d i es.size n ok ov) where
  mem := by simp
  obj := fun i h st b hb => by
    have e : b = it := by simpa using hb
    subst e
    obtain ⟨ok, ov, e⟩ := st
    exact ⟨_, e, fun v z => nomatch z⟩
  keep := fun i h h' st k => let ⟨ok, ov, e⟩ := st; ⟨ok, ov, k it (by simp) _ e⟩
  item := by
    intro X hP hw hK hc i pins s σ H E I hf st hg
    subst hP hw hK
    obtain ⟨ok, ov, he⟩ := st
    have hi : i < vs.length := hg
    have hsz : es.size = vs.length := by rw [← Array.length_toList]; exact ce.len.1
    have hi2 : i < es.size := by omega
    obtain ⟨p, q, h1, h2, h3, h4, h5, h6⟩ := ce.at i es[i] (by rw [Array.getElem?_toList]; exact Array.getElem?_eq_getElem hi2)
    have hm : s.heap.DictRaw d es n := ⟨_, I.kIn _ _ hl, ⟨rfl, rfl, rfl⟩, rfl⟩
    have hlt : it < s.heap.objs.size := Heap.lt_size he
    refine wpAny_pyNext_items_item_raw he hm hi2 fun h' ho hT hz hk => ?_
    refine ⟨_, rfl, wpAny_letOwnedTupleGo_items (s := { s with heap := h' }) ho fun h'' he' sb => ?_⟩
    have hT2 : h''.get? s.heap.objs.size = some { cls := .type "tuple", data := .seq #[es[i].key, es[i].val] } := (sb.2 _ (Nat.ne_of_gt hlt)).trans hT
    have new : ObjOk X.prog X.w (upd H s.heap.objs.size (.tup [p.1, p.2])) h'' s.heap.objs.size (.tup [p.1, p.2]) :=
      ⟨by show 2 ≤ sizeLine; decide, [es[i].key, es[i].val], .cons h3 (.cons h4 .nil), ⟨_, hT2, rfl, _, rfl⟩⟩
    have I1 : Inv X pins σ (upd H s.heap.objs.size (.tup [p.1, p.2])) { s with heap := h'' } :=
      I.turnedNew (t' := s.toks) (ch := [it]) (fun b ob hb e => (sb.2 b (by simpa using hb)).trans (hk b ob (by simpa using hb) e)) hf (Nat.le_refl _) new
    refine ⟨.ref s.heap.objs.size, _, I1, rfl, ⟨_, p, rfl, I.hok.fresh (Nat.le_refl _), rfl, h1⟩, ⟨_, _, he'⟩, fun b hb => ?_⟩
    have e : b = it := by simpa using hb
    rw [e, upd_ne (Nat.ne_of_lt hlt)]
    exact (hf it (by simp)).1
  done := by
    intro X hP hw hK hc i pins s σ H E I hf st hg
    subst hP hw hK
    obtain ⟨f0, f1, f2, f3, f4, f5⟩ := hf it (by simp)
    obtain ⟨ok, ov, he⟩ := st
    have hi : i = vs.length := hg
    have hsz : es.size = vs.length := by rw [← Array.length_toList]; exact ce.len.1
    have hm : s.heap.DictRaw d es n := ⟨_, I.kIn _ _ hl, ⟨rfl, rfl, rfl⟩, rfl⟩
    exact wpAny_pyNext_items_end_raw (I.ok.hd hc) he hm (by omega) fun h' eb => ⟨rfl, I.turned (t' := s.toks) (fun b ob hb e => eb b ob hb e) f0 f1 f3 f4 f5⟩
  self := fun A i s Q E st h => let ⟨_, _, e⟩ := st; PySem.W.kcp_self e h
def iCItems (td : TE) (d : Addr) (vs : List (V × V)) : TI := fun σ H R => td σ H fun x H1 => x = .ref d ∧ R (Itc vs) H1
section
variable {X : Cx} {e : Expr} {td : TE} {apos cpos : Pos}
theorem pi_citems {elts : List Expr} {kk : Nat} {tpos : Pos} {d : Addr} {es : Array DictEntry} {n : Nat} {vs : List (V × V)} {tab : List (PyData × PyData)} (hl : X.K.lookup d = some ⟨.type "dict", none, .dict es n, #[]⟩) (ce : CPair X.K es.toList vs tab) (low : (d == sysModules) = false)
    (he : PE X e td) (hbase : attributeBase e "items" X.env (eval e X.env) = eval e X.env := by rfl) (hline : (apos.endLine == cpos.line) = true := by rfl) :
    PI X (.Tuple elts kk tpos) (.Call (.Attribute e "items" apos) [] [] cpos) (iCItems td d vs) := by
  refine ⟨fun pins s σ H R I h => ?_⟩
  refine wpAny_Call_method (T := "dict") (id := "dict.items") hbase rfl hline F.plainAttrs_dict F.slot_dict_items F.type_dict_items (thn (he.run pins s σ H _ I h) fun u s1 ⟨x, H1, I1, rx, ex, q⟩ => ?_)
  subst ex
  obtain rfl : u = Value.ref d := rx
  have hm : s1.heap.DictRaw d es n := ⟨_, I1.kIn _ _ hl, ⟨rfl, rfl, rfl⟩, rfl⟩
  refine ⟨hm.typeIs, (fun a e => by cases e; exact ⟨_, I1.kIn _ _ hl, rfl⟩), ?_⟩
  have I2 : Inv X pins σ H1 { s1 with heap := s1.heap.push { cls := .type "dict_items", data := .fields #[.ref d] } } := I1.kept (t' := s1.toks) fun b ob q => Heap.get?_push_of_some _ q
  have fin : wpAny (model X.prog X.w) X.A (pyIter (.ref s1.heap.objs.size)) (PIE X pins σ (.Tuple elts kk tpos) R) X.xe { s1 with heap := s1.heap.push { cls := .type "dict_items", data := .fields #[.ref d] } } := by
    refine wpAny_pyIter_items_raw (d := d) ⟨_, Heap.get?_push_size _ rfl, rfl, rfl⟩ (hm.at fun _ e => Heap.get?_push_of_some _ e) (pi_one (tk := s1.toks) I2 _ (turn_citems hl ce) ⟨.none, .none, ?_⟩ q)
    exact Heap.get?_push_size _ rfl
  show wpAny _ _ (callWith cpos (.builtin "dict.items") [.ref d] [] []) _ X.xe s1
  exact method_meetsIn F.slot_dict_items F.entry_dict_items rfl (PySem.evalArgs_none ⟨rfl, hm.typeIs, F.args_dict_items_1 _, _, meets_dict_items_raw d low, ⟨_, _, hm⟩, fin⟩)

def citM (tab : List (PyData × PyData)) : M (List PyData) := M.ret (tab.map fun p => .tuple [p.1, p.2])
theorem evi_citems {T : List (Addr × Str)} {x : Str} {p : Pos} {elts : List Expr} {kk : Nat} {tpos : Pos} {d : Addr} {tab : List (PyData × PyData)} (D : CItm X.K d tab) (hg : Gl X x) (hm : X.mg x = some (.ref d)) (hd : (x == ("__debug__" : Str)) = false := by decide)
    (hbase : attributeBase (.Name x p) "items" X.env (eval (.Name x p) X.env) = eval (.Name x p) X.env := by rfl) (hline : (apos.endLine == cpos.line) = true := by rfl) :
    EVI X T (.Tuple elts kk tpos) (.Call (.Attribute (.Name x p) "items" apos) [] [] cpos) (citM tab) := by
  obtain ⟨es, n, vs, hl, cp⟩ := D.ex
  refine pi_mono (pi_citems hl cp D.low (pe_glob (v := .ref d) hg hm rfl hd) hbase hline) fun σ H R0 ⟨Z, h⟩ => ?_
  obtain ⟨R, S, rel, pf⟩ := rz_ret h
  have hlen := cp.len
  refine ⟨rfl, pf _ H Z (Sub.refl _) rel fun Z1 R1 S1 σ1 H1 s1 rel1 i => ⟨fun hi => ?_, fun q hq => ?_⟩⟩
  · show i = vs.length
    rw [hi, List.length_map]; exact hlen.2.symm
  · rw [List.getElem?_map] at hq
    cases e : tab[i]? with
    | none => rw [e] at hq; cases hq
    | some q0 =>
      rw [e] at hq
      cases hq
      have hi : i < tab.length := (List.getElem?_eq_some_iff.mp e).1
      have hi2 : i < es.toList.length := by omega
      obtain ⟨v0, q1, h1, h2, h3, h4, h5, h6⟩ := cp.at i _ (List.getElem?_eq_getElem hi2)
      rw [e] at h2
      cases h2
      refine ⟨by show i < vs.length; omega, fun x H' ⟨t, p, ex, ht, eH, hp⟩ => ?_⟩
      subst ex eH
      rw [h1] at hp
      cases hp
      have r2 := rel1.frozen ht (.tup [v0.1, v0.2]) (fun _ z => by cases z)
      have zp : Z1 t = none := by
        cases e : Z1 t with
        | none => rfl
        | some o => rw [rel1.z _ _ e] at ht; cases ht
      exact ⟨upd Z1 t (.tup [v0.1, v0.2]), sub_upd _ zp, r2, .tup (SqT.of upd_same) (.cons (h5 _) (.cons (h6 _) .nil))⟩
end
end PL

/-! PL23: {..}[x]; s.count(t) -/
namespace PL
open PySem PySem.Spec PyProof.Rows L2 LamX
section
variable {X : Cx} {T : List (Addr × Str)} {mp : List Nat} {e : Expr} {fe : M OV} {pos : Pos} {Z R H : Hp} {S : SS} {σ : L2.St}
/-- a displayed dict at a text that the slot i holds -/
def dispIx (i : Nat) (f : M OV) : M OV := f >>= fun o => fun S => match o, S[i]? with
  | .dct xs, some (some (.d (.str k))) => match getO xs (.inr k) with
    | some (.d y) => some (.ok (.d y), S)
    | _ => none
  | _, _ => none
theorem ev_dispIx {i : Nat} {x : Str} {px : Pos} (hu : X.A.units + 1 < cLine) (he : EV X T e fe) (hN : X.N[i]? = some x) (hv : Vis X.env.scope x) (hd : (x == ("__debug__" : Str)) = false := by decide) (hcd : (x == ("__classdict__" : Str)) = false := by decide) (hs : NoSl (.Name x px) := by intro _ _; rfl) :
    EV X T (.Subscript e (.Name x px) pos) (dispIx i fe) := pe_mono (pe_dget hu he (pe_var hN hv hd hcd) hs) fun σ H Q ⟨Z, h⟩ => by
  refine ⟨Z, rz_mono (rd_bind POk.mono h) fun Z R o S p v H1 Z1 s1 r1 => ?_⟩
  obtain ⟨o', Z2, R2, S2, r, S', W, s2, rel, er, tk, q⟩ := p v H1 Z1 s1 r1
  split at er
  · rename_i xs k e2
    split at er
    · rename_i y q1
      cases er
      obtain ⟨a, ws, L, h1, h2, h3, _⟩ := Rel.dct (i := 0) rel rfl
      simp at h1
      subst h1
      obtain ⟨v, Lv, g1, g2, _⟩ := ownD_get h3 q1
      obtain ⟨_, f⟩ := g2.frz
      obtain ⟨u, h4, f4⟩ := rel.pop.get e2
      cases f4
      refine ⟨_, h4, a, v, rfl, ?_, q v H1 Z2 (Sub.refl _) (rel.pop.push f)⟩
      rw [← g1]
      exact DGet.k (k := .inr k) h2
    · cases er
  · cases er
end
end PL

/-! PL24: try: x = the lambda() except C as n: x = n; return x; a def whose code object is known; str.count -/
namespace PL
open PySem PySem.Spec PyProof.Rows L2 LamX

section
variable {X : Cx}
theorem set3b {σ : L2.St} {v : Option V} (h : σ.length = 3) {u : Option V} : ((σ.set 2 u).set 1 v).set 2 none = [σ[0], v, none] := set3 h
theorem keep2_gives {Ng : List Str} {x a e n r q : Str} {sg : Scope} {g CS : Addr} {cdg : Value} {p2 p4 p5 p6 p7 p8 p9 p10 p11 p12 p13 p14 : Pos} (hNg : Ng = [a, r, n]) (nd : Ng.Nodup) (hge : sg.names.lookup e = some .globalImplicit) (hme : X.mg e = some (.ref CS)) (hde : (e == ("__debug__" : Str)) = false)
    (hla : sg.names.lookup a = some .local) (hlr : sg.names.lookup r = some .local) (hln : sg.names.lookup n = some .local) (hdr : (r == ("__debug__" : Str)) = false) (hdr2 : (r == ("__classdict__" : Str)) = false) (hdn : (n == ("__debug__" : Str)) = false) (hdn2 : (n == ("__classdict__" : Str)) = false)
    (hsw2 : ∀ Y : Cx, Y.env.scope = sg → swapsWith (.Call (.Name a p4) [] [] p5) (some (.Name r p2)) p6.line Y.env = pure false) (hsw3 : ∀ Y : Cx, Y.env.scope = sg → swapsWith (.Name n p8) (some (.Name r p9)) p10.line Y.env = pure false) :
    GivesTo X Ng x sg g cdg [.Try [.Assign [.Name r p2] (.Call (.Name a p4) [] [] p5) p6] [.ExceptHandler (some (.Name e p7)) (some n) [.Assign [.Name r p9] (.Name n p8) p10] p11] [] [] p12, .Return (some (.Name r p13)) p14] a q (TKeep X.K CS true) := by
  subst hNg
  intro f c' s H Q tl act hc h
  have hgl : Gl (cxOf C8.CX0 X.prog X.w X.K X.mg X.base [a, r, n] x sg g cdg X.A X.stack s H C8.E0).nox e := hge
  refine ⟨_, pss_cons (ps_try_keep (X := (cxOf C8.CX0 X.prog X.w X.K X.mg X.base [a, r, n] x sg g cdg X.A X.stack s H C8.E0).nox) (i := 2) (c := .ref CS)
      (ts := fun a cls d => tAsg (tVar 2) (gName 1))
      (tb := fun W D σ H => σ = [some (.ref f), none, none] ∧ ∃ Ech : XK, (∀ cls d σ' H', Ech cls d H' → σ'.length = 3 → W cls d σ' H') ∧ H c' = some (CodeO c' q) ∧ tl Ech H fun v H1 => D.nx (σ.set 1 (some v)) H1)
      rfl rfl rfl nd rfl hln ⟨hgl, hde, .inl hme⟩ L2.takes0 (fun W pn xe tk _ => ?_) (fun a oe cls d pn _ _ => pss_one (ps_set (i := 1) nd rfl (.inl hlr) (pe_var (i := 2) rfl (.inl hln) hdn hdn2) (hsw3 _ rfl) (.inl rfl))))
    (pss_one (ps_ret (pe_var (i := 1) rfl (.inl hlr) hdr hdr2))), ?_⟩
  · refine ⟨fun pins s' σ H' D I h' => ?_⟩
    obtain ⟨hσ, Ech, hW, h2, h3⟩ := h'
    have hp := act _ pn xe Ech p4 p5 (takesLen tk) (fun cls d σ' H' h hl => hW cls d σ' H' h hl)
    have hq := pss_one (ps_set (i := 1) (pos := p6) (pos' := p2) nd rfl (.inl hlr) hp (hsw2 _ rfl) (.inl rfl))
    exact hq.run pins s' σ H' D I ⟨by rw [hσ]; rfl, h2, h3⟩
  · refine ⟨rfl, fun cls d H' => ∃ b, PySem.W.exmOne X.K cls (.ref CS) = some b ∧ (b = true → ∀ a, H' a = none → Q (.ref a) (upd H' a (ExV cls d a))) ∧ (b = false → False), fun cls d σ' H' ⟨b, e1, e2, e3⟩ hl => ⟨b, e1, fun hb a' ha' => ?_, fun hb => e3 hb⟩, hc, ?_⟩
    · match σ', hl with
      | [s0, s1, s2], _ => exact ⟨.ref a', rfl, .ref a', rfl, e2 hb a' ha'⟩
    · have ef : (fun (v : V) (H' : Hp) => Q v H') = fun (v : V) (H1 : Hp) => ∃ w, ([some (V.ref f), none, none].set 1 (some v))[1]? = some (some w) ∧ Q w H1 := by
        funext v H1
        exact propext ⟨fun h => ⟨v, rfl, h⟩, fun ⟨w, e, h⟩ => by cases e; exact h⟩
      have h' : tl (fun cls d H' => ∃ b, PySem.W.exmOne X.K cls (.ref CS) = some b ∧ (b = true → ∀ a, H' a = none → Q (.ref a) (upd H' a (ExV cls d a))) ∧ (b = false → False)) H (fun v H' => Q v H') := h
      rw [ef] at h'
      exact h'
end

/-! ### a def whose code object is known -/
structure FunC (K : PySem.W.Frag) (x qual : Str) (st : Stmt) (f : Addr) (fd : FuncData) (cl : Addr) : Prop where
  ex : ∃ (oc : Value) (od : Option Addr) (kV doc pm : Value) (an : Option Addr) (ct : Value) (osl : Array (Option Value)),
    fd = PySem.W.fnOf x qual (defArgs st) (defBody st) (defScope st) .none kV doc pm an (.ref cl) ct ∧ K.lookup f = some ⟨oc, od, .func fd, osl⟩ ∧ PySem.W.codeIn K (.ref cl) qual = true
  kp : PySem.W.keepIn K (.ref f) = true
section
variable {P : Program} {w : World} {K : PySem.W.Frag} {mg : Str → Option Value} {base : Heap} {T : List (Addr × Str)}
theorem FunC.fn {x qual : Str} {st : Stmt} {f cl : Addr} {fd : FuncData} (F : FunC K x qual st f fd cl) : Fun K x qual st f fd := by
  obtain ⟨oc, od, kV, doc, pm, an, ct, osl, h⟩ := F.ex
  exact ⟨⟨oc, od, kV, doc, pm, an, _, ct, osl, h⟩, F.kp⟩
theorem def_okC {x qual : Str} {st : Stmt} {f cl : Addr} {fd : FuncData} {N ps : List Str} {k : Nat} {mp : List Nat} {fden : SM} (F : FunC K x qual st f fd cl) (S : FnScope N ps (defScope st)) (hmp : mp.all (fun i => decide (i < ps.length)) = true)
    (hb : ∀ (A : Around) (outer : List Env) (s : Shared) (H : Hp) (E : XK), Room k (A.deeper (envOfC qual (defScope st) s.heap.objs.size f (.ref cl))) →
      SVs (cxOf (L2.CX P w) P w K mg base N qual (defScope st) f (.ref cl) A outer s H E) T mp (defBody st) fden) : DefOk P w K T mg base (k + 1) f fd ps (runF ps.length N.length mp fden) := by
  obtain ⟨oc, od, kV, doc, pm, an, ct, osl, rfl, lk, hcd⟩ := F.ex
  refine fn_of lk hcd S (fun vs H Q E h => h.1) fun A outer s H vs Q E hr h => ⟨_, hb A outer s H E hr, ?_⟩
  exact body_of (X := cxOf (L2.CX P w) P w K mg base N qual (defScope st) f (.ref cl) A outer s H E) rfl (fun i hi => of_decide_eq_true (List.all_eq_true.mp hmp i hi)) (takes_of rfl rfl rfl rfl) h
theorem funC_mk {x qual : Str} {st : Stmt} {f cl : Addr} {oc : Value} {od : Option Addr} {kV doc pm : Value} {an : Option Addr} {ct : Value} {osl : Array (Option Value)}
    (l : K.lookup f = some ⟨oc, od, .func (PySem.W.fnOf x qual (defArgs st) (defBody st) (defScope st) .none kV doc pm an (.ref cl) ct), osl⟩) (c : PySem.W.codeIn K (.ref cl) qual = true) (p : PySem.W.keepIn K (.ref f) = true) :
    FunC K x qual st f (PySem.W.fnOf x qual (defArgs st) (defBody st) (defScope st) .none kV doc pm an (.ref cl) ct) cl := ⟨⟨_, _, _, _, _, _, _, _, rfl, l, c⟩, p⟩
end

/-! ### s.count(t) -/
section
variable {X : Cx} {T : List (Addr × Str)}
def oCount : PyData → List PyData → Option OV
  | .str a, [.str b] => okI (Txt.count a b : Int)
  | _, _ => none
def rCountA : V → List V → Hp → VK → Prop := fun x xs H Q => ∃ a b, x = .str a ∧ xs = [.str b] ∧ Q (.int (Txt.count a b)) H
theorem mt_countA : MtR X "str.count" rCountA := mt_count
theorem mg_count : MethG X T rCountA oCount := by
  intro Z v vs x xs o σ H Q sz hv hvs e fin
  unfold oCount at e
  split at e
  · cases e
    obtain ⟨w, rfl, hw⟩ := hvs.one
    exact ⟨_, _, hv.str, by rw [hw.str], fin.val (.int _)⟩
  · cases e
end
end PL

/-! PL25: written data of the program, decided by a look at the written part -/
namespace PL
open PySem PySem.Spec PyProof.Rows L2 LamX

def eqStrB (s t : Str) : Bool := s.cps.toList == t.cps.toList
theorem eqStrB_ok {s t : Str} (h : eqStrB s t = true) : s = t := by
  obtain ⟨⟨a⟩⟩ := s
  obtain ⟨⟨b⟩⟩ := t
  unfold eqStrB at h
  have h : a = b := by simpa using h
  rw [h]
mutual
def wrB (K : PySem.W.Frag) : PyData → Value → Bool
  | .none, .none => true
  | .bool b, .bool c => b == c
  | .int i, .int j _ => decide (i = j)
  | .str s, .str t _ => eqStrB s t
  | .tuple xs, .ref a => (match K.lookup a with
    | some ⟨.type c, _, .seq its _, _⟩ => decide (c = "tuple") && (Nat.ble its.size 1000 && wrBL K xs its.toList)
    | _ => false)
  | _, _ => false
def wrBL (K : PySem.W.Frag) : List PyData → List Value → Bool
  | [], [] => true
  | x :: xs, u :: us => wrB K x u && wrBL K xs us
  | _, _ => false
end
/-- u is written as x -/
def Wr (K : PySem.W.Frag) (u : Value) (x : PyData) : Prop := ∃ v, RelV v u ∧ ∀ Z, Fr K Z v x
def WrL (K : PySem.W.Frag) (us : List Value) (xs : List PyData) : Prop := ∃ vs, Vals vs us ∧ ∀ Z, FrAll K Z vs xs
section
variable {K : PySem.W.Frag}
mutual
theorem wrB_ok : ∀ {x : PyData} {u : Value}, wrB K x u = true → Wr K u x
  | .none, u, h => by
    cases u with
    | none => exact ⟨.non, rfl, fun _ => .non⟩
    | _ => simp [wrB] at h
  | .bool b, u, h => by
    cases u with
    | bool c => simp [wrB] at h; subst h; exact ⟨.bl b, rfl, fun _ => .bl b⟩
    | _ => simp [wrB] at h
  | .int i, u, h => by
    cases u with
    | int j t => simp [wrB] at h; subst h; exact ⟨.int i, ⟨t, rfl⟩, fun _ => .int i⟩
    | _ => simp [wrB] at h
  | .str s, u, h => by
    cases u with
    | str z t =>
      have h : eqStrB s z = true := by simpa [wrB] using h
      cases eqStrB_ok h
      exact ⟨.str s, ⟨t, rfl⟩, fun _ => .str s⟩
    | _ => simp [wrB] at h
  | .list xs, u, h => by cases u <;> simp [wrB] at h
  | .dict xs, u, h => by cases u <;> simp [wrB] at h
  | .tuple xs, u, h => by
    cases u with
    | ref a =>
      simp only [wrB] at h
      split at h
      · rename_i c d its n sl hl
        simp only [Bool.and_eq_true, decide_eq_true_eq, Nat.ble_eq] at h
        obtain ⟨rfl, h1, h2⟩ := h
        obtain ⟨vs, r, f⟩ := wrBL_ok h2
        exact ⟨.ref a, rfl, fun Z => .tup (.inr ⟨_, its, n, hl, rfl, rfl, Nat.le_trans h1 (by rw [sizeLine_eq]; decide), r⟩) (f Z)⟩
      · cases h
    | _ => simp [wrB] at h
theorem wrBL_ok : ∀ {xs : List PyData} {us : List Value}, wrBL K xs us = true → WrL K us xs
  | [], [], _ => ⟨[], .nil, fun _ => .nil⟩
  | [], _ :: _, h => by simp [wrBL] at h
  | _ :: _, [], h => by simp [wrBL] at h
  | x :: xs, u :: us, h => by
    simp only [wrBL, Bool.and_eq_true] at h
    obtain ⟨v, r, f⟩ := wrB_ok h.1
    obtain ⟨vs, rs, fs⟩ := wrBL_ok h.2
    exact ⟨v :: vs, .cons r rs, fun Z => .cons (f Z) (fs Z)⟩
end
/-! int keys -/
def ceB (K : PySem.W.Frag) : List DictEntry → List (Int × PyData) → Bool
  | [], [] => true
  | e :: es, p :: tab => (match e.key with
    | .int j _ => decide (j = p.1)
    | _ => false) && (decide (e.hash = hashInt p.1) && (wrB K p.2 e.val && ceB K es tab))
  | _, _ => false
theorem ceB_ok : ∀ {es : List DictEntry} {tab : List (Int × PyData)}, ceB K es tab = true → CEnt K es tab
  | [], [], _ => .nil
  | [], _ :: _, h => by simp [ceB] at h
  | _ :: _, [], h => by simp [ceB] at h
  | e :: es, (i, x) :: tab, h => by
    simp only [ceB, Bool.and_eq_true, decide_eq_true_eq] at h
    obtain ⟨h1, h2, h3, h4⟩ := h
    obtain ⟨v, r, f⟩ := wrB_ok h3
    split at h1
    · rename_i j t q
      have h1 : j = i := by simpa using h1
      subst h1
      exact .cons q h2 r f (ceB_ok h4)
    · cases h1
def cdI (K : PySem.W.Frag) (d : Addr) (tab : List (Int × PyData)) : Bool := match K.lookup d with
  | some ⟨.type c, none, .dict es _, sl⟩ => decide (c = "dict") && (sl.isEmpty && (!(d == sysModules) && ceB K es.toList tab))
  | _ => false
theorem cdI_ok {d : Addr} {tab : List (Int × PyData)} (h : cdI K d tab = true) : CInt K d tab := by
  unfold cdI at h
  split at h
  · rename_i c es n sl hl
    simp only [Bool.and_eq_true, decide_eq_true_eq, Bool.not_eq_true'] at h
    obtain ⟨rfl, h1, h2, h3⟩ := h
    have e1 : sl = #[] := Array.isEmpty_iff.mp h1
    subst e1
    exact ⟨⟨es, n, hl, ceB_ok h3⟩, h2⟩
  · cases h
/-! text keys -/
def csB (K : PySem.W.Frag) : List DictEntry → List (Str × PyData) → Bool
  | [], [] => true
  | e :: es, p :: tab => (match e.key with
    | .str j _ => eqStrB j p.1
    | _ => false) && (wrB K p.2 e.val && csB K es tab)
  | _, _ => false
def cdS (K : PySem.W.Frag) (d : Addr) (tab : List (Str × PyData)) : Bool := match K.lookup d with
  | some ⟨_, _, .dict es _, _⟩ => csB K es.toList tab
  | _ => false
theorem csB_find : ∀ {es : List DictEntry} {tab : List (Str × PyData)}, csB K es tab = true → ∀ z x, lookS tab z = some x → ∃ e, es.find? (·.key.isStr z) = some e ∧ Wr K e.val x
  | [], [], _, z, x, e => by simp [lookS] at e
  | [], _ :: _, h, _, _, _ => by simp [csB] at h
  | _ :: _, [], h, _, _, _ => by simp [csB] at h
  | e :: es, (k, y) :: tab, h, z, x, q => by
    simp only [csB, Bool.and_eq_true] at h
    obtain ⟨h1, h2, h3⟩ := h
    split at h1
    · rename_i j t hk
      cases eqStrB_ok h1
      by_cases hz : k = z
      · subst hz
        have : lookS ((k, y) :: tab) k = some y := by simp [lookS]
        rw [this] at q
        cases q
        exact ⟨e, by rw [List.find?_cons]; simp [hk, Value.isStr], wrB_ok h2⟩
      · have : lookS ((k, y) :: tab) z = lookS tab z := by simp [lookS, hz]
        rw [this] at q
        obtain ⟨e', g1, g2⟩ := csB_find h3 z x q
        refine ⟨e', ?_, g2⟩
        rw [List.find?_cons]
        have : e.key.isStr z = false := by rw [hk]; simp [Value.isStr, hz]
        rw [this]
        exact g1
    · cases h1
theorem cdS_ok {w : World} {d : Addr} {tab : List (Str × PyData)} {ks : List Str} (h1 : He.dicW K d = some (He.keysIn w.params ks)) (h2 : cdS K d tab = true) : CStr K w d tab := by
  obtain ⟨es, n, D⟩ := He.dicW_ok h1
  intro z x e
  unfold cdS at h2
  rw [D.at_] at h2
  obtain ⟨e', g1, v, r, f⟩ := csB_find h2 z x e
  refine ⟨v, ⟨es, n, e'.val, D.at_, D.lit, ?_, r⟩, f⟩
  unfold PySem.W.nsIn
  rw [D.at_]
  simp only
  rw [g1]
/-- a constant of the program -/
def cnB (K : PySem.W.Frag) (x : Str) (d : PyData) : Bool := match PySem.W.nsIn K mainGlobals x with
  | some (some u) => wrB K d u
  | _ => false
theorem cnB_ok {x : Str} {d : PyData} (h : cnB K x d = true) : ∃ u, PySem.W.nsIn K mainGlobals x = some (some u) ∧ Wr K u d := by
  unfold cnB at h
  split at h
  · rename_i u q
    exact ⟨u, q, wrB_ok h⟩
  · cases h
end
section
variable {X : Cx} {T : List (Addr × Str)} {x : Str} {p : Pos} {u : Value} {d : PyData}
/-- a constant's name -/
def CnG (K : PySem.W.Frag) (mg : Str → Option Value) (x : Str) (d : PyData) : Prop := ∃ u, mg x = some u ∧ Wr K u d
theorem ev_con (hg : Gl X x) (h : CnG X.K X.mg x d) (hd : (x == ("__debug__" : Str)) = false := by decide) : EV X T (.Name x p) (cst d) := by
  obtain ⟨u, hm, v, r, f⟩ := h
  exact ev_glob (v := v) hg hm r (fun _ => f _) hd
end
end PL

/-! PL26: more for reckoning: shapes, equality, texts -/
namespace PL
open PySem PySem.Spec PyProof.Rows L2 LamX

def Shp (n : Nat) (x : PyData) : Prop := PyData.canLay0 x = true ∧ PyData.depth x ≤ n
theorem Shp.mono {m n : Nat} {x : PyData} (h : Shp m x) (e : m ≤ n) : Shp n x := ⟨h.1, Nat.le_trans h.2 e⟩
theorem Shp.sh {n : Nat} {x : PyData} (h : Shp n x) (e : n ≤ 64 := by decide) : SeqAt.shaped x = true := by
  unfold SeqAt.shaped
  rw [Bool.and_eq_true]
  exact ⟨h.1, decide_eq_true (Nat.le_trans h.2 e)⟩
theorem shp_int (n : Nat) (i : Int) : Shp n (.int i) := ⟨by simp [PyData.canLay0], by simp [PyData.depth]⟩
theorem shp_bool (n : Nat) (i : Bool) : Shp n (.bool i) := ⟨by simp [PyData.canLay0], by simp [PyData.depth]⟩
theorem shp_none (n : Nat) : Shp n .none := ⟨by simp [PyData.canLay0], by simp [PyData.depth]⟩
theorem shp_str (n : Nat) {z : Str} (h : PyData.strOk z = true) : Shp n (.str z) := ⟨by simp [PyData.canLay0, h], by simp [PyData.depth]⟩
theorem shp_all {n : Nat} : ∀ {xs : List PyData}, (∀ x ∈ xs, Shp n x) → PyData.canLayAll0 xs = true ∧ PyData.depthAll xs ≤ n
  | [], _ => ⟨rfl, Nat.zero_le _⟩
  | x :: xs, h => by
    obtain ⟨h1, h2⟩ := shp_all (xs := xs) fun y hy => h y (List.mem_cons_of_mem _ hy)
    obtain ⟨g1, g2⟩ := h x List.mem_cons_self
    refine ⟨?_, ?_⟩
    · show (PyData.canLay0 x && PyData.canLayAll0 xs) = true
      rw [g1, h1]; rfl
    · show max (PyData.depth x) (PyData.depthAll xs) ≤ n
      exact Nat.max_le.mpr ⟨g2, h2⟩
theorem shp_tup {n : Nat} {xs : List PyData} (h : ∀ x ∈ xs, Shp n x) : Shp (n + 1) (.tuple xs) := by
  obtain ⟨h1, h2⟩ := shp_all h
  refine ⟨?_, ?_⟩
  · show PyData.canLayAll0 xs = true
    exact h1
  · simp only [PyData.depth]
    omega
theorem shp_lst {n : Nat} {xs : List PyData} (h : ∀ x ∈ xs, Shp n x) : Shp (n + 1) (.list xs) := by
  obtain ⟨h1, h2⟩ := shp_all h
  refine ⟨?_, ?_⟩
  · show PyData.canLayAll0 xs = true
    exact h1
  · simp only [PyData.depth]
    omega
theorem oEq_of {m n : Nat} {x y : PyData} (hx : Shp m x) (hy : Shp n y) (e1 : m ≤ 64 := by decide) (e2 : n ≤ 64 := by decide) : oEq x y = some (.d (.bool (PyData.eqv x y))) := by
  unfold oEq
  rw [hx.sh e1, hy.sh e2]
  rfl
theorem oNe_of {m n : Nat} {x y : PyData} (hx : Shp m x) (hy : Shp n y) (e1 : m ≤ 64 := by decide) (e2 : n ≤ 64 := by decide) : oNe x y = some (.d (.bool (!PyData.eqv x y))) := by
  unfold oNe
  rw [hx.sh e1, hy.sh e2]
  rfl
mutual
theorem eqv_refl : ∀ x : PyData, PyData.canLay0 x = true → PyData.eqv x x = true
  | .none, _ => by simp [PyData.eqv]
  | .bool b, _ => by simp [PyData.eqv]
  | .int i, _ => by simp [PyData.eqv]
  | .str s, _ => by simp [PyData.eqv]
  | .list xs, h => by
    have h : PyData.canLayAll0 xs = true := h
    simp only [PyData.eqv]
    exact eqvAll_refl xs h
  | .tuple xs, h => by
    have h : PyData.canLayAll0 xs = true := h
    simp only [PyData.eqv]
    exact eqvAll_refl xs h
  | .dict xs, h => by simp [PyData.canLay0] at h
theorem eqvAll_refl : ∀ xs : List PyData, PyData.canLayAll0 xs = true → PyData.eqvAll xs xs = true
  | [], _ => rfl
  | x :: xs, h => by
    have h : (PyData.canLay0 x && PyData.canLayAll0 xs) = true := h
    rw [Bool.and_eq_true] at h
    show (PyData.eqv x x && PyData.eqvAll xs xs) = true
    rw [eqv_refl x h.1, eqvAll_refl xs h.2]; rfl
end
theorem Shp.refl {n : Nat} {x : PyData} (h : Shp n x) : PyData.eqv x x = true := eqv_refl x h.1
/-- a number within bounds -/
def isNum : PyData → Int → Int → Bool
  | .int i, lo, hi => decide (lo ≤ i) && decide (i < hi)
  | _, _, _ => false
/-- data without exceptions at the top -/
def NX (x : PyData) : Prop := ∀ kvs, x ≠ .dict kvs
theorem Shp.nx {n : Nat} {x : PyData} (h : Shp n x) : NX x := fun kvs e => by
  subst e
  have := h.1
  simp [PyData.canLay0] at this
theorem shp_mem {n : Nat} : ∀ {xs : List PyData}, PyData.canLayAll0 xs = true → PyData.depthAll xs ≤ n → ∀ x ∈ xs, Shp n x
  | [], _, _, x, hx => by cases hx
  | y :: ys, h1, h2, x, hx => by
    have h1 : (PyData.canLay0 y && PyData.canLayAll0 ys) = true := h1
    rw [Bool.and_eq_true] at h1
    have h2 : max (PyData.depth y) (PyData.depthAll ys) ≤ n := h2
    obtain ⟨g1, g2⟩ := Nat.max_le.mp h2
    rcases List.mem_cons.mp hx with rfl | hx
    · exact ⟨h1.1, g1⟩
    · exact shp_mem h1.2 g2 x hx
theorem shp_mem_tup {n : Nat} {xs : List PyData} (h : Shp (n + 1) (.tuple xs)) : ∀ x ∈ xs, Shp n x := shp_mem h.1 (by have := h.2; simp only [PyData.depth] at this; omega)
theorem shp_mem_lst {n : Nat} {xs : List PyData} (h : Shp (n + 1) (.list xs)) : ∀ x ∈ xs, Shp n x := shp_mem h.1 (by have := h.2; simp only [PyData.depth] at this; omega)
/-! isinstance -/
def isTy (n : String) (x : PyData) : Bool := match tyName x with
  | some m => (kitB m n).getD false
  | none => false
@[simp] theorem isi_int_int (i : Int) : oIsi "int" (.int i) = some (.d (.bool true)) := by simp [oIsi, tyName, show kitB "int" "int" = some true from by decide]
@[simp] theorem isi_int_bool (i : Bool) : oIsi "int" (.bool i) = some (.d (.bool true)) := by simp [oIsi, tyName, show kitB "bool" "int" = some true from by decide]
@[simp] theorem isi_int_none : oIsi "int" .none = some (.d (.bool false)) := by simp [oIsi, tyName, show kitB "NoneType" "int" = some false from by decide]
@[simp] theorem isi_int_str (i : Str) : oIsi "int" (.str i) = some (.d (.bool false)) := by simp [oIsi, tyName, show kitB "str" "int" = some false from by decide]
@[simp] theorem isi_int_list (i : List PyData) : oIsi "int" (.list i) = some (.d (.bool false)) := by simp [oIsi, tyName, show kitB "list" "int" = some false from by decide]
@[simp] theorem isi_int_tuple (i : List PyData) : oIsi "int" (.tuple i) = some (.d (.bool false)) := by simp [oIsi, tyName, show kitB "tuple" "int" = some false from by decide]
@[simp] theorem isi_bool_int (i : Int) : oIsi "bool" (.int i) = some (.d (.bool false)) := by simp [oIsi, tyName, show kitB "int" "bool" = some false from by decide]
@[simp] theorem isi_bool_bool (i : Bool) : oIsi "bool" (.bool i) = some (.d (.bool true)) := by simp [oIsi, tyName, show kitB "bool" "bool" = some true from by decide]
@[simp] theorem isi_bool_none : oIsi "bool" .none = some (.d (.bool false)) := by simp [oIsi, tyName, show kitB "NoneType" "bool" = some false from by decide]
@[simp] theorem isi_bool_str (i : Str) : oIsi "bool" (.str i) = some (.d (.bool false)) := by simp [oIsi, tyName, show kitB "str" "bool" = some false from by decide]
@[simp] theorem isi_bool_list (i : List PyData) : oIsi "bool" (.list i) = some (.d (.bool false)) := by simp [oIsi, tyName, show kitB "list" "bool" = some false from by decide]
@[simp] theorem isi_bool_tuple (i : List PyData) : oIsi "bool" (.tuple i) = some (.d (.bool false)) := by simp [oIsi, tyName, show kitB "tuple" "bool" = some false from by decide]
@[simp] theorem isi_tuple_int (i : Int) : oIsi "tuple" (.int i) = some (.d (.bool false)) := by simp [oIsi, tyName, show kitB "int" "tuple" = some false from by decide]
@[simp] theorem isi_tuple_bool (i : Bool) : oIsi "tuple" (.bool i) = some (.d (.bool false)) := by simp [oIsi, tyName, show kitB "bool" "tuple" = some false from by decide]
@[simp] theorem isi_tuple_none : oIsi "tuple" .none = some (.d (.bool false)) := by simp [oIsi, tyName, show kitB "NoneType" "tuple" = some false from by decide]
@[simp] theorem isi_tuple_str (i : Str) : oIsi "tuple" (.str i) = some (.d (.bool false)) := by simp [oIsi, tyName, show kitB "str" "tuple" = some false from by decide]
@[simp] theorem isi_tuple_list (i : List PyData) : oIsi "tuple" (.list i) = some (.d (.bool false)) := by simp [oIsi, tyName, show kitB "list" "tuple" = some false from by decide]
@[simp] theorem isi_tuple_tuple (i : List PyData) : oIsi "tuple" (.tuple i) = some (.d (.bool true)) := by simp [oIsi, tyName, show kitB "tuple" "tuple" = some true from by decide]
@[simp] theorem isi_str_int (i : Int) : oIsi "str" (.int i) = some (.d (.bool false)) := by simp [oIsi, tyName, show kitB "int" "str" = some false from by decide]
@[simp] theorem isi_str_bool (i : Bool) : oIsi "str" (.bool i) = some (.d (.bool false)) := by simp [oIsi, tyName, show kitB "bool" "str" = some false from by decide]
@[simp] theorem isi_str_none : oIsi "str" .none = some (.d (.bool false)) := by simp [oIsi, tyName, show kitB "NoneType" "str" = some false from by decide]
@[simp] theorem isi_str_str (i : Str) : oIsi "str" (.str i) = some (.d (.bool true)) := by simp [oIsi, tyName, show kitB "str" "str" = some true from by decide]
@[simp] theorem isi_str_list (i : List PyData) : oIsi "str" (.list i) = some (.d (.bool false)) := by simp [oIsi, tyName, show kitB "list" "str" = some false from by decide]
@[simp] theorem isi_str_tuple (i : List PyData) : oIsi "str" (.tuple i) = some (.d (.bool false)) := by simp [oIsi, tyName, show kitB "tuple" "str" = some false from by decide]
section
variable (i : Int) (b : Bool) (s : Str) (xs : List PyData)
@[simp] theorem isT_int : oIsiT ["tuple", "list"] (.int i) = some (.d (.bool false)) := by simp [oIsiT, tyName, show kitA "int" ["tuple", "list"] = some false from by decide]
@[simp] theorem isT_bool : oIsiT ["tuple", "list"] (.bool b) = some (.d (.bool false)) := by simp [oIsiT, tyName, show kitA "bool" ["tuple", "list"] = some false from by decide]
@[simp] theorem isT_none : oIsiT ["tuple", "list"] .none = some (.d (.bool false)) := by simp [oIsiT, tyName, show kitA "NoneType" ["tuple", "list"] = some false from by decide]
@[simp] theorem isT_str : oIsiT ["tuple", "list"] (.str s) = some (.d (.bool false)) := by simp [oIsiT, tyName, show kitA "str" ["tuple", "list"] = some false from by decide]
@[simp] theorem isT_list : oIsiT ["tuple", "list"] (.list xs) = some (.d (.bool true)) := by simp [oIsiT, tyName, show kitA "list" ["tuple", "list"] = some true from by decide]
@[simp] theorem isT_tuple : oIsiT ["tuple", "list"] (.tuple xs) = some (.d (.bool true)) := by simp [oIsiT, tyName, show kitA "tuple" ["tuple", "list"] = some true from by decide]
@[simp] theorem isL_int : oIsiT ["list", "tuple"] (.int i) = some (.d (.bool false)) := by simp [oIsiT, tyName, show kitA "int" ["list", "tuple"] = some false from by decide]
@[simp] theorem isL_bool : oIsiT ["list", "tuple"] (.bool b) = some (.d (.bool false)) := by simp [oIsiT, tyName, show kitA "bool" ["list", "tuple"] = some false from by decide]
@[simp] theorem isL_none : oIsiT ["list", "tuple"] .none = some (.d (.bool false)) := by simp [oIsiT, tyName, show kitA "NoneType" ["list", "tuple"] = some false from by decide]
@[simp] theorem isL_str : oIsiT ["list", "tuple"] (.str s) = some (.d (.bool false)) := by simp [oIsiT, tyName, show kitA "str" ["list", "tuple"] = some false from by decide]
@[simp] theorem isL_list : oIsiT ["list", "tuple"] (.list xs) = some (.d (.bool true)) := by simp [oIsiT, tyName, show kitA "list" ["list", "tuple"] = some true from by decide]
@[simp] theorem isL_tuple : oIsiT ["list", "tuple"] (.tuple xs) = some (.d (.bool true)) := by simp [oIsiT, tyName, show kitA "tuple" ["list", "tuple"] = some true from by decide]
end
theorem bools_mapB : ∀ bs : List Bool, bools (bs.map .bool) = some bs
  | [] => rfl
  | b :: bs => by
    show (bools (bs.map .bool)).map (b :: ·) = _
    rw [bools_mapB bs]; rfl
@[simp] theorem oAdd_t (own : Bool) (xs ys : List PyData) : oAdd own (.tuple xs) (.tuple ys) = if xs.length + ys.length ≤ sizeLine then some (.d (.tuple (xs ++ ys))) else none := rfl
@[simp] theorem cixM_S (tab : List (Int × PyData)) (fa : M AV) (S : SS) : cixM tab fa S = (fa >>= fun a => op1 (oCix tab) a) S := rfl
@[simp] theorem cixMS_S (tab : List (Str × PyData)) (fa : M AV) (S : SS) : cixMS tab fa S = (fa >>= fun a => op1 (oCixS tab) a) S := rfl
@[simp] theorem cinM_S (tab : List (Int × PyData)) (neg : Bool) (fa : M AV) (S : SS) : cinM tab neg fa S = (fa >>= fun a => op1 (oCin tab neg) a) S := rfl
@[simp] theorem zipE_S (ga : M (List AV)) (S : SS) : zipE ga S = (ga >>= fun as => M.lift ((frs as).bind zipD)) S := rfl
@[simp] theorem citM_S (tab : List (PyData × PyData)) (S : SS) : citM tab S = some (.ok (tab.map fun p => .tuple [p.1, p.2]), S) := rfl
@[simp] theorem itS_S (f : M OV) (S : SS) : itS f S = (f >>= fun o => M.lift (strOf o)) S := rfl
@[simp] theorem asgS_S (g : PyData → SS → Option SS) (f : M OV) (S : SS) : asgS g f S = doE f (fun o S => match o with
  | .d x => (g x S).map fun S' => (.nx, S')
  | _ => none) S := rfl
@[simp] theorem oLen_s (s : Str) : oLen [.str s] = if s.length ≤ sizeLine then some (.d (.int s.length)) else none := rfl
@[simp] theorem oCount_s (a b : Str) : oCount (.str a) [.str b] = some (.d (.int (Txt.count a b : Int))) := rfl
end PL

/-! PL27: control by single laws -/
namespace PL
open PySem PySem.Spec PyProof.Rows L2 LamX
@[simp] theorem items_c (x : PyData) (r : List OV) : items (.d x :: r) = (items r).map (x :: ·) := rfl
section
variable {S S1 S2 : SS} {f g : SM} {a b : Bool} {c d : M Bool}
theorem seq_nx {f g : SM} (h : f S = some (.nx, S1)) : seqS f g S = g S1 := by rw [seqS_S, h]
theorem seq_ret {o : OV} {f g : SM} (h : f S = some (.ret o, S1)) : seqS f g S = some (.ret o, S1) := by rw [seqS_S, h]
theorem seq_exc {o : PyData} {f g : SM} (h : f S = some (.exc o, S1)) : seqS f g S = some (.exc o, S1) := by rw [seqS_S, h]
theorem if_of {c : M Bool} {f g : SM} (h : c S = some (.ok b, S1)) : ifS c f g S = (if b then f else g) S1 := by rw [ifS_S, doE_S, h]
theorem if_t {c : M Bool} {f g : SM} (h : c S = some (.ok true, S1)) : ifS c f g S = f S1 := by rw [if_of h]; rfl
theorem if_f {c : M Bool} {f g : SM} (h : c S = some (.ok false, S1)) : ifS c f g S = g S1 := by rw [if_of h]; rfl
theorem and_t {c d : M Bool} (h : c S = some (.ok true, S1)) : andT c d S = d S1 := by rw [andT_S, bind_S, h]; rfl
theorem and_f {c d : M Bool} (h : c S = some (.ok false, S1)) : andT c d S = some (.ok false, S1) := by rw [andT_S, bind_S, h]; rfl
theorem or_f {c d : M Bool} (h : c S = some (.ok false, S1)) : orT c d S = d S1 := by rw [orT_S, bind_S, h]; rfl
theorem or_t {c d : M Bool} (h : c S = some (.ok true, S1)) : orT c d S = some (.ok true, S1) := by rw [orT_S, bind_S, h]; rfl
theorem and_all {c d : M Bool} (h : c S = some (.ok a, S)) (h2 : d S = some (.ok b, S)) : andT c d S = some (.ok (a && b), S) := by
  cases a
  · rw [and_f h]; rfl
  · rw [and_t h, h2]; rfl
theorem or_all {c d : M Bool} (h : c S = some (.ok a, S)) (h2 : d S = some (.ok b, S)) : orT c d S = some (.ok (a || b), S) := by
  cases a
  · rw [or_f h, h2]; rfl
  · rw [or_t h]; rfl
theorem not_of {c : M Bool} (h : c S = some (.ok a, S1)) : notT c S = some (.ok (!a), S1) := by rw [notT_S, bind_S, h]; rfl
theorem set_of {i : Nat} {f : M OV} {o : OV} (h : f S = some (.ok o, S1)) (hi : i < S1.length) : setS i f S = some (.nx, S1.set i (some o)) := by
  rw [setS_S, doE_S, h]
  simp only [putS_S]
  rw [if_pos hi]
theorem ret_of {f : M OV} {o : OV} (h : f S = some (.ok o, S1)) : retS f S = some (.ret o, S1) := by
  rw [retS_S, doE_S, h]
theorem for_of {fi : M (List PyData)} {g : PyData → SS → Option SS} {b : SM} {ds : List PyData} (h : fi S = some (.ok ds, S1)) : forS fi g b S = forL g b ds S1 := by
  rw [forS_S, doE_S, h]
theorem forL_step {g : PyData → SS → Option SS} {b : SM} {x : PyData} {xs : List PyData} (h1 : g x S = some S1) (h2 : b S1 = some (.nx, S2)) : forL g b (x :: xs) S = forL g b xs S2 := by
  show (match g x S with | some S1 => turnS b (forL g b xs) S1 | none => none) = _
  rw [h1]
  show turnS b (forL g b xs) S1 = _
  unfold turnS
  rw [h2]
theorem forL_ct {g : PyData → SS → Option SS} {b : SM} {x : PyData} {xs : List PyData} (h1 : g x S = some S1) (h2 : b S1 = some (.ct, S2)) : forL g b (x :: xs) S = forL g b xs S2 := by
  show (match g x S with | some S1 => turnS b (forL g b xs) S1 | none => none) = _
  rw [h1]
  show turnS b (forL g b xs) S1 = _
  unfold turnS
  rw [h2]
theorem forL_ret {g : PyData → SS → Option SS} {b : SM} {x : PyData} {xs : List PyData} {o : OV} (h1 : g x S = some S1) (h2 : b S1 = some (.ret o, S2)) : forL g b (x :: xs) S = some (.ret o, S2) := by
  show (match g x S with | some S1 => turnS b (forL g b xs) S1 | none => none) = _
  rw [h1]
  show turnS b (forL g b xs) S1 = _
  unfold turnS
  rw [h2]
theorem forL_exc {g : PyData → SS → Option SS} {b : SM} {x : PyData} {xs : List PyData} {o : PyData} (h1 : g x S = some S1) (h2 : b S1 = some (.exc o, S2)) : forL g b (x :: xs) S = some (.exc o, S2) := by
  show (match g x S with | some S1 => turnS b (forL g b xs) S1 | none => none) = _
  rw [h1]
  show turnS b (forL g b xs) S1 = _
  unfold turnS
  rw [h2]
theorem forL_bk {g : PyData → SS → Option SS} {b : SM} {x : PyData} {xs : List PyData} (h1 : g x S = some S1) (h2 : b S1 = some (.bk, S2)) : forL g b (x :: xs) S = some (.nx, S2) := by
  show (match g x S with | some S1 => turnS b (forL g b xs) S1 | none => none) = _
  rw [h1]
  show turnS b (forL g b xs) S1 = _
  unfold turnS
  rw [h2]
theorem forL_nil {g : PyData → SS → Option SS} {b : SM} : forL g b [] S = some (.nx, S) := rfl
theorem comp_of {own : Bool} {fi : M (List PyData)} {g : PyData → SS → Option SS} {ft : M Bool} {fe : M OV} {vs : List Nat} {ds acc : List PyData} (h : fi S = some (.ok ds, S1)) (hv : vs.all (fun i => decide (i < S1.length)) = true) (h2 : compL g ft fe vs ds [] (wipeS S1 vs) = some (acc, S2)) :
    compE own fi g ft fe vs S = some (.ok (newL own acc), S2) := by
  rw [compE_S, h]
  simp only
  rw [if_pos hv, h2]
  rfl
theorem toV_of {f : M OV} {x : PyData} (h : f S = some (.ok (.d x), S1)) : toV f S = some (.ok (.fr x), S1) := by
  rw [toV_S, bind_S, h]; rfl
theorem exc_of {f : M OV} {x : PyData} (h : f S = some (.error x, S1)) : exprS f S = some (.exc x, S1) := by
  rw [exprS_S, doE_S, h]
theorem cau_ok {K : PySem.W.Frag} {CS : Addr} {f : M OV} {o : OV} (h : f S = some (.ok o, S1)) : caughtM K CS true f S = some (.ok o, S1) := by
  rw [caughtM_S, h]; rfl
theorem cau_ex {K : PySem.W.Frag} {CS : Addr} {kp : Bool} {f : M OV} {x : PyData} (h : f S = some (.error x, S1)) (h2 : exm K CS x = some true) : caughtM K CS kp f S = some (.ok (.d x), S1) := by
  rw [caughtM_S, h]
  simp only [h2]
end
end PL

/-! PL28: the law's start where several defs hold lambdas; constants -/
namespace PL
open PySem PySem.Spec PyProof.Rows L2 LamX

theorem walkG2 {l : PySem.W.OpenLaw} {n : Nat} {q : Program} {loose : List Str} {XP : (Str → Option Value) → Heap → Prop} {YP : World → Heap → Prop} {d : DefRec} {K : Params → PySem.W.Frag} {xs : List Str}
    (hn : l.most = some n) (hn2 : n ≤ sizeLine) (hdf : d.params.defaults = []) (hr : xs.all (fun x => ((recsOf q).find? (fun e => e.name == x)).isSome) = true) (hY : ∀ (w : World) (h : Heap), YP w h → (K w.params).In h)
    (F : ∀ (w : World) (mg : Str → Option Value) (fa : Addr) (h : Heap), YP w h → (K w.params).In h → h.Ns mainGlobals mg → mg d.name = some (.ref fa) → (∀ x ∈ xs, ∀ c P, PySem.W.tabIn (K w.params) x = some (c, P) → PySem.W.CodeHd h c P ∧ h.get? P = some (PySem.W.tabObj #[])) → LawG l w (K w.params) n mg fa h) :
    PySem.W.WalkO q loose XP YP l.row.toRowW d [] (fun f vs => PySem.call f vs) := by
  refine Att.attach_callB hn hdf fun w s₀ s₁ mg mb fa o pm cd doc a vs ns G Y ho hd hcd hmg hobj hints hlen hbits hg => ?_
  obtain ⟨cs, hT, nT, C, hF⟩ := F w mg fa _ Y (hY w _ Y) G.T.g hmg fun x hx c P e => by
    have h1 := List.all_eq_true.mp hr x hx
    cases h2 : (recsOf q).find? (fun e => e.name == x) with
    | none => rw [h2] at h1; cases h1
    | some dL => exact PySem.W.tab_of G.T (hY w _ Y) h2 e
  exact law_callG (hY w _ Y) G.T.g G.T.b G.T.builtins G.T.nolimit hg hT nT C G.T.bmain hobj hints (Nat.le_trans hlen hn2) (fun base H tb e0 hH sq => hF base H _ a ns hlen hbits tb e0 hH sq) fun H e s' ⟨_, _, _, _, _, _, _, _, _, _, _, _, z⟩ => z
theorem cng_of {K : PySem.W.Frag} {h : Heap} {mg : Str → Option Value} {x : Str} {d : PyData} (X : K.In h) (G : h.Ns mainGlobals mg) (q : cnB K x d = true) : CnG K mg x d := by
  obtain ⟨u, e, r⟩ := cnB_ok q
  exact ⟨u, PySem.W.mg_of X G e, r⟩
end PL

/-! PL29: own exceptions whose __init__ says super().__init__(text) and then stores its parameters -/
namespace PL
open PySem PySem.Spec PyProof.Rows L2 LamX

/-- what the written part says of an __init__ that stands in the class D, its instance of the class C -/
structure SupC (P : Program) (K : PySem.W.Frag) (C D cda cc : Addr) : Prop where
  cell : ∃ cl cld csl, K.lookup cc = some ⟨cl, cld, .cell (some (.ref D)), csl⟩
  cls : ∃ cd, PySem.W.clsIn K D = some cd
  mro : PySem.W.mroIn K C (.ref D) = some true
  code : ∃ ccl cdd vs ccs file tf, K.lookup cda = some ⟨ccl, cdd, .fields vs, ccs⟩ ∧ vs[2]? = some (.str file tf) ∧ ((P.main.file : Str) == file) = true
  top : (P.main.scope.names.lookup ("super" : Str)).isSome = false
  sup : PySem.W.ks_superIn K C D "__init__" = some (some (.builtin "ValueError.__init__"))
  opq : PySem.W.nsIn K cStatics "thirdparty.any" = some none
  sub : PySem.W.subIn K (.ref C) (.type "ValueError") = some true

def supCx (CX : CXT) (P : Program) (w : World) (K : PySem.W.Frag) (mg : Str → Option Value) (base : Heap) (N : List Str) (qual : Str) (scope : Scope) (f : Addr) (cd : Value) (cc : Addr) (A : Around) (outer : List Env) (s : Shared) (H : Hp) (E : XK) : Cx where
  prog := P
  w := w
  K := K
  mg := mg
  base := base
  A := A.deeper (PySem.W.ksEnv qual scope s.heap.objs.size f cd cc)
  N := N
  s_0 := s
  H_0 := H
  env := PySem.W.ksEnv qual scope s.heap.objs.size f cd cc
  outer := outer
  stack := PySem.W.ksEnv qual scope s.heap.objs.size f cd cc :: outer
  ex := []
  calm := true
  fn := fun _ => false
  pn := []
  xe := fun e s' => wpAny (model P w) (A.deeper (PySem.W.ksEnv qual scope s.heap.objs.size f cd cc)) (leaving (PySem.W.ksEnv qual scope s.heap.objs.size f cd cc) e) (fun _ s'' => CX outer H s E e s'') (fun e' s'' => CX outer H s E e' s'') s'

/-- the scope of such an __init__ -/
structure SupS (N : List Str) (scope : Scope) : Prop where
  co : scope.isCoroutine = false
  gen : scope.isGenerator = false
  kind : scope.kind = .function
  nd : N.Nodup
  loc : ∀ x ∈ N, scope.names.lookup x = some .local
  sup : scope.names.lookup ("super" : Str) = some .globalImplicit
  cls : scope.names.lookup ("__class__" : Str) = some .free
  only : ∀ y, (scope.names.lookup y = some .cell ∨ scope.names.lookup y = some .free) → y = ("__class__" : Str)
  ncell : ∀ x ∈ scope.names, x.2 ≠ .cell

section
variable {CX : CXT} {P : Program} {w : World} {K : PySem.W.Frag} {mg : Str → Option Value} {base : Heap} {N : List Str} {qual : Str} {scope : Scope} {f cc : Addr} {cd : Value} {A : Around} {outer : List Env} {s : Shared} {H : Hp} {E : XK}
theorem zip_fst_sub : ∀ (N : List Str) (us : List Value), ((N.zip us).map Prod.fst).Sublist N
  | [], _ => by simp
  | _ :: _, [] => by simp
  | n :: N, u :: us => by
    rw [List.zip_cons_cons, List.map_cons]
    exact (zip_fst_sub N us).cons₂ n
theorem look1 {y : Str} {c cc : Addr} (h : List.lookup y [(("__class__" : Str), cc)] = some c) : y = ("__class__" : Str) ∧ c = cc := by
  rw [List.lookup_cons] at h
  by_cases e : y = ("__class__" : Str)
  · subst e
    simp at h
    exact ⟨rfl, h.symm⟩
  · have : (y == ("__class__" : Str)) = false := by simpa using e
    rw [this] at h
    simp at h
theorem sup_start {us : List Value} {vs : List V} {h₁ : Heap} {tk : Nat} (S : SupS N scope) (hd : A.handled = none) (e0 : Env0 P w K mg base A outer s H) (hcc : ∃ cl cld csl D, K.lookup cc = some ⟨cl, cld, .cell (some (.ref D)), csl⟩) (hl : vs.length = N.length) (r : Vals vs us)
    (hns : h₁.Ns s.heap.objs.size fun x => (N.zip us).reverse.lookup x) (hk : ∀ b o, s.heap.get? b = some o → h₁.get? b = some o) :
    Inv (supCx CX P w K mg base N qual scope f cd cc A outer s H E) [] (vs.map some) H { s with heap := h₁, toks := tk } := by
  have noA : ∀ b : Addr, b ∉ (supCx CX P w K mg base N qual scope f cd cc A outer s H E).ex := fun b z => absurd (show b ∈ ([] : List Addr) from z) (by simp)
  obtain ⟨cl, cld, csl, D, hcl⟩ := hcc
  have hb := e0.mod.kin _ _ hcl
  refine ⟨⟨e0.mod, S.kind, rfl, rfl, Nat.le_refl _, fun y z c h1 h2 => ?_, fun y hy => ?_, fun y c h _ => ?_, fun _ => hd, Around.frames_deeper e0.frames, .inr ⟨rfl, rfl⟩, fun b z => absurd z (noA b), e0.bs, e0.bsz, fun b _ _ => noA b, fun b z => absurd z (noA b), e0.funs, e0.frf⟩,
    rfl, e0.bare, Un.kept hk, ⟨_, hns, fun i y v h1 h2 h3 => ?_⟩, fun y c h => ?_, e0.hok.fresh (Nat.le_refl _), fun y c h => ?_, fun p hp => absurd (show p ∈ ([] : List (Addr × Obj)) from hp) (by simp), e0.hok.kept hk, ?_⟩
  · have h1 : List.lookup y [(("__class__" : Str), cc)] = some c := h1
    have h2 : List.lookup z [(("__class__" : Str), cc)] = some c := h2
    rw [(look1 h1).1, (look1 h2).1]
  · have hy : scope.names.lookup y = some .cell ∨ scope.names.lookup y = some .free := hy
    exact ⟨cc, by rw [S.only y hy]; show List.lookup _ [(("__class__" : Str), cc)] = _; simp [List.lookup]⟩
  · cases h
  · have h1 : N[i]? = some y := h1
    have hmem := List.mem_of_getElem? h1
    have ha : vs[i]? = some v := by
      rw [List.getElem?_map] at h2
      cases e : vs[i]? with
      | none => rw [e] at h2; cases h2
      | some a => rw [e] at h2; cases h2; rfl
    obtain ⟨u, hu, rv⟩ := r.get ha
    refine ⟨u, rv, .inl ⟨S.loc y hmem, ?_⟩⟩
    have key : ∀ (N : List Str) (us : List Value) (i : Nat), N.Nodup → N[i]? = some y → us[i]? = some u → (N.zip us).reverse.lookup y = some u := fun N us i nd hN hu => by
      have hz : (N.zip us)[i]? = some (y, u) := List.getElem?_zip_eq_some.mpr ⟨hN, hu⟩
      have hm : (y, u) ∈ (N.zip us).reverse := List.mem_reverse.mpr (List.mem_of_getElem? hz)
      have nd2 : ((N.zip us).reverse.map Prod.fst).Nodup := by
        rw [List.map_reverse]
        refine ((List.reverse_perm _).nodup_iff).mpr ?_
        exact nd.sublist (zip_fst_sub N us)
      generalize (N.zip us).reverse = L at hm nd2
      induction L with
      | nil => cases hm
      | cons p L ih =>
        obtain ⟨a, b⟩ := p
        rw [List.map_cons] at nd2
        obtain ⟨n1, n2⟩ := List.nodup_cons.mp nd2
        rw [List.lookup_cons]
        rcases List.mem_cons.mp hm with e | hm
        · cases e
          simp
        · have : (y == a) = false := by
            have : y ≠ a := fun z => n1 (by rw [← z]; exact List.mem_map.mpr ⟨(y, u), hm, rfl⟩)
            simpa using this
          rw [this]
          exact ih hm n2
    exact key N us i S.nd h1 hu
  · have h : List.lookup y [(("__class__" : Str), cc)] = some c := h
    obtain ⟨_, rfl⟩ := look1 h
    exact ⟨_, ⟨_, hk _ _ (e0.bs _ _ hb).1, rfl⟩⟩
  · have h : List.lookup y [(("__class__" : Str), cc)] = some c := h
    obtain ⟨_, rfl⟩ := look1 h
    exact (e0.bs _ _ hb).2
  · rw [List.length_map]; exact hl
/-- super().__init__(text): the object's args are laid anew -/
theorem sup_init {X : Cx} {pins : List (Addr × Obj)} {σ : L2.St} {H : Hp} {s : Shared} {C D cda cc a f : Addr} {p0 p1 p2 p3 p5 : Pos} {msg : Str} {j : Nat} {body : List Stmt} {fd : FuncData} {of : Obj} {ar : Arg} {Q : Value → Shared → Prop}
    (T : OexC X.K C) (U : SupC X.prog X.K C D cda cc) (I : Inv X pins σ H s) (hkind : X.env.scope.kind = .function) (hks : X.env.kindOf "super" = some .globalImplicit) (hkc : X.env.kindOf "__class__" = some .free)
    (hcc : X.env.cells.lookup ("__class__" : Str) = some cc) (hfu : X.env.func = some f) (hf : X.K.lookup f = some of) (hfd : of.data = .func fd) (hp : (fd.params.posonlyargs ++ fd.params.args).head? = some ar) (hco : X.env.code = .ref cda) (hglob : X.env.globals = mainGlobals) (hblt : X.env.builtins = builtinsNs)
    (hms : X.mg "super" = none) (hN : X.N[0]? = some ar.arg) (hloc : X.env.scope.names.lookup ar.arg = some .local) (hσ : σ[0]? = some (some (.ref a))) (e : H a = some (exo a C none))
    {pl : Sem Bool} (hev : eval (.Call (.Attribute (.Call (.Name "super" p0) [] [] p1) "__init__" p2) [.Constant (.str msg) j p5] [] p3) X.env = (do
      let ov ← attributeBase (.Call (.Name "super" p0) [] [] p1) "__init__" X.env (eval (.Call (.Name "super" p0) [] [] p1) X.env)
      standAt p2.atName
      let (f, first) ← holding [ov] (getMethod ov "__init__" pl)
      callWith p3 f first (backTo p3 (starEach [.Constant (.str msg) j p5] X.env)) []) := by rfl)
    (h : ∀ s', Inv X pins σ H s' → Q .none s') :
    _root_.PySem.wpAt (model X.prog X.w) X.A (.func body X.env) (eval (.Call (.Attribute (.Call (.Name "super" p0) [] [] p1) "__init__" p2) [.Constant (.str msg) j p5] [] p3) X.env) Q X.xe s := by
  obtain ⟨cl, cld, csl, hcell⟩ := U.cell
  obtain ⟨cd, hcd⟩ := U.cls
  obtain ⟨ccl, cdd, cvs, ccs, file, tf, hcode, hvs, hfile⟩ := U.code
  have KX : X.K.In s.heap := I.kIn
  obtain ⟨mb, hmb, hbb⟩ := I.mod.blt
  obtain ⟨oD, hD1, hD2⟩ : ∃ oD, s.heap.get? D = some oD ∧ oD.data = .cls cd := by
    unfold PySem.W.clsIn at hcd
    split at hcd
    · rename_i c d cd' sl ho
      cases hcd
      exact ⟨_, KX _ _ ho, rfl⟩
    · cases hcd
  obtain ⟨t1, ho⟩ := exo_at I.hok e
  refine PySem.ks_wpAt_MethodCall ?_ hev
  refine PySem.ks_wpAt_super_base (env := X.env) hks hkc (by decide) hfu (KX _ _ hf) hfd hp hco (KX _ _ hcode) rfl hvs hfile U.top ?_
  refine PySem.W.ks_loadName_global hkind hks (PySem.Calls.loadGlobal_builtin (env := X.env) (by rw [hglob]; exact I.mod.glob.keeps I.bk) hms (by rw [hblt]; exact hmb.keeps I.bk) ((hbb _ (by decide +kernel)).trans (show bootBuiltins "super" = some (.type "super") by first | boot_by_name | rfl | kernel_rfl)) ⟨rfl, ?_⟩)
  refine wpAny_loadName_free hkind hkc hcc ⟨_, KX _ _ hcell, rfl⟩ ?_
  obtain ⟨m, hns, hlk⟩ := I.loc
  obtain ⟨u, ru, hu⟩ := hlk 0 ar.arg (.ref a) hN hσ (.inl hloc)
  obtain rfl : u = Value.ref a := ru
  have hu : m ar.arg = some (.ref a) := by
    rcases hu with hu | ⟨hu, _⟩
    · exact hu.2
    · have : X.env.kindOf ar.arg = some .local := hloc
      rw [this] at hu
      rcases hu with hu | hu <;> cases hu
  refine wpAny_loadName_local hkind hloc hns hu ?_
  refine PySem.ks_wpAny_isType_cls hD1 hD2 ⟨rfl, ?_⟩
  obtain ⟨hp0, g0, d0, tk0, os0⟩ := s
  have IX : PySem.W.InstAt hp0 a { cls := .ref C, dict := none, data := .fields #[.ref t1, .none, .none, .none, .bool false, .none] } C none := ⟨ho, rfl, rfl, trivial⟩
  refine PySem.ks_wpAny_call_super hD1 hD2 ho rfl (fun c z => by cases z) (PySem.W.looks_mroIn KX U.mro) (fun h1 hso k1 => ?_)
  have I1 : Inv X pins σ H ⟨h1, g0, d0, tk0, os0⟩ := I.kept (t' := tk0) k1
  have KX1 : X.K.In h1 := I1.kIn
  have ho1 := k1 _ _ ho
  obtain ⟨nm, q, NN, bs, bm, sn, sub, ab, col, dd, k0, k1', k2, k3, k5, hC, hbm⟩ := T.cls
  have hcl : PySem.W.clsIn X.K C = some { name := nm, bases := bs, mro := .ref C :: bm, ns := NN, qualname := q, hasDict := true, slotNames := sn, subclasses := sub, abstract := ab, collection := col, hasDel := false } := by unfold PySem.W.clsIn; rw [hC] <;> rfl
  have IX1 : PySem.W.InstAt h1 a { cls := .ref C, dict := none, data := .fields #[.ref t1, .none, .none, .none, .bool false, .none] } C none := ⟨ho1, rfl, rfl, trivial⟩
  have hsup := U.sup
  unfold PySem.W.ks_superIn at hsup
  rw [hcl] at hsup
  refine PySem.W.kxs_getMethod PySem.W.kxs_ValueError hso (PySem.W.looks_opaque KX1 U.opq) (l₀ := .ref C :: bm) (fun A Q E s k q => wpAny_bind ((PySem.W.looks_clsIn KX1 hcl) A _ E s k (wpAny_pure q))) rfl KX1 hsup (IX1.type.andThen (PySem.W.looks_subIn KX1 U.sub)) (PySem.W.ks_ne KX1 IX1 hcl) (by decide) ?_
  have k2' : ∀ b o, h1.get? b = some o → (h1.push (PySem.W.kxs_mw "ValueError.__init__" a)).get? b = some o := fun b o z => Heap.get?_push_of_some _ z
  have I2 : Inv X pins σ H ⟨h1.push (PySem.W.kxs_mw "ValueError.__init__" a), g0, d0, tk0 + 1, os0⟩ := I1.kept (t' := tk0 + 1) k2'
  have hu2 : (h1.push (PySem.W.kxs_mw "ValueError.__init__" a)).get? h1.objs.size = some (PySem.W.kxs_mw "ValueError.__init__" a) := Heap.get?_push_size _ rfl
  have hst : starEach [Expr.Constant (.str msg) j p5] X.env = (false, eval (.Constant (.str msg) j p5) X.env) :: starEach [] X.env := rfl
  rw [hst]
  refine PySem.W.kxs_callWith (i := "ValueError.__init__") (x := a) (by rfl) ?_
  refine PySem.Calls.evalArgs_plain ?_
  show wpAny _ _ (spliced ((false, eval (.Constant (.str msg) j p5) X.env) :: backTo p3 (starEach [] X.env))) _ _ _
  refine PySem.Calls.spliced_cons (PySem.Calls.Constant_str ?_)
  refine PySem.Calls.spliced_nil ⟨hu2, ?_⟩
  have I3 := I2.tok (tk0 + 1 + 1)
  show wpAny _ _ (call (.ref h1.objs.size) [.str msg (tk0 + 1)]) _ _ ⟨h1.push (PySem.W.kxs_mw "ValueError.__init__" a), g0, d0, tk0 + 1 + 1, os0⟩
  have ho2 := k2' _ _ ho1
  have hC2 := I3.kIn _ _ hC
  refine wpAny_call (codeAny_of_tree ?_)
  show wpAny _ _ (callAny (.ref h1.objs.size) ⟨[.str msg (tk0 + 1)], []⟩) _ _ _
  simp only [callAny]
  refine wpAny_bind (wpAny_load hu2 ?_)
  simp only [PySem.W.kxs_mw, show (Value.type "method-wrapper" == Value.type "method" || Value.type "method-wrapper" == Value.type "builtin_function_or_method" || Value.type "method-wrapper" == Value.type "method-wrapper") = true by decide, if_true]
  refine PySem.W.KFB.if_so (by decide) ?_
  refine wpAny_bind (PySem.W.check_bound_init F.excBase_ValueError.toExcCallFacts hC2 ho2 rfl ?_)
  refine wpAny_bind (wpAny_pure (wpAny_pure ?_))
  refine ⟨plainId_quiet F.excBase_ValueError.init.plain _, codeAny_builtin F.excBase_ValueError.initEntry ?_⟩
  refine PySem.W.exc_init_tree (cls := .ref C) (t0 := t1) (dv := none) (c2 := .none) (c3 := .none) (b4 := .bool false) ho2 (by simp [sizeLine_eq]) (fun h' k hx ht => ?_)
  have J := I3.write (t' := tk0 + 1 + 1) (x := a) (e := a) (o := exo a C none) (by rw [e]; exact True.intro) (.inl rfl) k ⟨_, hx⟩ (exo_ok hx)
  have eu : upd H a (exo a C none) = H := by
    funext b
    by_cases hb : b = a
    · rw [hb, upd_same, e]
    · rw [upd_ne hb]
  rw [eu] at J
  exact h _ J
end
/-! ### the stores behind it -/
inductive AStm (N : List Str) (self : Str) : List Stmt → List (Str × Nat) → Prop
  | nil : AStm N self [] []
  | cons {x f : Str} {i : Nat} {p1 p2 p3 p4 : Pos} {rest : List Stmt} {L : List (Str × Nat)} : N[i]? = some x → (x == ("__debug__" : Str)) = false → (x == ("__classdict__" : Str)) = false → (∀ env, swapsWith (.Name x p3) (some (.Attribute (.Name self p1) f p2)) p4.line env = pure false) → AStm N self rest L →
      AStm N self (.Assign [.Attribute (.Name self p1) f p2] (.Name x p3) p4 :: rest) ((f, i) :: L)
def pairsA (σ : L2.St) : List (Str × Nat) → List (Str × V)
  | [] => []
  | (f, i) :: L => pairsA σ L ++ [(f, ((σ[i]?).join).getD .non)]
def tT (K : PySem.W.Frag) (L : List (Str × Nat)) : TS := fun D σ H => ∃ (a C dx : Addr) (fs : List (Str × V)), dx ≠ a ∧ σ[0]? = some (some (.ref a)) ∧ OexC K C ∧ (∀ p ∈ L, PySem.W.findIn K (.ref C) p.1 = some none ∧ ∃ v, σ[p.2]? = some (some v)) ∧ H a = some (exo a C (some dx)) ∧ H dx = some (exd dx fs) ∧ fs.length + L.length ≤ 900 ∧ D.nx σ (upd H dx (exd dx (pairsA σ L ++ fs)))
def tA (K : PySem.W.Frag) (L : List (Str × Nat)) : TS := fun D σ H => ∃ (a C : Addr), σ[0]? = some (some (.ref a)) ∧ OexC K C ∧ (∀ p ∈ L, PySem.W.findIn K (.ref C) p.1 = some none ∧ ∃ v, σ[p.2]? = some (some v)) ∧ H a = some (exo a C none) ∧ L.length ≤ 900 ∧ ∀ dx, H dx = none → dx ≠ a → D.nx σ (upd (upd H dx (exd dx (pairsA σ L))) a (exo a C (some dx)))
theorem upd_self {H : Hp} {a : Addr} {o : HO} (h : H a = some o) : upd H a o = H := by
  funext b
  by_cases e : b = a
  · rw [e, upd_same, h]
  · rw [upd_ne e]
theorem upd_upd {H : Hp} {a : Addr} {o u : HO} : upd (upd H a o) a u = upd H a u := by
  funext b
  by_cases e : b = a
  · rw [e, upd_same, upd_same]
  · rw [upd_ne e, upd_ne e, upd_ne e]
theorem upd_swap {H : Hp} {a b : Addr} {o u : HO} (n : a ≠ b) : upd (upd H a o) b u = upd (upd H b u) a o := by
  funext c
  by_cases e : c = a
  · rw [e, upd_same, upd_ne n, upd_same]
  · by_cases e2 : c = b
    · rw [e2, upd_same, upd_ne (Ne.symm n), upd_same]
    · rw [upd_ne e, upd_ne e2, upd_ne e2, upd_ne e]
section
variable {X : Cx} {N : List Str} {self : Str}
theorem rest_ok (hX : X.N = N) (h0 : N[0]? = some self) (hd : (self == ("__debug__" : Str)) = false) (hcd : (self == ("__classdict__" : Str)) = false) (hloc : ∀ x ∈ N, X.env.scope.names.lookup x = some .local) : ∀ {rest : List Stmt} {L : List (Str × Nat)}, AStm N self rest L → PSs X rest (tT X.K L) := by
  intro rest L h
  induction h with
  | nil =>
    refine pss_mono pss_nil fun D σ H h => ?_
    obtain ⟨a, C, dx, fs, hne, h1, h2, h3, h4, h5, h6, q⟩ := h
    have e : upd H dx (exd dx (pairsA σ [] ++ fs)) = H := upd_self h5
    rw [e] at q
    exact q
  | @cons x f i p1 p2 p3 p4 rest L hN hx1 hx2 hsw _ ih =>
    refine pss_mono (pss_cons (ps_ost (pe_var (i := 0) (by rw [hX]; exact h0) (.inl (hloc _ (List.mem_of_getElem? h0))) hd hcd) (pe_var (i := i) (by rw [hX]; exact hN) (.inl (hloc _ (List.mem_of_getElem? hN))) hx1 hx2) (hsw _)) ih) fun D σ H h => ?_
    obtain ⟨a, C, dx, fs, hne, h1, h2, h3, h4, h5, h6, q⟩ := h
    obtain ⟨g1, v, g2⟩ := h3 (f, i) List.mem_cons_self
    refine ⟨v, g2, .ref a, h1, a, C, rfl, h2, g1, .inr ⟨dx, fs, h4, h5, by rw [List.length_cons] at h6; omega, ?_⟩⟩
    refine ⟨a, C, dx, (f, v) :: fs, hne, h1, h2, fun p hp => h3 p (List.mem_cons_of_mem _ hp), by rw [upd_ne (Ne.symm hne)]; exact h4, upd_same, by rw [List.length_cons] at h6 ⊢; omega, ?_⟩
    rw [upd_upd]
    have : pairsA σ ((f, i) :: L) ++ fs = pairsA σ L ++ ((f, v) :: fs) := by
      show pairsA σ L ++ [(f, ((σ[i]?).join).getD .non)] ++ fs = _
      rw [g2, List.append_assoc]
      rfl
    rw [← this]
    exact q
theorem rest_new (hX : X.N = N) (h0 : N[0]? = some self) (hd : (self == ("__debug__" : Str)) = false) (hcd : (self == ("__classdict__" : Str)) = false) (hloc : ∀ x ∈ N, X.env.scope.names.lookup x = some .local) {rest : List Stmt} {L : List (Str × Nat)} (h : AStm N self rest L) (hL : L ≠ []) : PSs X rest (tA X.K L) := by
  cases h with
  | nil => exact absurd rfl hL
  | @cons x f i p1 p2 p3 p4 rest L hN hx1 hx2 hsw hr =>
    refine pss_mono (pss_cons (ps_ost (pe_var (i := 0) (by rw [hX]; exact h0) (.inl (hloc _ (List.mem_of_getElem? h0))) hd hcd) (pe_var (i := i) (by rw [hX]; exact hN) (.inl (hloc _ (List.mem_of_getElem? hN))) hx1 hx2) (hsw _)) (rest_ok hX h0 hd hcd hloc hr)) fun D σ H h => ?_
    obtain ⟨a, C, h1, h2, h3, h4, h6, q⟩ := h
    obtain ⟨g1, v, g2⟩ := h3 (f, i) List.mem_cons_self
    refine ⟨v, g2, .ref a, h1, a, C, rfl, h2, g1, .inl ⟨h4, fun dx n ne => ?_⟩⟩
    refine ⟨a, C, dx, [(f, v)], ne, h1, h2, fun p hp => h3 p (List.mem_cons_of_mem _ hp), upd_same, by rw [upd_ne ne, upd_same], by rw [List.length_cons] at h6; simp; omega, ?_⟩
    have e1 : upd (upd (upd H dx (exd dx [(f, v)])) a (exo a C (some dx))) dx (exd dx (pairsA σ L ++ [(f, v)])) = upd (upd H dx (exd dx (pairsA σ L ++ [(f, v)]))) a (exo a C (some dx)) := by
      rw [upd_swap (Ne.symm ne), upd_upd]
    rw [e1]
    have : pairsA σ ((f, i) :: L) = pairsA σ L ++ [(f, v)] := by
      show pairsA σ L ++ [(f, ((σ[i]?).join).getD .non)] = _
      rw [g2]
      rfl
    rw [← this]
    exact q dx n ne
end
/-! ### the def -/
def spSup (K : PySem.W.Frag) (N : List Str) (L : List (Str × Nat)) (C0 : Addr) : Sp := fun vs H Q _ => vs.length = N.length ∧ ∃ (a : Addr), vs[0]? = some (.ref a) ∧ OexC K C0 ∧ (∀ p ∈ L, PySem.W.findIn K (.ref C0) p.1 = some none) ∧ H a = some (exo a C0 none) ∧ ∀ dx, H dx = none → dx ≠ a → Q .non (upd (upd H dx (exd dx (pairsA (vs.map some) L))) a (exo a C0 (some dx)))
theorem fn_sup {CX : CXT} {P : Program} {w : World} {K : PySem.W.Frag} {mg : Str → Option Value} {base : Heap} {k : Nat} {f C D cda cc : Addr} {name qual msg : Str} {params : Arguments} {body rest : List Stmt} {scope : Scope} {dV kV doc pm ct oc : Value} {an od : Option Addr}
    {osl : Array (Option Value)} {N : List Str} {L : List (Str × Nat)} {ar : Arg} {j : Nat} {p0 p1 p2 p3 p4 p5 : Pos} (lk : K.lookup f = some ⟨oc, od, .func (PySem.W.ksFn name qual params body scope dV kV doc pm an (.ref cda) ct cc), osl⟩) (hcdn : PySem.W.codeIn K (.ref cda) qual = true) (S : SupS N scope)
    (U : SupC P K C D cda cc) (hms : mg "super" = none) (har : (params.posonlyargs ++ params.args).head? = some ar) (h0 : N[0]? = some ar.arg) (hd : (ar.arg == ("__debug__" : Str)) = false) (hcd : (ar.arg == ("__classdict__" : Str)) = false) (hL : L ≠ []) (hLi : ∀ p ∈ L, p.2 < N.length) (hL9 : L.length ≤ 900)
    (hbody : body = .Expr (.Call (.Attribute (.Call (.Name "super" p0) [] [] p1) "__init__" p2) [.Constant (.str msg) j p5] [] p3) p4 :: rest) (hr : AStm N ar.arg rest L)
    (hev : ∀ env : Env, ∃ pl : Sem Bool, eval (.Call (.Attribute (.Call (.Name "super" p0) [] [] p1) "__init__" p2) [.Constant (.str msg) j p5] [] p3) env = (do
      let ov ← attributeBase (.Call (.Name "super" p0) [] [] p1) "__init__" env (eval (.Call (.Name "super" p0) [] [] p1) env)
      standAt p2.atName
      let (f, first) ← holding [ov] (getMethod ov "__init__" pl)
      callWith p3 f first (backTo p3 (starEach [.Constant (.str msg) j p5] env)) []))
    (hsw : ∀ env : Env, swapsWith (.Call (.Attribute (.Call (.Name "super" p0) [] [] p1) "__init__" p2) [.Constant (.str msg) j p5] [] p3) none p4.line env = pure false) :
    FnOk P w K mg base CX (k + 1) f (PySem.W.ksFn name qual params body scope dV kV doc pm an (.ref cda) ct cc) N (spSup K N L C) := by
  refine ⟨fun vs H Q E h => h.1, fun A outer s H args us vs Q E hr0 e0 hb r hsp => ?_⟩
  obtain ⟨hl, a, hv0, T, hno, ea, q⟩ := hsp
  have KX : K.In s.heap := e0.mod.kin.keeps fun b o e => (e0.bs b o e).1
  have lim : s.heap.NoLimit := e0.mod.nolimit.keeps fun b o e => (e0.bs b o e).1
  have hul : us.length = N.length := by rw [← Paired.length r]; exact hl
  refine PySem.ks_codeAny_call_defAt (fd := PySem.W.ksFn name qual params body scope dV kV doc pm an (.ref cda) ct cc) (body := body) (binds := N.zip us) hr0.depth (KX _ _ lk) rfl lim (PySem.W.codeRec_of KX hcdn) rfl hb S.ncell (fun x hx => S.loc _ (List.of_mem_zip hx).1) (fun h₁ hns hk₁ => ?_) S.co S.gen S.kind
  obtain ⟨cl, cld, csl, hcell⟩ := U.cell
  have I : Inv (supCx CX P w K mg base N qual scope f (.ref cda) cc A outer s H E) [] (vs.map some) H { s with heap := h₁, toks := s.toks + (N.zip us).length } :=
    sup_start S hr0.hd e0 ⟨cl, cld, csl, D, hcell⟩ hl r hns hk₁
  subst hbody
  refine PySem.ks_wpAt_execs_cons (PySem.ks_wpAt_Expr_any ?_ (by unfold interactive; show (scope.kind == .module && _) = false; rw [S.kind]; rfl) (hsw _))
  obtain ⟨pl, hev⟩ := hev (supCx CX P w K mg base N qual scope f (.ref cda) cc A outer s H E).env
  have hloc0 : scope.names.lookup ar.arg = some .local := S.loc _ (List.mem_of_getElem? h0)
  refine sup_init (X := supCx CX P w K mg base N qual scope f (.ref cda) cc A outer s H E) (pins := []) (σ := vs.map some) (H := H) T U I S.kind S.sup S.cls (by show List.lookup _ [(("__class__" : Str), cc)] = _; simp [List.lookup]) rfl lk rfl har rfl rfl rfl hms h0 hloc0 (by rw [List.getElem?_map, hv0]; rfl) ea (pl := pl) hev (fun s' J => ?_)
  have hp := rest_new (X := supCx CX P w K mg base N qual scope f (.ref cda) cc A outer s H E) rfl h0 hd hcd S.loc hr hL
  refine wpAt_of_wpAny (wpAny_mono (hp.run [] s' (vs.map some) H { nx := fun _ H' => Q .non H', rt := Q } J ⟨a, C, by rw [List.getElem?_map, hv0]; rfl, T, fun p hpm => ⟨hno p hpm, ?_⟩, ea, hL9, fun dx n ne => q dx n ne⟩) (fun fl s2 hs => ?_) fun e s2 hs => hs)
  · have hi : p.2 < vs.length := by rw [hl]; exact hLi p hpm
    exact ⟨vs[p.2], by rw [List.getElem?_map, List.getElem?_eq_getElem hi]; rfl⟩
  · have fin : ∀ {σ' : L2.St} {H' : Hp} {v : V} {u : Value}, Inv (supCx CX P w K mg base N qual scope f (.ref cda) cc A outer s H E) [] σ' H' s2 → RelV v u → Q v H' → CE outer P w H s Q u s2 :=
      fun {σ' H' v u} J rv q => ⟨v, H', J.os, J.bare, J.base, J.hok, rv, q⟩
    cases fl with
    | ret u =>
      obtain ⟨v, σ', H', J, rv, q⟩ := hs
      exact fin J rv q
    | next =>
      obtain ⟨σ', H', J, q⟩ := hs
      exact fin (v := V.non) (u := Value.none) J rfl q
    | brk =>
      obtain ⟨_, _, _, q⟩ := hs
      exact False.elim q
    | cont =>
      obtain ⟨_, _, _, q⟩ := hs
      exact False.elim q
end PL

/-! PL30: exceptions with attributes: raised, read, asked for their class -/
namespace PL
open PySem PySem.Spec PyProof.Rows L2 LamX

def attrsD (xs : List PyData) : List (Str × Nat) → List (Str × PyData)
  | [] => []
  | (f, i) :: L => attrsD xs L ++ [(f, ((PyData.none :: xs)[i]?).getD .none)]
/-- raise C(e, ..), the parameters stored as L says -/
def raiseA (C : Addr) (n : Nat) (L : List (Str × Nat)) (ga : M (List AV)) : SM := fun S => match ga S with
  | some (.ok as, S') => (match frs as with
    | some xs => if xs.length = n then some (.exc (excD C (attrsD xs L)), S') else none
    | none => none)
  | some (.error x, S') => some (.exc x, S')
  | none => none
theorem frs_all {K : PySem.W.Frag} {Z : Hp} {σ : L2.St} {vs : List V} {as : List AV} (h : AvAll K Z σ vs as) : ∀ {xs : List PyData}, frs as = some xs → FrAll K Z vs xs := by
  induction h with
  | nil => intro xs e; cases e; exact .nil
  | @cons v vs a as h1 _ ih =>
    intro xs e
    cases a with
    | fr x =>
      have e : (frs as).map (x :: ·) = some xs := e
      cases q : frs as with
      | none => rw [q] at e; cases e
      | some ys => rw [q] at e; cases e; exact .cons h1 (ih q)
    | bw i => cases e
theorem attrs_names (σ : L2.St) (xs : List PyData) : ∀ L : List (Str × Nat), (pairsA σ L).map (·.1) = (attrsD xs L).map (·.1)
  | [] => rfl
  | (f, i) :: L => by
    show (pairsA σ L ++ [_]).map _ = (attrsD xs L ++ [_]).map _
    rw [List.map_append, List.map_append, attrs_names σ xs L]
    rfl
theorem FrAll.get0 {K : PySem.W.Frag} {Z : Hp} {vs : List V} {xs : List PyData} (h : FrAll K Z vs xs) {i : Nat} (hi : i < vs.length) : ∃ v x, vs[i]? = some v ∧ xs[i]? = some x ∧ Fr K Z v x := by
  obtain ⟨x, h1, h2⟩ := h.getV (List.getElem?_eq_getElem hi)
  exact ⟨_, x, List.getElem?_eq_getElem hi, h1, h2⟩
theorem attrs_fr {K : PySem.W.Frag} {Z : Hp} {a : V} {vs : List V} {xs : List PyData} (h : FrAll K Z vs xs) : ∀ L : List (Str × Nat), (∀ p ∈ L, 0 < p.2 ∧ p.2 < vs.length + 1) → FrAll K Z ((pairsA ((a :: vs).map some) L).map (·.2)) ((attrsD xs L).map (·.2))
  | [], _ => .nil
  | (f, i) :: L, hL => by
    show FrAll K Z ((pairsA _ L ++ [_]).map _) ((attrsD xs L ++ [_]).map _)
    rw [List.map_append, List.map_append]
    refine FrAll.append (attrs_fr h L fun p hp => hL p (List.mem_cons_of_mem _ hp)) (.cons ?_ .nil)
    obtain ⟨h0, h1⟩ := hL (f, i) List.mem_cons_self
    obtain ⟨j, rfl⟩ : ∃ j, i = j + 1 := ⟨i - 1, by omega⟩
    have h1 : j < vs.length := by omega
    obtain ⟨v, x, g1, g2, g3⟩ := h.get0 h1
    have e1 : (((a :: vs).map some)[j + 1]?).join = some v := by
      rw [List.map_cons, List.getElem?_cons_succ, List.getElem?_map, g1]; rfl
    have e2 : (PyData.none :: xs)[j + 1]? = some x := by rw [List.getElem?_cons_succ, g2]
    show Fr K Z ((((a :: vs).map some)[j + 1]?).join.getD .non) (((PyData.none :: xs)[j + 1]?).getD .none)
    rw [e1, e2]
    exact g3
theorem zip_fst_snd {α β : Type} : ∀ l : List (α × β), (l.map (·.1)).zip (l.map (·.2)) = l
  | [] => rfl
  | (a, b) :: l => by rw [List.map_cons, List.map_cons, List.zip_cons_cons, zip_fst_snd l]
section
variable {X : Cx} {T : List (Addr × Str)} {mp : List Nat} {e : Expr} {es : List Expr} {p pos pos2 : Pos}
theorem sv_raiseA {x : Str} {C fI : Addr} {k : Nat} {fd : FuncData} {N : List Str} {L : List (Str × Nat)} {ga : M (List AV)} (hc : X.calm = true) (T0 : OexC X.K C) (hno : ∀ p ∈ L, PySem.W.findIn X.K (.ref C) p.1 = some none) (hL : L ≠ []) (hLi : ∀ p ∈ L, 0 < p.2 ∧ p.2 < N.length) (hn : N.length ≤ 900)
    (iC : PySem.W.findIn X.K (.ref C) "__init__" = some (some (.ref fI))) (tI : PySem.W.typeIn X.K (.ref fI) = some (.type "function"))
    (F1 : FnOk X.prog X.w X.K X.mg X.base (L2.CX X.prog X.w) k fI fd N (spSup X.K N L C)) (hr : Room (k + 1) X.A) (hb : Binds X.K fd N []) (hx : Passes (L2.CX X.prog X.w) X (fun _ _ _ => False)) (hg : Gl X x) (hm : X.mg x = some (.ref C)) (ha : EVA X T (e :: es) ga)
    (hdb : (x == ("__debug__" : Str)) = false := by decide) (he : starEach (e :: es) X.env = (false, eval e X.env) :: starEach es X.env := by rfl) (hpl : (backTo pos (starEach es X.env)).any (·.1) = false := by rfl) :
    SV X T mp (.Raise (some (.Call (.Name x p) (e :: es) [] pos)) none pos2) (raiseA C (N.length - 1) L ga) := by
  refine ⟨fun pins s σ H D I ⟨Z, R, S, r, S', W, P, rel, pn, er, tk, q⟩ => ?_⟩
  refine (ps_raise hc tk (pmk_oex (ds := []) (dvs := []) T0 iC tI F1 hr hb .nil hx hg hm ha hdb he hpl)).run pins s σ H D I ?_
  unfold raiseA at er
  cases ef : ga S with
  | none => rw [ef] at er; cases er
  | some t =>
    obtain ⟨r0, S0⟩ := t
    rw [ef] at er
    cases r0 with
    | error y =>
      cases er
      exact ⟨Z, R, S, .error y, _, W, rel, ef, tk, fun cls d H' Z' sb rel' ix => q cls d σ H' Z' sb rel' pn ix⟩
    | ok as =>
      have er : (match frs as with
        | some xs => if xs.length = N.length - 1 then some (Fl.exc (excD C (attrsD xs L)), S0) else none
        | none => none) = some (r, S') := er
      cases eq : frs as with
      | none => rw [eq] at er; cases er
      | some xs =>
        rw [eq] at er
        have er : (if xs.length = N.length - 1 then some (Fl.exc (excD C (attrsD xs L)), S0) else none) = some (r, S') := er
        split at er
        · rename_i hlen
          cases er
          refine ⟨Z, R, S, .ok as, _, W, rel, ef, tk, fun vs H1 Z1 s1 r1 a1 => ?_⟩
          have fr := frs_all a1 eq
          have hvl := fr.length
          have hN0 : 0 < N.length := by
            cases L with
            | nil => exact absurd rfl hL
            | cons p L => have := (hLi p List.mem_cons_self).2; omega
          refine ⟨by omega, fun a ha0 => ?_⟩
          refine ⟨by simp; omega, a, rfl, T0, hno, upd_same, fun dx hdx hne => ?_⟩
          rw [upd_ne hne] at hdx
          rw [List.append_nil]
          refine ⟨rfl, dx, pairsA ((V.ref a :: vs).map some) L, upd_same, by rw [upd_ne hne]; exact upd_same, hdx, ?_⟩
          have eH : upd (L2.del (upd (upd (upd H1 a (exo a C none)) dx (exd dx (pairsA ((V.ref a :: vs).map some) L))) a (exo a C (some dx))) a) dx (.xd (pairsA ((V.ref a :: vs).map some) L)) = upd H1 dx (.xd (pairsA ((V.ref a :: vs).map some) L)) := by
            funext b
            by_cases e1 : b = dx
            · rw [e1, upd_same, upd_same]
            · rw [upd_ne e1, upd_ne e1]
              by_cases e2 : b = a
              · rw [e2, del_same, ha0]
              · rw [del_ne e2, upd_ne e2, upd_ne e1, upd_ne e2]
          rw [eH]
          have r2 := r1.frozen hdx (.xd (pairsA ((V.ref a :: vs).map some) L)) (fun ps z => by cases z)
          have zp : Z1 dx = none := by
            cases e : Z1 dx with
            | none => rfl
            | some w => rw [r1.z _ _ e] at hdx; cases hdx
          refine q (.ref C) (some dx) σ _ (upd Z1 dx (.xd (pairsA ((V.ref a :: vs).map some) L))) (s1.trans (sub_upd _ zp)) r2 pn ⟨C, attrsD xs L, rfl, rfl, .inr ⟨?_, dx, (pairsA ((V.ref a :: vs).map some) L).map (·.2), rfl, ?_, ?_⟩⟩
          · cases L with
            | nil => exact absurd rfl hL
            | cons p L =>
              obtain ⟨f, i⟩ := p
              intro z
              have : attrsD xs L ++ [(f, ((PyData.none :: xs)[i]?).getD .none)] = [] := z
              simp at this
          · rw [upd_same, ← attrs_names ((V.ref a :: vs).map some) xs L, zip_fst_snd]
          · refine (attrs_fr fr L fun p hp => ?_).sub (sub_upd _ zp)
            have := hLi p hp
            omega
        · cases er
/-! ### reading an attribute -/
def getX : PyData → Option (Addr × List (PyData × PyData))
  | .dict ((.none, .int C) :: kvs) => some (C.toNat, kvs)
  | _ => none
def oAttr (n : Str) (x : PyData) : Option OV := match getX x with
  | some (_, kvs) => (kvs.find? fun p => match p.1 with
    | .str z => decide (z = n)
    | _ => false).map fun p => .d p.2
  | none => none
def oAttrD (Ds : List Addr) (n : Str) (x : PyData) : Option OV := match getX x with
  | some (C, _) => if C ∈ Ds then oAttr n x else none
  | none => none
def attrM (Ds : List Addr) (n : Str) (fa : M AV) : M OV := fa >>= fun a => op1 (oAttrD Ds n) a
theorem getX_excD (C : Addr) (fs : List (Str × PyData)) : getX (excD C fs) = some (C, fs.map fun p => (.str p.1, p.2)) := by
  show some (((C : Nat) : Int).toNat, _) = _
  rw [Int.toNat_natCast]
theorem attr_find (n : Str) : ∀ (fs : List (Str × PyData)) (ws : List V) {K : PySem.W.Frag} {Z : Hp} {o : OV}, FrAll K Z ws (fs.map (·.2)) → ((fs.map fun p => ((PyData.str p.1, p.2) : PyData × PyData)).find? fun p => match p.1 with
    | .str z => decide (z = n)
    | _ => false).map (fun p => OV.d p.2) = some o → ∃ v x, ((fs.map (·.1)).zip ws).lookup n = some v ∧ o = .d x ∧ Fr K Z v x
  | [], ws, K, Z, o, h, e => by simp at e
  | (f, x) :: fs, ws, K, Z, o, h, e => by
    cases ws with
    | nil => cases h
    | cons w ws =>
      cases h with
      | cons h1 h2 =>
        rw [List.map_cons, List.find?_cons] at e
        rw [List.map_cons, List.zip_cons_cons, List.lookup_cons]
        by_cases hf : f = n
        · subst hf
          simp at e
          exact ⟨w, x, by simp, e.symm, h1⟩
        · have e1 : (n == f) = false := by simpa using fun z => hf z.symm
          rw [e1]
          simp only [decide_eq_false hf] at e
          exact attr_find n fs ws h2 e
theorem Fr.getExc {K : PySem.W.Frag} {Z : Hp} {v : V} {x : PyData} {D : Addr} {kvs : List (PyData × PyData)} (f : Fr K Z v x) (e : getX x = some (D, kvs)) : ∃ a, v = .ref a ∧ ((Z a = some (ExV (.ref D) none a) ∧ kvs = []) ∨ ∃ (dx : Addr) (ws : List V) (fs : List (Str × PyData)), Z a = some (ExV (.ref D) (some dx) a) ∧ Z dx = some (.xd ((fs.map (·.1)).zip ws)) ∧ FrAll K Z ws (fs.map (·.2)) ∧ kvs = fs.map fun p => (PyData.str p.1, p.2)) := by
  cases f with
  | @exc0 a C h =>
    rw [getX_excD] at e
    cases e
    exact ⟨a, rfl, .inl ⟨h, rfl⟩⟩
  | @exc a C dx ws fs n h h2 fr =>
    rw [getX_excD] at e
    cases e
    exact ⟨a, rfl, .inr ⟨dx, ws, fs, h, h2, fr, rfl⟩⟩
  | _ => cases e
def tXfV (K : PySem.W.Frag) (f : Str) (te : TE) : TE := fun σ H Q => te σ H fun x H1 => ∃ (a C dd : Addr) (fs : List (Str × V)) (v : V), x = .ref a ∧ XfC K C ∧ PySem.W.findIn K (.ref C) f = some none ∧ H1 a = some (ExV (.ref C) (some dd) a) ∧ H1 dd = some (.xd fs) ∧ fs.lookup f = some v ∧ Q v H1
theorem pe_xfV {te : TE} {n : Str} (he : PE X e te) (hb : attributeBase e n X.env (eval e X.env) = eval e X.env := by rfl) : PE X (.Attribute e n pos) (tXfV X.K n te) := by
  refine ⟨fun pins s σ H Q I h => ?_⟩
  refine attr_of hb (thn (he.run pins s σ H _ I h) fun u s1 hh => ?_)
  obtain ⟨x, H1, I1, rx, a, C, dd, fs, v, ex, T, hno, hH, ea, l, q⟩ := hh
  subst ex
  obtain rfl : u = Value.ref a := rx
  obtain ⟨⟨oe, vs, hget, hz, hd⟩, _⟩ := I1.hok a _ hH
  have hx : ObjOk X.prog X.w H1 s1.heap dd (.xd fs) := I1.hok dd _ ea
  obtain ⟨mA, hns, hr⟩ := hx
  obtain ⟨od, ho, hl⟩ := lookIn_ns hns
  obtain ⟨u, hu, ru⟩ := RelO.some_of (v := v) (o := mA n) (by rw [← l]; exact hr n)
  have J : PySem.W.InstAt s1.heap a oe C (some od) := ⟨hget, hz.1, by unfold PySem.W.notCls; rw [hd] <;> rfl, by rw [hz.2]; exact ho⟩
  exact HandSPX.exc_get I1.kIn J T.ga T.gg T.exC (PySem.W.findObj_own T.hdC hno rfl (by rw [hl, hu])) (handed_of ru) ⟨v, H1, I1.tok _, ru, q⟩
theorem ev_xattr {Ds : List Addr} {n : Str} {fa : M AV} (hD : ∀ C ∈ Ds, XfC X.K C ∧ PySem.W.findIn X.K (.ref C) n = some none) (ha : EVV X T e fa) (hb : attributeBase e n X.env (eval e X.env) = eval e X.env := by rfl) : EV X T (.Attribute e n pos) (attrM Ds n fa) :=
  pe_mono (pe_xfV ha hb) fun σ H Q ⟨Z, h⟩ => by
    refine ⟨Z, rz_mono (rv_bind POk.mono h) fun Z R a S p v H1 Z1 s1 r1 a1 => ?_⟩
    obtain ⟨u, Z2, s2, o2, h2⟩ := p v H1 Z1 s1 r1 a1
    obtain ⟨x, o, R3, S3, sz, w, e, rel, pf⟩ := rz_op1 h2 o2
    cases hg : getX x with
    | none =>
      have e : (match getX x with
        | some (C, _) => if C ∈ Ds then oAttr n x else none
        | none => none) = some o := e
      rw [hg] at e; cases e
    | some t =>
      obtain ⟨C, kvs⟩ := t
      have e : (match getX x with
        | some (C, _) => if C ∈ Ds then oAttr n x else none
        | none => none) = some o := e
      rw [hg] at e
      have e : (if C ∈ Ds then oAttr n x else none) = some o := e
      split at e
      · rename_i hC
        obtain ⟨t1, t2⟩ := hD C hC
        unfold oAttr at e
        rw [hg] at e
        have f := w.fr (fun ds z => by subst z; cases hg)
        obtain ⟨a, rfl, ⟨hZ, rfl⟩ | ⟨dx, ws, fs, hZ, hZ2, fr, rfl⟩⟩ := f.getExc hg
        · cases e
        · obtain ⟨v, y, g1, rfl, g3⟩ := attr_find n fs ws fr e
          exact ⟨a, C, dx, _, v, rfl, t1, t2, sz _ _ hZ, sz _ _ hZ2, g1, pf v H1 Z2 (Sub.refl _) (rel.push g3)⟩
      · cases e
/-! ### isinstance, exceptions with and without attributes -/
def rIsiE2 (K : PySem.W.Frag) (D : Addr) : List V → Hp → VK → Prop := fun xs H Q => ∃ (a : Addr) (c : V) (u : Value) (b : Bool) (dx : Addr) (fs : List (Str × V)), xs = [.ref a, c] ∧ ClsV c u ∧ H a = some (ExV (.ref D) (some dx) a) ∧ H dx = some (.xd fs) ∧ PySem.W.kitOne K (.ref D) u = some b ∧ Q (.bl b) H
theorem call_isiE2 {D : Addr} (C : ExcC X.K D) : CallR X (.builtin "isinstance") (rIsiE2 X.K D) := by
  intro pins s σ H xs us Q I r h
  obtain ⟨a, c, cv, b, dx, fs, rfl, hcv, hH, hH2, e, q⟩ := h
  cases r with
  | cons rx rr =>
    cases rr with
    | cons rt rr =>
      cases rr
      cases rx
      have ec := hcv.eq rt
      subst ec
      obtain ⟨⟨oe, vs, hget, hz, hv⟩, _⟩ := I.hok a _ hH
      have hx : ObjOk X.prog X.w H s.heap dx (.xd fs) := I.hok dx _ hH2
      obtain ⟨mA, hns, hr⟩ := hx
      obtain ⟨od, ho, hl⟩ := lookIn_ns hns
      have J : PySem.W.InstAt s.heap a oe D (some od) := ⟨hget, hz.1, by unfold PySem.W.notCls; rw [hv] <;> rfl, by rw [hz.2]; exact ho⟩
      have hcl : (PySem.W.clsIn X.K D).isSome = true := by
        obtain ⟨cdD, hcD, _⟩ := PySem.W.any_some C.hd
        rw [hcD]; rfl
      exact PySem.W.kia_one (PySem.W.kitx_exc (ox := oe) (od := some od) hcl C.hg C.hk C.hs C.ha C.hn C.ht C.hm) I.kIn J e (fun z => nomatch z) fun tk => ⟨.bl b, H, I.kept (t' := tk) fun _ _ z => z, rfl, q⟩
/-- isinstance(x, c) of data, exceptions of the classes Ds among them, with attributes or without -/
def rIsiY (K : PySem.W.Frag) (Ds : List Addr) : List V → Hp → VK → Prop := fun xs H Q => rIsiX K Ds xs H Q ∨ ∃ D ∈ Ds, rIsiE2 K D xs H Q
theorem call_isiY {Ds : List Addr} (C : ∀ D ∈ Ds, ExcC X.K D) : CallR X (.builtin "isinstance") (rIsiY X.K Ds) := by
  intro pins s σ H xs us Q I r h
  rcases h with h | ⟨D, hD, h⟩
  · exact call_isiX C pins s σ H xs us Q I r h
  · exact call_isiE2 (C D hD) pins s σ H xs us Q I r h
def oIsiY (K : PySem.W.Frag) (Ds : List Addr) (c : Value) (x : PyData) : Option OV := match tyName x with
  | some m => (PySem.W.kitOne K (.type m) c).bind okB
  | none => match getX x with
    | some (D, _) => if D ∈ Ds then (PySem.W.kitOne K (.ref D) c).bind okB else none
    | none => none
def isiY (K : PySem.W.Frag) (Ds : List Addr) (c : Value) (fa : M AV) : M OV := fa >>= fun a => op1 (oIsiY K Ds c) a
theorem ev_isiY {Ds : List Addr} {a b : Expr} {fa : M AV} {cv : V} {c : Value} {p pos : Pos} (C : ∀ D ∈ Ds, ExcC X.K D) (hg : Gl X "isinstance") (hm : X.mg "isinstance" = none) (ha : EVV X T a fa) (hb : PE X b (tC cv)) (hcl : ClsV cv c)
    (he : starEach [a, b] X.env = (false, eval a X.env) :: starEach [b] X.env := by rfl) (he2 : starEach [b] X.env = (false, eval b X.env) :: starEach [] X.env := by rfl) (hpl : (backTo pos (starEach [b] X.env)).any (·.1) = false := by rfl) : EV X T (.Call (.Name "isinstance" p) [a, b] [] pos) (isiY X.K Ds c fa) :=
  pe_mono (pe_callB (call_isiY C) hg hm (by decide +kernel) (pa_cons ha (pa_cons hb pa_nil he2) he) (by decide) (by decide) he hpl) fun σ H Q ⟨Z, h⟩ => by
    refine ⟨Z, rz_mono (rv_bind POk.mono h) fun Z R a S p v H1 Z1 s1 r1 a1 => ?_⟩
    obtain ⟨u, Z2, s2, o2, h2⟩ := p v H1 Z1 s1 r1 a1
    obtain ⟨x, o, R3, S3, sz, w, e, rel, pf⟩ := rz_op1 h2 o2
    have fin : ∀ k, o = .d (.bool k) → Q (.bl k) H1 := fun k ek => by subst ek; exact pf _ H1 Z2 (Sub.refl _) (rel.push (.bl k))
    unfold oIsiY at e
    split at e
    · rename_i m q1
      cases q2 : PySem.W.kitOne X.K (.type m) c with
      | none => rw [q2] at e; cases e
      | some k =>
        rw [q2] at e
        cases e
        exact .inl (.inl ⟨v, cv, .type m, c, k, rfl, hcl, w.tyX sz q1, q2, fin k rfl⟩)
    · split at e
      · rename_i q0 D kvs q1
        split at e
        · rename_i hD
          cases q2 : PySem.W.kitOne X.K (.ref D) c with
          | none => rw [q2] at e; cases e
          | some k =>
            rw [q2] at e
            cases e
            have f := w.fr (fun ds z => by subst z; cases q1)
            obtain ⟨a, rfl, ⟨hZ, _⟩ | ⟨dx, ws, fs, hZ, hZ2, fr, _⟩⟩ := f.getExc q1
            · exact .inl (.inr ⟨D, hD, a, cv, c, k, rfl, hcl, sz _ _ hZ, q2, fin k rfl⟩)
            · exact .inr ⟨D, hD, a, cv, c, k, dx, _, rfl, hcl, sz _ _ hZ, sz _ _ hZ2, q2, fin k rfl⟩
        · cases e
      · cases e
end
@[simp] theorem isiY_S (K : PySem.W.Frag) (Ds : List Addr) (c : Value) (f : M AV) (S : SS) : isiY K Ds c f S = (f >>= fun a => op1 (oIsiY K Ds c) a) S := rfl
@[simp] theorem raiseA_S (C : Addr) (n : Nat) (L : List (Str × Nat)) (ga : M (List AV)) (S : SS) : raiseA C n L ga S = match ga S with
  | some (.ok as, S') => (match frs as with
    | some xs => if xs.length = n then some (.exc (excD C (attrsD xs L)), S') else none
    | none => none)
  | some (.error x, S') => some (.exc x, S')
  | none => none := rfl
@[simp] theorem attrM_S (Ds : List Addr) (n : Str) (f : M AV) (S : SS) : attrM Ds n f S = (f >>= fun a => op1 (oAttrD Ds n) a) S := rfl
end PL

/-! PL31: what is known of an own exception class with attributes -/
namespace PL
open PySem PySem.Spec PyProof.Rows L2 LamX

structure XI (P : Program) (w : World) (K : PySem.W.Frag) (mg : Str → Option Value) (base : Heap) (C fI : Addr) (fd : FuncData) (N : List Str) (L : List (Str × Nat)) : Prop where
  ox : OexC K C
  no : ∀ p ∈ L, PySem.W.findIn K (.ref C) p.1 = some none
  ini : PySem.W.findIn K (.ref C) "__init__" = some (some (.ref fI))
  tyI : PySem.W.typeIn K (.ref fI) = some (.type "function")
  fn : FnOk P w K mg base (L2.CX P w) 1 fI fd N (spSup K N L C)
  bi : Binds K fd N []
theorem passesF {P : Program} {w : World} {X : Cx} : Passes (L2.CX P w) X (fun _ _ _ => False) := fun _ _ _ _ _ _ _ ⟨_, _, _, _, _, _, _, _, _, _, _, _, z⟩ => z.elim
theorem only_of {scope : Scope} (h : scope.names.all (fun p => match p.2 with
  | .cell => false
  | .free => p.1.cps.toList == ("__class__" : Str).cps.toList
  | _ => true) = true) : (∀ y, (scope.names.lookup y = some .cell ∨ scope.names.lookup y = some .free) → y = ("__class__" : Str)) ∧ ∀ x ∈ scope.names, x.2 ≠ .cell := by
  have h := List.all_eq_true.mp h
  refine ⟨fun y hy => ?_, fun x hx e => ?_⟩
  · rcases hy with hy | hy
    · have := h _ (PySem.mem_of_lookup hy)
      simp at this
    · have := h _ (PySem.mem_of_lookup hy)
      exact eqStrB_ok (s := y) (t := "__class__") this
  · have := h x hx
    rw [e] at this
    simp at this
section
variable {P : Program} {w : World} {K : PySem.W.Frag} {mg : Str → Option Value} {base : Heap} {st : Stmt} {N : List Str} {L : List (Str × Nat)} {msg qual : Str} {rest : List Stmt} {ar : Arg} {j : Nat} {p0 p1 p2 p3 p4 p5 : Pos}
  {C fI cda cc : Addr} {oc ccl cl2 dV kV doc pm ct : Value} {od an cdd cld : Option Addr} {osl ccs csl : Array (Option Value)} {cvs : Array Value} {file nm q : Str} {tf : Tok} {NN : Addr} {bs bm sub : List Value} {sn : List Str} {ab : Bool} {col : Option Bool} {dd : Option Addr} {k0 k1 k2 k3 k5 : Option Value}
theorem xi_mk (S : SupS N (defScope st)) (hms : mg "super" = none)
    (har : ((defArgs st).posonlyargs ++ (defArgs st).args).head? = some ar) (h0 : N[0]? = some ar.arg) (hd : (ar.arg == ("__debug__" : Str)) = false) (hcd : (ar.arg == ("__classdict__" : Str)) = false) (hL : L ≠ []) (hLi : ∀ p ∈ L, p.2 < N.length) (hL9 : L.length ≤ 900)
    (hbody : defBody st = .Expr (.Call (.Attribute (.Call (.Name "super" p0) [] [] p1) "__init__" p2) [.Constant (.str msg) j p5] [] p3) p4 :: rest) (hr : AStm N ar.arg rest L)
    (hev : ∀ env : Env, ∃ pl : Sem Bool, eval (.Call (.Attribute (.Call (.Name "super" p0) [] [] p1) "__init__" p2) [.Constant (.str msg) j p5] [] p3) env = (do
      let ov ← attributeBase (.Call (.Name "super" p0) [] [] p1) "__init__" env (eval (.Call (.Name "super" p0) [] [] p1) env)
      standAt p2.atName
      let (f, first) ← holding [ov] (getMethod ov "__init__" pl)
      callWith p3 f first (backTo p3 (starEach [.Constant (.str msg) j p5] env)) []))
    (hsw : ∀ env : Env, swapsWith (.Call (.Attribute (.Call (.Name "super" p0) [] [] p1) "__init__" p2) [.Constant (.str msg) j p5] [] p3) none p4.line env = pure false)
    (hb : ∀ us : List Value, us.length = N.length → bindArgs (PySem.W.ksFn "__init__" qual (defArgs st) (defBody st) (defScope st) dV kV doc pm an (.ref cda) ct cc) ⟨us, []⟩ = pure (N.zip us))
    (f1 : K.lookup fI = some ⟨oc, od, .func (PySem.W.ksFn "__init__" qual (defArgs st) (defBody st) (defScope st) dV kV doc pm an (.ref cda) ct cc), osl⟩) (f2 : PySem.W.codeIn K (.ref cda) qual = true)
    (f3 : K.lookup cc = some ⟨cl2, cld, .cell (some (.ref C)), csl⟩) (f4 : PySem.W.isClsIn K C = true) (f5 : PySem.W.mroIn K C (.ref C) = some true) (f6 : K.lookup cda = some ⟨ccl, cdd, .fields cvs, ccs⟩) (f7 : cvs[2]? = some (.str file tf)) (f8 : ((P.main.file : Str) == file) = true)
    (f9 : (P.main.scope.names.lookup ("super" : Str)).isSome = false) (f10 : PySem.W.ks_superIn K C C "__init__" = some (some (.builtin "ValueError.__init__"))) (f11 : PySem.W.nsIn K cStatics "thirdparty.any" = some none) (f12 : PySem.W.subIn K (.ref C) (.type "ValueError") = some true)
    (g1 : K.lookup C = some (excClassObj nm q C NN bs bm true sn sub ab col dd k0 k1 k2 k3 k5 "ValueError.__new__")) (g2 : PySem.HandSPX.refsVE bm = true) (g3 : PySem.W.findIn K (.ref C) "__setattr__" = some (some (.builtin "object.__setattr__")))
    (g4 : PySem.W.subIn K (.ref C) (.type "BaseException") = some true) (g5 : PySem.W.typeIn K (.ref C) = some (.type "type")) (g6 : PySem.W.keepIn K (.ref C) = true) (g7 : L.all (fun p => decide (PySem.W.findIn K (.ref C) p.1 = some none)) = true)
    (g8 : PySem.W.findIn K (.ref C) "__init__" = some (some (.ref fI))) (g9 : PySem.W.typeIn K (.ref fI) = some (.type "function")) :
    XI P w K mg base C fI (PySem.W.ksFn "__init__" qual (defArgs st) (defBody st) (defScope st) dV kV doc pm an (.ref cda) ct cc) N L where
  ox := ⟨⟨_, _, _, _, _, _, _, _, _, _, _, _, _, _, _, g1, g2⟩, g3, g4, g5, g6⟩
  no := fun p hp => of_decide_eq_true (List.all_eq_true.mp g7 p hp)
  ini := g8
  tyI := g9
  fn := fn_sup (k := 0) f1 f2 S (D := C) ⟨⟨_, _, _, f3⟩, by
    have h : (PySem.W.clsIn K C).isSome = true := f4
    exact Option.isSome_iff_exists.mp h, f5, ⟨_, _, _, _, _, _, f6, f7, f8⟩, f9, f10, f11, f12⟩ hms har h0 hd hcd hL hLi hL9 hbody hr hev hsw
  bi := .all hb
end
end PL

/-! PL32: l.index(x) -/
namespace PL
open PySem PySem.Spec PyProof.Rows L2 LamX
def idxD (d : PyData) : List PyData → Option Nat
  | [] => none
  | z :: ds => if PyData.eqv z d then some 0 else (idxD d ds).map (· + 1)
theorem idxD_spec {d : PyData} : ∀ {ds : List PyData} {j : Nat}, idxD d ds = some j → ∃ z, ds[j]? = some z ∧ PyData.eqv z d = true ∧ ∀ (m : Nat) (z' : PyData), m < j → ds[m]? = some z' → PyData.eqv z' d = false
  | [], j, e => by cases e
  | z :: ds, j, e => by
    unfold idxD at e
    split at e
    · rename_i h
      cases e
      exact ⟨z, rfl, h, fun m z' hm => absurd hm (Nat.not_lt_zero m)⟩
    · rename_i h
      cases q : idxD d ds with
      | none => rw [q] at e; cases e
      | some i =>
        rw [q] at e
        cases e
        obtain ⟨z1, h1, h2, h3⟩ := idxD_spec q
        refine ⟨z1, by simpa using h1, h2, fun m z' hm hz => ?_⟩
        cases m with
        | zero => simp at hz; subst hz; simpa using h
        | succ m => exact h3 m z' (Nat.lt_of_succ_lt_succ hm) (by simpa using hz)
section
variable {X : Cx} {T : List (Addr × Str)}
def oIndex : PyData → List PyData → Option OV
  | .list ds, [d] => if SeqAt.shaped d && SeqAt.shaped (.list ds) then (idxD d ds).bind fun j => okI (j : Nat) else none
  | _, _ => none
theorem mg_index : MethG X T (rIndexD X.K) oIndex := by
  intro Z v vs x xs o σ H Q sz hv hvs e fin
  unfold oIndex at e
  split at e
  · rename_i ds d
    split at e
    · rename_i hs
      rw [Bool.and_eq_true] at hs
      cases q : idxD d ds with
      | none => rw [q] at e; cases e
      | some j =>
        rw [q] at e
        cases e
        obtain ⟨w, rfl, hw⟩ := hvs.one
        obtain ⟨z, h1, h2, h3⟩ := idxD_spec q
        have f1 := hv.dp sz (flat_of_shaped hs.2)
        have f2 := hw.dp sz (flat_of_shaped hs.1)
        cases f1 with
        | lst ha hr => exact ⟨_, w, d, ds, j, z, rfl, rfl, .lst ha hr, f2, hs.2, hs.1, h1, h2, h3, fin.val (.int _)⟩
    · cases e
  · cases e
end
@[simp] theorem tyOk_list (xs : List PyData) : tyOk "list" (.list xs) = true := rfl
theorem oIndex_e (ds : List PyData) (d : PyData) : oIndex (.list ds) [d] = if SeqAt.shaped d && SeqAt.shaped (.list ds) then (idxD d ds).bind fun j => okI (j : Nat) else none := rfl
end PL

/-! PL33: while loops by steps; stores into lists -/
namespace PL
open PySem PySem.Spec PyProof.Rows L2 LamX
section
variable {ft : M Bool} {b : SM} {S S1 S2 : SS} {n : Nat} {p : Fl × SS}
theorem wh_stop (h : ft S = some (.ok false, S1)) : whileN ft b (n + 1) S = some (.nx, S1) := by
  show doE ft _ S = _
  rw [doE_S, h]; rfl
theorem wh_step (h : ft S = some (.ok true, S1)) (h2 : b S1 = some (.nx, S2)) (h3 : whileN ft b n S2 = some p) : whileN ft b (n + 1) S = some p := by
  show doE ft _ S = _
  rw [doE_S, h]
  show turnS b (whileN ft b n) S1 = _
  unfold turnS
  rw [h2]; exact h3
theorem wh_ret {o : OV} (h : ft S = some (.ok true, S1)) (h2 : b S1 = some (.ret o, S2)) : whileN ft b (n + 1) S = some (.ret o, S2) := by
  show doE ft _ S = _
  rw [doE_S, h]
  show turnS b (whileN ft b n) S1 = _
  unfold turnS
  rw [h2]
theorem wh_exc {o : PyData} (h : ft S = some (.ok true, S1)) (h2 : b S1 = some (.exc o, S2)) : whileN ft b (n + 1) S = some (.exc o, S2) := by
  show doE ft _ S = _
  rw [doE_S, h]
  show turnS b (whileN ft b n) S1 = _
  unfold turnS
  rw [h2]
end
@[simp] theorem setL_S (i : Nat) (fe : M OV) (fk : M AV) (S : SS) : setL i fe fk S = doE fe (fun o => match o with
  | .d x => putL i fk x
  | _ => fun _ => none) S := rfl
@[simp] theorem putL_S (i : Nat) (fk : M AV) (x : PyData) (S : SS) : putL i fk x S = match isL S[i]? with
  | some _ => doE fk (storeL i x) S
  | none => none := rfl
@[simp] theorem storeL_S (i : Nat) (x : PyData) (a : AV) (S : SS) : storeL i x a S = match isL S[i]?, view S a with
  | some ds, some (.int k) => (ixN ds.length k).map fun j => (.nx, S.set i (some (.lst ((ds.set j x).map .d))))
  | _, _ => none := rfl
theorem oIsN_n (x : PyData) : oIsN x .none = some (.d (.bool (isNone x))) := rfl
theorem oNotN_n (x : PyData) : oNotN x .none = some (.d (.bool (!isNone x))) := rfl
end PL

/-! PL34: isinstance of an own exception class against a built-in type -/
namespace PL
open PySem PySem.Spec PyProof.Rows L2 LamX
theorem kit_ty {K : PySem.W.Frag} {C : Addr} {T : String} {b : Bool} (h0 : (Value.ref C == Value.type T) = false) (h1 : PySem.W.kitMeta T = true) (h2 : PySem.W.subIn K (.ref C) (.type T) = some b) : PySem.W.kitOne K (.ref C) (.type T) = some b := by
  unfold PySem.W.kitOne
  rw [if_neg (by rw [h0]; decide)]
  exact (if_pos h1).trans h2
end PL

/-! the defs as pure functions (printed by gen2.py) -/
namespace K16
open PySem PySem.Spec PyProof.Rows L2 LamX PL

def top (i : Nat) : Stmt := PySem.Challenge.pw_onebase_k16_whole_cells_parted_one_way.main.body.getD i (.Pass ⟨0, 0, 0, 0⟩)
structure Ad where
  LinkError : Addr
  BadCells : Addr
  BadCode : Addr
  f_is_number : Addr
  d_is_number : FuncData
  f_cells_for : Addr
  d_cells_for : FuncData
  f_are_cells : Addr
  d_are_cells : FuncData
  f_sense_in : Addr
  d_sense_in : FuncData
  f_parted : Addr
  d_parted : FuncData
  f_law_begun : Addr
  d_law_begun : FuncData
  f_law_mixed : Addr
  d_law_mixed : FuncData
  f_law_take : Addr
  d_law_take : FuncData
  f_law_pick : Addr
  d_law_pick : FuncData
  f_law_caught : Addr
  d_law_caught : FuncData
  f_law_codes : Addr
  d_law_codes : FuncData
  f_law_span : Addr
  d_law_span : FuncData
  f_law_many : Addr
  d_law_many : FuncData
  f_law_cells_of : Addr
  d_law_cells_of : FuncData
  f_law_made : Addr
  d_law_made : FuncData
  f_law_sense : Addr
  d_law_sense : FuncData
  f_law_walked : Addr
  d_law_walked : FuncData
  f_law_is_walk : Addr
  d_law_is_walk : FuncData
  f_law : Addr
  d_law : FuncData
  i_BadCode : Addr
  di_BadCode : FuncData
  a_CODES : Addr
  a_LOWEST : Addr
  a_BEYOND : Addr
  cl_law_is_walk : Addr
  pt_law_is_walk : Addr
  cl_law : Addr
  pt_law : Addr
def tb_CODES : List (Int × PyData) := [(1, (.tuple [(.str "set"), (.str "rc")])), (2, (.tuple [(.str "copy"), (.str "rr")])), (3, (.tuple [(.str "plus"), (.str "rr")])), (4, (.tuple [(.str "less"), (.str "rr")])), (5, (.tuple [(.str "ask"), (.str "r")])), (6, (.tuple [(.str "show"), (.str "r")])), (7, (.tuple [(.str "load"), (.str "rD")])), (8, (.tuple [(.str "store"), (.str "rD")])), (9, (.tuple [(.str "item"), (.str "rrLD")])), (10, (.tuple [(.str "fill"), (.str "rrLD")])), (11, (.tuple [(.str "take"), (.str "pD")])), (12, (.tuple [(.str "pick"), (.str "prLD")])), (13, (.tuple [(.str "alike"), (.str "rpp")])), (14, (.tuple [(.str "call"), (.str "d")])), (15, (.tuple [(.str "call"), (.str "D")])), (16, (.tuple [(.str "jump"), (.str "d")])), (17, (.tuple [(.str "jump"), (.str "D")])), (18, (.tuple [(.str "if"), (.str "rd")])), (19, (.tuple [(.str "if"), (.str "rD")])), (20, (.tuple [(.str "leap"), (.str "p")])), (21, (.tuple [(.str "return"), (.str "")])), (22, (.tuple [(.str "stop"), (.str "")])), (23, (.tuple [(.str "fail"), (.str "f")])), (27, (.tuple [(.str "by load"), (.str "rkD")])), (28, (.tuple [(.str "by store"), (.str "rkD")])), (29, (.tuple [(.str "by item"), (.str "rrLD")])), (30, (.tuple [(.str "by fill"), (.str "rrLD")])), (31, (.tuple [(.str "by take"), (.str "pD")])), (32, (.tuple [(.str "by pick"), (.str "prLD")])), (35, (.tuple [(.str "by call"), (.str "D")])), (37, (.tuple [(.str "by jump"), (.str "D")]))]
def tb_LOWEST : List (Str × PyData) := [("r", (.int 0)), ("p", (.int 0)), ("c", (.int 0)), ("k", (.int 0)), ("f", (.int 0)), ("L", (.int 1)), ("d", (.int (-32))), ("D", (.int (-2048)))]
def tb_BEYOND : List (Str × PyData) := [("r", (.int 4)), ("p", (.int 2)), ("c", (.int 64)), ("k", (.int 64)), ("f", (.int 63)), ("L", (.int 65)), ("d", (.int 32)), ("D", (.int 2048))]
def s_is_number : Stmt := top 5
theorem sc_is_number : FnScope ["thing", "low", "end"] ["thing", "low", "end"] (defScope s_is_number) := ⟨rfl, rfl, rfl, by decide +kernel, rfl, by decide +kernel, by decide +kernel⟩
def s_cells_for : Stmt := top 10
theorem sc_cells_for : FnScope ["signs"] ["signs"] (defScope s_cells_for) := ⟨rfl, rfl, rfl, by decide +kernel, rfl, by decide +kernel, by decide +kernel⟩
def s_are_cells : Stmt := top 11
theorem sc_are_cells : FnScope ["thing", "cell"] ["thing"] (defScope s_are_cells) := ⟨rfl, rfl, rfl, by decide +kernel, rfl, by decide +kernel, by decide +kernel⟩
def s_sense_in : Stmt := top 12
theorem sc_sense_in : FnScope ["cells", "at", "word", "signs", "many", "sense", "place", "sign", "part"] ["cells", "at"] (defScope s_sense_in) := ⟨rfl, rfl, rfl, by decide +kernel, rfl, by decide +kernel, by decide +kernel⟩
def s_parted : Stmt := top 13
theorem sc_parted : FnScope ["cells", "found", "at", "there"] ["cells"] (defScope s_parted) := ⟨rfl, rfl, rfl, by decide +kernel, rfl, by decide +kernel, by decide +kernel⟩
def s_law_begun : Stmt := top 15
theorem sc_law_begun : FnScope ["_law_script", "_law_wide", "_law_grain"] ["_law_script"] (defScope s_law_begun) := ⟨rfl, rfl, rfl, by decide +kernel, rfl, by decide +kernel, by decide +kernel⟩
def s_law_mixed : Stmt := top 16
theorem sc_law_mixed : FnScope ["_law_draw", "_law_turn", "_law_found", "_law_prime", "_law_blend", "_law_grain"] ["_law_draw"] (defScope s_law_mixed) := ⟨rfl, rfl, rfl, by decide +kernel, rfl, by decide +kernel, by decide +kernel⟩
def s_law_take : Stmt := top 17
theorem sc_law_take : FnScope ["_law_draw", "_law_many_here", "_law_found"] ["_law_draw", "_law_many_here"] (defScope s_law_take) := ⟨rfl, rfl, rfl, by decide +kernel, rfl, by decide +kernel, by decide +kernel⟩
def s_law_pick : Stmt := top 18
theorem sc_law_pick : FnScope ["_law_draw", "_law_some"] ["_law_draw", "_law_some"] (defScope s_law_pick) := ⟨rfl, rfl, rfl, by decide +kernel, rfl, by decide +kernel, by decide +kernel⟩
def s_law_caught : Stmt := top 19
theorem sc_law_caught : FnScope ["_law_act", "_law_found", "raised"] ["_law_act"] (defScope s_law_caught) := ⟨rfl, rfl, rfl, by decide +kernel, rfl, by decide +kernel, by decide +kernel⟩
def s_law_codes : Stmt := top 20
theorem sc_law_codes : FnScope ["_law_some"] [] (defScope s_law_codes) := ⟨rfl, rfl, rfl, by decide +kernel, rfl, by decide +kernel, by decide +kernel⟩
def s_law_span : Stmt := top 21
theorem sc_law_span : FnScope ["_law_sign"] ["_law_sign"] (defScope s_law_span) := ⟨rfl, rfl, rfl, by decide +kernel, rfl, by decide +kernel, by decide +kernel⟩
def s_law_many : Stmt := top 22
theorem sc_law_many : FnScope ["_law_signs", "_law_sign"] ["_law_signs"] (defScope s_law_many) := ⟨rfl, rfl, rfl, by decide +kernel, rfl, by decide +kernel, by decide +kernel⟩
def s_law_cells_of : Stmt := top 23
theorem sc_law_cells_of : FnScope ["_law_code", "_law_signs", "_law_parts", "_law_cells", "_law_sign", "_law_part"] ["_law_code", "_law_signs", "_law_parts"] (defScope s_law_cells_of) := ⟨rfl, rfl, rfl, by decide +kernel, rfl, by decide +kernel, by decide +kernel⟩
def s_law_made : Stmt := top 24
theorem sc_law_made : FnScope ["_law_draw", "_law_code", "_law_word", "_law_signs", "_law_parts", "_law_sign", "_law_low", "_law_end", "_law_edge"] ["_law_draw"] (defScope s_law_made) := ⟨rfl, rfl, rfl, by decide +kernel, rfl, by decide +kernel, by decide +kernel⟩
def s_law_sense : Stmt := top 25
theorem sc_law_sense : FnScope ["_law_cells", "_law_at", "_law_code", "_law_word", "_law_signs", "_law_parts", "_law_place", "_law_sign", "_law_part", "_law_low", "_law_end"] ["_law_cells", "_law_at"] (defScope s_law_sense) := ⟨rfl, rfl, rfl, by decide +kernel, rfl, by decide +kernel, by decide +kernel⟩
def s_law_walked : Stmt := top 26
theorem sc_law_walked : FnScope ["_law_cells", "_law_found", "_law_at", "_law_told"] ["_law_cells"] (defScope s_law_walked) := ⟨rfl, rfl, rfl, by decide +kernel, rfl, by decide +kernel, by decide +kernel⟩
def s_law_is_walk : Stmt := top 27
theorem sc_law_is_walk : FnScope ["_law_cells", "_law_due", "_law_wrong", "_law_told"] ["_law_cells"] (defScope s_law_is_walk) := ⟨rfl, rfl, rfl, by decide +kernel, rfl, by decide +kernel, by decide +kernel⟩
def s_law : Stmt := top 28
theorem sc_law : FnScope ["_law_script", "_law_draw", "_law_bends", "_law_cells", "_law_turn", "_law_near", "_law_bend", "_law_one", "_law_other", "_law_first", "_law_second", "_law_here", "_law_there", "_law_shared", "_law_told", "_law_start"] ["_law_script"] (defScope s_law) := ⟨rfl, rfl, rfl, by decide +kernel, rfl, by decide +kernel, by decide +kernel⟩
def si_BadCode : Stmt := inClass (top 3) 0
theorem ss_BadCode : SupS ["self", "at"] (defScope si_BadCode) := ⟨rfl, rfl, rfl, by decide +kernel, by decide +kernel, rfl, rfl, (only_of (by decide +kernel)).1, (only_of (by decide +kernel)).2⟩
def q_law_is_walk : Str := (envOfC "_law_is_walk" (defScope s_law_is_walk) 0 0 .none).qual ++ "<lambda>"
def q_law : Str := (envOfC "law" (defScope s_law) 0 0 .none).qual ++ "<lambda>"
structure Gs (P : Program) (w : World) (K : PySem.W.Frag) (mg : Str → Option Value) (base : Heap) (T : List (Addr × Str)) (c : Ad) : Prop where
  m_len : mg "len" = none
  m_abs : mg "abs" = none
  m_all : mg "all" = none
  m_min : mg "min" = none
  m_int : mg "int" = none
  m_tuple : mg "tuple" = none
  m_list : mg "list" = none
  m_isinstance : mg "isinstance" = none
  m_range : mg "range" = none
  m_bool : mg "bool" = none
  m_zip : mg "zip" = none
  g_LinkError : mg "LinkError" = some (.ref c.LinkError)
  x_LinkError : PySem.W.excIn K c.LinkError [.type "ValueError", .type "Exception", .type "BaseException", .type "object"] "ValueError.__new__" = true
  k_LinkError : PySem.W.keepIn K (.ref c.LinkError) = true
  s_LinkError : PySem.W.subIn K (.ref c.LinkError) (.type "BaseException") = some true
  t_LinkError : PySem.W.typeIn K (.ref c.LinkError) = some (.type "type")
  g_BadCells : mg "BadCells" = some (.ref c.BadCells)
  x_BadCells : PySem.W.excIn K c.BadCells [.type "ValueError", .type "Exception", .type "BaseException", .type "object"] "ValueError.__new__" = true
  k_BadCells : PySem.W.keepIn K (.ref c.BadCells) = true
  s_BadCells : PySem.W.subIn K (.ref c.BadCells) (.type "BaseException") = some true
  t_BadCells : PySem.W.typeIn K (.ref c.BadCells) = some (.type "type")
  g_BadCode : mg "BadCode" = some (.ref c.BadCode)
  k_BadCode : PySem.W.keepIn K (.ref c.BadCode) = true
  s_BadCode : PySem.W.subIn K (.ref c.BadCode) (.type "BaseException") = some true
  t_BadCode : PySem.W.typeIn K (.ref c.BadCode) = some (.type "type")
  excs : ∀ D ∈ [c.BadCells, c.BadCode], ExcC K D
  xi_BadCode : XI P w K mg base c.BadCode c.i_BadCode c.di_BadCode ["self", "at"] [("at", 1)]
  g_CODES : mg "CODES" = some (.ref c.a_CODES)
  i_CODES : CInt K c.a_CODES tb_CODES
  g_LOWEST : mg "LOWEST" = some (.ref c.a_LOWEST)
  i_LOWEST : CStr K w c.a_LOWEST tb_LOWEST
  g_BEYOND : mg "BEYOND" = some (.ref c.a_BEYOND)
  i_BEYOND : CStr K w c.a_BEYOND tb_BEYOND
  F_is_number : Fun K "is_number" "is_number" s_is_number c.f_is_number c.d_is_number
  g_is_number : mg "is_number" = some (.ref c.f_is_number)
  F_cells_for : Fun K "cells_for" "cells_for" s_cells_for c.f_cells_for c.d_cells_for
  g_cells_for : mg "cells_for" = some (.ref c.f_cells_for)
  F_are_cells : Fun K "are_cells" "are_cells" s_are_cells c.f_are_cells c.d_are_cells
  g_are_cells : mg "are_cells" = some (.ref c.f_are_cells)
  F_sense_in : Fun K "sense_in" "sense_in" s_sense_in c.f_sense_in c.d_sense_in
  g_sense_in : mg "sense_in" = some (.ref c.f_sense_in)
  F_parted : Fun K "parted" "parted" s_parted c.f_parted c.d_parted
  g_parted : mg "parted" = some (.ref c.f_parted)
  F_law_begun : Fun K "_law_begun" "_law_begun" s_law_begun c.f_law_begun c.d_law_begun
  g_law_begun : mg "_law_begun" = some (.ref c.f_law_begun)
  F_law_mixed : Fun K "_law_mixed" "_law_mixed" s_law_mixed c.f_law_mixed c.d_law_mixed
  g_law_mixed : mg "_law_mixed" = some (.ref c.f_law_mixed)
  F_law_take : Fun K "_law_take" "_law_take" s_law_take c.f_law_take c.d_law_take
  g_law_take : mg "_law_take" = some (.ref c.f_law_take)
  F_law_pick : Fun K "_law_pick" "_law_pick" s_law_pick c.f_law_pick c.d_law_pick
  g_law_pick : mg "_law_pick" = some (.ref c.f_law_pick)
  F_law_caught : Fun K "_law_caught" "_law_caught" s_law_caught c.f_law_caught c.d_law_caught
  g_law_caught : mg "_law_caught" = some (.ref c.f_law_caught)
  F_law_codes : Fun K "_law_codes" "_law_codes" s_law_codes c.f_law_codes c.d_law_codes
  g_law_codes : mg "_law_codes" = some (.ref c.f_law_codes)
  F_law_span : Fun K "_law_span" "_law_span" s_law_span c.f_law_span c.d_law_span
  g_law_span : mg "_law_span" = some (.ref c.f_law_span)
  F_law_many : Fun K "_law_many" "_law_many" s_law_many c.f_law_many c.d_law_many
  g_law_many : mg "_law_many" = some (.ref c.f_law_many)
  F_law_cells_of : Fun K "_law_cells_of" "_law_cells_of" s_law_cells_of c.f_law_cells_of c.d_law_cells_of
  g_law_cells_of : mg "_law_cells_of" = some (.ref c.f_law_cells_of)
  F_law_made : Fun K "_law_made" "_law_made" s_law_made c.f_law_made c.d_law_made
  g_law_made : mg "_law_made" = some (.ref c.f_law_made)
  F_law_sense : Fun K "_law_sense" "_law_sense" s_law_sense c.f_law_sense c.d_law_sense
  g_law_sense : mg "_law_sense" = some (.ref c.f_law_sense)
  F_law_walked : Fun K "_law_walked" "_law_walked" s_law_walked c.f_law_walked c.d_law_walked
  g_law_walked : mg "_law_walked" = some (.ref c.f_law_walked)
  F_law_is_walk : FunC K "_law_is_walk" "_law_is_walk" s_law_is_walk c.f_law_is_walk c.d_law_is_walk c.cl_law_is_walk
  g_law_is_walk : mg "_law_is_walk" = some (.ref c.f_law_is_walk)
  tb_law_is_walk : TabB base mg c.cl_law_is_walk c.pt_law_is_walk
  hm_law_is_walk : (c.pt_law_is_walk, q_law_is_walk) ∈ T
  hu_law_is_walk : ∀ p ∈ T, p.1 = c.pt_law_is_walk → p.2 = q_law_is_walk
  F_law : FunC K "law" "law" s_law c.f_law c.d_law c.cl_law
  g_law : mg "law" = some (.ref c.f_law)
  tb_law : TabB base mg c.cl_law c.pt_law
  hm_law : (c.pt_law, q_law) ∈ T
  hu_law : ∀ p ∈ T, p.1 = c.pt_law → p.2 = q_law
section
variable {P : Program} {w : World} {K : PySem.W.Frag} {mg : Str → Option Value} {base : Heap} {c : Ad} {T : List (Addr × Str)}
theorem def_none {k : Nat} {f : Addr} {fd : FuncData} {ps : List Str} : DefOk P w K T mg base k f fd ps (fun _ => none) := ⟨fun vs H Q E h => h.1, fun A outer s H args us vs Q E hr e0 hb r h => by
  obtain ⟨_, Z, R, os, r, os', rel, e, q⟩ := h
  cases e⟩
theorem Gs.r_LinkError (G : Gs P w K mg base T c) {X : Cx} (h : X.K = K := by rfl) : Raises X (.ref c.LinkError) := by
  subst h
  exact raises_own G.s_LinkError G.t_LinkError
theorem Gs.r_BadCells (G : Gs P w K mg base T c) {X : Cx} (h : X.K = K := by rfl) : Raises X (.ref c.BadCells) := by
  subst h
  exact raises_own G.s_BadCells G.t_BadCells
theorem Gs.r_BadCode (G : Gs P w K mg base T c) {X : Cx} (h : X.K = K := by rfl) : Raises X (.ref c.BadCode) := by
  subst h
  exact raises_own G.s_BadCode G.t_BadCode
theorem Gs.xa_at (G : Gs P w K mg base T c) : ∀ C ∈ [c.BadCode], XfC K C ∧ PySem.W.findIn K (.ref C) "at" = some none := by
  intro C hC
  simp only [List.mem_cons, List.not_mem_nil, or_false] at hC
  rcases hC with rfl
  · have h := G.excs c.BadCode (by simp)
    exact ⟨⟨h.hg, h.hk, h.hs, h.hd⟩, G.xi_BadCode.no ("at", 1) (by simp)⟩
theorem Gs.k_is_number (G : Gs P w K mg base T c) : PySem.W.keepIn K (.ref c.f_is_number) = true := G.F_is_number.kp
theorem Gs.b_is_number (G : Gs P w K mg base T c) : Binds K c.d_is_number ["thing", "low", "end"] [] := G.F_is_number.binds fun _ _ _ _ _ _ us hl => match us, hl with | [_, _, _], _ => rfl
theorem Gs.k_cells_for (G : Gs P w K mg base T c) : PySem.W.keepIn K (.ref c.f_cells_for) = true := G.F_cells_for.kp
theorem Gs.b_cells_for (G : Gs P w K mg base T c) : Binds K c.d_cells_for ["signs"] [] := G.F_cells_for.binds fun _ _ _ _ _ _ us hl => match us, hl with | [_], _ => rfl
theorem Gs.k_are_cells (G : Gs P w K mg base T c) : PySem.W.keepIn K (.ref c.f_are_cells) = true := G.F_are_cells.kp
theorem Gs.b_are_cells (G : Gs P w K mg base T c) : Binds K c.d_are_cells ["thing"] [] := G.F_are_cells.binds fun _ _ _ _ _ _ us hl => match us, hl with | [_], _ => rfl
theorem Gs.k_sense_in (G : Gs P w K mg base T c) : PySem.W.keepIn K (.ref c.f_sense_in) = true := G.F_sense_in.kp
theorem Gs.b_sense_in (G : Gs P w K mg base T c) : Binds K c.d_sense_in ["cells", "at"] [] := G.F_sense_in.binds fun _ _ _ _ _ _ us hl => match us, hl with | [_, _], _ => rfl
theorem Gs.k_parted (G : Gs P w K mg base T c) : PySem.W.keepIn K (.ref c.f_parted) = true := G.F_parted.kp
theorem Gs.b_parted (G : Gs P w K mg base T c) : Binds K c.d_parted ["cells"] [] := G.F_parted.binds fun _ _ _ _ _ _ us hl => match us, hl with | [_], _ => rfl
theorem Gs.k_law_begun (G : Gs P w K mg base T c) : PySem.W.keepIn K (.ref c.f_law_begun) = true := G.F_law_begun.kp
theorem Gs.b_law_begun (G : Gs P w K mg base T c) : Binds K c.d_law_begun ["_law_script"] [] := G.F_law_begun.binds fun _ _ _ _ _ _ us hl => match us, hl with | [_], _ => rfl
theorem Gs.k_law_mixed (G : Gs P w K mg base T c) : PySem.W.keepIn K (.ref c.f_law_mixed) = true := G.F_law_mixed.kp
theorem Gs.b_law_mixed (G : Gs P w K mg base T c) : Binds K c.d_law_mixed ["_law_draw"] [] := G.F_law_mixed.binds fun _ _ _ _ _ _ us hl => match us, hl with | [_], _ => rfl
theorem Gs.k_law_take (G : Gs P w K mg base T c) : PySem.W.keepIn K (.ref c.f_law_take) = true := G.F_law_take.kp
theorem Gs.b_law_take (G : Gs P w K mg base T c) : Binds K c.d_law_take ["_law_draw", "_law_many_here"] [] := G.F_law_take.binds fun _ _ _ _ _ _ us hl => match us, hl with | [_, _], _ => rfl
theorem Gs.k_law_pick (G : Gs P w K mg base T c) : PySem.W.keepIn K (.ref c.f_law_pick) = true := G.F_law_pick.kp
theorem Gs.b_law_pick (G : Gs P w K mg base T c) : Binds K c.d_law_pick ["_law_draw", "_law_some"] [] := G.F_law_pick.binds fun _ _ _ _ _ _ us hl => match us, hl with | [_, _], _ => rfl
theorem Gs.k_law_caught (G : Gs P w K mg base T c) : PySem.W.keepIn K (.ref c.f_law_caught) = true := G.F_law_caught.kp
theorem Gs.b_law_caught (G : Gs P w K mg base T c) : Binds K c.d_law_caught ["_law_act"] [] := G.F_law_caught.binds fun _ _ _ _ _ _ us hl => match us, hl with | [_], _ => rfl
theorem Gs.k_law_codes (G : Gs P w K mg base T c) : PySem.W.keepIn K (.ref c.f_law_codes) = true := G.F_law_codes.kp
theorem Gs.b_law_codes (G : Gs P w K mg base T c) : Binds K c.d_law_codes [] [] := G.F_law_codes.binds fun _ _ _ _ _ _ us hl => match us, hl with | [], _ => rfl
theorem Gs.k_law_span (G : Gs P w K mg base T c) : PySem.W.keepIn K (.ref c.f_law_span) = true := G.F_law_span.kp
theorem Gs.b_law_span (G : Gs P w K mg base T c) : Binds K c.d_law_span ["_law_sign"] [] := G.F_law_span.binds fun _ _ _ _ _ _ us hl => match us, hl with | [_], _ => rfl
theorem Gs.k_law_many (G : Gs P w K mg base T c) : PySem.W.keepIn K (.ref c.f_law_many) = true := G.F_law_many.kp
theorem Gs.b_law_many (G : Gs P w K mg base T c) : Binds K c.d_law_many ["_law_signs"] [] := G.F_law_many.binds fun _ _ _ _ _ _ us hl => match us, hl with | [_], _ => rfl
theorem Gs.k_law_cells_of (G : Gs P w K mg base T c) : PySem.W.keepIn K (.ref c.f_law_cells_of) = true := G.F_law_cells_of.kp
theorem Gs.b_law_cells_of (G : Gs P w K mg base T c) : Binds K c.d_law_cells_of ["_law_code", "_law_signs", "_law_parts"] [] := G.F_law_cells_of.binds fun _ _ _ _ _ _ us hl => match us, hl with | [_, _, _], _ => rfl
theorem Gs.k_law_made (G : Gs P w K mg base T c) : PySem.W.keepIn K (.ref c.f_law_made) = true := G.F_law_made.kp
theorem Gs.b_law_made (G : Gs P w K mg base T c) : Binds K c.d_law_made ["_law_draw"] [] := G.F_law_made.binds fun _ _ _ _ _ _ us hl => match us, hl with | [_], _ => rfl
theorem Gs.k_law_sense (G : Gs P w K mg base T c) : PySem.W.keepIn K (.ref c.f_law_sense) = true := G.F_law_sense.kp
theorem Gs.b_law_sense (G : Gs P w K mg base T c) : Binds K c.d_law_sense ["_law_cells", "_law_at"] [] := G.F_law_sense.binds fun _ _ _ _ _ _ us hl => match us, hl with | [_, _], _ => rfl
theorem Gs.k_law_walked (G : Gs P w K mg base T c) : PySem.W.keepIn K (.ref c.f_law_walked) = true := G.F_law_walked.kp
theorem Gs.b_law_walked (G : Gs P w K mg base T c) : Binds K c.d_law_walked ["_law_cells"] [] := G.F_law_walked.binds fun _ _ _ _ _ _ us hl => match us, hl with | [_], _ => rfl
theorem Gs.k_law_is_walk (G : Gs P w K mg base T c) : PySem.W.keepIn K (.ref c.f_law_is_walk) = true := G.F_law_is_walk.kp
theorem Gs.b_law_is_walk (G : Gs P w K mg base T c) : Binds K c.d_law_is_walk ["_law_cells"] [] := G.F_law_is_walk.fn.binds fun _ _ _ _ _ _ us hl => match us, hl with | [_], _ => rfl
theorem Gs.k_law (G : Gs P w K mg base T c) : PySem.W.keepIn K (.ref c.f_law) = true := G.F_law.kp
theorem Gs.b_law (G : Gs P w K mg base T c) : Binds K c.d_law ["_law_script"] [] := G.F_law.fn.binds fun _ _ _ _ _ _ us hl => match us, hl with | [_], _ => rfl
noncomputable def bd_is_number (K : PySem.W.Frag) (c : Ad) : SM :=
    (retS (andV (isiV "int" (rdV 0)) (andV (notV (toV (isiV "bool" (rdV 0)))) (chain (rdV 1) (rdV 0) (rdV 2) oLe oLt))))
noncomputable def g_is_number (K : PySem.W.Frag) (c : Ad) : DF := runF 3 3 [0, 1, 2] (bd_is_number K c)
theorem ok_is_number (G : Gs P w K mg base T c) : DefOk P w K T mg base 1 c.f_is_number c.d_is_number ["thing", "low", "end"] (g_is_number K c) := def_ok (N := ["thing", "low", "end"]) G.F_is_number sc_is_number (by decide) fun cdv A outer s H E hr =>
    (svs_one (sv_ret (ev_and (ev_isi (k := 0) rfl G.m_isinstance (evv_var (i := 0) rfl (by first | exact Or.inl rfl | exact Or.inr (Or.inl rfl) | exact Or.inr (Or.inr rfl))) (pe_bltn (v := .ty "int") (u := .type "int") rfl G.m_int (by decide +kernel) rfl)) (ev_and (ev_not (evv_of (ev_isi (k := 0) rfl G.m_isinstance (evv_var (i := 0) rfl (by first | exact Or.inl rfl | exact Or.inr (Or.inl rfl) | exact Or.inr (Or.inr rfl))) (pe_bltn (v := .ty "bool") (u := .type "bool") rfl G.m_bool (by decide +kernel) rfl)))) (ev_one (ev_chain op_le opg_le op_lt opg_lt (evv_var (i := 1) rfl (by first | exact Or.inl rfl | exact Or.inr (Or.inl rfl) | exact Or.inr (Or.inr rfl))) (evv_var (i := 0) rfl (by first | exact Or.inl rfl | exact Or.inr (Or.inl rfl) | exact Or.inr (Or.inr rfl))) (evv_var (i := 2) rfl (by first | exact Or.inl rfl | exact Or.inr (Or.inl rfl) | exact Or.inr (Or.inr rfl)))))))))
noncomputable def bd_cells_for (K : PySem.W.Frag) (c : Ad) : SM :=
    (retS (bin (toV (bin (toV (cst (.int 1))) (toV (callN (argsCons (rdV 0) argsNil) oLen)) (oAdd false))) (toV (methN "str" (rdV 0) (argsCons (toV (cst (.str "D"))) argsNil) oCount)) (oAdd false)))
noncomputable def g_cells_for (K : PySem.W.Frag) (c : Ad) : DF := runF 1 1 [0] (bd_cells_for K c)
theorem ok_cells_for (G : Gs P w K mg base T c) : DefOk P w K T mg base 1 c.f_cells_for c.d_cells_for ["signs"] (g_cells_for K c) := def_ok (N := ["signs"]) G.F_cells_for sc_cells_for (by decide) fun cdv A outer s H E hr =>
    (svs_one (sv_ret (ev_op op_addA (opg_addA (own := false)) (evv_of (ev_op op_addA (opg_addA (own := false)) (evv_of ev_int) (evv_of (ev_callB call_lenA cg_len rfl G.m_len PySem.boot_len (eva_cons (evv_var (i := 0) rfl (by first | exact Or.inl rfl | exact Or.inr (Or.inl rfl) | exact Or.inr (Or.inr rfl))) eva_nil))))) (evv_of (ev_meth PySem.F.plainAttrs_str PySem.F.slot_str_count PySem.F.type_str_count mt_countA mg_count (evv_var (i := 0) rfl (by first | exact Or.inl rfl | exact Or.inr (Or.inl rfl) | exact Or.inr (Or.inr rfl))) (eva_cons (evv_of ev_str) eva_nil))))))
noncomputable def ce_are_cells_1 (K : PySem.W.Frag) (c : Ad) : M OV :=
    (callF 3 (g_is_number K c) (argsCons (rdV 1) (argsCons (toV (cst (.int 0))) (argsCons (toV (cst (.int 64))) argsNil))))
noncomputable def bd_are_cells (K : PySem.W.Frag) (c : Ad) : SM :=
    (retS (andV (isiT ["tuple", "list"] (rdV 0)) (callN (argsCons (toV (compE false (itE (rdZ 0)) (gN 1) tYesM (ce_are_cells_1 K c) [1])) argsNil) oAll)))
noncomputable def g_are_cells (K : PySem.W.Frag) (c : Ad) : DF := runF 1 2 [0] (bd_are_cells K c)
theorem ok_are_cells (G : Gs P w K mg base T c) : DefOk P w K T mg base 2 c.f_are_cells c.d_are_cells ["thing"] (g_are_cells K c) := def_ok (N := ["thing", "cell"]) G.F_are_cells sc_are_cells (by decide) fun cdv A outer s H E hr =>
    (svs_one (sv_ret (ev_and (ev_isiT rfl G.m_isinstance (evv_var (i := 0) rfl (by first | exact Or.inl rfl | exact Or.inr (Or.inl rfl) | exact Or.inr (Or.inr rfl))) (pe_bltn (v := .ty "tuple") (u := .type "tuple") rfl G.m_tuple (by decide +kernel) rfl) (pe_bltn (v := .ty "list") (u := .type "list") rfl G.m_list (by decide +kernel) rfl)) (ev_one (ev_callB (cr_all rfl) cg_all rfl G.m_all PyProof.Rows.boot_all (eva_cons (evv_of (ev_comp (own := false) (ownN := [("cell", 1)]) rfl sc_are_cells.nd (evi_seq (ev_var (i := 0) rfl (by first | exact Or.inl rfl | exact Or.inr (Or.inl rfl) | exact Or.inr (Or.inr rfl)))) (blkOk_by rfl) (fun _ _ _ _ _ => (gv_name (i := 1) sc_are_cells.nd rfl (by first | exact Or.inl rfl | exact Or.inr rfl) (by first | exact Or.inl rfl | exact Or.inr rfl))) (fun _ _ _ _ _ => evts_nil) (fun _ _ _ _ _ => (ev_call (ps := ["thing", "low", "end"]) ((ok_is_number G).mono (by decide)) hr rfl G.g_is_number G.k_is_number G.b_is_number (eva_cons (evv_var (i := 1) rfl (by first | exact Or.inl rfl | exact Or.inr (Or.inl rfl) | exact Or.inr (Or.inr rfl))) (eva_cons (evv_of ev_int) (eva_cons (evv_of ev_int) eva_nil))))))) eva_nil))))))
noncomputable def lb_sense_in_1 (K : PySem.W.Frag) (c : Ad) : SM :=
    (seqS (setS 8 (bin (rdV 0) (rdV 6) oIx))
    (seqS (ifS (asB (bin (rdV 7) (toV (cst (.str "D"))) oEq)) (setS 8 (bin (toV (bin (toV (bin (toV (bin (toV (bin (toV (bin (rdV 0) (rdV 6) oIx)) (toV (cst (.int 64))) (oMulA false))) (toV (bin (rdV 0) (toV (bin (rdV 6) (toV (cst (.int 1))) (oAdd false))) oIx)) (oAdd false))) (toV (cst (.int 2048))) (oAdd false))) (toV (cst (.int 4096))) oMod)) (toV (cst (.int 2048))) oSub)) (ifS (asB (bin (rdV 7) (toV (cst (.str "d"))) oEq)) (setS 8 (bin (toV (bin (toV (bin (rdV 8) (toV (cst (.int 32))) (oAdd false))) (toV (cst (.int 64))) oMod)) (toV (cst (.int 32))) oSub)) (ifS (andT (asB (bin (rdV 7) (toV (cst (.str "L"))) oEq)) (asB (bin (rdV 8) (toV (cst (.int 0))) oEq))) (setS 8 (cst (.int 64))) skipS)))
    (seqS (ifS (notT (asB (chain (toV (cixMS tb_LOWEST (rdV 7))) (rdV 8) (toV (cixMS tb_BEYOND (rdV 7))) oLe oLt))) (retS (cst .none)) skipS)
    (seqS (exprS (mutM 5 (argsCons (toV (rdZ 8)) argsNil) oAppend))
    (setS 6 (bin (rdV 6) (toV (ifE (asB (bin (rdV 7) (toV (cst (.str "D"))) oEq)) (cst (.int 2)) (cst (.int 1)))) (oAdd false)))))))
noncomputable def bd_sense_in (K : PySem.W.Frag) (c : Ad) : SM :=
    (seqS (ifS (asB (cinM tb_CODES true (toV (bin (rdV 0) (rdV 1) oIx)))) (retS (cst .none)) skipS)
    (seqS (asgS (gTupD 2 (gConsD (gN 2) (gConsD (gN 3) gNilD))) (cixM tb_CODES (toV (bin (rdV 0) (rdV 1) oIx))))
    (seqS (setS 4 (callF 1 (g_cells_for K c) (argsCons (rdV 3) argsNil)))
    (seqS (ifS (asB (bin (toV (bin (rdV 1) (rdV 4) (oAdd false))) (toV (callN (argsCons (rdV 0) argsNil) oLen)) oGt)) (retS (cst .none)) skipS)
    (seqS (parS [5, 6] (osCons (mkLst true (argsCons (toV (rdZ 2)) argsNil)) (osCons (bin (rdV 1) (toV (cst (.int 1))) (oAdd false)) osNil)))
    (seqS (forS (itS (rdZ 3)) (gN 7) (lb_sense_in_1 K c))
    (retS (mkTup (argsCons (toV (callN (argsCons (rdV 5) argsNil) oTuple)) (argsCons (toV (rdZ 4)) argsNil))))))))))
noncomputable def g_sense_in (K : PySem.W.Frag) (c : Ad) : DF := runF 2 9 [0, 1] (bd_sense_in K c)
theorem ok_sense_in (G : Gs P w K mg base T c) : DefOk P w K T mg base 2 c.f_sense_in c.d_sense_in ["cells", "at"] (g_sense_in K c) := def_ok (N := ["cells", "at", "word", "signs", "many", "sense", "place", "sign", "part"]) G.F_sense_in sc_sense_in (by decide) fun cdv A outer s H E hr =>
    (svs_cons (sv_if (evt_cnotIn G.i_CODES rfl G.g_CODES (evv_of (ev_ix ix_any opg_ix (evv_var (i := 0) rfl (by first | exact Or.inl rfl | exact Or.inr (Or.inl rfl) | exact Or.inr (Or.inr rfl))) (evv_var (i := 1) rfl (by first | exact Or.inl rfl | exact Or.inr (Or.inl rfl) | exact Or.inr (Or.inr rfl)))))) (svs_one (sv_ret ev_non)) svs_nil)
    (svs_cons (sv_asg (ev_cix G.i_CODES rfl G.g_CODES (evv_of (ev_ix ix_any opg_ix (evv_var (i := 0) rfl (by first | exact Or.inl rfl | exact Or.inr (Or.inl rfl) | exact Or.inr (Or.inr rfl))) (evv_var (i := 1) rfl (by first | exact Or.inl rfl | exact Or.inr (Or.inl rfl) | exact Or.inr (Or.inr rfl)))))) (gv_tup rfl (gvs_cons (gv_name (i := 2) sc_sense_in.nd rfl (by first | exact Or.inl rfl | exact Or.inr rfl) (by first | exact Or.inl rfl | exact Or.inr rfl)) (gvs_cons (gv_name (i := 3) sc_sense_in.nd rfl (by first | exact Or.inl rfl | exact Or.inr rfl) (by first | exact Or.inl rfl | exact Or.inr rfl)) gvs_nil))))
    (svs_cons (sv_set (i := 4) sc_sense_in.nd rfl (by first | exact Or.inl rfl | exact Or.inr rfl) (ev_call (ps := ["signs"]) ((ok_cells_for G).mono (by decide)) hr rfl G.g_cells_for G.k_cells_for G.b_cells_for (eva_cons (evv_var (i := 3) rfl (by first | exact Or.inl rfl | exact Or.inr (Or.inl rfl) | exact Or.inr (Or.inr rfl))) eva_nil)))
    (svs_cons (sv_if (evt_cmp op_gt opg_gt (evv_of (ev_op op_addA (opg_addA (own := false)) (evv_var (i := 1) rfl (by first | exact Or.inl rfl | exact Or.inr (Or.inl rfl) | exact Or.inr (Or.inr rfl))) (evv_var (i := 4) rfl (by first | exact Or.inl rfl | exact Or.inr (Or.inl rfl) | exact Or.inr (Or.inr rfl))))) (evv_of (ev_callB call_lenA cg_len rfl G.m_len PySem.boot_len (eva_cons (evv_var (i := 0) rfl (by first | exact Or.inl rfl | exact Or.inr (Or.inl rfl) | exact Or.inr (Or.inr rfl))) eva_nil)))) (svs_one (sv_ret ev_non)) svs_nil)
    (svs_cons (sv_par rfl sc_sense_in.nd (.cons (i := 5) rfl (by first | exact Or.inl rfl | exact Or.inr rfl) (by first | exact Or.inl rfl | exact Or.inr rfl) (.cons (i := 6) rfl (by first | exact Or.inl rfl | exact Or.inr rfl) (by first | exact Or.inl rfl | exact Or.inr rfl) .nil)) (evl_cons (ev_lst (own := true) (eva_cons (evv_of (ev_var (i := 2) rfl (by first | exact Or.inl rfl | exact Or.inr (Or.inl rfl) | exact Or.inr (Or.inr rfl)))) eva_nil)) (evl_cons (ev_op op_addA (opg_addA (own := false)) (evv_var (i := 1) rfl (by first | exact Or.inl rfl | exact Or.inr (Or.inl rfl) | exact Or.inr (Or.inr rfl))) (evv_of ev_int)) evl_nil)))
    (svs_cons (sv_for (passes_of rfl) rfl (evi_str (ev_var (i := 3) rfl (by first | exact Or.inl rfl | exact Or.inr (Or.inl rfl) | exact Or.inr (Or.inr rfl)))) (gv_name (i := 7) sc_sense_in.nd rfl (by first | exact Or.inl rfl | exact Or.inr rfl) (by first | exact Or.inl rfl | exact Or.inr rfl)) (svs_cons (sv_set (i := 8) sc_sense_in.nd rfl (by first | exact Or.inl rfl | exact Or.inr rfl) (ev_ix ix_any opg_ix (evv_var (i := 0) rfl (by first | exact Or.inl rfl | exact Or.inr (Or.inl rfl) | exact Or.inr (Or.inr rfl))) (evv_var (i := 6) rfl (by first | exact Or.inl rfl | exact Or.inr (Or.inl rfl) | exact Or.inr (Or.inr rfl)))))
    (svs_cons (sv_if (evt_cmp (op_eqD (u64 hr)) opg_eq (evv_var (i := 7) rfl (by first | exact Or.inl rfl | exact Or.inr (Or.inl rfl) | exact Or.inr (Or.inr rfl))) (evv_of ev_str)) (svs_one (sv_set (i := 8) sc_sense_in.nd rfl (by first | exact Or.inl rfl | exact Or.inr rfl) (ev_op op_sub opg_sub (evv_of (ev_op op_mod opg_mod (evv_of (ev_op op_addA (opg_addA (own := false)) (evv_of (ev_op op_addA (opg_addA (own := false)) (evv_of (ev_op op_mulA (opg_mulA (own := false)) (evv_of (ev_ix ix_any opg_ix (evv_var (i := 0) rfl (by first | exact Or.inl rfl | exact Or.inr (Or.inl rfl) | exact Or.inr (Or.inr rfl))) (evv_var (i := 6) rfl (by first | exact Or.inl rfl | exact Or.inr (Or.inl rfl) | exact Or.inr (Or.inr rfl))))) (evv_of ev_int))) (evv_of (ev_ix ix_any opg_ix (evv_var (i := 0) rfl (by first | exact Or.inl rfl | exact Or.inr (Or.inl rfl) | exact Or.inr (Or.inr rfl))) (evv_of (ev_op op_addA (opg_addA (own := false)) (evv_var (i := 6) rfl (by first | exact Or.inl rfl | exact Or.inr (Or.inl rfl) | exact Or.inr (Or.inr rfl))) (evv_of ev_int))))))) (evv_of ev_int))) (evv_of ev_int))) (evv_of ev_int)))) (svs_one (sv_if (evt_cmp (op_eqD (u64 hr)) opg_eq (evv_var (i := 7) rfl (by first | exact Or.inl rfl | exact Or.inr (Or.inl rfl) | exact Or.inr (Or.inr rfl))) (evv_of ev_str)) (svs_one (sv_set (i := 8) sc_sense_in.nd rfl (by first | exact Or.inl rfl | exact Or.inr rfl) (ev_op op_sub opg_sub (evv_of (ev_op op_mod opg_mod (evv_of (ev_op op_addA (opg_addA (own := false)) (evv_var (i := 8) rfl (by first | exact Or.inl rfl | exact Or.inr (Or.inl rfl) | exact Or.inr (Or.inr rfl))) (evv_of ev_int))) (evv_of ev_int))) (evv_of ev_int)))) (svs_one (sv_if (evt_w (evw_and (evt_cmp (op_eqD (u64 hr)) opg_eq (evv_var (i := 7) rfl (by first | exact Or.inl rfl | exact Or.inr (Or.inl rfl) | exact Or.inr (Or.inr rfl))) (evv_of ev_str)) (evw_and1 (evt_cmp (op_eqD (u64 hr)) opg_eq (evv_var (i := 8) rfl (by first | exact Or.inl rfl | exact Or.inr (Or.inl rfl) | exact Or.inr (Or.inr rfl))) (evv_of ev_int))))) (svs_one (sv_set (i := 8) sc_sense_in.nd rfl (by first | exact Or.inl rfl | exact Or.inr rfl) ev_int)) svs_nil)))))
    (svs_cons (sv_if (evt_not (evt_chain op_le opg_le op_lt opg_lt (evv_of (ev_cixS G.i_LOWEST rfl G.g_LOWEST (evv_var (i := 7) rfl (by first | exact Or.inl rfl | exact Or.inr (Or.inl rfl) | exact Or.inr (Or.inr rfl))))) (evv_var (i := 8) rfl (by first | exact Or.inl rfl | exact Or.inr (Or.inl rfl) | exact Or.inr (Or.inr rfl))) (evv_of (ev_cixS G.i_BEYOND rfl G.g_BEYOND (evv_var (i := 7) rfl (by first | exact Or.inl rfl | exact Or.inr (Or.inl rfl) | exact Or.inr (Or.inr rfl))))))) (svs_one (sv_ret ev_non)) svs_nil)
    (svs_cons (sv_expr (ev_mut (i := 5) PySem.F.slot_list_append PySem.F.type_list_append mt_append mg_append rfl (by first | exact Or.inl rfl | exact Or.inr (Or.inl rfl) | exact Or.inr (Or.inr rfl)) (eva_cons (evv_of (ev_var (i := 8) rfl (by first | exact Or.inl rfl | exact Or.inr (Or.inl rfl) | exact Or.inr (Or.inr rfl)))) eva_nil)))
    (svs_one (sv_set (i := 6) sc_sense_in.nd rfl (by first | exact Or.inl rfl | exact Or.inr rfl) (ev_op op_addA (opg_addA (own := false)) (evv_var (i := 6) rfl (by first | exact Or.inl rfl | exact Or.inr (Or.inl rfl) | exact Or.inr (Or.inr rfl))) (evv_of (ev_if (evt_cmp (op_eqD (u64 hr)) opg_eq (evv_var (i := 7) rfl (by first | exact Or.inl rfl | exact Or.inr (Or.inl rfl) | exact Or.inr (Or.inr rfl))) (evv_of ev_str)) ev_int ev_int))))))))))
    (svs_one (sv_ret (ev_tup (eva_cons (evv_of (ev_callTy call_tupleA cg_tuple rfl G.m_tuple PySem.Pv.boot_tuple (eva_cons (evv_var (i := 5) rfl (by first | exact Or.inl rfl | exact Or.inr (Or.inl rfl) | exact Or.inr (Or.inr rfl))) eva_nil))) (eva_cons (evv_of (ev_var (i := 4) rfl (by first | exact Or.inl rfl | exact Or.inr (Or.inl rfl) | exact Or.inr (Or.inr rfl)))) eva_nil)))))))))))
noncomputable def wt_parted_1 (K : PySem.W.Frag) (c : Ad) : M Bool :=
    (asB (bin (rdV 2) (toV (callN (argsCons (rdV 0) argsNil) oLen)) oLt))
noncomputable def lb_parted_1 (K : PySem.W.Frag) (c : Ad) : SM :=
    (seqS (setS 3 (callF 2 (g_sense_in K c) (argsCons (rdV 0) (argsCons (rdV 2) argsNil))))
    (seqS (ifS (asB (bin (rdV 3) (toV (cst .none)) oIsN)) (raiseA c.BadCode 1 [("at", 1)] (argsCons (toV (rdZ 2)) argsNil)) skipS)
    (seqS (exprS (mutM 1 (argsCons (toV (bin (toV (mkTup (argsCons (toV (rdZ 2)) argsNil))) (rdV 3) (oAdd false))) argsNil) oAppend))
    (setS 2 (bin (rdV 2) (toV (bin (rdV 3) (toV (cst (.int 1))) oIx)) (oAdd false))))))
noncomputable def bd_parted (K : PySem.W.Frag) (c : Ad) : SM :=
    (seqS (ifS (notT (tstV (toV (callF 1 (g_are_cells K c) (argsCons (rdV 0) argsNil))))) (raiseS c.BadCells) skipS)
    (seqS (parS [1, 2] (osCons (mkLst true argsNil) (osCons (cst (.int 0)) osNil)))
    (seqS (whileS (wt_parted_1 K c) (lb_parted_1 K c))
    (retS (callN (argsCons (rdV 1) argsNil) oTuple)))))
noncomputable def g_parted (K : PySem.W.Frag) (c : Ad) : DF := runF 1 4 [0] (bd_parted K c)
theorem ok_parted (G : Gs P w K mg base T c) : DefOk P w K T mg base 3 c.f_parted c.d_parted ["cells"] (g_parted K c) := def_ok (N := ["cells", "found", "at", "there"]) G.F_parted sc_parted (by decide) fun cdv A outer s H E hr =>
    (svs_cons (sv_if (evt_not (evt_val (evv_of (ev_call (ps := ["thing"]) ((ok_are_cells G).mono (by decide)) hr rfl G.g_are_cells G.k_are_cells G.b_are_cells (eva_cons (evv_var (i := 0) rfl (by first | exact Or.inl rfl | exact Or.inr (Or.inl rfl) | exact Or.inr (Or.inr rfl))) eva_nil))))) (svs_one (sv_raise rfl (pmk_own PySem.F.excBase_ValueError G.x_BadCells G.g_BadCells G.k_BadCells G.r_BadCells rfl))) svs_nil)
    (svs_cons (sv_par rfl sc_parted.nd (.cons (i := 1) rfl (by first | exact Or.inl rfl | exact Or.inr rfl) (by first | exact Or.inl rfl | exact Or.inr rfl) (.cons (i := 2) rfl (by first | exact Or.inl rfl | exact Or.inr rfl) (by first | exact Or.inl rfl | exact Or.inr rfl) .nil)) (evl_cons (ev_lst (own := true) eva_nil) (evl_cons ev_int evl_nil)))
    (svs_cons (sv_while (passes_of rfl) (evt_cmp op_lt opg_lt (evv_var (i := 2) rfl (by first | exact Or.inl rfl | exact Or.inr (Or.inl rfl) | exact Or.inr (Or.inr rfl))) (evv_of (ev_callB call_lenA cg_len rfl G.m_len PySem.boot_len (eva_cons (evv_var (i := 0) rfl (by first | exact Or.inl rfl | exact Or.inr (Or.inl rfl) | exact Or.inr (Or.inr rfl))) eva_nil)))) (svs_cons (sv_set (i := 3) sc_parted.nd rfl (by first | exact Or.inl rfl | exact Or.inr rfl) (ev_call (ps := ["cells", "at"]) ((ok_sense_in G).mono (by decide)) hr rfl G.g_sense_in G.k_sense_in G.b_sense_in (eva_cons (evv_var (i := 0) rfl (by first | exact Or.inl rfl | exact Or.inr (Or.inl rfl) | exact Or.inr (Or.inr rfl))) (eva_cons (evv_var (i := 2) rfl (by first | exact Or.inl rfl | exact Or.inr (Or.inl rfl) | exact Or.inr (Or.inr rfl))) eva_nil))))
    (svs_cons (sv_if (evt_cmp op_isN opg_isN (evv_var (i := 3) rfl (by first | exact Or.inl rfl | exact Or.inr (Or.inl rfl) | exact Or.inr (Or.inr rfl))) (evv_of ev_non)) (svs_one (sv_raiseA (N := ["self", "at"]) (L := [("at", 1)]) rfl G.xi_BadCode.ox G.xi_BadCode.no (by simp) (by simp) (by decide) G.xi_BadCode.ini G.xi_BadCode.tyI G.xi_BadCode.fn (hr.mono (by decide)) G.xi_BadCode.bi passesF rfl G.g_BadCode (eva_cons (evv_of (ev_var (i := 2) rfl (by first | exact Or.inl rfl | exact Or.inr (Or.inl rfl) | exact Or.inr (Or.inr rfl)))) eva_nil))) svs_nil)
    (svs_cons (sv_expr (ev_mut (i := 1) PySem.F.slot_list_append PySem.F.type_list_append mt_append mg_append rfl (by first | exact Or.inl rfl | exact Or.inr (Or.inl rfl) | exact Or.inr (Or.inr rfl)) (eva_cons (evv_of (ev_op op_addA (opg_addA (own := false)) (evv_of (ev_tup (eva_cons (evv_of (ev_var (i := 2) rfl (by first | exact Or.inl rfl | exact Or.inr (Or.inl rfl) | exact Or.inr (Or.inr rfl)))) eva_nil))) (evv_var (i := 3) rfl (by first | exact Or.inl rfl | exact Or.inr (Or.inl rfl) | exact Or.inr (Or.inr rfl))))) eva_nil)))
    (svs_one (sv_set (i := 2) sc_parted.nd rfl (by first | exact Or.inl rfl | exact Or.inr rfl) (ev_op op_addA (opg_addA (own := false)) (evv_var (i := 2) rfl (by first | exact Or.inl rfl | exact Or.inr (Or.inl rfl) | exact Or.inr (Or.inr rfl))) (evv_of (ev_ix ix_any opg_ix (evv_var (i := 3) rfl (by first | exact Or.inl rfl | exact Or.inr (Or.inl rfl) | exact Or.inr (Or.inr rfl))) (evv_of ev_int))))))))))
    (svs_one (sv_ret (ev_callTy call_tupleA cg_tuple rfl G.m_tuple PySem.Pv.boot_tuple (eva_cons (evv_var (i := 1) rfl (by first | exact Or.inl rfl | exact Or.inr (Or.inl rfl) | exact Or.inr (Or.inr rfl))) eva_nil)))))))
noncomputable def ce_law_begun_1 (K : PySem.W.Frag) (c : Ad) : M OV :=
    (bin (toV (callN (argsCons (rdV 2) argsNil) oAbs)) (toV (bin (toV (cst (.int 10))) (toV (cst (.int 18))) oPow)) oSub)
noncomputable def ci_law_begun_1 (K : PySem.W.Frag) (c : Ad) : M Bool :=
    (asB (bin (toV (callN (argsCons (rdV 2) argsNil) oAbs)) (toV (bin (toV (cst (.int 10))) (toV (cst (.int 18))) oPow)) oGe))
noncomputable def ce_law_begun_2 (K : PySem.W.Frag) (c : Ad) : M OV :=
    (bin (toV (callN (argsCons (toV (callN (argsCons (rdV 2) argsNil) oAbs)) argsNil) oInt1)) (toV (cst (.int 2147483629))) oMod)
noncomputable def bd_law_begun (K : PySem.W.Frag) (c : Ad) : SM :=
    (seqS (setS 1 (compE true (itScr (rdZ 0)) (gN 2) (ci_law_begun_1 K c) (ce_law_begun_1 K c) [2]))
    (retS (dispM ["wide", "cells", "rest", "turn"] (osCons (mvS 1) (osCons (compE false (itScr (rdZ 0)) (gN 2) tYesM (ce_law_begun_2 K c) [2]) (osCons (cst (.int 0)) (osCons (cst (.int 0)) osNil)))))))
noncomputable def g_law_begun (K : PySem.W.Frag) (c : Ad) : DF := runF 1 3 [0] (bd_law_begun K c)
theorem ok_law_begun (G : Gs P w K mg base T c) : DefOk P w K T mg base 1 c.f_law_begun c.d_law_begun ["_law_script"] (g_law_begun K c) := def_ok (N := ["_law_script", "_law_wide", "_law_grain"]) G.F_law_begun sc_law_begun (by decide) fun cdv A outer s H E hr =>
    (svs_cons (sv_setC (i := 1) (own := true) (ownN := [("_law_grain", 2)]) rfl sc_law_begun.nd rfl rfl (sw_true rfl rfl rfl rfl) (evi_scr (ev_var (i := 0) rfl (by first | exact Or.inl rfl | exact Or.inr (Or.inl rfl) | exact Or.inr (Or.inr rfl)))) (blkOk_by rfl) (fun _ _ _ _ _ => (gv_name (i := 2) sc_law_begun.nd rfl (by first | exact Or.inl rfl | exact Or.inr rfl) (by first | exact Or.inl rfl | exact Or.inr rfl))) (fun _ _ _ _ _ => (evts_one (evt_cmp op_ge opg_ge (evv_of (ev_callB call_absA cg_abs rfl G.m_abs PyProof.Rows.boot_abs (eva_cons (evv_var (i := 2) rfl (by first | exact Or.inl rfl | exact Or.inr (Or.inl rfl) | exact Or.inr (Or.inr rfl))) eva_nil))) (evv_of (ev_op op_pow opg_pow (evv_of ev_int) (evv_of ev_int)))))) (fun _ _ _ _ _ => (ev_op op_sub opg_sub (evv_of (ev_callB call_absA cg_abs rfl G.m_abs PyProof.Rows.boot_abs (eva_cons (evv_var (i := 2) rfl (by first | exact Or.inl rfl | exact Or.inr (Or.inl rfl) | exact Or.inr (Or.inr rfl))) eva_nil))) (evv_of (ev_op op_pow opg_pow (evv_of ev_int) (evv_of ev_int))))))
    (svs_one (sv_ret (ev_disp (evd_cons (ev_move (i := 1) rfl (by first | exact Or.inl rfl | exact Or.inr (Or.inl rfl) | exact Or.inr (Or.inr rfl))) (evd_cons (ev_comp (own := false) (ownN := [("_law_grain", 2)]) rfl sc_law_begun.nd (evi_scr (ev_var (i := 0) rfl (by first | exact Or.inl rfl | exact Or.inr (Or.inl rfl) | exact Or.inr (Or.inr rfl)))) (blkOk_by rfl) (fun _ _ _ _ _ => (gv_name (i := 2) sc_law_begun.nd rfl (by first | exact Or.inl rfl | exact Or.inr rfl) (by first | exact Or.inl rfl | exact Or.inr rfl))) (fun _ _ _ _ _ => evts_nil) (fun _ _ _ _ _ => (ev_op op_mod opg_mod (evv_of (ev_callTy call_int1A cg_int1 rfl G.m_int PySem.Pv.boot_int (eva_cons (evv_of (ev_callB call_absA cg_abs rfl G.m_abs PyProof.Rows.boot_abs (eva_cons (evv_var (i := 2) rfl (by first | exact Or.inl rfl | exact Or.inr (Or.inl rfl) | exact Or.inr (Or.inr rfl))) eva_nil))) eva_nil))) (evv_of ev_int)))) (evd_cons ev_int (evd_cons ev_int evd_nil))))))))
noncomputable def lb_law_mixed_1 (K : PySem.W.Frag) (c : Ad) : SM :=
    (setS 4 (bin (toV (callN (argsCons (toV (bin (toV (bin (toV (bin (rdV 4) (toV (cst (.int 69621))) (oMulA false))) (rdV 5) (oAdd false))) (rdV 1) (oAdd false))) argsNil) oInt1)) (rdV 3) oMod))
noncomputable def lb_law_mixed_2 (K : PySem.W.Frag) (c : Ad) : SM :=
    (seqS (setS 4 (bin (toV (bin (toV (cst (.int 48271))) (rdV 1) (oMulA false))) (toV (bin (rdV 3) (toV (cst (.int 37))) oFdiv)) (oAdd false)))
    (seqS (forS (itE (dgetS 0 "cells")) (gN 5) (lb_law_mixed_1 K c))
    (setS 2 (bin (toV (bin (rdV 2) (toV (cst (.int 2147483647))) (oMulA false))) (toV (bin (toV (callN (argsCons (toV (bin (rdV 4) (toV (cst (.int 5))) oPow)) argsNil) oInt1)) (rdV 3) oMod)) (oAdd false)))))
noncomputable def bd_law_mixed (K : PySem.W.Frag) (c : Ad) : SM :=
    (seqS (parS [1, 2] (osCons (bin (toV (dgetS 0 "turn")) (toV (cst (.int 1))) (oAdd false)) (osCons (cst (.int 0)) osNil)))
    (seqS (dputS 0 "turn" (rdZ 1))
    (seqS (forS (itE (mkLst false (argsCons (toV (cst (.int 2147483647))) (argsCons (toV (cst (.int 2147483629))) (argsCons (toV (cst (.int 2147483587))) (argsCons (toV (cst (.int 2147483579))) argsNil)))))) (gN 3) (lb_law_mixed_2 K c))
    (retS (rdZ 2)))))
noncomputable def g_law_mixed (K : PySem.W.Frag) (c : Ad) : DF := runF 1 6 [0] (bd_law_mixed K c)
theorem ok_law_mixed (G : Gs P w K mg base T c) : DefOk P w K T mg base 1 c.f_law_mixed c.d_law_mixed ["_law_draw"] (g_law_mixed K c) := def_ok (N := ["_law_draw", "_law_turn", "_law_found", "_law_prime", "_law_blend", "_law_grain"]) G.F_law_mixed sc_law_mixed (by decide) fun cdv A outer s H E hr =>
    (svs_cons (sv_par rfl sc_law_mixed.nd (.cons (i := 1) rfl (by first | exact Or.inl rfl | exact Or.inr rfl) (by first | exact Or.inl rfl | exact Or.inr rfl) (.cons (i := 2) rfl (by first | exact Or.inl rfl | exact Or.inr rfl) (by first | exact Or.inl rfl | exact Or.inr rfl) .nil)) (evl_cons (ev_op op_addA (opg_addA (own := false)) (evv_of (ev_dget (i := 0) (u1 hr) rfl (by first | exact Or.inl rfl | exact Or.inr (Or.inl rfl) | exact Or.inr (Or.inr rfl)))) (evv_of ev_int)) (evl_cons ev_int evl_nil)))
    (svs_cons (sv_dput (i := 0) (u1 hr) rfl (by first | exact Or.inl rfl | exact Or.inr (Or.inl rfl) | exact Or.inr (Or.inr rfl)) (ev_var (i := 1) rfl (by first | exact Or.inl rfl | exact Or.inr (Or.inl rfl) | exact Or.inr (Or.inr rfl))))
    (svs_cons (sv_for (passes_of rfl) rfl (evi_seq (ev_lst (own := false) (eva_cons (evv_of ev_int) (eva_cons (evv_of ev_int) (eva_cons (evv_of ev_int) (eva_cons (evv_of ev_int) eva_nil)))))) (gv_name (i := 3) sc_law_mixed.nd rfl (by first | exact Or.inl rfl | exact Or.inr rfl) (by first | exact Or.inl rfl | exact Or.inr rfl)) (svs_cons (sv_set (i := 4) sc_law_mixed.nd rfl (by first | exact Or.inl rfl | exact Or.inr rfl) (ev_op op_addA (opg_addA (own := false)) (evv_of (ev_op op_mulA (opg_mulA (own := false)) (evv_of ev_int) (evv_var (i := 1) rfl (by first | exact Or.inl rfl | exact Or.inr (Or.inl rfl) | exact Or.inr (Or.inr rfl))))) (evv_of (ev_op op_fdiv opg_fdiv (evv_var (i := 3) rfl (by first | exact Or.inl rfl | exact Or.inr (Or.inl rfl) | exact Or.inr (Or.inr rfl))) (evv_of ev_int)))))
    (svs_cons (sv_for (passes_of rfl) rfl (evi_seq (ev_dget (i := 0) (u1 hr) rfl (by first | exact Or.inl rfl | exact Or.inr (Or.inl rfl) | exact Or.inr (Or.inr rfl)))) (gv_name (i := 5) sc_law_mixed.nd rfl (by first | exact Or.inl rfl | exact Or.inr rfl) (by first | exact Or.inl rfl | exact Or.inr rfl)) (svs_one (sv_set (i := 4) sc_law_mixed.nd rfl (by first | exact Or.inl rfl | exact Or.inr rfl) (ev_op op_mod opg_mod (evv_of (ev_callTy call_int1A cg_int1 rfl G.m_int PySem.Pv.boot_int (eva_cons (evv_of (ev_op op_addA (opg_addA (own := false)) (evv_of (ev_op op_addA (opg_addA (own := false)) (evv_of (ev_op op_mulA (opg_mulA (own := false)) (evv_var (i := 4) rfl (by first | exact Or.inl rfl | exact Or.inr (Or.inl rfl) | exact Or.inr (Or.inr rfl))) (evv_of ev_int))) (evv_var (i := 5) rfl (by first | exact Or.inl rfl | exact Or.inr (Or.inl rfl) | exact Or.inr (Or.inr rfl))))) (evv_var (i := 1) rfl (by first | exact Or.inl rfl | exact Or.inr (Or.inl rfl) | exact Or.inr (Or.inr rfl))))) eva_nil))) (evv_var (i := 3) rfl (by first | exact Or.inl rfl | exact Or.inr (Or.inl rfl) | exact Or.inr (Or.inr rfl)))))))
    (svs_one (sv_set (i := 2) sc_law_mixed.nd rfl (by first | exact Or.inl rfl | exact Or.inr rfl) (ev_op op_addA (opg_addA (own := false)) (evv_of (ev_op op_mulA (opg_mulA (own := false)) (evv_var (i := 2) rfl (by first | exact Or.inl rfl | exact Or.inr (Or.inl rfl) | exact Or.inr (Or.inr rfl))) (evv_of ev_int))) (evv_of (ev_op op_mod opg_mod (evv_of (ev_callTy call_int1A cg_int1 rfl G.m_int PySem.Pv.boot_int (eva_cons (evv_of (ev_op op_pow opg_pow (evv_var (i := 4) rfl (by first | exact Or.inl rfl | exact Or.inr (Or.inl rfl) | exact Or.inr (Or.inr rfl))) (evv_of ev_int))) eva_nil))) (evv_var (i := 3) rfl (by first | exact Or.inl rfl | exact Or.inr (Or.inl rfl) | exact Or.inr (Or.inr rfl)))))))))))
    (svs_one (sv_ret (ev_var (i := 2) rfl (by first | exact Or.inl rfl | exact Or.inr (Or.inl rfl) | exact Or.inr (Or.inr rfl))))))))
noncomputable def bd_law_take (K : PySem.W.Frag) (c : Ad) : SM :=
    (seqS (ifS (asB (bin (toV (dgetS 0 "rest")) (toV (cst (.int 0))) oEq)) (dputS 0 "rest" (ifE (dfull 0 "wide") (dpop0 0 "wide") (callF 1 (g_law_mixed K c) (argsCons (rdV 0) argsNil)))) skipS)
    (seqS (setS 2 (bin (toV (callN (argsCons (toV (dgetS 0 "rest")) argsNil) oInt1)) (rdV 1) oMod))
    (seqS (dputS 0 "rest" (bin (toV (dgetS 0 "rest")) (rdV 1) oFdiv))
    (retS (rdZ 2)))))
noncomputable def g_law_take (K : PySem.W.Frag) (c : Ad) : DF := runF 2 3 [0, 1] (bd_law_take K c)
theorem ok_law_take (G : Gs P w K mg base T c) : DefOk P w K T mg base 2 c.f_law_take c.d_law_take ["_law_draw", "_law_many_here"] (g_law_take K c) := def_ok (N := ["_law_draw", "_law_many_here", "_law_found"]) G.F_law_take sc_law_take (by decide) fun cdv A outer s H E hr =>
    (svs_cons (sv_if (evt_cmp (op_eqD (u64 hr)) opg_eq (evv_of (ev_dget (i := 0) (u1 hr) rfl (by first | exact Or.inl rfl | exact Or.inr (Or.inl rfl) | exact Or.inr (Or.inr rfl)))) (evv_of ev_int)) (svs_one (sv_dput (i := 0) (u1 hr) rfl (by first | exact Or.inl rfl | exact Or.inr (Or.inl rfl) | exact Or.inr (Or.inr rfl)) (ev_if (evt_dfull (i := 0) (u64 hr) rfl (by first | exact Or.inl rfl | exact Or.inr (Or.inl rfl) | exact Or.inr (Or.inr rfl))) (ev_dpop0 (i := 0) (u1 hr) rfl (by first | exact Or.inl rfl | exact Or.inr (Or.inl rfl) | exact Or.inr (Or.inr rfl))) (ev_call (ps := ["_law_draw"]) ((ok_law_mixed G).mono (by decide)) hr rfl G.g_law_mixed G.k_law_mixed G.b_law_mixed (eva_cons (evv_var (i := 0) rfl (by first | exact Or.inl rfl | exact Or.inr (Or.inl rfl) | exact Or.inr (Or.inr rfl))) eva_nil))))) svs_nil)
    (svs_cons (sv_set (i := 2) sc_law_take.nd rfl (by first | exact Or.inl rfl | exact Or.inr rfl) (ev_op op_mod opg_mod (evv_of (ev_callTy call_int1A cg_int1 rfl G.m_int PySem.Pv.boot_int (eva_cons (evv_of (ev_dget (i := 0) (u1 hr) rfl (by first | exact Or.inl rfl | exact Or.inr (Or.inl rfl) | exact Or.inr (Or.inr rfl)))) eva_nil))) (evv_var (i := 1) rfl (by first | exact Or.inl rfl | exact Or.inr (Or.inl rfl) | exact Or.inr (Or.inr rfl)))))
    (svs_cons (sv_dput (i := 0) (u1 hr) rfl (by first | exact Or.inl rfl | exact Or.inr (Or.inl rfl) | exact Or.inr (Or.inr rfl)) (ev_op op_fdiv opg_fdiv (evv_of (ev_dget (i := 0) (u1 hr) rfl (by first | exact Or.inl rfl | exact Or.inr (Or.inl rfl) | exact Or.inr (Or.inr rfl)))) (evv_var (i := 1) rfl (by first | exact Or.inl rfl | exact Or.inr (Or.inl rfl) | exact Or.inr (Or.inr rfl)))))
    (svs_one (sv_ret (ev_var (i := 2) rfl (by first | exact Or.inl rfl | exact Or.inr (Or.inl rfl) | exact Or.inr (Or.inr rfl))))))))
noncomputable def bd_law_pick (K : PySem.W.Frag) (c : Ad) : SM :=
    (retS (bin (rdV 1) (toV (callF 2 (g_law_take K c) (argsCons (rdV 0) (argsCons (toV (callN (argsCons (rdV 1) argsNil) oLen)) argsNil)))) oIx))
noncomputable def g_law_pick (K : PySem.W.Frag) (c : Ad) : DF := runF 2 2 [0, 1] (bd_law_pick K c)
theorem ok_law_pick (G : Gs P w K mg base T c) : DefOk P w K T mg base 3 c.f_law_pick c.d_law_pick ["_law_draw", "_law_some"] (g_law_pick K c) := def_ok (N := ["_law_draw", "_law_some"]) G.F_law_pick sc_law_pick (by decide) fun cdv A outer s H E hr =>
    (svs_one (sv_ret (ev_ix ix_any opg_ix (evv_var (i := 1) rfl (by first | exact Or.inl rfl | exact Or.inr (Or.inl rfl) | exact Or.inr (Or.inr rfl))) (evv_of (ev_call (ps := ["_law_draw", "_law_many_here"]) ((ok_law_take G).mono (by decide)) hr rfl G.g_law_take G.k_law_take G.b_law_take (eva_cons (evv_var (i := 0) rfl (by first | exact Or.inl rfl | exact Or.inr (Or.inl rfl) | exact Or.inr (Or.inr rfl))) (eva_cons (evv_of (ev_callB call_lenA cg_len rfl G.m_len PySem.boot_len (eva_cons (evv_var (i := 1) rfl (by first | exact Or.inl rfl | exact Or.inr (Or.inl rfl) | exact Or.inr (Or.inr rfl))) eva_nil))) eva_nil)))))))
noncomputable def bd_law_codes (K : PySem.W.Frag) (c : Ad) : SM :=
    (seqS (setS 0 (mkLst false (argsCons (toV (mkTup (argsCons (toV (cst (.int 1))) (argsCons (toV (cst (.str "set"))) (argsCons (toV (cst (.str "rc"))) argsNil))))) (argsCons (toV (mkTup (argsCons (toV (cst (.int 2))) (argsCons (toV (cst (.str "copy"))) (argsCons (toV (cst (.str "rr"))) argsNil))))) (argsCons (toV (mkTup (argsCons (toV (cst (.int 3))) (argsCons (toV (cst (.str "plus"))) (argsCons (toV (cst (.str "rr"))) argsNil))))) (argsCons (toV (mkTup (argsCons (toV (cst (.int 4))) (argsCons (toV (cst (.str "less"))) (argsCons (toV (cst (.str "rr"))) argsNil))))) (argsCons (toV (mkTup (argsCons (toV (cst (.int 5))) (argsCons (toV (cst (.str "ask"))) (argsCons (toV (cst (.str "r"))) argsNil))))) (argsCons (toV (mkTup (argsCons (toV (cst (.int 6))) (argsCons (toV (cst (.str "show"))) (argsCons (toV (cst (.str "r"))) argsNil))))) (argsCons (toV (mkTup (argsCons (toV (cst (.int 7))) (argsCons (toV (cst (.str "load"))) (argsCons (toV (cst (.str "rD"))) argsNil))))) (argsCons (toV (mkTup (argsCons (toV (cst (.int 8))) (argsCons (toV (cst (.str "store"))) (argsCons (toV (cst (.str "rD"))) argsNil))))) argsNil))))))))))
    (seqS (setS 0 (bin (rdV 0) (toV (mkLst false (argsCons (toV (mkTup (argsCons (toV (cst (.int 9))) (argsCons (toV (cst (.str "item"))) (argsCons (toV (cst (.str "rrLD"))) argsNil))))) (argsCons (toV (mkTup (argsCons (toV (cst (.int 10))) (argsCons (toV (cst (.str "fill"))) (argsCons (toV (cst (.str "rrLD"))) argsNil))))) (argsCons (toV (mkTup (argsCons (toV (cst (.int 11))) (argsCons (toV (cst (.str "take"))) (argsCons (toV (cst (.str "pD"))) argsNil))))) (argsCons (toV (mkTup (argsCons (toV (cst (.int 12))) (argsCons (toV (cst (.str "pick"))) (argsCons (toV (cst (.str "prLD"))) argsNil))))) (argsCons (toV (mkTup (argsCons (toV (cst (.int 13))) (argsCons (toV (cst (.str "alike"))) (argsCons (toV (cst (.str "rpp"))) argsNil))))) (argsCons (toV (mkTup (argsCons (toV (cst (.int 14))) (argsCons (toV (cst (.str "call"))) (argsCons (toV (cst (.str "d"))) argsNil))))) (argsCons (toV (mkTup (argsCons (toV (cst (.int 15))) (argsCons (toV (cst (.str "call"))) (argsCons (toV (cst (.str "D"))) argsNil))))) argsNil))))))))) (oAdd false)))
    (seqS (setS 0 (bin (rdV 0) (toV (mkLst false (argsCons (toV (mkTup (argsCons (toV (cst (.int 16))) (argsCons (toV (cst (.str "jump"))) (argsCons (toV (cst (.str "d"))) argsNil))))) (argsCons (toV (mkTup (argsCons (toV (cst (.int 17))) (argsCons (toV (cst (.str "jump"))) (argsCons (toV (cst (.str "D"))) argsNil))))) (argsCons (toV (mkTup (argsCons (toV (cst (.int 18))) (argsCons (toV (cst (.str "if"))) (argsCons (toV (cst (.str "rd"))) argsNil))))) (argsCons (toV (mkTup (argsCons (toV (cst (.int 19))) (argsCons (toV (cst (.str "if"))) (argsCons (toV (cst (.str "rD"))) argsNil))))) (argsCons (toV (mkTup (argsCons (toV (cst (.int 20))) (argsCons (toV (cst (.str "leap"))) (argsCons (toV (cst (.str "p"))) argsNil))))) (argsCons (toV (mkTup (argsCons (toV (cst (.int 21))) (argsCons (toV (cst (.str "return"))) (argsCons (toV (cst (.str ""))) argsNil))))) (argsCons (toV (mkTup (argsCons (toV (cst (.int 22))) (argsCons (toV (cst (.str "stop"))) (argsCons (toV (cst (.str ""))) argsNil))))) (argsCons (toV (mkTup (argsCons (toV (cst (.int 23))) (argsCons (toV (cst (.str "fail"))) (argsCons (toV (cst (.str "f"))) argsNil))))) argsNil)))))))))) (oAdd false)))
    (seqS (setS 0 (bin (rdV 0) (toV (mkLst false (argsCons (toV (mkTup (argsCons (toV (cst (.int 27))) (argsCons (toV (cst (.str "by load"))) (argsCons (toV (cst (.str "rcD"))) argsNil))))) (argsCons (toV (mkTup (argsCons (toV (cst (.int 28))) (argsCons (toV (cst (.str "by store"))) (argsCons (toV (cst (.str "rcD"))) argsNil))))) (argsCons (toV (mkTup (argsCons (toV (cst (.int 29))) (argsCons (toV (cst (.str "by item"))) (argsCons (toV (cst (.str "rrLD"))) argsNil))))) (argsCons (toV (mkTup (argsCons (toV (cst (.int 30))) (argsCons (toV (cst (.str "by fill"))) (argsCons (toV (cst (.str "rrLD"))) argsNil))))) (argsCons (toV (mkTup (argsCons (toV (cst (.int 31))) (argsCons (toV (cst (.str "by take"))) (argsCons (toV (cst (.str "pD"))) argsNil))))) (argsCons (toV (mkTup (argsCons (toV (cst (.int 32))) (argsCons (toV (cst (.str "by pick"))) (argsCons (toV (cst (.str "prLD"))) argsNil))))) argsNil)))))))) (oAdd false)))
    (retS (bin (rdV 0) (toV (mkLst false (argsCons (toV (mkTup (argsCons (toV (cst (.int 35))) (argsCons (toV (cst (.str "by call"))) (argsCons (toV (cst (.str "D"))) argsNil))))) (argsCons (toV (mkTup (argsCons (toV (cst (.int 37))) (argsCons (toV (cst (.str "by jump"))) (argsCons (toV (cst (.str "D"))) argsNil))))) argsNil)))) (oAdd false)))))))
noncomputable def g_law_codes (K : PySem.W.Frag) (c : Ad) : DF := runF 0 1 [] (bd_law_codes K c)
theorem ok_law_codes (G : Gs P w K mg base T c) : DefOk P w K T mg base 1 c.f_law_codes c.d_law_codes [] (g_law_codes K c) := def_ok (N := ["_law_some"]) G.F_law_codes sc_law_codes (by decide) fun cdv A outer s H E hr =>
    (svs_cons (sv_set (i := 0) sc_law_codes.nd rfl (by first | exact Or.inl rfl | exact Or.inr rfl) (ev_lst (own := false) (eva_cons (evv_of (ev_tup (eva_cons (evv_of ev_int) (eva_cons (evv_of ev_str) (eva_cons (evv_of ev_str) eva_nil))))) (eva_cons (evv_of (ev_tup (eva_cons (evv_of ev_int) (eva_cons (evv_of ev_str) (eva_cons (evv_of ev_str) eva_nil))))) (eva_cons (evv_of (ev_tup (eva_cons (evv_of ev_int) (eva_cons (evv_of ev_str) (eva_cons (evv_of ev_str) eva_nil))))) (eva_cons (evv_of (ev_tup (eva_cons (evv_of ev_int) (eva_cons (evv_of ev_str) (eva_cons (evv_of ev_str) eva_nil))))) (eva_cons (evv_of (ev_tup (eva_cons (evv_of ev_int) (eva_cons (evv_of ev_str) (eva_cons (evv_of ev_str) eva_nil))))) (eva_cons (evv_of (ev_tup (eva_cons (evv_of ev_int) (eva_cons (evv_of ev_str) (eva_cons (evv_of ev_str) eva_nil))))) (eva_cons (evv_of (ev_tup (eva_cons (evv_of ev_int) (eva_cons (evv_of ev_str) (eva_cons (evv_of ev_str) eva_nil))))) (eva_cons (evv_of (ev_tup (eva_cons (evv_of ev_int) (eva_cons (evv_of ev_str) (eva_cons (evv_of ev_str) eva_nil))))) eva_nil))))))))))
    (svs_cons (sv_set (i := 0) sc_law_codes.nd rfl (by first | exact Or.inl rfl | exact Or.inr rfl) (ev_op op_addA (opg_addA (own := false)) (evv_var (i := 0) rfl (by first | exact Or.inl rfl | exact Or.inr (Or.inl rfl) | exact Or.inr (Or.inr rfl))) (evv_of (ev_lst (own := false) (eva_cons (evv_of (ev_tup (eva_cons (evv_of ev_int) (eva_cons (evv_of ev_str) (eva_cons (evv_of ev_str) eva_nil))))) (eva_cons (evv_of (ev_tup (eva_cons (evv_of ev_int) (eva_cons (evv_of ev_str) (eva_cons (evv_of ev_str) eva_nil))))) (eva_cons (evv_of (ev_tup (eva_cons (evv_of ev_int) (eva_cons (evv_of ev_str) (eva_cons (evv_of ev_str) eva_nil))))) (eva_cons (evv_of (ev_tup (eva_cons (evv_of ev_int) (eva_cons (evv_of ev_str) (eva_cons (evv_of ev_str) eva_nil))))) (eva_cons (evv_of (ev_tup (eva_cons (evv_of ev_int) (eva_cons (evv_of ev_str) (eva_cons (evv_of ev_str) eva_nil))))) (eva_cons (evv_of (ev_tup (eva_cons (evv_of ev_int) (eva_cons (evv_of ev_str) (eva_cons (evv_of ev_str) eva_nil))))) (eva_cons (evv_of (ev_tup (eva_cons (evv_of ev_int) (eva_cons (evv_of ev_str) (eva_cons (evv_of ev_str) eva_nil))))) eva_nil)))))))))))
    (svs_cons (sv_set (i := 0) sc_law_codes.nd rfl (by first | exact Or.inl rfl | exact Or.inr rfl) (ev_op op_addA (opg_addA (own := false)) (evv_var (i := 0) rfl (by first | exact Or.inl rfl | exact Or.inr (Or.inl rfl) | exact Or.inr (Or.inr rfl))) (evv_of (ev_lst (own := false) (eva_cons (evv_of (ev_tup (eva_cons (evv_of ev_int) (eva_cons (evv_of ev_str) (eva_cons (evv_of ev_str) eva_nil))))) (eva_cons (evv_of (ev_tup (eva_cons (evv_of ev_int) (eva_cons (evv_of ev_str) (eva_cons (evv_of ev_str) eva_nil))))) (eva_cons (evv_of (ev_tup (eva_cons (evv_of ev_int) (eva_cons (evv_of ev_str) (eva_cons (evv_of ev_str) eva_nil))))) (eva_cons (evv_of (ev_tup (eva_cons (evv_of ev_int) (eva_cons (evv_of ev_str) (eva_cons (evv_of ev_str) eva_nil))))) (eva_cons (evv_of (ev_tup (eva_cons (evv_of ev_int) (eva_cons (evv_of ev_str) (eva_cons (evv_of ev_str) eva_nil))))) (eva_cons (evv_of (ev_tup (eva_cons (evv_of ev_int) (eva_cons (evv_of ev_str) (eva_cons (evv_of ev_str) eva_nil))))) (eva_cons (evv_of (ev_tup (eva_cons (evv_of ev_int) (eva_cons (evv_of ev_str) (eva_cons (evv_of ev_str) eva_nil))))) (eva_cons (evv_of (ev_tup (eva_cons (evv_of ev_int) (eva_cons (evv_of ev_str) (eva_cons (evv_of ev_str) eva_nil))))) eva_nil))))))))))))
    (svs_cons (sv_set (i := 0) sc_law_codes.nd rfl (by first | exact Or.inl rfl | exact Or.inr rfl) (ev_op op_addA (opg_addA (own := false)) (evv_var (i := 0) rfl (by first | exact Or.inl rfl | exact Or.inr (Or.inl rfl) | exact Or.inr (Or.inr rfl))) (evv_of (ev_lst (own := false) (eva_cons (evv_of (ev_tup (eva_cons (evv_of ev_int) (eva_cons (evv_of ev_str) (eva_cons (evv_of ev_str) eva_nil))))) (eva_cons (evv_of (ev_tup (eva_cons (evv_of ev_int) (eva_cons (evv_of ev_str) (eva_cons (evv_of ev_str) eva_nil))))) (eva_cons (evv_of (ev_tup (eva_cons (evv_of ev_int) (eva_cons (evv_of ev_str) (eva_cons (evv_of ev_str) eva_nil))))) (eva_cons (evv_of (ev_tup (eva_cons (evv_of ev_int) (eva_cons (evv_of ev_str) (eva_cons (evv_of ev_str) eva_nil))))) (eva_cons (evv_of (ev_tup (eva_cons (evv_of ev_int) (eva_cons (evv_of ev_str) (eva_cons (evv_of ev_str) eva_nil))))) (eva_cons (evv_of (ev_tup (eva_cons (evv_of ev_int) (eva_cons (evv_of ev_str) (eva_cons (evv_of ev_str) eva_nil))))) eva_nil))))))))))
    (svs_one (sv_ret (ev_op op_addA (opg_addA (own := false)) (evv_var (i := 0) rfl (by first | exact Or.inl rfl | exact Or.inr (Or.inl rfl) | exact Or.inr (Or.inr rfl))) (evv_of (ev_lst (own := false) (eva_cons (evv_of (ev_tup (eva_cons (evv_of ev_int) (eva_cons (evv_of ev_str) (eva_cons (evv_of ev_str) eva_nil))))) (eva_cons (evv_of (ev_tup (eva_cons (evv_of ev_int) (eva_cons (evv_of ev_str) (eva_cons (evv_of ev_str) eva_nil))))) eva_nil)))))))))))
noncomputable def bd_law_span (K : PySem.W.Frag) (c : Ad) : SM :=
    (retS (dispIx 0 (dispM ["r", "p", "c", "f", "L", "d", "D"] (osCons (mkTup (argsCons (toV (cst (.int 0))) (argsCons (toV (cst (.int 4))) argsNil))) (osCons (mkTup (argsCons (toV (cst (.int 0))) (argsCons (toV (cst (.int 2))) argsNil))) (osCons (mkTup (argsCons (toV (cst (.int 0))) (argsCons (toV (cst (.int 64))) argsNil))) (osCons (mkTup (argsCons (toV (cst (.int 0))) (argsCons (toV (cst (.int 63))) argsNil))) (osCons (mkTup (argsCons (toV (cst (.int 1))) (argsCons (toV (cst (.int 65))) argsNil))) (osCons (mkTup (argsCons (toV (negV (toV (cst (.int 32))))) (argsCons (toV (cst (.int 32))) argsNil))) (osCons (mkTup (argsCons (toV (negV (toV (cst (.int 2048))))) (argsCons (toV (cst (.int 2048))) argsNil))) osNil))))))))))
noncomputable def g_law_span (K : PySem.W.Frag) (c : Ad) : DF := runF 1 1 [0] (bd_law_span K c)
theorem ok_law_span (G : Gs P w K mg base T c) : DefOk P w K T mg base 1 c.f_law_span c.d_law_span ["_law_sign"] (g_law_span K c) := def_ok (N := ["_law_sign"]) G.F_law_span sc_law_span (by decide) fun cdv A outer s H E hr =>
    (svs_one (sv_ret (ev_dispIx (i := 0) (u1 hr) (ev_disp (evd_cons (ev_tup (eva_cons (evv_of ev_int) (eva_cons (evv_of ev_int) eva_nil))) (evd_cons (ev_tup (eva_cons (evv_of ev_int) (eva_cons (evv_of ev_int) eva_nil))) (evd_cons (ev_tup (eva_cons (evv_of ev_int) (eva_cons (evv_of ev_int) eva_nil))) (evd_cons (ev_tup (eva_cons (evv_of ev_int) (eva_cons (evv_of ev_int) eva_nil))) (evd_cons (ev_tup (eva_cons (evv_of ev_int) (eva_cons (evv_of ev_int) eva_nil))) (evd_cons (ev_tup (eva_cons (evv_of (ev_neg (evv_of ev_int))) (eva_cons (evv_of ev_int) eva_nil))) (evd_cons (ev_tup (eva_cons (evv_of (ev_neg (evv_of ev_int))) (eva_cons (evv_of ev_int) eva_nil))) evd_nil)))))))) rfl (by first | exact Or.inl rfl | exact Or.inr (Or.inl rfl) | exact Or.inr (Or.inr rfl)))))
noncomputable def ce_law_many_1 (K : PySem.W.Frag) (c : Ad) : M OV :=
    (rdZ 1)
noncomputable def ci_law_many_1 (K : PySem.W.Frag) (c : Ad) : M Bool :=
    (asB (bin (rdV 1) (toV (cst (.str "D"))) oEq))
noncomputable def bd_law_many (K : PySem.W.Frag) (c : Ad) : SM :=
    (retS (bin (toV (bin (toV (cst (.int 1))) (toV (callN (argsCons (rdV 0) argsNil) oLen)) (oAdd false))) (toV (callN (argsCons (toV (compE false (itS (rdZ 0)) (gN 1) (ci_law_many_1 K c) (ce_law_many_1 K c) [1])) argsNil) oLen)) (oAdd false)))
noncomputable def g_law_many (K : PySem.W.Frag) (c : Ad) : DF := runF 1 2 [0] (bd_law_many K c)
theorem ok_law_many (G : Gs P w K mg base T c) : DefOk P w K T mg base 1 c.f_law_many c.d_law_many ["_law_signs"] (g_law_many K c) := def_ok (N := ["_law_signs", "_law_sign"]) G.F_law_many sc_law_many (by decide) fun cdv A outer s H E hr =>
    (svs_one (sv_ret (ev_op op_addA (opg_addA (own := false)) (evv_of (ev_op op_addA (opg_addA (own := false)) (evv_of ev_int) (evv_of (ev_callB call_lenA cg_len rfl G.m_len PySem.boot_len (eva_cons (evv_var (i := 0) rfl (by first | exact Or.inl rfl | exact Or.inr (Or.inl rfl) | exact Or.inr (Or.inr rfl))) eva_nil))))) (evv_of (ev_callB call_lenA cg_len rfl G.m_len PySem.boot_len (eva_cons (evv_of (ev_comp (own := false) (ownN := [("_law_sign", 1)]) rfl sc_law_many.nd (evi_str (ev_var (i := 0) rfl (by first | exact Or.inl rfl | exact Or.inr (Or.inl rfl) | exact Or.inr (Or.inr rfl)))) (blkOk_by rfl) (fun _ _ _ _ _ => (gv_name (i := 1) sc_law_many.nd rfl (by first | exact Or.inl rfl | exact Or.inr rfl) (by first | exact Or.inl rfl | exact Or.inr rfl))) (fun _ _ _ _ _ => (evts_one (evt_cmp (op_eqD (u64 hr)) opg_eq (evv_var (i := 1) rfl (by first | exact Or.inl rfl | exact Or.inr (Or.inl rfl) | exact Or.inr (Or.inr rfl))) (evv_of ev_str)))) (fun _ _ _ _ _ => (ev_var (i := 1) rfl (by first | exact Or.inl rfl | exact Or.inr (Or.inl rfl) | exact Or.inr (Or.inr rfl)))))) eva_nil))))))
noncomputable def lb_law_cells_of_1 (K : PySem.W.Frag) (c : Ad) : SM :=
    (setS 3 (bin (toV (bin (rdV 3) (toV (ifE (asB (bin (rdV 4) (toV (cst (.str "D"))) oEq)) (mkLst false (argsCons (toV (bin (toV (bin (toV (callN (argsCons (toV (bin (rdV 5) (toV (cst (.int 4096))) (oAdd false))) argsNil) oInt1)) (toV (cst (.int 4096))) oMod)) (toV (cst (.int 64))) oFdiv)) argsNil)) (mkLst false argsNil))) (oAdd false))) (toV (mkLst false (argsCons (toV (bin (toV (callN (argsCons (toV (bin (rdV 5) (toV (cst (.int 4096))) (oAdd false))) argsNil) oInt1)) (toV (cst (.int 64))) oMod)) argsNil))) (oAdd false)))
noncomputable def bd_law_cells_of (K : PySem.W.Frag) (c : Ad) : SM :=
    (seqS (setS 3 (mkLst false (argsCons (toV (rdZ 0)) argsNil)))
    (seqS (forS (zipE (argsCons (toV (rdZ 1)) (argsCons (toV (rdZ 2)) argsNil))) (gTupD 2 (gConsD (gN 4) (gConsD (gN 5) gNilD))) (lb_law_cells_of_1 K c))
    (retS (callN (argsCons (rdV 3) argsNil) oTuple))))
noncomputable def g_law_cells_of (K : PySem.W.Frag) (c : Ad) : DF := runF 3 6 [0, 1, 2] (bd_law_cells_of K c)
theorem ok_law_cells_of (G : Gs P w K mg base T c) : DefOk P w K T mg base 1 c.f_law_cells_of c.d_law_cells_of ["_law_code", "_law_signs", "_law_parts"] (g_law_cells_of K c) := def_ok (N := ["_law_code", "_law_signs", "_law_parts", "_law_cells", "_law_sign", "_law_part"]) G.F_law_cells_of sc_law_cells_of (by decide) fun cdv A outer s H E hr =>
    (svs_cons (sv_set (i := 3) sc_law_cells_of.nd rfl (by first | exact Or.inl rfl | exact Or.inr rfl) (ev_lst (own := false) (eva_cons (evv_of (ev_var (i := 0) rfl (by first | exact Or.inl rfl | exact Or.inr (Or.inl rfl) | exact Or.inr (Or.inr rfl)))) eva_nil)))
    (svs_cons (sv_for (passes_of rfl) rfl (evi_zip rfl G.m_zip (eva_cons (evv_of (ev_var (i := 1) rfl (by first | exact Or.inl rfl | exact Or.inr (Or.inl rfl) | exact Or.inr (Or.inr rfl)))) (eva_cons (evv_of (ev_var (i := 2) rfl (by first | exact Or.inl rfl | exact Or.inr (Or.inl rfl) | exact Or.inr (Or.inr rfl)))) eva_nil))) (gv_tup rfl (gvs_cons (gv_name (i := 4) sc_law_cells_of.nd rfl (by first | exact Or.inl rfl | exact Or.inr rfl) (by first | exact Or.inl rfl | exact Or.inr rfl)) (gvs_cons (gv_name (i := 5) sc_law_cells_of.nd rfl (by first | exact Or.inl rfl | exact Or.inr rfl) (by first | exact Or.inl rfl | exact Or.inr rfl)) gvs_nil))) (svs_one (sv_set (i := 3) sc_law_cells_of.nd rfl (by first | exact Or.inl rfl | exact Or.inr rfl) (ev_op op_addA (opg_addA (own := false)) (evv_of (ev_op op_addA (opg_addA (own := false)) (evv_var (i := 3) rfl (by first | exact Or.inl rfl | exact Or.inr (Or.inl rfl) | exact Or.inr (Or.inr rfl))) (evv_of (ev_if (evt_cmp (op_eqD (u64 hr)) opg_eq (evv_var (i := 4) rfl (by first | exact Or.inl rfl | exact Or.inr (Or.inl rfl) | exact Or.inr (Or.inr rfl))) (evv_of ev_str)) (ev_lst (own := false) (eva_cons (evv_of (ev_op op_fdiv opg_fdiv (evv_of (ev_op op_mod opg_mod (evv_of (ev_callTy call_int1A cg_int1 rfl G.m_int PySem.Pv.boot_int (eva_cons (evv_of (ev_op op_addA (opg_addA (own := false)) (evv_var (i := 5) rfl (by first | exact Or.inl rfl | exact Or.inr (Or.inl rfl) | exact Or.inr (Or.inr rfl))) (evv_of ev_int))) eva_nil))) (evv_of ev_int))) (evv_of ev_int))) eva_nil)) (ev_lst (own := false) eva_nil))))) (evv_of (ev_lst (own := false) (eva_cons (evv_of (ev_op op_mod opg_mod (evv_of (ev_callTy call_int1A cg_int1 rfl G.m_int PySem.Pv.boot_int (eva_cons (evv_of (ev_op op_addA (opg_addA (own := false)) (evv_var (i := 5) rfl (by first | exact Or.inl rfl | exact Or.inr (Or.inl rfl) | exact Or.inr (Or.inr rfl))) (evv_of ev_int))) eva_nil))) (evv_of ev_int))) eva_nil)))))))
    (svs_one (sv_ret (ev_callTy call_tupleA cg_tuple rfl G.m_tuple PySem.Pv.boot_tuple (eva_cons (evv_var (i := 3) rfl (by first | exact Or.inl rfl | exact Or.inr (Or.inl rfl) | exact Or.inr (Or.inr rfl))) eva_nil))))))
noncomputable def lb_law_made_1 (K : PySem.W.Frag) (c : Ad) : SM :=
    (seqS (asgS (gTupD 2 (gConsD (gN 6) (gConsD (gN 7) gNilD))) (callF 1 (g_law_span K c) (argsCons (rdV 5) argsNil)))
    (seqS (setS 8 (callF 2 (g_law_take K c) (argsCons (rdV 0) (argsCons (toV (cst (.int 6))) argsNil))))
    (exprS (mutM 4 (argsCons (toV (ifE (asB (bin (rdV 8) (toV (cst (.int 0))) oEq)) (rdZ 6) (ifE (asB (bin (rdV 8) (toV (cst (.int 1))) oEq)) (bin (rdV 7) (toV (cst (.int 1))) oSub) (bin (rdV 6) (toV (callF 2 (g_law_take K c) (argsCons (rdV 0) (argsCons (toV (bin (rdV 7) (rdV 6) oSub)) argsNil)))) (oAdd false))))) argsNil) oAppend))))
noncomputable def bd_law_made (K : PySem.W.Frag) (c : Ad) : SM :=
    (seqS (asgS (gTupD 3 (gConsD (gN 1) (gConsD (gN 2) (gConsD (gN 3) gNilD)))) (callF 2 (g_law_pick K c) (argsCons (rdV 0) (argsCons (toV (callF 0 (g_law_codes K c) argsNil)) argsNil))))
    (seqS (setS 4 (mkLst true argsNil))
    (seqS (forS (itS (rdZ 3)) (gN 5) (lb_law_made_1 K c))
    (retS (mkTup (argsCons (toV (bin (toV (mkTup (argsCons (toV (rdZ 2)) argsNil))) (toV (callN (argsCons (rdV 4) argsNil) oTuple)) (oAdd false))) (argsCons (toV (callF 3 (g_law_cells_of K c) (argsCons (rdV 1) (argsCons (rdV 3) (argsCons (rdV 4) argsNil))))) argsNil)))))))
noncomputable def g_law_made (K : PySem.W.Frag) (c : Ad) : DF := runF 1 9 [0] (bd_law_made K c)
theorem ok_law_made (G : Gs P w K mg base T c) : DefOk P w K T mg base 4 c.f_law_made c.d_law_made ["_law_draw"] (g_law_made K c) := def_ok (N := ["_law_draw", "_law_code", "_law_word", "_law_signs", "_law_parts", "_law_sign", "_law_low", "_law_end", "_law_edge"]) G.F_law_made sc_law_made (by decide) fun cdv A outer s H E hr =>
    (svs_cons (sv_asg (ev_call (ps := ["_law_draw", "_law_some"]) ((ok_law_pick G).mono (by decide)) hr rfl G.g_law_pick G.k_law_pick G.b_law_pick (eva_cons (evv_var (i := 0) rfl (by first | exact Or.inl rfl | exact Or.inr (Or.inl rfl) | exact Or.inr (Or.inr rfl))) (eva_cons (evv_of (ev_call0 ((ok_law_codes G).mono (by decide)) hr rfl G.g_law_codes G.k_law_codes G.b_law_codes)) eva_nil))) (gv_tup rfl (gvs_cons (gv_name (i := 1) sc_law_made.nd rfl (by first | exact Or.inl rfl | exact Or.inr rfl) (by first | exact Or.inl rfl | exact Or.inr rfl)) (gvs_cons (gv_name (i := 2) sc_law_made.nd rfl (by first | exact Or.inl rfl | exact Or.inr rfl) (by first | exact Or.inl rfl | exact Or.inr rfl)) (gvs_cons (gv_name (i := 3) sc_law_made.nd rfl (by first | exact Or.inl rfl | exact Or.inr rfl) (by first | exact Or.inl rfl | exact Or.inr rfl)) gvs_nil)))))
    (svs_cons (sv_set (i := 4) sc_law_made.nd rfl (by first | exact Or.inl rfl | exact Or.inr rfl) (ev_lst (own := true) eva_nil))
    (svs_cons (sv_for (passes_of rfl) rfl (evi_str (ev_var (i := 3) rfl (by first | exact Or.inl rfl | exact Or.inr (Or.inl rfl) | exact Or.inr (Or.inr rfl)))) (gv_name (i := 5) sc_law_made.nd rfl (by first | exact Or.inl rfl | exact Or.inr rfl) (by first | exact Or.inl rfl | exact Or.inr rfl)) (svs_cons (sv_asg (ev_call (ps := ["_law_sign"]) ((ok_law_span G).mono (by decide)) hr rfl G.g_law_span G.k_law_span G.b_law_span (eva_cons (evv_var (i := 5) rfl (by first | exact Or.inl rfl | exact Or.inr (Or.inl rfl) | exact Or.inr (Or.inr rfl))) eva_nil)) (gv_tup rfl (gvs_cons (gv_name (i := 6) sc_law_made.nd rfl (by first | exact Or.inl rfl | exact Or.inr rfl) (by first | exact Or.inl rfl | exact Or.inr rfl)) (gvs_cons (gv_name (i := 7) sc_law_made.nd rfl (by first | exact Or.inl rfl | exact Or.inr rfl) (by first | exact Or.inl rfl | exact Or.inr rfl)) gvs_nil))))
    (svs_cons (sv_set (i := 8) sc_law_made.nd rfl (by first | exact Or.inl rfl | exact Or.inr rfl) (ev_call (ps := ["_law_draw", "_law_many_here"]) ((ok_law_take G).mono (by decide)) hr rfl G.g_law_take G.k_law_take G.b_law_take (eva_cons (evv_var (i := 0) rfl (by first | exact Or.inl rfl | exact Or.inr (Or.inl rfl) | exact Or.inr (Or.inr rfl))) (eva_cons (evv_of ev_int) eva_nil))))
    (svs_one (sv_expr (ev_mut (i := 4) PySem.F.slot_list_append PySem.F.type_list_append mt_append mg_append rfl (by first | exact Or.inl rfl | exact Or.inr (Or.inl rfl) | exact Or.inr (Or.inr rfl)) (eva_cons (evv_of (ev_if (evt_cmp (op_eqD (u64 hr)) opg_eq (evv_var (i := 8) rfl (by first | exact Or.inl rfl | exact Or.inr (Or.inl rfl) | exact Or.inr (Or.inr rfl))) (evv_of ev_int)) (ev_var (i := 6) rfl (by first | exact Or.inl rfl | exact Or.inr (Or.inl rfl) | exact Or.inr (Or.inr rfl))) (ev_if (evt_cmp (op_eqD (u64 hr)) opg_eq (evv_var (i := 8) rfl (by first | exact Or.inl rfl | exact Or.inr (Or.inl rfl) | exact Or.inr (Or.inr rfl))) (evv_of ev_int)) (ev_op op_sub opg_sub (evv_var (i := 7) rfl (by first | exact Or.inl rfl | exact Or.inr (Or.inl rfl) | exact Or.inr (Or.inr rfl))) (evv_of ev_int)) (ev_op op_addA (opg_addA (own := false)) (evv_var (i := 6) rfl (by first | exact Or.inl rfl | exact Or.inr (Or.inl rfl) | exact Or.inr (Or.inr rfl))) (evv_of (ev_call (ps := ["_law_draw", "_law_many_here"]) ((ok_law_take G).mono (by decide)) hr rfl G.g_law_take G.k_law_take G.b_law_take (eva_cons (evv_var (i := 0) rfl (by first | exact Or.inl rfl | exact Or.inr (Or.inl rfl) | exact Or.inr (Or.inr rfl))) (eva_cons (evv_of (ev_op op_sub opg_sub (evv_var (i := 7) rfl (by first | exact Or.inl rfl | exact Or.inr (Or.inl rfl) | exact Or.inr (Or.inr rfl))) (evv_var (i := 6) rfl (by first | exact Or.inl rfl | exact Or.inr (Or.inl rfl) | exact Or.inr (Or.inr rfl))))) eva_nil)))))))) eva_nil)))))))
    (svs_one (sv_ret (ev_tup (eva_cons (evv_of (ev_op op_addA (opg_addA (own := false)) (evv_of (ev_tup (eva_cons (evv_of (ev_var (i := 2) rfl (by first | exact Or.inl rfl | exact Or.inr (Or.inl rfl) | exact Or.inr (Or.inr rfl)))) eva_nil))) (evv_of (ev_callTy call_tupleA cg_tuple rfl G.m_tuple PySem.Pv.boot_tuple (eva_cons (evv_var (i := 4) rfl (by first | exact Or.inl rfl | exact Or.inr (Or.inl rfl) | exact Or.inr (Or.inr rfl))) eva_nil))))) (eva_cons (evv_of (ev_call (ps := ["_law_code", "_law_signs", "_law_parts"]) ((ok_law_cells_of G).mono (by decide)) hr rfl G.g_law_cells_of G.k_law_cells_of G.b_law_cells_of (eva_cons (evv_var (i := 1) rfl (by first | exact Or.inl rfl | exact Or.inr (Or.inl rfl) | exact Or.inr (Or.inr rfl))) (eva_cons (evv_var (i := 3) rfl (by first | exact Or.inl rfl | exact Or.inr (Or.inl rfl) | exact Or.inr (Or.inr rfl))) (eva_cons (evv_var (i := 4) rfl (by first | exact Or.inl rfl | exact Or.inr (Or.inl rfl) | exact Or.inr (Or.inr rfl))) eva_nil))))) eva_nil))))))))
noncomputable def lb_law_sense_1 (K : PySem.W.Frag) (c : Ad) : SM :=
    (seqS (setS 8 (bin (rdV 0) (rdV 6) oIx))
    (seqS (ifS (asB (bin (rdV 7) (toV (cst (.str "D"))) oEq)) (seqS (parS [8, 6] (osCons (bin (toV (bin (toV (bin (rdV 0) (rdV 6) oIx)) (toV (cst (.int 64))) (oMulA false))) (toV (bin (rdV 0) (toV (bin (rdV 6) (toV (cst (.int 1))) (oAdd false))) oIx)) (oAdd false)) (osCons (bin (rdV 6) (toV (cst (.int 1))) (oAdd false)) osNil)))
    (setS 8 (ifE (asB (bin (rdV 8) (toV (cst (.int 2047))) oGt)) (bin (rdV 8) (toV (cst (.int 4096))) oSub) (rdZ 8)))) (ifS (asB (bin (rdV 7) (toV (cst (.str "d"))) oEq)) (setS 8 (ifE (asB (bin (rdV 8) (toV (cst (.int 31))) oGt)) (bin (rdV 8) (toV (cst (.int 64))) oSub) (rdZ 8))) (ifS (asB (bin (rdV 7) (toV (cst (.str "L"))) oEq)) (setS 8 (ifE (asB (bin (rdV 8) (toV (cst (.int 0))) oEq)) (cst (.int 64)) (rdZ 8))) skipS)))
    (seqS (asgS (gTupD 2 (gConsD (gN 9) (gConsD (gN 10) gNilD))) (callF 1 (g_law_span K c) (argsCons (rdV 7) argsNil)))
    (seqS (ifS (notT (asB (chain (rdV 9) (rdV 8) (rdV 10) oLe oLt))) (retS (cst .none)) skipS)
    (seqS (exprS (mutM 5 (argsCons (toV (rdZ 8)) argsNil) oAppend))
    (setS 6 (bin (rdV 6) (toV (cst (.int 1))) (oAdd false))))))))
noncomputable def lb_law_sense_2 (K : PySem.W.Frag) (c : Ad) : SM :=
    (ifS (andT (asB (bin (rdV 2) (toV (bin (rdV 0) (rdV 1) oIx)) oEq)) (asB (bin (toV (bin (rdV 1) (toV (callF 1 (g_law_many K c) (argsCons (rdV 4) argsNil))) (oAdd false))) (toV (callN (argsCons (rdV 0) argsNil) oLen)) oLe))) (seqS (parS [5, 6] (osCons (mkLst true argsNil) (osCons (bin (rdV 1) (toV (cst (.int 1))) (oAdd false)) osNil)))
    (seqS (forS (itS (rdZ 4)) (gN 7) (lb_law_sense_1 K c))
    (retS (mkTup (argsCons (toV (bin (toV (mkTup (argsCons (toV (rdZ 3)) argsNil))) (toV (callN (argsCons (rdV 5) argsNil) oTuple)) (oAdd false))) (argsCons (toV (callF 1 (g_law_many K c) (argsCons (rdV 4) argsNil))) argsNil)))))) skipS)
noncomputable def bd_law_sense (K : PySem.W.Frag) (c : Ad) : SM :=
    (seqS (forS (itE (callF 0 (g_law_codes K c) argsNil)) (gTupD 3 (gConsD (gN 2) (gConsD (gN 3) (gConsD (gN 4) gNilD)))) (lb_law_sense_2 K c))
    (retS (cst .none)))
noncomputable def g_law_sense (K : PySem.W.Frag) (c : Ad) : DF := runF 2 11 [0, 1] (bd_law_sense K c)
theorem ok_law_sense (G : Gs P w K mg base T c) : DefOk P w K T mg base 2 c.f_law_sense c.d_law_sense ["_law_cells", "_law_at"] (g_law_sense K c) := def_ok (N := ["_law_cells", "_law_at", "_law_code", "_law_word", "_law_signs", "_law_parts", "_law_place", "_law_sign", "_law_part", "_law_low", "_law_end"]) G.F_law_sense sc_law_sense (by decide) fun cdv A outer s H E hr =>
    (svs_cons (sv_for (passes_of rfl) rfl (evi_seq (ev_call0 ((ok_law_codes G).mono (by decide)) hr rfl G.g_law_codes G.k_law_codes G.b_law_codes)) (gv_tup rfl (gvs_cons (gv_name (i := 2) sc_law_sense.nd rfl (by first | exact Or.inl rfl | exact Or.inr rfl) (by first | exact Or.inl rfl | exact Or.inr rfl)) (gvs_cons (gv_name (i := 3) sc_law_sense.nd rfl (by first | exact Or.inl rfl | exact Or.inr rfl) (by first | exact Or.inl rfl | exact Or.inr rfl)) (gvs_cons (gv_name (i := 4) sc_law_sense.nd rfl (by first | exact Or.inl rfl | exact Or.inr rfl) (by first | exact Or.inl rfl | exact Or.inr rfl)) gvs_nil)))) (svs_one (sv_if (evt_w (evw_and (evt_cmp (op_eqD (u64 hr)) opg_eq (evv_var (i := 2) rfl (by first | exact Or.inl rfl | exact Or.inr (Or.inl rfl) | exact Or.inr (Or.inr rfl))) (evv_of (ev_ix ix_any opg_ix (evv_var (i := 0) rfl (by first | exact Or.inl rfl | exact Or.inr (Or.inl rfl) | exact Or.inr (Or.inr rfl))) (evv_var (i := 1) rfl (by first | exact Or.inl rfl | exact Or.inr (Or.inl rfl) | exact Or.inr (Or.inr rfl)))))) (evw_and1 (evt_cmp op_le opg_le (evv_of (ev_op op_addA (opg_addA (own := false)) (evv_var (i := 1) rfl (by first | exact Or.inl rfl | exact Or.inr (Or.inl rfl) | exact Or.inr (Or.inr rfl))) (evv_of (ev_call (ps := ["_law_signs"]) ((ok_law_many G).mono (by decide)) hr rfl G.g_law_many G.k_law_many G.b_law_many (eva_cons (evv_var (i := 4) rfl (by first | exact Or.inl rfl | exact Or.inr (Or.inl rfl) | exact Or.inr (Or.inr rfl))) eva_nil))))) (evv_of (ev_callB call_lenA cg_len rfl G.m_len PySem.boot_len (eva_cons (evv_var (i := 0) rfl (by first | exact Or.inl rfl | exact Or.inr (Or.inl rfl) | exact Or.inr (Or.inr rfl))) eva_nil))))))) (svs_cons (sv_par rfl sc_law_sense.nd (.cons (i := 5) rfl (by first | exact Or.inl rfl | exact Or.inr rfl) (by first | exact Or.inl rfl | exact Or.inr rfl) (.cons (i := 6) rfl (by first | exact Or.inl rfl | exact Or.inr rfl) (by first | exact Or.inl rfl | exact Or.inr rfl) .nil)) (evl_cons (ev_lst (own := true) eva_nil) (evl_cons (ev_op op_addA (opg_addA (own := false)) (evv_var (i := 1) rfl (by first | exact Or.inl rfl | exact Or.inr (Or.inl rfl) | exact Or.inr (Or.inr rfl))) (evv_of ev_int)) evl_nil)))
    (svs_cons (sv_for (passes_of rfl) rfl (evi_str (ev_var (i := 4) rfl (by first | exact Or.inl rfl | exact Or.inr (Or.inl rfl) | exact Or.inr (Or.inr rfl)))) (gv_name (i := 7) sc_law_sense.nd rfl (by first | exact Or.inl rfl | exact Or.inr rfl) (by first | exact Or.inl rfl | exact Or.inr rfl)) (svs_cons (sv_set (i := 8) sc_law_sense.nd rfl (by first | exact Or.inl rfl | exact Or.inr rfl) (ev_ix ix_any opg_ix (evv_var (i := 0) rfl (by first | exact Or.inl rfl | exact Or.inr (Or.inl rfl) | exact Or.inr (Or.inr rfl))) (evv_var (i := 6) rfl (by first | exact Or.inl rfl | exact Or.inr (Or.inl rfl) | exact Or.inr (Or.inr rfl)))))
    (svs_cons (sv_if (evt_cmp (op_eqD (u64 hr)) opg_eq (evv_var (i := 7) rfl (by first | exact Or.inl rfl | exact Or.inr (Or.inl rfl) | exact Or.inr (Or.inr rfl))) (evv_of ev_str)) (svs_cons (sv_par rfl sc_law_sense.nd (.cons (i := 8) rfl (by first | exact Or.inl rfl | exact Or.inr rfl) (by first | exact Or.inl rfl | exact Or.inr rfl) (.cons (i := 6) rfl (by first | exact Or.inl rfl | exact Or.inr rfl) (by first | exact Or.inl rfl | exact Or.inr rfl) .nil)) (evl_cons (ev_op op_addA (opg_addA (own := false)) (evv_of (ev_op op_mulA (opg_mulA (own := false)) (evv_of (ev_ix ix_any opg_ix (evv_var (i := 0) rfl (by first | exact Or.inl rfl | exact Or.inr (Or.inl rfl) | exact Or.inr (Or.inr rfl))) (evv_var (i := 6) rfl (by first | exact Or.inl rfl | exact Or.inr (Or.inl rfl) | exact Or.inr (Or.inr rfl))))) (evv_of ev_int))) (evv_of (ev_ix ix_any opg_ix (evv_var (i := 0) rfl (by first | exact Or.inl rfl | exact Or.inr (Or.inl rfl) | exact Or.inr (Or.inr rfl))) (evv_of (ev_op op_addA (opg_addA (own := false)) (evv_var (i := 6) rfl (by first | exact Or.inl rfl | exact Or.inr (Or.inl rfl) | exact Or.inr (Or.inr rfl))) (evv_of ev_int)))))) (evl_cons (ev_op op_addA (opg_addA (own := false)) (evv_var (i := 6) rfl (by first | exact Or.inl rfl | exact Or.inr (Or.inl rfl) | exact Or.inr (Or.inr rfl))) (evv_of ev_int)) evl_nil)))
    (svs_one (sv_set (i := 8) sc_law_sense.nd rfl (by first | exact Or.inl rfl | exact Or.inr rfl) (ev_if (evt_cmp op_gt opg_gt (evv_var (i := 8) rfl (by first | exact Or.inl rfl | exact Or.inr (Or.inl rfl) | exact Or.inr (Or.inr rfl))) (evv_of ev_int)) (ev_op op_sub opg_sub (evv_var (i := 8) rfl (by first | exact Or.inl rfl | exact Or.inr (Or.inl rfl) | exact Or.inr (Or.inr rfl))) (evv_of ev_int)) (ev_var (i := 8) rfl (by first | exact Or.inl rfl | exact Or.inr (Or.inl rfl) | exact Or.inr (Or.inr rfl))))))) (svs_one (sv_if (evt_cmp (op_eqD (u64 hr)) opg_eq (evv_var (i := 7) rfl (by first | exact Or.inl rfl | exact Or.inr (Or.inl rfl) | exact Or.inr (Or.inr rfl))) (evv_of ev_str)) (svs_one (sv_set (i := 8) sc_law_sense.nd rfl (by first | exact Or.inl rfl | exact Or.inr rfl) (ev_if (evt_cmp op_gt opg_gt (evv_var (i := 8) rfl (by first | exact Or.inl rfl | exact Or.inr (Or.inl rfl) | exact Or.inr (Or.inr rfl))) (evv_of ev_int)) (ev_op op_sub opg_sub (evv_var (i := 8) rfl (by first | exact Or.inl rfl | exact Or.inr (Or.inl rfl) | exact Or.inr (Or.inr rfl))) (evv_of ev_int)) (ev_var (i := 8) rfl (by first | exact Or.inl rfl | exact Or.inr (Or.inl rfl) | exact Or.inr (Or.inr rfl)))))) (svs_one (sv_if (evt_cmp (op_eqD (u64 hr)) opg_eq (evv_var (i := 7) rfl (by first | exact Or.inl rfl | exact Or.inr (Or.inl rfl) | exact Or.inr (Or.inr rfl))) (evv_of ev_str)) (svs_one (sv_set (i := 8) sc_law_sense.nd rfl (by first | exact Or.inl rfl | exact Or.inr rfl) (ev_if (evt_cmp (op_eqD (u64 hr)) opg_eq (evv_var (i := 8) rfl (by first | exact Or.inl rfl | exact Or.inr (Or.inl rfl) | exact Or.inr (Or.inr rfl))) (evv_of ev_int)) ev_int (ev_var (i := 8) rfl (by first | exact Or.inl rfl | exact Or.inr (Or.inl rfl) | exact Or.inr (Or.inr rfl)))))) svs_nil)))))
    (svs_cons (sv_asg (ev_call (ps := ["_law_sign"]) ((ok_law_span G).mono (by decide)) hr rfl G.g_law_span G.k_law_span G.b_law_span (eva_cons (evv_var (i := 7) rfl (by first | exact Or.inl rfl | exact Or.inr (Or.inl rfl) | exact Or.inr (Or.inr rfl))) eva_nil)) (gv_tup rfl (gvs_cons (gv_name (i := 9) sc_law_sense.nd rfl (by first | exact Or.inl rfl | exact Or.inr rfl) (by first | exact Or.inl rfl | exact Or.inr rfl)) (gvs_cons (gv_name (i := 10) sc_law_sense.nd rfl (by first | exact Or.inl rfl | exact Or.inr rfl) (by first | exact Or.inl rfl | exact Or.inr rfl)) gvs_nil))))
    (svs_cons (sv_if (evt_not (evt_chain op_le opg_le op_lt opg_lt (evv_var (i := 9) rfl (by first | exact Or.inl rfl | exact Or.inr (Or.inl rfl) | exact Or.inr (Or.inr rfl))) (evv_var (i := 8) rfl (by first | exact Or.inl rfl | exact Or.inr (Or.inl rfl) | exact Or.inr (Or.inr rfl))) (evv_var (i := 10) rfl (by first | exact Or.inl rfl | exact Or.inr (Or.inl rfl) | exact Or.inr (Or.inr rfl))))) (svs_one (sv_ret ev_non)) svs_nil)
    (svs_cons (sv_expr (ev_mut (i := 5) PySem.F.slot_list_append PySem.F.type_list_append mt_append mg_append rfl (by first | exact Or.inl rfl | exact Or.inr (Or.inl rfl) | exact Or.inr (Or.inr rfl)) (eva_cons (evv_of (ev_var (i := 8) rfl (by first | exact Or.inl rfl | exact Or.inr (Or.inl rfl) | exact Or.inr (Or.inr rfl)))) eva_nil)))
    (svs_one (sv_set (i := 6) sc_law_sense.nd rfl (by first | exact Or.inl rfl | exact Or.inr rfl) (ev_op op_addA (opg_addA (own := false)) (evv_var (i := 6) rfl (by first | exact Or.inl rfl | exact Or.inr (Or.inl rfl) | exact Or.inr (Or.inr rfl))) (evv_of ev_int))))))))))
    (svs_one (sv_ret (ev_tup (eva_cons (evv_of (ev_op op_addA (opg_addA (own := false)) (evv_of (ev_tup (eva_cons (evv_of (ev_var (i := 3) rfl (by first | exact Or.inl rfl | exact Or.inr (Or.inl rfl) | exact Or.inr (Or.inr rfl)))) eva_nil))) (evv_of (ev_callTy call_tupleA cg_tuple rfl G.m_tuple PySem.Pv.boot_tuple (eva_cons (evv_var (i := 5) rfl (by first | exact Or.inl rfl | exact Or.inr (Or.inl rfl) | exact Or.inr (Or.inr rfl))) eva_nil))))) (eva_cons (evv_of (ev_call (ps := ["_law_signs"]) ((ok_law_many G).mono (by decide)) hr rfl G.g_law_many G.k_law_many G.b_law_many (eva_cons (evv_var (i := 4) rfl (by first | exact Or.inl rfl | exact Or.inr (Or.inl rfl) | exact Or.inr (Or.inr rfl))) eva_nil))) eva_nil))))))) svs_nil)))
    (svs_one (sv_ret ev_non)))
noncomputable def wt_law_walked_1 (K : PySem.W.Frag) (c : Ad) : M Bool :=
    (asB (bin (rdV 2) (toV (callN (argsCons (rdV 0) argsNil) oLen)) oLt))
noncomputable def lb_law_walked_1 (K : PySem.W.Frag) (c : Ad) : SM :=
    (seqS (setS 3 (callF 2 (g_law_sense K c) (argsCons (rdV 0) (argsCons (rdV 2) argsNil))))
    (seqS (ifS (asB (bin (rdV 3) (toV (cst .none)) oIsN)) (retS (mkTup (argsCons (toV (rdZ 1)) (argsCons (toV (rdZ 2)) argsNil)))) skipS)
    (seqS (exprS (mutM 1 (argsCons (toV (bin (toV (mkTup (argsCons (toV (rdZ 2)) argsNil))) (rdV 3) (oAdd false))) argsNil) oAppend))
    (setS 2 (bin (rdV 2) (toV (bin (rdV 3) (toV (cst (.int 1))) oIx)) (oAdd false))))))
noncomputable def bd_law_walked (K : PySem.W.Frag) (c : Ad) : SM :=
    (seqS (parS [1, 2] (osCons (mkLst true argsNil) (osCons (cst (.int 0)) osNil)))
    (seqS (whileS (wt_law_walked_1 K c) (lb_law_walked_1 K c))
    (retS (mkTup (argsCons (toV (rdZ 1)) (argsCons (toV (cst .none)) argsNil))))))
noncomputable def g_law_walked (K : PySem.W.Frag) (c : Ad) : DF := runF 1 4 [0] (bd_law_walked K c)
theorem ok_law_walked (G : Gs P w K mg base T c) : DefOk P w K T mg base 3 c.f_law_walked c.d_law_walked ["_law_cells"] (g_law_walked K c) := def_ok (N := ["_law_cells", "_law_found", "_law_at", "_law_told"]) G.F_law_walked sc_law_walked (by decide) fun cdv A outer s H E hr =>
    (svs_cons (sv_par rfl sc_law_walked.nd (.cons (i := 1) rfl (by first | exact Or.inl rfl | exact Or.inr rfl) (by first | exact Or.inl rfl | exact Or.inr rfl) (.cons (i := 2) rfl (by first | exact Or.inl rfl | exact Or.inr rfl) (by first | exact Or.inl rfl | exact Or.inr rfl) .nil)) (evl_cons (ev_lst (own := true) eva_nil) (evl_cons ev_int evl_nil)))
    (svs_cons (sv_while (passes_of rfl) (evt_cmp op_lt opg_lt (evv_var (i := 2) rfl (by first | exact Or.inl rfl | exact Or.inr (Or.inl rfl) | exact Or.inr (Or.inr rfl))) (evv_of (ev_callB call_lenA cg_len rfl G.m_len PySem.boot_len (eva_cons (evv_var (i := 0) rfl (by first | exact Or.inl rfl | exact Or.inr (Or.inl rfl) | exact Or.inr (Or.inr rfl))) eva_nil)))) (svs_cons (sv_set (i := 3) sc_law_walked.nd rfl (by first | exact Or.inl rfl | exact Or.inr rfl) (ev_call (ps := ["_law_cells", "_law_at"]) ((ok_law_sense G).mono (by decide)) hr rfl G.g_law_sense G.k_law_sense G.b_law_sense (eva_cons (evv_var (i := 0) rfl (by first | exact Or.inl rfl | exact Or.inr (Or.inl rfl) | exact Or.inr (Or.inr rfl))) (eva_cons (evv_var (i := 2) rfl (by first | exact Or.inl rfl | exact Or.inr (Or.inl rfl) | exact Or.inr (Or.inr rfl))) eva_nil))))
    (svs_cons (sv_if (evt_cmp op_isN opg_isN (evv_var (i := 3) rfl (by first | exact Or.inl rfl | exact Or.inr (Or.inl rfl) | exact Or.inr (Or.inr rfl))) (evv_of ev_non)) (svs_one (sv_ret (ev_tup (eva_cons (evv_of (ev_var (i := 1) rfl (by first | exact Or.inl rfl | exact Or.inr (Or.inl rfl) | exact Or.inr (Or.inr rfl)))) (eva_cons (evv_of (ev_var (i := 2) rfl (by first | exact Or.inl rfl | exact Or.inr (Or.inl rfl) | exact Or.inr (Or.inr rfl)))) eva_nil))))) svs_nil)
    (svs_cons (sv_expr (ev_mut (i := 1) PySem.F.slot_list_append PySem.F.type_list_append mt_append mg_append rfl (by first | exact Or.inl rfl | exact Or.inr (Or.inl rfl) | exact Or.inr (Or.inr rfl)) (eva_cons (evv_of (ev_op op_addA (opg_addA (own := false)) (evv_of (ev_tup (eva_cons (evv_of (ev_var (i := 2) rfl (by first | exact Or.inl rfl | exact Or.inr (Or.inl rfl) | exact Or.inr (Or.inr rfl)))) eva_nil))) (evv_var (i := 3) rfl (by first | exact Or.inl rfl | exact Or.inr (Or.inl rfl) | exact Or.inr (Or.inr rfl))))) eva_nil)))
    (svs_one (sv_set (i := 2) sc_law_walked.nd rfl (by first | exact Or.inl rfl | exact Or.inr rfl) (ev_op op_addA (opg_addA (own := false)) (evv_var (i := 2) rfl (by first | exact Or.inl rfl | exact Or.inr (Or.inl rfl) | exact Or.inr (Or.inr rfl))) (evv_of (ev_ix ix_any opg_ix (evv_var (i := 3) rfl (by first | exact Or.inl rfl | exact Or.inr (Or.inl rfl) | exact Or.inr (Or.inr rfl))) (evv_of ev_int))))))))))
    (svs_one (sv_ret (ev_tup (eva_cons (evv_of (ev_var (i := 1) rfl (by first | exact Or.inl rfl | exact Or.inr (Or.inl rfl) | exact Or.inr (Or.inr rfl)))) (eva_cons (evv_of ev_non) eva_nil)))))))
theorem lam_law_is_walk (G : Gs P w K mg base T c) {A : Around} {outer : List Env} {s : Shared} {H : Hp} {E : XK} {k : Nat} {params : Arguments} {body : Expr} {scope : Scope} {p lpos pos : Pos} {fe : M OV}
    (hr : Room (k + 2) (cxOf (L2.CX P w) P w K mg base ["_law_cells", "_law_due", "_law_wrong", "_law_told"] "_law_is_walk" (defScope s_law_is_walk) c.f_law_is_walk (.ref c.cl_law_is_walk) A outer s H E).A) (L : LamS (defScope s_law_is_walk) scope) (hdef : defaultsOf params (cxOf (L2.CX P w) P w K mg base ["_law_cells", "_law_due", "_law_wrong", "_law_told"] "_law_is_walk" (defScope s_law_is_walk) c.f_law_is_walk (.ref c.cl_law_is_walk) A outer s H E).env = ([], []))
    (hbind : ∀ (q : Str) (cl : List (Str × Addr)) (pm cv ctv : Value), bindArgs (PySem.W.kla_fn "<lambda>" q params body scope cl pm cv ctv) ⟨[], []⟩ = pure [])
    (hbody : ∀ (A' : Around) (outer' : List Env) (s' : Shared) (H' : Hp) (E' : XK) (f c' : Addr), Room k (A'.deeper (lamEnv (cxOf (L2.CX P w) P w K mg base ["_law_cells", "_law_due", "_law_wrong", "_law_told"] "_law_is_walk" (defScope s_law_is_walk) c.f_law_is_walk (.ref c.cl_law_is_walk) A outer s H E) scope s'.heap.objs.size f c')) → EV (lamCx (cxOf (L2.CX P w) P w K mg base ["_law_cells", "_law_due", "_law_wrong", "_law_told"] "_law_is_walk" (defScope s_law_is_walk) c.f_law_is_walk (.ref c.cl_law_is_walk) A outer s H E) A' outer' s' H' E' scope f c') T body fe) :
    EV (cxOf (L2.CX P w) P w K mg base ["_law_cells", "_law_due", "_law_wrong", "_law_told"] "_law_is_walk" (defScope s_law_is_walk) c.f_law_is_walk (.ref c.cl_law_is_walk) A outer s H E) T (.Call (.Name "_law_caught" p) [.Lambda params body scope lpos] [] pos) (caughtM K c.LinkError true fe) := by
  obtain ⟨oc, od, kV, doc, pm, an, cdv, ct, osl, e, lk, hcd⟩ := G.F_law_caught.ex
  have hb := G.b_law_caught
  rw [e] at hb lk
  exact ev_lam (Ng := ["_law_act", "_law_found", "raised"]) rfl G.g_law_caught G.k_law_caught lk hcd hb sc_law_caught rfl (Or.inl rfl) (keep2_gives rfl sc_law_caught.nd rfl G.g_LinkError rfl rfl rfl rfl rfl rfl rfl rfl (fun _ _ => rfl) (fun _ _ => rfl)) G.tb_law_is_walk rfl G.hm_law_is_walk G.hu_law_is_walk hr L hdef hbind hbody
noncomputable def bd_law_is_walk (K : PySem.W.Frag) (c : Ad) : SM :=
    (seqS (asgS (gTupD 2 (gConsD (gN 1) (gConsD (gN 2) gNilD))) (callF 1 (g_law_walked K c) (argsCons (rdV 0) argsNil)))
    (seqS (setS 3 (caughtM K c.LinkError true (callF 1 (g_parted K c) (argsCons (rdV 0) argsNil))))
    (retS (ifE (asB (bin (rdV 2) (toV (cst .none)) oIsN)) (bin (rdV 3) (toV (callN (argsCons (rdV 1) argsNil) oTuple)) oEq) (andV (isiY K [c.BadCells, c.BadCode] (.ref c.BadCode) (rdV 3)) (bin (toV (attrM [c.BadCode] "at" (rdV 3))) (rdV 2) oEq))))))
noncomputable def g_law_is_walk (K : PySem.W.Frag) (c : Ad) : DF := runF 1 4 [0] (bd_law_is_walk K c)
theorem ok_law_is_walk (G : Gs P w K mg base T c) : DefOk P w K T mg base 6 c.f_law_is_walk c.d_law_is_walk ["_law_cells"] (g_law_is_walk K c) := def_okC (N := ["_law_cells", "_law_due", "_law_wrong", "_law_told"]) G.F_law_is_walk sc_law_is_walk (by decide) fun A outer s H E hr =>
    (svs_cons (sv_asg (ev_call (ps := ["_law_cells"]) ((ok_law_walked G).mono (by decide)) hr rfl G.g_law_walked G.k_law_walked G.b_law_walked (eva_cons (evv_var (i := 0) rfl (by first | exact Or.inl rfl | exact Or.inr (Or.inl rfl) | exact Or.inr (Or.inr rfl))) eva_nil)) (gv_tup rfl (gvs_cons (gv_name (i := 1) sc_law_is_walk.nd rfl (by first | exact Or.inl rfl | exact Or.inr rfl) (by first | exact Or.inl rfl | exact Or.inr rfl)) (gvs_cons (gv_name (i := 2) sc_law_is_walk.nd rfl (by first | exact Or.inl rfl | exact Or.inr rfl) (by first | exact Or.inl rfl | exact Or.inr rfl)) gvs_nil))))
    (svs_cons (sv_set (i := 3) sc_law_is_walk.nd rfl (by first | exact Or.inl rfl | exact Or.inr rfl) (lam_law_is_walk (k := 3) G (hr.mono (by decide)) (lamS_by rfl) rfl (fun _ _ _ _ _ => rfl) (fun _ _ _ _ _ _ _ hr' => (ev_call (ps := ["cells"]) ((ok_parted G).mono (by decide)) hr' rfl G.g_parted G.k_parted G.b_parted (eva_cons (evv_var (i := 0) rfl (by first | exact Or.inl rfl | exact Or.inr (Or.inl rfl) | exact Or.inr (Or.inr rfl))) eva_nil)))))
    (svs_one (sv_ret (ev_if (evt_cmp op_isN opg_isN (evv_var (i := 2) rfl (by first | exact Or.inl rfl | exact Or.inr (Or.inl rfl) | exact Or.inr (Or.inr rfl))) (evv_of ev_non)) (ev_cmp (op_eqD (u64 hr)) opg_eq (evv_var (i := 3) rfl (by first | exact Or.inl rfl | exact Or.inr (Or.inl rfl) | exact Or.inr (Or.inr rfl))) (evv_of (ev_callTy call_tupleA cg_tuple rfl G.m_tuple PySem.Pv.boot_tuple (eva_cons (evv_var (i := 1) rfl (by first | exact Or.inl rfl | exact Or.inr (Or.inl rfl) | exact Or.inr (Or.inr rfl))) eva_nil)))) (ev_and (ev_isiY (Ds := [c.BadCells, c.BadCode]) G.excs rfl G.m_isinstance (evv_var (i := 3) rfl (by first | exact Or.inl rfl | exact Or.inr (Or.inl rfl) | exact Or.inr (Or.inr rfl))) (pe_glob (v := .ref c.BadCode) rfl G.g_BadCode rfl) (.own _)) (ev_one (ev_cmp (op_eqD (u64 hr)) opg_eq (evv_of (ev_xattr (Gs.xa_at G) (evv_var (i := 3) rfl (by first | exact Or.inl rfl | exact Or.inr (Or.inl rfl) | exact Or.inr (Or.inr rfl))))) (evv_var (i := 2) rfl (by first | exact Or.inl rfl | exact Or.inr (Or.inl rfl) | exact Or.inr (Or.inr rfl)))))))))))
theorem lam_law (G : Gs P w K mg base T c) {A : Around} {outer : List Env} {s : Shared} {H : Hp} {E : XK} {k : Nat} {params : Arguments} {body : Expr} {scope : Scope} {p lpos pos : Pos} {fe : M OV}
    (hr : Room (k + 2) (cxOf (L2.CX P w) P w K mg base ["_law_script", "_law_draw", "_law_bends", "_law_cells", "_law_turn", "_law_near", "_law_bend", "_law_one", "_law_other", "_law_first", "_law_second", "_law_here", "_law_there", "_law_shared", "_law_told", "_law_start"] "law" (defScope s_law) c.f_law (.ref c.cl_law) A outer s H E).A) (L : LamS (defScope s_law) scope) (hdef : defaultsOf params (cxOf (L2.CX P w) P w K mg base ["_law_script", "_law_draw", "_law_bends", "_law_cells", "_law_turn", "_law_near", "_law_bend", "_law_one", "_law_other", "_law_first", "_law_second", "_law_here", "_law_there", "_law_shared", "_law_told", "_law_start"] "law" (defScope s_law) c.f_law (.ref c.cl_law) A outer s H E).env = ([], []))
    (hbind : ∀ (q : Str) (cl : List (Str × Addr)) (pm cv ctv : Value), bindArgs (PySem.W.kla_fn "<lambda>" q params body scope cl pm cv ctv) ⟨[], []⟩ = pure [])
    (hbody : ∀ (A' : Around) (outer' : List Env) (s' : Shared) (H' : Hp) (E' : XK) (f c' : Addr), Room k (A'.deeper (lamEnv (cxOf (L2.CX P w) P w K mg base ["_law_script", "_law_draw", "_law_bends", "_law_cells", "_law_turn", "_law_near", "_law_bend", "_law_one", "_law_other", "_law_first", "_law_second", "_law_here", "_law_there", "_law_shared", "_law_told", "_law_start"] "law" (defScope s_law) c.f_law (.ref c.cl_law) A outer s H E) scope s'.heap.objs.size f c')) → EV (lamCx (cxOf (L2.CX P w) P w K mg base ["_law_script", "_law_draw", "_law_bends", "_law_cells", "_law_turn", "_law_near", "_law_bend", "_law_one", "_law_other", "_law_first", "_law_second", "_law_here", "_law_there", "_law_shared", "_law_told", "_law_start"] "law" (defScope s_law) c.f_law (.ref c.cl_law) A outer s H E) A' outer' s' H' E' scope f c') T body fe) :
    EV (cxOf (L2.CX P w) P w K mg base ["_law_script", "_law_draw", "_law_bends", "_law_cells", "_law_turn", "_law_near", "_law_bend", "_law_one", "_law_other", "_law_first", "_law_second", "_law_here", "_law_there", "_law_shared", "_law_told", "_law_start"] "law" (defScope s_law) c.f_law (.ref c.cl_law) A outer s H E) T (.Call (.Name "_law_caught" p) [.Lambda params body scope lpos] [] pos) (caughtM K c.LinkError true fe) := by
  obtain ⟨oc, od, kV, doc, pm, an, cdv, ct, osl, e, lk, hcd⟩ := G.F_law_caught.ex
  have hb := G.b_law_caught
  rw [e] at hb lk
  exact ev_lam (Ng := ["_law_act", "_law_found", "raised"]) rfl G.g_law_caught G.k_law_caught lk hcd hb sc_law_caught rfl (Or.inl rfl) (keep2_gives rfl sc_law_caught.nd rfl G.g_LinkError rfl rfl rfl rfl rfl rfl rfl rfl (fun _ _ => rfl) (fun _ _ => rfl)) G.tb_law rfl G.hm_law G.hu_law hr L hdef hbind hbody
noncomputable def lb_law_1 (K : PySem.W.Frag) (c : Ad) : SM :=
    (setS 3 (bin (rdV 3) (toV (callN (argsCons (toV (bin (toV (callF 1 (g_law_made K c) (argsCons (rdV 1) argsNil))) (toV (cst (.int 1))) oIx)) argsNil) (oList false))) (oAdd false)))
noncomputable def lb_law_2 (K : PySem.W.Frag) (c : Ad) : SM :=
    (setL 5 (callF 2 (g_law_take K c) (argsCons (rdV 1) (argsCons (toV (cst (.int 64))) argsNil))) (toV (callF 2 (g_law_take K c) (argsCons (rdV 1) (argsCons (toV (callN (argsCons (rdV 5) argsNil) oLen)) argsNil)))))
noncomputable def ce_law_1 (K : PySem.W.Frag) (c : Ad) : M OV :=
    (bin (rdV 7) (toV (bin (rdV 14) (toV (cst (.int 0))) oIx)) (oAdd false))
noncomputable def ce_law_2 (K : PySem.W.Frag) (c : Ad) : M OV :=
    (bin (rdV 8) (toV (bin (rdV 14) (toV (cst (.int 0))) oIx)) (oAdd false))
noncomputable def ce_law_3 (K : PySem.W.Frag) (c : Ad) : M OV :=
    (rdZ 15)
noncomputable def ci_law_1 (K : PySem.W.Frag) (c : Ad) : M Bool :=
    (asB (bin (rdV 15) (rdV 12) oIn))
noncomputable def lb_law_3 (K : PySem.W.Frag) (c : Ad) : SM :=
    (seqS (setS 5 (ifE (andT (asB (bin (rdV 3) (toV (mkLst false argsNil)) oNe)) (asB (bin (toV (callF 2 (g_law_take K c) (argsCons (rdV 1) (argsCons (toV (cst (.int 2))) argsNil)))) (toV (cst (.int 0))) oEq))) (slA true (rdV 3) noPart (part (toV (bin (toV (cst (.int 1))) (toV (callF 2 (g_law_take K c) (argsCons (rdV 1) (argsCons (toV (callN (argsCons (rdV 3) argsNil) oLen)) argsNil)))) (oAdd false))))) (callN (argsCons (rdV 3) argsNil) (oList true))))
    (seqS (forS (rng1 (argsCons (toV (ifE (asB (bin (rdV 5) (toV (mkLst false argsNil)) oNe)) (rdZ 2) (cst (.int 0)))) argsNil)) (gN 6) (lb_law_2 K c))
    (seqS (parS [7, 8] (osCons (callF 2 (g_law_take K c) (argsCons (rdV 1) (argsCons (toV (bin (toV (callN (argsCons (rdV 5) argsNil) oLen)) (toV (cst (.int 1))) (oAdd false))) argsNil))) (osCons (callF 2 (g_law_take K c) (argsCons (rdV 1) (argsCons (toV (bin (toV (callN (argsCons (rdV 5) argsNil) oLen)) (toV (cst (.int 1))) (oAdd false))) argsNil))) osNil)))
    (seqS (ifS (orT (notT (tstV (toV (callF 1 (g_law_is_walk K c) (argsCons (toV (rdZ 5)) argsNil))))) (notT (tstV (toV (callF 1 (g_law_is_walk K c) (argsCons (toV (slA false (rdV 5) (part (rdV 7)) noPart)) argsNil)))))) (retS (cst (.bool false))) skipS)
    (seqS (setS 9 (caughtM K c.LinkError true (callF 1 (g_parted K c) (argsCons (toV (slA false (rdV 5) (part (rdV 7)) noPart)) argsNil))))
    (seqS (setS 10 (caughtM K c.LinkError true (callF 1 (g_parted K c) (argsCons (toV (slA false (rdV 5) (part (rdV 8)) noPart)) argsNil))))
    (ifS (andT (tstV (toV (isiY K [c.BadCells, c.BadCode] (.type "tuple") (rdV 9)))) (tstV (toV (isiY K [c.BadCells, c.BadCode] (.type "tuple") (rdV 10))))) (seqS (parS [11, 12] (osCons (compE false (itE (rdZ 9)) (gN 14) tYesM (ce_law_1 K c) [14]) (osCons (compE false (itE (rdZ 10)) (gN 14) tYesM (ce_law_2 K c) [14]) osNil)))
    (seqS (setS 13 (compE false (itE (rdZ 11)) (gN 15) (ci_law_1 K c) (ce_law_3 K c) [15]))
    (ifS (andT (asB (bin (rdV 13) (toV (mkLst false argsNil)) oNe)) (asB (bin (toV (slA false (rdV 11) (part (toV (methN "list" (rdV 11) (argsCons (toV (bin (rdV 13) (toV (cst (.int 0))) oIx)) argsNil) oIndex))) noPart)) (toV (slA false (rdV 12) (part (toV (methN "list" (rdV 12) (argsCons (toV (bin (rdV 13) (toV (cst (.int 0))) oIx)) argsNil) oIndex))) noPart)) oNe))) (retS (cst (.bool false))) skipS))) skipS)))))))
noncomputable def bd_law (K : PySem.W.Frag) (c : Ad) : SM :=
    (seqS (setS 1 (callF 1 (g_law_begun K c) (argsCons (rdV 0) argsNil)))
    (seqS (parS [2, 3] (osCons (callF 2 (g_law_take K c) (argsCons (rdV 1) (argsCons (toV (cst (.int 3))) argsNil))) (osCons (mkLst false argsNil) osNil)))
    (seqS (forS (rng1 (argsCons (toV (callF 2 (g_law_take K c) (argsCons (rdV 1) (argsCons (toV (cst (.int 31))) argsNil)))) argsNil)) (gN 4) (lb_law_1 K c))
    (seqS (ifS (orT (notT (tstV (toV (callF 1 (g_law_is_walk K c) (argsCons (rdV 3) argsNil))))) (notT (tstV (toV (callF 1 (g_law_is_walk K c) (argsCons (toV (callN (argsCons (rdV 3) argsNil) oTuple)) argsNil)))))) (retS (cst (.bool false))) skipS)
    (seqS (forS (rng1 (argsCons (toV (bin (toV (cst (.int 4))) (toV (callN (argsCons (toV (callN (argsCons (rdV 0) argsNil) oLenS)) (argsCons (toV (cst (.int 20))) argsNil)) oMin2)) (oAdd false))) argsNil)) (gN 4) (lb_law_3 K c))
    (retS (isiY K [c.BadCells, c.BadCode] (.ref c.BadCells) (toV (caughtM K c.LinkError true (callF 1 (g_parted K c) (argsCons (toV (callF 2 (g_law_pick K c) (argsCons (rdV 1) (argsCons (toV (mkLst false (argsCons (toV (cst .none)) (argsCons (toV (cst (.int 5))) (argsCons (toV (cst (.str "21"))) (argsCons (toV (mkLst false (argsCons (toV (cst (.int 64))) argsNil))) (argsCons (toV (mkTup (argsCons (toV (cst (.int 21))) (argsCons (toV (cst (.bool true))) argsNil)))) (argsCons (toV (mkLst false (argsCons (toV (cst (.int 21))) (argsCons (toV (cst .none)) argsNil)))) argsNil)))))))) argsNil)))) argsNil)))))))))))
theorem sv_law (G : Gs P w K mg base T c) {outer : List Env} {s : Shared} {H : Hp} {E : XK} (hr : Room 6 (cxOf (L2.CX P w) P w K mg base ["_law_script", "_law_draw", "_law_bends", "_law_cells", "_law_turn", "_law_near", "_law_bend", "_law_one", "_law_other", "_law_first", "_law_second", "_law_here", "_law_there", "_law_shared", "_law_told", "_law_start"] "law" (defScope s_law) c.f_law (.ref c.cl_law) callerA outer s H E).A) (hgd : (cxOf (L2.CX P w) P w K mg base ["_law_script", "_law_draw", "_law_bends", "_law_cells", "_law_turn", "_law_near", "_law_bend", "_law_one", "_law_other", "_law_first", "_law_second", "_law_here", "_law_there", "_law_shared", "_law_told", "_law_start"] "law" (defScope s_law) c.f_law (.ref c.cl_law) callerA outer s H E).A.guards = some []) :
    SVs (cxOf (L2.CX P w) P w K mg base ["_law_script", "_law_draw", "_law_bends", "_law_cells", "_law_turn", "_law_near", "_law_bend", "_law_one", "_law_other", "_law_first", "_law_second", "_law_here", "_law_there", "_law_shared", "_law_told", "_law_start"] "law" (defScope s_law) c.f_law (.ref c.cl_law) callerA outer s H E) T [0] (defBody s_law) (bd_law K c) :=
    (svs_cons (sv_set (i := 1) sc_law.nd rfl (by first | exact Or.inl rfl | exact Or.inr rfl) (ev_call (ps := ["_law_script"]) ((ok_law_begun G).mono (by decide)) hr rfl G.g_law_begun G.k_law_begun G.b_law_begun (eva_cons (evv_var (i := 0) rfl (by first | exact Or.inl rfl | exact Or.inr (Or.inl rfl) | exact Or.inr (Or.inr rfl))) eva_nil)))
    (svs_cons (sv_par rfl sc_law.nd (.cons (i := 2) rfl (by first | exact Or.inl rfl | exact Or.inr rfl) (by first | exact Or.inl rfl | exact Or.inr rfl) (.cons (i := 3) rfl (by first | exact Or.inl rfl | exact Or.inr rfl) (by first | exact Or.inl rfl | exact Or.inr rfl) .nil)) (evl_cons (ev_call (ps := ["_law_draw", "_law_many_here"]) ((ok_law_take G).mono (by decide)) hr rfl G.g_law_take G.k_law_take G.b_law_take (eva_cons (evv_var (i := 1) rfl (by first | exact Or.inl rfl | exact Or.inr (Or.inl rfl) | exact Or.inr (Or.inr rfl))) (eva_cons (evv_of ev_int) eva_nil))) (evl_cons (ev_lst (own := false) eva_nil) evl_nil)))
    (svs_cons (sv_for (passes_of rfl) rfl (evi_rng1 rfl G.m_range (eva_cons (evv_of (ev_call (ps := ["_law_draw", "_law_many_here"]) ((ok_law_take G).mono (by decide)) hr rfl G.g_law_take G.k_law_take G.b_law_take (eva_cons (evv_var (i := 1) rfl (by first | exact Or.inl rfl | exact Or.inr (Or.inl rfl) | exact Or.inr (Or.inr rfl))) (eva_cons (evv_of ev_int) eva_nil)))) eva_nil)) (gv_name (i := 4) sc_law.nd rfl (by first | exact Or.inl rfl | exact Or.inr rfl) (by first | exact Or.inl rfl | exact Or.inr rfl)) (svs_one (sv_set (i := 3) sc_law.nd rfl (by first | exact Or.inl rfl | exact Or.inr rfl) (ev_op op_addA (opg_addA (own := false)) (evv_var (i := 3) rfl (by first | exact Or.inl rfl | exact Or.inr (Or.inl rfl) | exact Or.inr (Or.inr rfl))) (evv_of (ev_callTy call_listA (cg_list (own := false)) rfl G.m_list PySem.Pv.boot_list (eva_cons (evv_of (ev_ix ix_any opg_ix (evv_of (ev_call (ps := ["_law_draw"]) ((ok_law_made G).mono (by decide)) hr rfl G.g_law_made G.k_law_made G.b_law_made (eva_cons (evv_var (i := 1) rfl (by first | exact Or.inl rfl | exact Or.inr (Or.inl rfl) | exact Or.inr (Or.inr rfl))) eva_nil))) (evv_of ev_int))) eva_nil)))))))
    (svs_cons (sv_if (evt_w (evw_or (evt_not (evt_val (evv_of (ev_call (ps := ["_law_cells"]) ((ok_law_is_walk G).mono (by decide)) hr rfl G.g_law_is_walk G.k_law_is_walk G.b_law_is_walk (eva_cons (evv_var (i := 3) rfl (by first | exact Or.inl rfl | exact Or.inr (Or.inl rfl) | exact Or.inr (Or.inr rfl))) eva_nil))))) (evw_or1 (evt_not (evt_val (evv_of (ev_call (ps := ["_law_cells"]) ((ok_law_is_walk G).mono (by decide)) hr rfl G.g_law_is_walk G.k_law_is_walk G.b_law_is_walk (eva_cons (evv_of (ev_callTy call_tupleA cg_tuple rfl G.m_tuple PySem.Pv.boot_tuple (eva_cons (evv_var (i := 3) rfl (by first | exact Or.inl rfl | exact Or.inr (Or.inl rfl) | exact Or.inr (Or.inr rfl))) eva_nil))) eva_nil)))))))) (svs_one (sv_ret ev_bl)) svs_nil)
    (svs_cons (sv_for (passes_of rfl) rfl (evi_rng1 rfl G.m_range (eva_cons (evv_of (ev_op op_addA (opg_addA (own := false)) (evv_of ev_int) (evv_of (ev_callB (call_min2A rfl) cg_min2 rfl G.m_min PyProof.Rows.boot_min (eva_cons (evv_of (ev_callB call_lenA cg_lenS rfl G.m_len PySem.boot_len (eva_cons (evv_var (i := 0) rfl (by first | exact Or.inl rfl | exact Or.inr (Or.inl rfl) | exact Or.inr (Or.inr rfl))) eva_nil))) (eva_cons (evv_of ev_int) eva_nil)))))) eva_nil)) (gv_name (i := 4) sc_law.nd rfl (by first | exact Or.inl rfl | exact Or.inr rfl) (by first | exact Or.inl rfl | exact Or.inr rfl)) (svs_cons (sv_set (i := 5) sc_law.nd rfl (by first | exact Or.inl rfl | exact Or.inr rfl) (ev_if (evt_w (evw_and (evt_cmp (op_neD (u64 hr)) opg_ne (evv_var (i := 3) rfl (by first | exact Or.inl rfl | exact Or.inr (Or.inl rfl) | exact Or.inr (Or.inr rfl))) (evv_of (ev_lst (own := false) eva_nil))) (evw_and1 (evt_cmp (op_eqD (u64 hr)) opg_eq (evv_of (ev_call (ps := ["_law_draw", "_law_many_here"]) ((ok_law_take G).mono (by decide)) hr rfl G.g_law_take G.k_law_take G.b_law_take (eva_cons (evv_var (i := 1) rfl (by first | exact Or.inl rfl | exact Or.inr (Or.inl rfl) | exact Or.inr (Or.inr rfl))) (eva_cons (evv_of ev_int) eva_nil)))) (evv_of ev_int))))) (ev_slice (own := true) (evv_var (i := 3) rfl (by first | exact Or.inl rfl | exact Or.inr (Or.inl rfl) | exact Or.inr (Or.inr rfl))) evo_none (evo_some (evv_of (ev_op op_addA (opg_addA (own := false)) (evv_of ev_int) (evv_of (ev_call (ps := ["_law_draw", "_law_many_here"]) ((ok_law_take G).mono (by decide)) hr rfl G.g_law_take G.k_law_take G.b_law_take (eva_cons (evv_var (i := 1) rfl (by first | exact Or.inl rfl | exact Or.inr (Or.inl rfl) | exact Or.inr (Or.inr rfl))) (eva_cons (evv_of (ev_callB call_lenA cg_len rfl G.m_len PySem.boot_len (eva_cons (evv_var (i := 3) rfl (by first | exact Or.inl rfl | exact Or.inr (Or.inl rfl) | exact Or.inr (Or.inr rfl))) eva_nil))) eva_nil)))))))) (ev_callTy call_listA (cg_list (own := true)) rfl G.m_list PySem.Pv.boot_list (eva_cons (evv_var (i := 3) rfl (by first | exact Or.inl rfl | exact Or.inr (Or.inl rfl) | exact Or.inr (Or.inr rfl))) eva_nil))))
    (svs_cons (sv_for (passes_of rfl) rfl (evi_rng1 rfl G.m_range (eva_cons (evv_of (ev_if (evt_cmp (op_neD (u64 hr)) opg_ne (evv_var (i := 5) rfl (by first | exact Or.inl rfl | exact Or.inr (Or.inl rfl) | exact Or.inr (Or.inr rfl))) (evv_of (ev_lst (own := false) eva_nil))) (ev_var (i := 2) rfl (by first | exact Or.inl rfl | exact Or.inr (Or.inl rfl) | exact Or.inr (Or.inr rfl))) ev_int)) eva_nil)) (gv_name (i := 6) sc_law.nd rfl (by first | exact Or.inl rfl | exact Or.inr rfl) (by first | exact Or.inl rfl | exact Or.inr rfl)) (svs_one (sv_setL (i := 5) rfl (by first | exact Or.inl rfl | exact Or.inr (Or.inl rfl) | exact Or.inr (Or.inr rfl)) (ev_call (ps := ["_law_draw", "_law_many_here"]) ((ok_law_take G).mono (by decide)) hr rfl G.g_law_take G.k_law_take G.b_law_take (eva_cons (evv_var (i := 1) rfl (by first | exact Or.inl rfl | exact Or.inr (Or.inl rfl) | exact Or.inr (Or.inr rfl))) (eva_cons (evv_of ev_int) eva_nil))) (evv_of (ev_call (ps := ["_law_draw", "_law_many_here"]) ((ok_law_take G).mono (by decide)) hr rfl G.g_law_take G.k_law_take G.b_law_take (eva_cons (evv_var (i := 1) rfl (by first | exact Or.inl rfl | exact Or.inr (Or.inl rfl) | exact Or.inr (Or.inr rfl))) (eva_cons (evv_of (ev_callB call_lenA cg_len rfl G.m_len PySem.boot_len (eva_cons (evv_var (i := 5) rfl (by first | exact Or.inl rfl | exact Or.inr (Or.inl rfl) | exact Or.inr (Or.inr rfl))) eva_nil))) eva_nil)))))))
    (svs_cons (sv_par rfl sc_law.nd (.cons (i := 7) rfl (by first | exact Or.inl rfl | exact Or.inr rfl) (by first | exact Or.inl rfl | exact Or.inr rfl) (.cons (i := 8) rfl (by first | exact Or.inl rfl | exact Or.inr rfl) (by first | exact Or.inl rfl | exact Or.inr rfl) .nil)) (evl_cons (ev_call (ps := ["_law_draw", "_law_many_here"]) ((ok_law_take G).mono (by decide)) hr rfl G.g_law_take G.k_law_take G.b_law_take (eva_cons (evv_var (i := 1) rfl (by first | exact Or.inl rfl | exact Or.inr (Or.inl rfl) | exact Or.inr (Or.inr rfl))) (eva_cons (evv_of (ev_op op_addA (opg_addA (own := false)) (evv_of (ev_callB call_lenA cg_len rfl G.m_len PySem.boot_len (eva_cons (evv_var (i := 5) rfl (by first | exact Or.inl rfl | exact Or.inr (Or.inl rfl) | exact Or.inr (Or.inr rfl))) eva_nil))) (evv_of ev_int))) eva_nil))) (evl_cons (ev_call (ps := ["_law_draw", "_law_many_here"]) ((ok_law_take G).mono (by decide)) hr rfl G.g_law_take G.k_law_take G.b_law_take (eva_cons (evv_var (i := 1) rfl (by first | exact Or.inl rfl | exact Or.inr (Or.inl rfl) | exact Or.inr (Or.inr rfl))) (eva_cons (evv_of (ev_op op_addA (opg_addA (own := false)) (evv_of (ev_callB call_lenA cg_len rfl G.m_len PySem.boot_len (eva_cons (evv_var (i := 5) rfl (by first | exact Or.inl rfl | exact Or.inr (Or.inl rfl) | exact Or.inr (Or.inr rfl))) eva_nil))) (evv_of ev_int))) eva_nil))) evl_nil)))
    (svs_cons (sv_if (evt_w (evw_or (evt_not (evt_val (evv_of (ev_call (ps := ["_law_cells"]) ((ok_law_is_walk G).mono (by decide)) hr rfl G.g_law_is_walk G.k_law_is_walk G.b_law_is_walk (eva_cons (evv_of (ev_var (i := 5) rfl (by first | exact Or.inl rfl | exact Or.inr (Or.inl rfl) | exact Or.inr (Or.inr rfl)))) eva_nil))))) (evw_or1 (evt_not (evt_val (evv_of (ev_call (ps := ["_law_cells"]) ((ok_law_is_walk G).mono (by decide)) hr rfl G.g_law_is_walk G.k_law_is_walk G.b_law_is_walk (eva_cons (evv_of (ev_slice (own := false) (evv_var (i := 5) rfl (by first | exact Or.inl rfl | exact Or.inr (Or.inl rfl) | exact Or.inr (Or.inr rfl))) (evo_some (evv_var (i := 7) rfl (by first | exact Or.inl rfl | exact Or.inr (Or.inl rfl) | exact Or.inr (Or.inr rfl)))) evo_none)) eva_nil)))))))) (svs_one (sv_ret ev_bl)) svs_nil)
    (svs_cons (sv_set (i := 9) sc_law.nd rfl (by first | exact Or.inl rfl | exact Or.inr rfl) (lam_law (k := 3) G (hr.mono (by decide)) (lamS_by rfl) rfl (fun _ _ _ _ _ => rfl) (fun _ _ _ _ _ _ _ hr' => (ev_call (ps := ["cells"]) ((ok_parted G).mono (by decide)) hr' rfl G.g_parted G.k_parted G.b_parted (eva_cons (evv_of (ev_slice (own := false) (evv_var (i := 5) rfl (by first | exact Or.inl rfl | exact Or.inr (Or.inl rfl) | exact Or.inr (Or.inr rfl))) (evo_some (evv_var (i := 7) rfl (by first | exact Or.inl rfl | exact Or.inr (Or.inl rfl) | exact Or.inr (Or.inr rfl)))) evo_none)) eva_nil)))))
    (svs_cons (sv_set (i := 10) sc_law.nd rfl (by first | exact Or.inl rfl | exact Or.inr rfl) (lam_law (k := 3) G (hr.mono (by decide)) (lamS_by rfl) rfl (fun _ _ _ _ _ => rfl) (fun _ _ _ _ _ _ _ hr' => (ev_call (ps := ["cells"]) ((ok_parted G).mono (by decide)) hr' rfl G.g_parted G.k_parted G.b_parted (eva_cons (evv_of (ev_slice (own := false) (evv_var (i := 5) rfl (by first | exact Or.inl rfl | exact Or.inr (Or.inl rfl) | exact Or.inr (Or.inr rfl))) (evo_some (evv_var (i := 8) rfl (by first | exact Or.inl rfl | exact Or.inr (Or.inl rfl) | exact Or.inr (Or.inr rfl)))) evo_none)) eva_nil)))))
    (svs_one (sv_if (evt_w (evw_and (evt_val (evv_of (ev_isiY (Ds := [c.BadCells, c.BadCode]) G.excs rfl G.m_isinstance (evv_var (i := 9) rfl (by first | exact Or.inl rfl | exact Or.inr (Or.inl rfl) | exact Or.inr (Or.inr rfl))) (pe_bltn (v := .ty "tuple") (u := .type "tuple") rfl G.m_tuple (by decide +kernel) rfl) (.ty _)))) (evw_and1 (evt_val (evv_of (ev_isiY (Ds := [c.BadCells, c.BadCode]) G.excs rfl G.m_isinstance (evv_var (i := 10) rfl (by first | exact Or.inl rfl | exact Or.inr (Or.inl rfl) | exact Or.inr (Or.inr rfl))) (pe_bltn (v := .ty "tuple") (u := .type "tuple") rfl G.m_tuple (by decide +kernel) rfl) (.ty _))))))) (svs_cons (sv_par rfl sc_law.nd (.cons (i := 11) rfl (by first | exact Or.inl rfl | exact Or.inr rfl) (by first | exact Or.inl rfl | exact Or.inr rfl) (.cons (i := 12) rfl (by first | exact Or.inl rfl | exact Or.inr rfl) (by first | exact Or.inl rfl | exact Or.inr rfl) .nil)) (evl_cons (ev_comp (own := false) (ownN := [("_law_told", 14)]) rfl sc_law.nd (evi_seq (ev_var (i := 9) rfl (by first | exact Or.inl rfl | exact Or.inr (Or.inl rfl) | exact Or.inr (Or.inr rfl)))) (blkOk_by rfl) (fun _ _ _ _ _ => (gv_name (i := 14) sc_law.nd rfl (by first | exact Or.inl rfl | exact Or.inr rfl) (by first | exact Or.inl rfl | exact Or.inr rfl))) (fun _ _ _ _ _ => evts_nil) (fun _ _ _ _ _ => (ev_op op_addA (opg_addA (own := false)) (evv_var (i := 7) rfl (by first | exact Or.inl rfl | exact Or.inr (Or.inl rfl) | exact Or.inr (Or.inr rfl))) (evv_of (ev_ix ix_any opg_ix (evv_var (i := 14) rfl (by first | exact Or.inl rfl | exact Or.inr (Or.inl rfl) | exact Or.inr (Or.inr rfl))) (evv_of ev_int)))))) (evl_cons (ev_comp (own := false) (ownN := [("_law_told", 14)]) rfl sc_law.nd (evi_seq (ev_var (i := 10) rfl (by first | exact Or.inl rfl | exact Or.inr (Or.inl rfl) | exact Or.inr (Or.inr rfl)))) (blkOk_by rfl) (fun _ _ _ _ _ => (gv_name (i := 14) sc_law.nd rfl (by first | exact Or.inl rfl | exact Or.inr rfl) (by first | exact Or.inl rfl | exact Or.inr rfl))) (fun _ _ _ _ _ => evts_nil) (fun _ _ _ _ _ => (ev_op op_addA (opg_addA (own := false)) (evv_var (i := 8) rfl (by first | exact Or.inl rfl | exact Or.inr (Or.inl rfl) | exact Or.inr (Or.inr rfl))) (evv_of (ev_ix ix_any opg_ix (evv_var (i := 14) rfl (by first | exact Or.inl rfl | exact Or.inr (Or.inl rfl) | exact Or.inr (Or.inr rfl))) (evv_of ev_int)))))) evl_nil)))
    (svs_cons (sv_setC (i := 13) (own := false) (ownN := [("_law_start", 15)]) rfl sc_law.nd rfl rfl (sw_true rfl rfl rfl rfl) (evi_seq (ev_var (i := 11) rfl (by first | exact Or.inl rfl | exact Or.inr (Or.inl rfl) | exact Or.inr (Or.inr rfl)))) (blkOk_by rfl) (fun _ _ _ _ _ => (gv_name (i := 15) sc_law.nd rfl (by first | exact Or.inl rfl | exact Or.inr rfl) (by first | exact Or.inl rfl | exact Or.inr rfl))) (fun _ _ _ _ _ => (evts_one (evt_cmp (op_inD (u65 hr)) opg_in (evv_var (i := 15) rfl (by first | exact Or.inl rfl | exact Or.inr (Or.inl rfl) | exact Or.inr (Or.inr rfl))) (evv_var (i := 12) rfl (by first | exact Or.inl rfl | exact Or.inr (Or.inl rfl) | exact Or.inr (Or.inr rfl))) (by with_unfolding_all rfl)))) (fun _ _ _ _ _ => (ev_var (i := 15) rfl (by first | exact Or.inl rfl | exact Or.inr (Or.inl rfl) | exact Or.inr (Or.inr rfl)))))
    (svs_one (sv_if (evt_w (evw_and (evt_cmp (op_neD (u64 hr)) opg_ne (evv_var (i := 13) rfl (by first | exact Or.inl rfl | exact Or.inr (Or.inl rfl) | exact Or.inr (Or.inr rfl))) (evv_of (ev_lst (own := false) eva_nil))) (evw_and1 (evt_cmp (op_neD (u64 hr)) opg_ne (evv_of (ev_slice (own := false) (evv_var (i := 11) rfl (by first | exact Or.inl rfl | exact Or.inr (Or.inl rfl) | exact Or.inr (Or.inr rfl))) (evo_some (evv_of (ev_meth PySem.F.plainAttrs_list PySem.F.slot_list_index PySem.F.type_list_index (mt_indexD (u65 hr)) mg_index (evv_var (i := 11) rfl (by first | exact Or.inl rfl | exact Or.inr (Or.inl rfl) | exact Or.inr (Or.inr rfl))) (eva_cons (evv_of (ev_ix ix_any opg_ix (evv_var (i := 13) rfl (by first | exact Or.inl rfl | exact Or.inr (Or.inl rfl) | exact Or.inr (Or.inr rfl))) (evv_of ev_int))) eva_nil)))) evo_none)) (evv_of (ev_slice (own := false) (evv_var (i := 12) rfl (by first | exact Or.inl rfl | exact Or.inr (Or.inl rfl) | exact Or.inr (Or.inr rfl))) (evo_some (evv_of (ev_meth PySem.F.plainAttrs_list PySem.F.slot_list_index PySem.F.type_list_index (mt_indexD (u65 hr)) mg_index (evv_var (i := 12) rfl (by first | exact Or.inl rfl | exact Or.inr (Or.inl rfl) | exact Or.inr (Or.inr rfl))) (eva_cons (evv_of (ev_ix ix_any opg_ix (evv_var (i := 13) rfl (by first | exact Or.inl rfl | exact Or.inr (Or.inl rfl) | exact Or.inr (Or.inr rfl))) (evv_of ev_int))) eva_nil)))) evo_none)))))) (svs_one (sv_ret ev_bl)) svs_nil)))) svs_nil)))))))))
    (svs_one (sv_ret (ev_isiY (Ds := [c.BadCells, c.BadCode]) G.excs rfl G.m_isinstance (evv_of (lam_law (k := 3) G (hr.mono (by decide)) (lamS_by rfl) rfl (fun _ _ _ _ _ => rfl) (fun _ _ _ _ _ _ _ hr' => (ev_call (ps := ["cells"]) ((ok_parted G).mono (by decide)) hr' rfl G.g_parted G.k_parted G.b_parted (eva_cons (evv_of (ev_call (ps := ["_law_draw", "_law_some"]) ((ok_law_pick G).mono (by decide)) hr' rfl G.g_law_pick G.k_law_pick G.b_law_pick (eva_cons (evv_var (i := 1) rfl (by first | exact Or.inl rfl | exact Or.inr (Or.inl rfl) | exact Or.inr (Or.inr rfl))) (eva_cons (evv_of (ev_lst (own := false) (eva_cons (evv_of ev_non) (eva_cons (evv_of ev_int) (eva_cons (evv_of ev_str) (eva_cons (evv_of (ev_lst (own := false) (eva_cons (evv_of ev_int) eva_nil))) (eva_cons (evv_of (ev_tup (eva_cons (evv_of ev_int) (eva_cons (evv_of ev_bl) eva_nil)))) (eva_cons (evv_of (ev_lst (own := false) (eva_cons (evv_of ev_int) (eva_cons (evv_of ev_non) eva_nil)))) eva_nil)))))))) eva_nil)))) eva_nil))))) (pe_glob (v := .ref c.BadCells) rfl G.g_BadCells rfl) (.own _)))))))))
end
end K16

/-! the draws -/
namespace K16
open PySem PySem.Spec PyProof.Rows L2 LamX PL
variable {K : PySem.W.Frag} {c : Ad}
def iD (xs : List Int) : List PyData := xs.map .int
def drwL (w cs : List Int) (r t : Int) : List (Key × OV) := [(.inr "wide", .lst ((iD w).map .d)), (.inr "cells", .d (.list (iD cs))), (.inr "rest", .d (.int r)), (.inr "turn", .d (.int t))]
@[simp] theorem iD_len (w : List Int) : (iD w).length = w.length := by simp [iD]
@[simp] theorem iD_emp (w : List Int) : (iD w).isEmpty = w.isEmpty := by cases w <;> rfl
abbrev drw (w cs : List Int) (r t : Int) : OV := .dct (drwL w cs r t)
variable {w cs : List Int} {r t r' t' : Int}
theorem drw_as : asDct (some (some (drw w cs r t))) = some (drwL w cs r t) := rfl
@[simp] theorem get_turn : getO (drwL w cs r t) (.inr "turn") = some (.d (.int t)) := rfl
@[simp] theorem get_rest : getO (drwL w cs r t) (.inr "rest") = some (.d (.int r)) := rfl
@[simp] theorem get_cells : getO (drwL w cs r t) (.inr "cells") = some (.d (.list (iD cs))) := rfl
@[simp] theorem put_turn : putO (drwL w cs r t) (.inr "turn") (.d (.int t')) = drwL w cs r t' := rfl
@[simp] theorem put_rest : putO (drwL w cs r t) (.inr "rest") (.d (.int r')) = drwL w cs r' t := rfl
@[simp] theorem drwL_len : (drwL w cs r t).length = 4 := rfl
theorem lst_wide {S : SS} {i : Nat} (h : S[i]? = some (some (drw w cs r t))) : lstAt S i (.inr "wide") = some (drwL w cs r t, 0, iD w) := by
  unfold lstAt
  rw [h, drw_as]
  show ((ixO (drwL w cs r t) (.inr "wide")).bind fun j => _) = _
  rw [show ixO (drwL w cs r t) (.inr "wide") = some 0 from rfl]
  show (items ((iD w).map .d)).map (fun ds => (drwL w cs r t, 0, ds)) = _
  rw [items_map]
  rfl
theorem pop_wide {y : Int} : (((drwL (y :: w) cs r t).map fun x => x.fst).zip (((drwL (y :: w) cs r t).map fun x => x.snd).set 0 (.lst ((iD w).map .d)))) = drwL w cs r t := rfl
theorem iD_cons (y : Int) (w : List Int) : iD (y :: w) = .int y :: iD w := rfl
theorem cm1 {i j : Int} (h1 : -(2 ^ 64) < i) (h2 : i < 2 ^ 64) : cMul i j = true := by simp only [cMul, Bool.or_eq_true, Bool.and_eq_true, decide_eq_true_eq]; exact .inl ⟨h1, h2⟩
theorem cm2 {i j : Int} (h1 : -(2 ^ 64) < j) (h2 : j < 2 ^ 64) : cMul i j = true := by simp only [cMul, Bool.or_eq_true, Bool.and_eq_true, decide_eq_true_eq]; exact .inr ⟨h1, h2⟩
theorem mix_turn {D : OV} {tn f p bl : Int} {d : PyData} {g : Int} {g5 : Option OV} (hp : 0 < p) : ∃ S1 S2, gN 5 (.int g) [some D, some (.d (.int tn)), some (.d (.int f)), some (.d (.int p)), some (.d (.int bl)), g5] = some S1 ∧ lb_law_mixed_1 K c S1 = some (.nx, S2) ∧
    S2 = [some D, some (.d (.int tn)), some (.d (.int f)), some (.d (.int p)), some (.d (.int ((bl * 69621 + g + tn) % p))), some (.d (.int g))] := by
  refine ⟨_, _, rfl, ?_, rfl⟩
  have h1 : cMul bl 69621 = true := cm2 (by decide) (by decide)
  simp [lb_law_mixed_1, hp, h1]
theorem mix_in {D : OV} {tn f p : Int} (hp : 0 < p) (hp2 : p < 2 ^ 32) {bl : Int} {g5 : Option OV} (cs : List Int) (h0 : 0 ≤ bl) (h1 : bl < 2 ^ 60) :
    ∃ S', forL (gN 5) (lb_law_mixed_1 K c) (iD cs) [some D, some (.d (.int tn)), some (.d (.int f)), some (.d (.int p)), some (.d (.int bl)), g5] = some (.nx, S') ∧
      ∃ bl' g', 0 ≤ bl' ∧ bl' < 2 ^ 60 ∧ S' = [some D, some (.d (.int tn)), some (.d (.int f)), some (.d (.int p)), some (.d (.int bl')), g'] := by
  refine forL_inv (n := 0) (fun _ S => ∃ bl' g', 0 ≤ bl' ∧ bl' < 2 ^ 60 ∧ S = [some D, some (.d (.int tn)), some (.d (.int f)), some (.d (.int p)), some (.d (.int bl')), g']) ⟨bl, g5, h0, h1, rfl⟩ ?_
  rintro k d S hd ⟨bl', g', i0, i1, rfl⟩
  obtain ⟨g, rfl⟩ : ∃ g, d = .int g := by
    unfold iD at hd
    rw [List.getElem?_map] at hd
    cases e : cs[k]? with
    | none => rw [e] at hd; cases hd
    | some g => rw [e] at hd; cases hd; exact ⟨g, rfl⟩
  obtain ⟨S1, S2, e1, e2, e3⟩ := mix_turn (K := K) (c := c) (D := D) (tn := tn) (f := f) (bl := bl') (g := g) (g5 := g') (d := .none) hp
  refine ⟨S1, S2, e1, e2, _, _, Int.emod_nonneg _ (by omega), ?_, e3⟩
  have := Int.emod_lt_of_pos (bl' * 69621 + g + tn) hp
  omega
theorem law_mixed_ok (h0 : 0 ≤ t) (h1 : t < 2 ^ 40) : ∃ f : Int, g_law_mixed K c [drw w cs r t] = some (.ok (.d (.int f)), [drw w cs r (t + 1)]) := by
  have outer : ∃ S', forL (gN 3) (lb_law_mixed_2 K c) [.int 2147483647, .int 2147483629, .int 2147483587, .int 2147483579] [some (drw w cs r (t + 1)), some (.d (.int (t + 1))), some (.d (.int 0)), none, none, none] = some (.nx, S') ∧
      ∃ f a b e, S' = [some (drw w cs r (t + 1)), some (.d (.int (t + 1))), some (.d (.int f)), a, b, e] := by
    refine forL_inv (n := 0) (fun _ S => ∃ f a b e, S = [some (drw w cs r (t + 1)), some (.d (.int (t + 1))), some (.d (.int f)), a, b, e]) ⟨0, none, none, none, rfl⟩ ?_
    rintro k d S hd ⟨f, a, b, e, rfl⟩
    obtain ⟨p, rfl, hp, hp2⟩ : ∃ p : Int, d = .int p ∧ 0 < p ∧ p < 2 ^ 32 := by
      have := List.mem_of_getElem? hd
      simp only [List.mem_cons, List.not_mem_nil, or_false] at this
      rcases this with rfl | rfl | rfl | rfl <;> exact ⟨_, rfl, by decide, by decide⟩
    refine ⟨[some (drw w cs r (t + 1)), some (.d (.int (t + 1))), some (.d (.int f)), some (.d (.int p)), b, e], ?_⟩
    obtain ⟨S', e1, bl', g', i0, i1, e2⟩ := mix_in (K := K) (c := c) (D := drw w cs r (t + 1)) (tn := t + 1) (f := f) hp hp2 (bl := 48271 * (t + 1) + p / 37) (g5 := e) cs (by have := Int.ediv_nonneg (a := p) (b := 37) (by omega) (by decide); omega) (by have := Int.ediv_le_self (a := p) 37 (by omega); omega)
    have c1 : cMul 48271 (t + 1) = true := cm1 (by decide) (by decide)
    have c2 : cMul f 2147483647 = true := cm2 (by decide) (by decide)
    have c3 : bl'.natAbs < 18446744073709551616 := by omega
    refine ⟨[some (drw w cs r (t + 1)), some (.d (.int (t + 1))), some (.d (.int (f * 2147483647 + bl' ^ 5 % p))), some (.d (.int p)), some (.d (.int bl')), g'], by simp, ?_, _, _, _, _, rfl⟩
    simp [lb_law_mixed_2, c1, e1, e2, c2, c3, hp]
  obtain ⟨S', e1, f, a, b, e, rfl⟩ := outer
  refine ⟨f, ?_⟩
  simp [g_law_mixed, bd_law_mixed, runF, runF.lentF, runF.lentL, e1, putLs, sizeLine_eq]
/-- the draw's state: b takes are left -/
def DOk (b : Nat) (d : OV) : Prop := ∃ w cs r t, d = drw w cs r t ∧ 0 ≤ t ∧ t + b ≤ 2 ^ 39
@[simp] theorem shaped_iD : ∀ w : List Int, SeqAt.shaped (.list (iD w)) = true := fun w => by
  have h1 : ∀ w : List Int, PyData.canLayAll0 (iD w) = true ∧ PyData.depthAll (iD w) ≤ 1 := fun w => by
    induction w with
    | nil => exact ⟨rfl, by decide⟩
    | cons x w ih =>
      refine ⟨?_, ?_⟩
      · show (PyData.canLay0 (.int x) && PyData.canLayAll0 (iD w)) = true
        rw [ih.1]; rfl
      · show max (PyData.depth (.int x)) (PyData.depthAll (iD w)) ≤ 1
        exact Nat.max_le.mpr ⟨by show (PyData.depth (.int x)) ≤ 1; simp [PyData.depth], ih.2⟩
  unfold SeqAt.shaped
  rw [Bool.and_eq_true]
  refine ⟨(h1 w).1, decide_eq_true ?_⟩
  have := (h1 w).2
  simp only [PyData.depth]
  omega
theorem take_ok {b : Nat} {d : OV} {m : Int} (hm : 0 < m) (hm2 : m < 1073741824) (hd : DOk (b + 1) d) : ∃ f d', g_law_take K c [d, .d (.int m)] = some (.ok (.d (.int f)), [d', .d (.int m)]) ∧ 0 ≤ f ∧ f < m ∧ DOk b d' := by
  obtain ⟨w, cs, r, t, rfl, h0, h1⟩ := hd
  have fin : ∀ (w : List Int) (t r : Int), 0 ≤ t → t + b ≤ 2 ^ 39 → ∃ f d', ((some (Except.ok (OV.d (PyData.int (r % m))), [drw w cs (r / m) t, .d (.int m)]) : Option (Except PyData OV × List OV)) = some (.ok (.d (.int f)), [d', .d (.int m)])) ∧ 0 ≤ f ∧ f < m ∧ DOk b d' := fun w t r h0 h1 =>
    ⟨_, _, rfl, Int.emod_nonneg _ (by omega), Int.emod_lt_of_pos _ hm, w, cs, _, t, rfl, h0, h1⟩
  by_cases hr : r = 0
  · subst hr
    cases w with
    | nil =>
      obtain ⟨f, e⟩ := law_mixed_ok (K := K) (c := c) (w := []) (cs := cs) (r := 0) (t := t) h0 (by omega)
      obtain ⟨f', d', e', q⟩ := fin [] (t + 1) f (by omega) (by omega)
      refine ⟨f', d', ?_, q⟩
      rw [← e']
      have e0 : lstAt [some (drw [] cs 0 t), some (.d (.int m)), none] 0 (.inr "wide") = some (drwL [] cs 0 t, 0, iD []) := lst_wide rfl
      simp [g_law_take, bd_law_take, runF, runF.lentF, runF.lentL, sizeLine_eq, e0, e, hm, hm2]
    | cons y w =>
      obtain ⟨f', d', e', q⟩ := fin w t y (by omega) (by omega)
      refine ⟨f', d', ?_, q⟩
      rw [← e']
      have e0 : lstAt [some (drw (y :: w) cs 0 t), some (.d (.int m)), none] 0 (.inr "wide") = some (drwL (y :: w) cs 0 t, 0, iD (y :: w)) := lst_wide rfl
      have e1 := shaped_iD (y :: w)
      rw [iD_cons] at e1 e0
      simp [g_law_take, bd_law_take, runF, runF.lentF, runF.lentL, sizeLine_eq, e0, e1, hm, hm2, pop_wide]
  · obtain ⟨f', d', e', q⟩ := fin w t r (by omega) (by omega)
    refine ⟨f', d', ?_, q⟩
    rw [← e']
    simp [g_law_take, bd_law_take, runF, runF.lentF, runF.lentL, sizeLine_eq, hr, hm, hm2]
theorem take_b {S : SS} {i : Nat} {x : Int} {d : OV} : takes [AV.bw i, AV.fr (.int x)] S = takes [AV.bw i, AV.fr (.int x)] S := rfl
def mapI (f : Int → Int) : PyData → PyData
  | .int i => .int (f i)
  | x => x
def tstI (f : Int → Bool) : PyData → Bool
  | .int i => f i
  | _ => false
theorem iD_fil (f : Int → Int) (p : Int → Bool) : ∀ ns : List Int, ((iD ns).filter (tstI p)).map (mapI f) = iD ((ns.filter p).map f)
  | [] => rfl
  | n :: ns => by
    have ih := iD_fil f p ns
    rw [iD_cons]
    cases h : p n with
    | true =>
      rw [List.filter_cons_of_pos (show tstI p (.int n) = true from h), List.filter_cons_of_pos h, List.map_cons, List.map_cons, ih]
      rfl
    | false =>
      rw [List.filter_cons_of_neg (by show ¬ (p n = true); simp [h]), List.filter_cons_of_neg (by simp [h]), ih]
theorem iD_map (f : Int → Int) : ∀ ns : List Int, (iD ns).map (mapI f) = iD (ns.map f)
  | [] => rfl
  | n :: ns => by rw [iD_cons, List.map_cons, iD_map f ns]; rfl
theorem mem_iD {ns : List Int} {d : PyData} (h : d ∈ iD ns) : ∃ i ∈ ns, d = .int i := by
  obtain ⟨i, h1, h2⟩ := List.mem_map.mp h
  exact ⟨i, h1, h2.symm⟩
theorem begun_ok {ns : List Int} (hl : ns.length ≤ 63) : ∃ d, g_law_begun K c [.d (scrD ns)] = some (.ok d, [.d (scrD ns)]) ∧ DOk (2 ^ 38) d := by
  have e1 : compL (gN 2) (ci_law_begun_1 K c) (ce_law_begun_1 K c) [2] (ns.map .int) [] [some (.d (scrD ns)), none, none] = some (iD ((ns.filter fun i => decide ((10 : Int) ^ 18 ≤ if i < 0 then -i else i)).map fun i => (if i < 0 then -i else i) - 10 ^ 18), [some (.d (scrD ns)), none, none]) := by
    have := compL_fil (g := gN 2) (ft := ci_law_begun_1 K c) (fe := ce_law_begun_1 K c) (vs := [2]) (S := [some (.d (scrD ns)), none, none]) (ds := iD ns) (acc := [])
      (p := tstI fun i => decide ((10 : Int) ^ 18 ≤ if i < 0 then -i else i)) (h := mapI fun i => (if i < 0 then -i else i) - 10 ^ 18) (by rw [iD_len, sizeLine_eq]; simp; omega) (fun d hd => by
        obtain ⟨i, _, rfl⟩ := mem_iD hd
        refine ⟨[some (.d (scrD ns)), none, some (.d (.int i))], [some (.d (scrD ns)), none, some (.d (.int i))], rfl, ?_, fun _ => ⟨[some (.d (scrD ns)), none, some (.d (.int i))], ?_, rfl⟩, fun _ => rfl⟩
        · simp [ci_law_begun_1, tstI]
        · simp [ce_law_begun_1, mapI])
    rw [List.nil_append, iD_fil] at this
    exact this
  have e2 : compL (gN 2) tYesM (ce_law_begun_2 K c) [2] (ns.map .int) [] [some (.d (scrD ns)), none, none] = some (iD (ns.map fun i => (if i < 0 then -i else i) % 2147483629), [some (.d (scrD ns)), none, none]) := by
    have := compL_map (g := gN 2) (fe := ce_law_begun_2 K c) (vs := [2]) (S := [some (.d (scrD ns)), none, none]) (ds := iD ns) (acc := [])
      (h := mapI fun i => (if i < 0 then -i else i) % 2147483629) (by rw [iD_len, sizeLine_eq]; simp; omega) (fun d hd => by
        obtain ⟨i, _, rfl⟩ := mem_iD hd
        refine ⟨[some (.d (scrD ns)), none, some (.d (.int i))], [some (.d (scrD ns)), none, some (.d (.int i))], rfl, ?_, rfl⟩
        simp [ce_law_begun_2, mapI])
    rw [List.nil_append, iD_map] at this
    exact this
  refine ⟨drw ((ns.filter fun i => decide ((10 : Int) ^ 18 ≤ if i < 0 then -i else i)).map fun i => (if i < 0 then -i else i) - 10 ^ 18) (ns.map fun i => (if i < 0 then -i else i) % 2147483629) 0 0, ?_, _, _, _, _, rfl, by decide, by decide⟩
  simp [g_law_begun, bd_law_begun, runF, runF.lentF, runF.lentL, wipeS, e1, e2]
  rfl
theorem pick_ok {b : Nat} {d : OV} {xs : List PyData} (h0 : xs ≠ []) (h1 : xs.length < 1073741824) (hd : DOk (b + 1) d) : ∃ y ∈ xs, ∃ d', g_law_pick K c [d, .d (.list xs)] = some (.ok (.d y), [d', .d (.list xs)]) ∧ DOk b d' := by
  have hp : 0 < xs.length := List.length_pos_iff.mpr h0
  obtain ⟨f, d', e, h2, h3, h4⟩ := take_ok (K := K) (c := c) (m := (xs.length : Int)) (by omega) (by omega) hd
  obtain ⟨j, rfl⟩ := Int.eq_ofNat_of_zero_le h2
  have hj : j < xs.length := by omega
  refine ⟨xs[j], List.getElem_mem hj, d', ?_, h4⟩
  have ea : atI xs (j : Int) = some xs[j] := atI_nat (List.getElem?_eq_getElem hj)
  obtain ⟨w, cs, r, t, rfl, _⟩ := hd
  obtain ⟨w', cs', r', t', rfl, _⟩ := h4
  simp [g_law_pick, bd_law_pick, runF, runF.lentF, runF.lentL, e, ea]
def Run (xs : List Int) : Prop := ∀ x ∈ xs, 0 ≤ x ∧ x < 64
theorem Run.nil : Run [] := fun x h => by cases h
theorem Run.app {xs ys : List Int} (h1 : Run xs) (h2 : Run ys) : Run (xs ++ ys) := fun x h => (List.mem_append.mp h).elim (h1 x) (h2 x)
theorem Run.one {x : Int} (h1 : 0 ≤ x) (h2 : x < 64) : Run [x] := fun y h => by rw [List.mem_singleton.mp h]; exact ⟨h1, h2⟩
theorem iD_app (xs ys : List Int) : iD (xs ++ ys) = iD xs ++ iD ys := by simp [iD]
theorem DOk.mono {a b : Nat} {d : OV} (h : DOk a d) (hb : b ≤ a) : DOk b d := by
  obtain ⟨w, cs, r, t, e, h0, h1⟩ := h
  exact ⟨w, cs, r, t, e, h0, by omega⟩
theorem iD_dt (xs : List Int) (a b : Nat) : ((iD xs).drop a).take b = iD ((xs.drop a).take b) := by simp [iD]
theorem Run.dt {xs : List Int} (h : Run xs) (a b : Nat) : Run ((xs.drop a).take b) := fun x hx => h x (List.mem_of_mem_drop (List.mem_of_mem_take hx))
theorem take_L {b : Nat} {L : List (Key × OV)} {m : Int} (hm : 0 < m) (hm2 : m < 1073741824) (hd : DOk (b + 1) (.dct L)) : ∃ f L', g_law_take K c [.dct L, .d (.int m)] = some (.ok (.d (.int f)), [.dct L', .d (.int m)]) ∧ 0 ≤ f ∧ f < m ∧ DOk b (.dct L') := by
  obtain ⟨f, d', e, h0, h1, h2⟩ := take_ok (K := K) (c := c) hm hm2 hd
  obtain ⟨w, cs, r, t, rfl, g⟩ := h2
  exact ⟨f, _, e, h0, h1, w, cs, r, t, rfl, g⟩
theorem pick_L {b : Nat} {L : List (Key × OV)} {xs : List PyData} (h0 : xs ≠ []) (h1 : xs.length < 1073741824) (hd : DOk (b + 1) (.dct L)) : ∃ y ∈ xs, ∃ L', g_law_pick K c [.dct L, .d (.list xs)] = some (.ok (.d y), [.dct L', .d (.list xs)]) ∧ DOk b (.dct L') := by
  obtain ⟨y, hy, d', e, h2⟩ := pick_ok (K := K) (c := c) h0 h1 hd
  obtain ⟨w, cs, r, t, rfl, g⟩ := h2
  exact ⟨y, hy, _, e, w, cs, r, t, rfl, g⟩
theorem begun_L {ns : List Int} (hl : ns.length ≤ 63) : ∃ L, g_law_begun K c [.d (scrD ns)] = some (.ok (.dct L), [.d (scrD ns)]) ∧ DOk (2 ^ 38) (.dct L) := by
  obtain ⟨d, e, h⟩ := begun_ok (K := K) (c := c) hl
  obtain ⟨w, cs, r, t, rfl, g⟩ := h
  exact ⟨_, e, w, cs, r, t, rfl, g⟩
end K16

/-! senses, as in k15 -/
namespace K16
open PySem PySem.Spec PyProof.Rows L2 LamX PL
variable {K : PySem.W.Frag} {c : Ad}
theorem is_number_ok {x : PyData} (h : NX x) (lo hi : Int) : g_is_number K c [.d x, .d (.int lo), .d (.int hi)] = some (.ok (.d (.bool (isNum x lo hi))), [.d x, .d (.int lo), .d (.int hi)]) := by
  cases x with
  | dict kvs => exact absurd rfl (h kvs)
  | int n => by_cases h1 : lo ≤ n <;> simp [g_is_number, bd_is_number, runF, h1, runF.lentF, runF.lentL, isNum]
  | _ => simp [g_is_number, bd_is_number, runF, runF.lentF, runF.lentL, isNum]
def sg (s : Nat) : PyData := .str ⟨#[s]⟩
def SgOk (s : Nat) : Prop := s = 114 ∨ s = 112 ∨ s = 99 ∨ s = 107 ∨ s = 102 ∨ s = 76 ∨ s = 100 ∨ s = 68
def lowS (s : Nat) : Int := if s = 76 then 1 else if s = 100 then -32 else if s = 68 then -2048 else 0
def endS (s : Nat) : Int := if s = 114 then 4 else if s = 112 then 2 else if s = 102 then 63 else if s = 76 then 65 else if s = 100 then 32 else if s = 68 then 2048 else 64
def wid (s : Nat) : Nat := if s = 68 then 2 else 1
theorem sg_shp {s : Nat} (h : SgOk s) (n : Nat) : Shp n (sg s) := by
  rcases h with rfl | rfl | rfl | rfl | rfl | rfl | rfl | rfl <;> exact shp_str n (by decide +kernel)
theorem sg_eq {s : Nat} (h : SgOk s) : oEq (sg s) (.str "D") = some (.d (.bool (decide (s = 68)))) ∧ oEq (sg s) (.str "d") = some (.d (.bool (decide (s = 100)))) ∧ oEq (sg s) (.str "L") = some (.d (.bool (decide (s = 76)))) := by
  rw [oEq_of (sg_shp h 1) (shp_str 1 (by decide +kernel)), oEq_of (sg_shp h 1) (shp_str 1 (by decide +kernel)), oEq_of (sg_shp h 1) (shp_str 1 (by decide +kernel))]
  rcases h with rfl | rfl | rfl | rfl | rfl | rfl | rfl | rfl <;> exact ⟨rfl, rfl, rfl⟩
theorem sg_low {s : Nat} (h : SgOk s) : oCixS tb_LOWEST (sg s) = some (.d (.int (lowS s))) ∧ oCixS tb_BEYOND (sg s) = some (.d (.int (endS s))) := by
  rcases h with rfl | rfl | rfl | rfl | rfl | rfl | rfl | rfl <;> exact ⟨rfl, rfl⟩
theorem span_ok {s : Nat} (h : SgOk s) (h2 : s ≠ 107) : g_law_span K c [.d (sg s)] = some (.ok (.d (.tuple [.int (lowS s), .int (endS s)])), [.d (sg s)]) := by
  rcases h with rfl | rfl | rfl | rfl | rfl | rfl | rfl | rfl
  all_goals first | exact absurd rfl h2 | rfl
def pcs (s : Nat) (v : Int) : List Int := if s = 68 then [v % 4096 / 64, v % 64] else [v % 64]
def manyN (l : List Nat) : Nat := 1 + l.length + l.count 68
abbrev Row := Int × Str × Str
def sgs (r : Row) : List Nat := r.2.2.cps.toList
def rowsP : List Row := tb_CODES.map fun p => (p.1, match p.2 with
  | .tuple [.str w, .str s] => (w, s)
  | _ => ("", ""))
def kcS (s : Str) : Str := ⟨s.cps.map fun x => if x = 107 then 99 else x⟩
def rowsL : List Row := rowsP.map fun r => (r.1, r.2.1, kcS r.2.2)
def itP (r : Row) : PyData := .tuple [.int r.1, .tuple [.str r.2.1, .str r.2.2]]
def itL (r : Row) : PyData := .tuple [.int r.1, .str r.2.1, .str r.2.2]
theorem rowsP_eq : (tb_CODES.map fun p => (PyData.int p.1, p.2)).map (fun p => PyData.tuple [p.1, p.2]) = rowsP.map itP := rfl
structure RowOk (r : Row) : Prop where
  w : PyData.strOk r.2.1 = true
  sg : ∀ s ∈ sgs r, SgOk s
  len : (sgs r).length ≤ 6
  cnt : Txt.count r.2.2 "D" = ((sgs r).count 68 : Nat)
  lo : 0 ≤ r.1 ∧ r.1 < 64
def sgB (s : Nat) : Bool := s == 114 || s == 112 || s == 99 || s == 107 || s == 102 || s == 76 || s == 100 || s == 68
theorem sgB_ok {s : Nat} (h : sgB s = true) : SgOk s := by simpa [sgB, SgOk, or_assoc] using h
def rowB (r : Row) : Bool := PyData.strOk r.2.1 && ((sgs r).all sgB && (Nat.ble (sgs r).length 6 && (decide (Txt.count r.2.2 "D" = ((sgs r).count 68 : Nat)) && (decide (0 ≤ r.1) && decide (r.1 < 64)))))
theorem rowB_ok {r : Row} (h : rowB r = true) : RowOk r := by
  simp only [rowB, Bool.and_eq_true, List.all_eq_true, Nat.ble_eq, decide_eq_true_eq] at h
  obtain ⟨h1, h2, h3, h4, h5, h6⟩ := h
  exact ⟨h1, fun s hs => sgB_ok (h2 s hs), h3, h4, h5, h6⟩
theorem rowsP_all : rowsP.all rowB = true := by decide +kernel
theorem rowsL_all : rowsL.all rowB = true := by decide +kernel
theorem rowsP_ok : ∀ r ∈ rowsP, RowOk r := fun r hr => rowB_ok (List.all_eq_true.mp rowsP_all r hr)
theorem rowsL_ok : ∀ r ∈ rowsL, RowOk r := fun r hr => rowB_ok (List.all_eq_true.mp rowsL_all r hr)
theorem codes_ok : g_law_codes K c [] = some (.ok (.d (.list (rowsL.map itL))), []) := by
  simp [g_law_codes, bd_law_codes, runF, runF.lentF, runF.lentL, sizeLine_eq]
  kernel_rfl
def partsOk : List Nat → List PyData → Bool
  | s :: l, x :: xs => isNum x (lowS s) (endS s) && partsOk l xs
  | [], [] => true
  | _, _ => false
def intOf : PyData → Int
  | .int i => i
  | _ => 0
def cellsS : List Nat → List PyData → List Int
  | s :: l, x :: xs => pcs s (intOf x) ++ cellsS l xs
  | _, _ => []
def pairsD (l : List Nat) (xs : List PyData) : List PyData := List.zipWith (fun a b => .tuple [a, b]) (l.map sg) xs
theorem cells_for_ok {r : Row} (h : RowOk r) : g_cells_for K c [.d (.str r.2.2)] = some (.ok (.d (.int (manyN (sgs r)))), [.d (.str r.2.2)]) := by
  have hl : r.2.2.length = (sgs r).length := by simp [sgs, Str.length]
  have h6 := h.len
  have h7 : (sgs r).length ≤ 16777216 := by omega
  simp [g_cells_for, bd_cells_for, runF, runF.lentF, runF.lentL, sizeLine_eq, hl, h7, h.cnt, manyN]
theorem mem_pairs : ∀ {l : List Nat} {xs : List PyData} {p : PyData}, p ∈ pairsD l xs → ∃ s ∈ l, ∃ x ∈ xs, p = .tuple [sg s, x]
  | [], xs, p, h => by simp [pairsD] at h
  | _ :: _, [], p, h => by simp [pairsD] at h
  | s :: l, x :: xs, p, h => by
    have h : p ∈ .tuple [sg s, x] :: pairsD l xs := h
    rcases List.mem_cons.mp h with rfl | h
    · exact ⟨s, List.mem_cons_self, x, List.mem_cons_self, rfl⟩
    · obtain ⟨s', h1, x', h2, h3⟩ := mem_pairs h
      exact ⟨s', List.mem_cons_of_mem _ h1, x', List.mem_cons_of_mem _ h2, h3⟩
theorem pairs_len (l : List Nat) (xs : List PyData) : (pairsD l xs).length ≤ l.length := by
  unfold pairsD
  rw [List.length_zipWith, List.length_map]; omega
theorem at0 {α : Type} (a : α) (l : List α) : atI (a :: l) 0 = some a := atI_nat (j := 0) rfl
theorem at1 {α : Type} (a b : α) (l : List α) : atI (a :: b :: l) 1 = some b := atI_nat (j := 1) rfl
theorem at2 {α : Type} (a b d : α) (l : List α) : atI (a :: b :: d :: l) 2 = some d := atI_nat (j := 2) rfl
theorem tail_of {own : Bool} (x0 : PyData) (xs : List PyData) : oSl own (.tuple (x0 :: xs)) (some 1) none = some (.d (.tuple xs)) := by
  have e1 : HT.sIx (x0 :: xs).length 0 (some 1) = 1 := by
    have := HT.sIx_nat (x0 :: xs).length 0 1
    have e : ((1 : Nat) : Int) = 1 := rfl
    rw [e] at this
    rw [this]; simp
  have e2 : HT.sIx (x0 :: xs).length (x0 :: xs).length none = xs.length + 1 := rfl
  rw [oSl_t, e1, e2]
  simp
theorem zip_of (l : List Nat) (xs : List PyData) {s : Str} (h : s.cps.toList = l) : zipD [.str s, .tuple xs] = some (pairsD l xs) := by
  subst h
  show some (List.zipWith _ _ _) = some (List.zipWith _ _ _)
  rfl
theorem oExt_e (ds es : List PyData) : oExtend ds [.list es] = if ds.length + es.length ≤ sizeLine then some (.none, ds ++ es) else none := rfl
theorem pcs_len (s : Nat) (v : Int) : (pcs s v).length ≤ 2 := by unfold pcs; split <;> simp
theorem parts_int {s : Nat} {x : PyData} {lo hi : Int} (h : isNum x lo hi = true) : ∃ i, x = .int i ∧ lo ≤ i ∧ i < hi := by
  cases x with
  | int i => simp [isNum] at h; exact ⟨i, rfl, h⟩
  | _ => simp [isNum] at h
theorem sgs_map (r : Row) : r.2.2.cps.toList.map (fun c => PyData.str ⟨#[c]⟩) = (sgs r).map sg := rfl
def isD (x : PyData) : Bool := match x with
  | .str ⟨a⟩ => decide (a[0]?.getD 0 = 68)
  | _ => false
theorem law_many_ok {r : Row} (h : RowOk r) : g_law_many K c [.d (.str r.2.2)] = some (.ok (.d (.int (manyN (sgs r)))), [.d (.str r.2.2)]) := by
  have hl : r.2.2.length = (sgs r).length := by simp [sgs, Str.length]
  have h6 := h.len
  have h7 : (sgs r).length ≤ 16777216 := by omega
  have e1 : compL (gN 1) (ci_law_many_1 K c) (ce_law_many_1 K c) [1] ((sgs r).map sg) [] [some (.d (.str r.2.2)), none] = some (((sgs r).map sg).filter isD, [some (.d (.str r.2.2)), none]) := by
    have := compL_fil (g := gN 1) (ft := ci_law_many_1 K c) (fe := ce_law_many_1 K c) (vs := [1]) (S := [some (.d (.str r.2.2)), none]) (ds := (sgs r).map sg) (acc := []) (p := isD) (h := id) (by rw [sizeLine_eq]; simp; omega) (fun d hd => by
      obtain ⟨s, hs, rfl⟩ := List.mem_map.mp hd
      have hsg := h.sg s hs
      refine ⟨[some (.d (.str r.2.2)), some (.d (sg s))], [some (.d (.str r.2.2)), some (.d (sg s))], by simp, ?_, fun _ => ⟨[some (.d (.str r.2.2)), some (.d (sg s))], ?_, rfl⟩, fun _ => rfl⟩
      · simp [ci_law_many_1, (sg_eq hsg).1]
        rfl
      · simp [ce_law_many_1])
    rw [List.nil_append] at this
    rw [this]
    simp
  have e2 : (((sgs r).map sg).filter isD).length = (sgs r).count 68 := by
    generalize sgs r = l
    induction l with
    | nil => rfl
    | cons s l ih =>
      rw [List.map_cons, List.filter_cons, List.count_cons]
      have : isD (sg s) = (s == 68) := by
        show decide (s = 68) = _
        by_cases h : s = 68 <;> simp [h]
      rw [this]
      by_cases h : s = 68
      · simp [h, ih]
      · simp [h, ih]
  have e3 := sgs_map r
  have e4 : strOf (.d (.str r.2.2)) = some ((sgs r).map sg) := rfl
  simp [g_law_many, bd_law_many, runF, runF.lentF, runF.lentL, sizeLine_eq, hl, h7, wipeS, e4, e1, e2, manyN]
theorem cell_d (v : Int) : (v + 4096) % 4096 / 64 = v % 4096 / 64 ∧ (v + 4096) % 64 = v % 64 := by omega
theorem cells_loop {s0 s1 s2 : Option OV} : ∀ {l : List Nat} {xs : List PyData} {acc : List Int} {x4 x5 : Option OV}, (∀ s ∈ l, SgOk s) → partsOk l xs = true → acc.length + 2 * l.length ≤ 1000 →
    ∃ y4 y5, forL (gTupD 2 (gConsD (gN 4) (gConsD (gN 5) gNilD))) (lb_law_cells_of_1 K c) (pairsD l xs) [s0, s1, s2, some (.d (.list (iD acc))), x4, x5] =
      some (.nx, [s0, s1, s2, some (.d (.list (iD (acc ++ cellsS l xs)))), y4, y5])
  | [], [], acc, x7, x8, _, _, _ => ⟨x7, x8, by simp [pairsD, cellsS, forL_nil]⟩
  | [], _ :: _, _, _, _, _, h, _ => by simp [partsOk] at h
  | _ :: _, [], _, _, _, _, h, _ => by simp [partsOk] at h
  | s :: l, x :: xs, acc, x7, x8, hl, hp, hz => by
    simp only [partsOk, Bool.and_eq_true] at hp
    obtain ⟨i, rfl, _, _⟩ := parts_int (s := s) hp.1
    have hs := hl s List.mem_cons_self
    have h2 := pcs_len s i
    rw [List.length_cons] at hz
    obtain ⟨y7, y8, e⟩ := cells_loop (l := l) (xs := xs) (acc := acc ++ pcs s i) (x4 := some (.d (sg s))) (x5 := some (.d (.int i))) (fun s' h' => hl s' (List.mem_cons_of_mem _ h')) hp.2 (by rw [List.length_append]; omega)
    refine ⟨y7, y8, ?_⟩
    show forL _ _ (.tuple [sg s, .int i] :: pairsD l xs) _ = _
    obtain ⟨q1, q2⟩ := cell_d i
    have hs68 := (sg_eq hs).1
    rw [forL_step (S1 := [s0, s1, s2, some (.d (.list (iD acc))), some (.d (sg s)), some (.d (.int i))]) (S2 := [s0, s1, s2, some (.d (.list (iD (acc ++ pcs s i)))), some (.d (sg s)), some (.d (.int i))]) (by simp) ?_, e]
    · show _ = some (Fl.nx, [s0, s1, s2, some (.d (.list (iD (acc ++ (pcs s i ++ cellsS l xs))))), y7, y8])
      rw [List.append_assoc]
    · have b1 : acc.length + 1 + 1 ≤ 16777216 := by omega
      have b2 : acc.length + 1 ≤ 16777216 := by omega
      have b3 : acc.length ≤ 16777216 := by omega
      rw [iD_app]
      by_cases h68 : s = 68
      · subst h68
        simp [lb_law_cells_of_1, hs68, sizeLine_eq, b1, b2, q1, q2, pcs, iD]
      · simp [lb_law_cells_of_1, hs68, h68, sizeLine_eq, b2, b3, q1, q2, pcs, iD]
theorem cells_of_l {r : Row} (h : RowOk r) {xs : List PyData} (hp : partsOk (sgs r) xs = true) : g_law_cells_of K c [.d (.int r.1), .d (.str r.2.2), .lst (xs.map .d)] = some (.ok (.d (.tuple (iD (r.1 :: cellsS (sgs r) xs)))), [.d (.int r.1), .d (.str r.2.2), .d (.list xs)]) := by
  have z1 : zipD [.str r.2.2, .list xs] = some (pairsD (sgs r) xs) := zip_of (sgs r) xs (s := r.2.2) rfl
  have h6 := h.len
  obtain ⟨y4, y5, e⟩ := cells_loop (K := K) (c := c) (s0 := some (.d (.int r.1))) (s1 := some (.d (.str r.2.2))) (s2 := some (.d (.list xs))) (l := sgs r) (xs := xs) (acc := [r.1]) (x4 := none) (x5 := none) h.sg hp (by simp; omega)
  have e1 : iD [r.1] = [.int r.1] := rfl
  rw [e1] at e
  have e2 : [r.1] ++ cellsS (sgs r) xs = r.1 :: cellsS (sgs r) xs := rfl
  rw [e2] at e
  generalize iD (r.1 :: cellsS (sgs r) xs) = q at e ⊢
  simp [g_law_cells_of, bd_law_cells_of, runF, runF.lentF, runF.lentL, sizeLine_eq, z1, e]
theorem oEq_nil {n : Nat} {xs : List PyData} (h : ∀ x ∈ xs, Shp n x) (hn : n < 64 := by decide) : oEq (.list xs) (.list []) = some (.d (.bool xs.isEmpty)) := by
  rw [oEq_of (shp_lst h) (shp_lst (n := 1) (by simp)) (by omega)]
  cases xs <;> rfl
theorem oNe_nil {n : Nat} {xs : List PyData} (h : ∀ x ∈ xs, Shp n x) (hn : n < 64 := by decide) : oNe (.list xs) (.list []) = some (.d (.bool (!xs.isEmpty))) := by
  rw [oNe_of (shp_lst h) (shp_lst (n := 1) (by simp)) (by omega)]
  cases xs <;> rfl
theorem rowsL_k : ∀ r ∈ rowsL, RowOk r ∧ ∀ s ∈ sgs r, s ≠ 107 := by
  have h : rowsL.all (fun r => (sgs r).all fun s => !(s == 107)) = true := by decide +kernel
  intro r hr
  refine ⟨rowsL_ok r hr, fun s hs => ?_⟩
  have := List.all_eq_true.mp (List.all_eq_true.mp h r hr) s hs
  simpa using this
def kc (s : Nat) : Nat := if s = 107 then 99 else s
theorem kc_low (s : Nat) : lowS (kc s) = lowS s ∧ endS (kc s) = endS s ∧ (kc s = 68 ↔ s = 68) := by
  unfold kc
  by_cases h : s = 107
  · subst h; exact ⟨rfl, rfl, by decide⟩
  · rw [if_neg h]; exact ⟨rfl, rfl, Iff.rfl⟩
theorem sgs_kc (r : Row) : sgs (r.1, r.2.1, kcS r.2.2) = (sgs r).map kc := by
  show (Array.map _ _).toList = _
  rw [Array.toList_map]; rfl
theorem partsOk_kc : ∀ (l : List Nat) (xs : List PyData), partsOk (l.map kc) xs = partsOk l xs
  | [], [] => rfl
  | [], _ :: _ => rfl
  | _ :: _, [] => rfl
  | s :: l, x :: xs => by
    obtain ⟨h1, h2, h3⟩ := kc_low s
    show (isNum x (lowS (kc s)) (endS (kc s)) && partsOk (l.map kc) xs) = _
    rw [h1, h2, partsOk_kc l xs]; rfl
theorem cellsS_kc : ∀ (l : List Nat) (xs : List PyData), cellsS (l.map kc) xs = cellsS l xs
  | [], xs => rfl
  | _ :: _, [] => rfl
  | s :: l, x :: xs => by
    obtain ⟨h1, h2, h3⟩ := kc_low s
    show pcs (kc s) (intOf x) ++ cellsS (l.map kc) xs = pcs s (intOf x) ++ cellsS l xs
    rw [cellsS_kc l xs]
    have : pcs (kc s) (intOf x) = pcs s (intOf x) := by
      unfold pcs
      by_cases h : s = 68
      · rw [if_pos (h3.mpr h), if_pos h]
      · rw [if_neg (fun z => h (h3.mp z)), if_neg h]
    rw [this]
theorem manyN_kc (l : List Nat) : manyN (l.map kc) = manyN l := by
  have : (l.map kc).count 68 = l.count 68 := by
    induction l with
    | nil => rfl
    | cons s l ih =>
      rw [List.map_cons, List.count_cons, List.count_cons, ih]
      obtain ⟨_, _, h3⟩ := kc_low s
      by_cases h : s = 68
      · rw [h3.mpr h, h]
      · have : ¬ kc s = 68 := fun z => h (h3.mp z)
        simp [this, h]
  unfold manyN
  rw [this, List.length_map]
theorem iD_shp (n : Nat) (xs : List Int) : ∀ x ∈ iD xs, Shp n x := fun x hx => by
  obtain ⟨i, _, rfl⟩ := mem_iD hx
  exact shp_int n i
def sq (tp : Bool) (xs : List Int) : PyData := if tp then .tuple (iD xs) else .list (iD xs)
theorem oIx_sq {tp : Bool} {xs : List Int} {a : Nat} (h : a < xs.length) : oIx (sq tp xs) (.int (a : Int)) = some (.d (.int (xs.getD a 0))) := by
  have e : atI (iD xs) (a : Int) = some (.int (xs.getD a 0)) := by
    refine atI_nat ?_
    unfold iD
    rw [List.getElem?_map, List.getElem?_eq_getElem h, List.getD_eq_getElem?_getD, List.getElem?_eq_getElem h]
    rfl
  cases tp <;> simp [sq, e]
theorem oIx_sq1 {tp : Bool} {xs : List Int} {a : Nat} (h : a + 1 < xs.length) : oIx (sq tp xs) (.int ((a : Int) + 1)) = some (.d (.int (xs.getD (a + 1) 0))) := oIx_sq (a := a + 1) h
@[simp] theorem oLen_sq (tp : Bool) (xs : List Int) : oLen [sq tp xs] = some (.d (.int xs.length)) := by cases tp <;> simp [sq]
theorem Run.getD {xs : List Int} (h : Run xs) (a : Nat) : 0 ≤ xs.getD a 0 ∧ xs.getD a 0 < 64 := by
  rw [List.getD_eq_getElem?_getD]
  cases e : xs[a]? with
  | none => exact ⟨Int.le_refl _, by decide⟩
  | some v => exact h v (List.mem_of_getElem? e)
def partV (s : Nat) (c1 c2 : Int) : Int := if s = 68 then (c1 * 64 + c2 + 2048) % 4096 - 2048 else if s = 100 then (c1 + 32) % 64 - 32 else if s = 76 ∧ c1 = 0 then 64 else c1
def pv (xs : List Int) (s p : Nat) : Int := partV s (xs.getD p 0) (xs.getD (p + 1) 0)
def okV (s : Nat) (v : Int) : Bool := decide (lowS s ≤ v) && decide (v < endS s)
def decS (xs : List Int) : List Nat → Nat → Option (List Int)
  | [], _ => some []
  | s :: l, p => if okV s (pv xs s p) then (decS xs l (p + wid s)).map (pv xs s p :: ·) else none
def widS (l : List Nat) : Nat := (l.map wid).sum
theorem widS_cons (s : Nat) (l : List Nat) : widS (s :: l) = wid s + widS l := rfl
theorem manyN_eq (l : List Nat) : manyN l = 1 + widS l := by
  unfold manyN
  have : l.length + l.count 68 = widS l := by
    induction l with
    | nil => rfl
    | cons s l ih =>
      rw [widS_cons, List.length_cons, List.count_cons, ← ih]
      unfold wid
      by_cases h : s = 68
      · simp [h]; omega
      · simp [h]; omega
  omega
theorem in_body {tp : Bool} {xs : List Int} {s p : Nat} {acc : List PyData} {s1 s2 s3 s4 x8 : Option OV} (hr : Run xs) (hs : SgOk s) (hp : p + wid s ≤ xs.length) (ha : acc.length ≤ 1000) :
    ∃ v : Int, v = pv xs s p ∧ lb_sense_in_1 K c [some (.d (sq tp xs)), s1, s2, s3, s4, some (.lst (acc.map .d)), some (.d (.int (p : Int))), some (.d (sg s)), x8] =
      if okV s v then some (.nx, [some (.d (sq tp xs)), s1, s2, s3, s4, some (.lst ((acc ++ [PyData.int v]).map .d)), some (.d (.int ((p + wid s : Nat) : Int))), some (.d (sg s)), some (.d (.int v))])
      else some (.ret (.d .none), [some (.d (sq tp xs)), s1, s2, s3, s4, some (.lst (acc.map .d)), some (.d (.int (p : Int))), some (.d (sg s)), some (.d (.int v))]) := by
  refine ⟨_, rfl, ?_⟩
  have hw1 : 1 ≤ wid s := by unfold wid; split <;> omega
  have i1 := oIx_sq (tp := tp) (xs := xs) (a := p) (by omega)
  obtain ⟨q1, q2, q3⟩ := sg_eq hs
  obtain ⟨l1, l2⟩ := sg_low hs
  have hc := hr.getD p
  have cm : cMul (xs.getD p 0) 64 = true := cm2 (by decide) (by decide)
  have hb : acc.length < 16777216 := by omega
  generalize hx1 : xs.getD p 0 = c1 at i1 hc cm
  by_cases h68 : s = 68
  · subst h68
    have i2 := oIx_sq1 (tp := tp) (xs := xs) (a := p) (by have : wid 68 = 2 := rfl; omega)
    have ev : pv xs 68 p = (c1 * 64 + xs.getD (p + 1) 0 + 2048) % 4096 - 2048 := by unfold pv; rw [hx1]; rfl
    generalize xs.getD (p + 1) 0 = c2 at i2 ev
    rw [ev]
    have ew : ((p + wid 68 : Nat) : Int) = (p : Int) + 2 := rfl
    rw [ew]
    generalize hv : (c1 * 64 + c2 + 2048) % 4096 - 2048 = v
    by_cases g1 : lowS 68 ≤ v
    · by_cases g2 : v < endS 68 <;> simp [lb_sense_in_1, i1, i2, q1, q2, q3, l1, l2, cm, hv, okV, g1, g2, hb, sizeLine_eq]
    · simp [lb_sense_in_1, i1, i2, q1, q2, q3, l1, l2, cm, hv, okV, g1, hb, sizeLine_eq]
  · have ew : ((p + wid s : Nat) : Int) = (p : Int) + 1 := by unfold wid; rw [if_neg h68]; rfl
    rw [ew]
    by_cases h100 : s = 100
    · subst h100
      have ev : pv xs 100 p = (c1 + 32) % 64 - 32 := by unfold pv; rw [hx1]; rfl
      rw [ev]
      generalize hv : (c1 + 32) % 64 - 32 = v
      by_cases g1 : lowS 100 ≤ v
      · by_cases g2 : v < endS 100 <;> simp [lb_sense_in_1, i1, q1, q2, q3, l1, l2, hv, okV, g1, g2, hb, sizeLine_eq]
      · simp [lb_sense_in_1, i1, q1, q2, q3, l1, l2, hv, okV, g1, hb, sizeLine_eq]
    · by_cases h76 : s = 76
      · subst h76
        by_cases h0 : c1 = 0
        · subst h0
          have ev : pv xs 76 p = 64 := by unfold pv; rw [hx1]; rfl
          rw [ev]
          have g1 : lowS 76 ≤ 64 := by decide
          have g2 : (64 : Int) < endS 76 := by decide
          simp [lb_sense_in_1, i1, q1, q2, q3, l1, l2, okV, g1, g2, hb, sizeLine_eq]
        · have ev : pv xs 76 p = c1 := by unfold pv partV; rw [hx1]; simp [h0]
          rw [ev]
          by_cases g1 : lowS 76 ≤ c1
          · by_cases g2 : c1 < endS 76 <;> simp [lb_sense_in_1, i1, q1, q2, q3, l1, l2, h0, okV, g1, g2, hb, sizeLine_eq]
          · simp [lb_sense_in_1, i1, q1, q2, q3, l1, l2, h0, okV, g1, hb, sizeLine_eq]
      · have ev : pv xs s p = c1 := by unfold pv partV; rw [hx1, if_neg h68, if_neg h100, if_neg (by simp [h76])]
        rw [ev]
        by_cases g1 : lowS s ≤ c1
        · by_cases g2 : c1 < endS s <;> simp [lb_sense_in_1, i1, q1, q2, q3, l1, l2, h68, h100, h76, okV, g1, g2, hb, sizeLine_eq]
        · simp [lb_sense_in_1, i1, q1, q2, q3, l1, l2, h68, h100, h76, okV, g1, hb, sizeLine_eq]
theorem in_loop {tp : Bool} {xs : List Int} (hr : Run xs) {s1 s2 s3 s4 : Option OV} : ∀ {l : List Nat} {p : Nat} {acc : List PyData} {x7 x8 : Option OV}, (∀ s ∈ l, SgOk s) → p + widS l ≤ xs.length → acc.length + l.length ≤ 1000 →
    ∃ y5 y6 y7 y8, forL (gN 7) (lb_sense_in_1 K c) (l.map sg) [some (.d (sq tp xs)), s1, s2, s3, s4, some (.lst (acc.map .d)), some (.d (.int (p : Int))), x7, x8] =
      some (match decS xs l p with
        | some _ => .nx
        | none => .ret (.d .none), [some (.d (sq tp xs)), s1, s2, s3, s4, y5, y6, y7, y8]) ∧ ∀ vs, decS xs l p = some vs → y5 = some (.lst ((acc ++ iD vs).map .d))
  | [], p, acc, x7, x8, _, _, _ => ⟨_, _, _, _, rfl, fun vs e => by cases e; simp [iD]⟩
  | s :: l, p, acc, x7, x8, hl, hp, ha => by
    rw [widS_cons] at hp
    rw [List.length_cons] at ha
    obtain ⟨v, hv, e⟩ := in_body (K := K) (c := c) (tp := tp) (acc := acc) (s1 := s1) (s2 := s2) (s3 := s3) (s4 := s4) (x8 := x8) hr (hl s List.mem_cons_self) (p := p) (by omega) (by omega)
    have eg : gN 7 (sg s) [some (.d (sq tp xs)), s1, s2, s3, s4, some (.lst (acc.map .d)), some (.d (.int (p : Int))), x7, x8] = some [some (.d (sq tp xs)), s1, s2, s3, s4, some (.lst (acc.map .d)), some (.d (.int (p : Int))), some (.d (sg s)), x8] := by simp
    have ed : decS xs (s :: l) p = if okV s v then (decS xs l (p + wid s)).map (v :: ·) else none := by rw [hv]; rfl
    cases hq : okV s v with
    | false =>
      rw [hq] at e ed
      refine ⟨some (.lst (acc.map .d)), some (.d (.int (p : Int))), some (.d (sg s)), some (.d (.int v)), ?_, fun vs h => ?_⟩
      · rw [List.map_cons, forL_ret eg e, ed]; rfl
      · rw [ed] at h; cases h
    | true =>
      rw [hq] at e ed
      obtain ⟨y5, y6, y7, y8, e2, e3⟩ := in_loop hr (l := l) (p := p + wid s) (acc := acc ++ [.int v]) (x7 := some (.d (sg s))) (x8 := some (.d (.int v))) (fun s' h' => hl s' (List.mem_cons_of_mem _ h')) (by omega) (by rw [List.length_append]; simp; omega)
      refine ⟨y5, y6, y7, y8, ?_, fun vs h => ?_⟩
      · rw [List.map_cons, forL_step eg e, e2, ed]
        cases decS xs l (p + wid s) <;> rfl
      · rw [ed] at h
        cases hd : decS xs l (p + wid s) with
        | none => rw [hd] at h; cases h
        | some ws =>
          rw [hd] at h
          cases h
          rw [e3 ws hd, List.append_assoc]; rfl
theorem lw_body {tp : Bool} {xs : List Int} {s p : Nat} {acc : List PyData} {s1 s2 s3 s4 x8 x9 x10 : Option OV} (hr : Run xs) (hs : SgOk s) (hk : s ≠ 107) (hp : p + wid s ≤ xs.length) (ha : acc.length ≤ 1000) :
    ∃ (v : Int) (y6 : Option OV), v = pv xs s p ∧ lb_law_sense_1 K c [some (.d (sq tp xs)), s1, s2, s3, s4, some (.lst (acc.map .d)), some (.d (.int (p : Int))), some (.d (sg s)), x8, x9, x10] =
      if okV s v then some (.nx, [some (.d (sq tp xs)), s1, s2, s3, s4, some (.lst ((acc ++ [PyData.int v]).map .d)), some (.d (.int ((p + wid s : Nat) : Int))), some (.d (sg s)), some (.d (.int v)), some (.d (.int (lowS s))), some (.d (.int (endS s)))])
      else some (.ret (.d .none), [some (.d (sq tp xs)), s1, s2, s3, s4, some (.lst (acc.map .d)), y6, some (.d (sg s)), some (.d (.int v)), some (.d (.int (lowS s))), some (.d (.int (endS s)))]) := by
  have hw1 : 1 ≤ wid s := by unfold wid; split <;> omega
  have i1 := oIx_sq (tp := tp) (xs := xs) (a := p) (by omega)
  obtain ⟨q1, q2, q3⟩ := sg_eq hs
  have sp := span_ok (K := K) (c := c) hs hk
  have hc := hr.getD p
  have hc2 := hr.getD (p + 1)
  have cm : cMul (xs.getD p 0) 64 = true := cm2 (by decide) (by decide)
  have hb : acc.length < 16777216 := by omega
  generalize hx1 : xs.getD p 0 = c1 at i1 hc cm
  by_cases h68 : s = 68
  · subst h68
    have i2 := oIx_sq1 (tp := tp) (xs := xs) (a := p) (by have : wid 68 = 2 := rfl; omega)
    have ev : pv xs 68 p = (c1 * 64 + xs.getD (p + 1) 0 + 2048) % 4096 - 2048 := by unfold pv; rw [hx1]; rfl
    generalize xs.getD (p + 1) 0 = c2 at i2 ev hc2
    refine ⟨_, some (.d (.int ((p : Int) + 1))), rfl, ?_⟩
    rw [ev]
    have ew : ((p + wid 68 : Nat) : Int) = (p : Int) + 1 + 1 := rfl
    rw [ew]
    generalize hv : (c1 * 64 + c2 + 2048) % 4096 - 2048 = v
    by_cases hbig : 2047 < c1 * 64 + c2
    · have hv2 : c1 * 64 + c2 - 4096 = v := by omega
      by_cases g1 : lowS 68 ≤ v
      · by_cases g2 : v < endS 68 <;> simp [lb_law_sense_1, i1, i2, q1, q2, q3, sp, cm, hbig, hv2, okV, g1, g2, hb, sizeLine_eq, putLs]
      · simp [lb_law_sense_1, i1, i2, q1, q2, q3, sp, cm, hbig, hv2, okV, g1, hb, sizeLine_eq, putLs]
    · have hv2 : c1 * 64 + c2 = v := by omega
      have hbig : ¬ 2047 < v := by omega
      by_cases g1 : lowS 68 ≤ v
      · by_cases g2 : v < endS 68 <;> simp [lb_law_sense_1, i1, i2, q1, q2, q3, sp, cm, hbig, hv2, okV, g1, g2, hb, sizeLine_eq, putLs]
      · simp [lb_law_sense_1, i1, i2, q1, q2, q3, sp, cm, hbig, hv2, okV, g1, hb, sizeLine_eq, putLs]
  · have ew : ((p + wid s : Nat) : Int) = (p : Int) + 1 := by unfold wid; rw [if_neg h68]; rfl
    refine ⟨_, some (.d (.int (p : Int))), rfl, ?_⟩
    rw [ew]
    by_cases h100 : s = 100
    · subst h100
      have ev : pv xs 100 p = (c1 + 32) % 64 - 32 := by unfold pv; rw [hx1]; rfl
      rw [ev]
      generalize hv : (c1 + 32) % 64 - 32 = v
      by_cases hbig : 31 < c1
      · have hv2 : c1 - 64 = v := by omega
        by_cases g1 : lowS 100 ≤ v
        · by_cases g2 : v < endS 100 <;> simp [lb_law_sense_1, i1, q1, q2, q3, sp, hbig, hv2, okV, g1, g2, hb, sizeLine_eq]
        · simp [lb_law_sense_1, i1, q1, q2, q3, sp, hbig, hv2, okV, g1, hb, sizeLine_eq]
      · have hv2 : c1 = v := by omega
        subst hv2
        by_cases g1 : lowS 100 ≤ c1
        · by_cases g2 : c1 < endS 100 <;> simp [lb_law_sense_1, i1, q1, q2, q3, sp, hbig, okV, g1, g2, hb, sizeLine_eq]
        · simp [lb_law_sense_1, i1, q1, q2, q3, sp, hbig, okV, g1, hb, sizeLine_eq]
    · by_cases h76 : s = 76
      · subst h76
        by_cases h0 : c1 = 0
        · subst h0
          have ev : pv xs 76 p = 64 := by unfold pv; rw [hx1]; rfl
          rw [ev]
          have g1 : lowS 76 ≤ 64 := by decide
          have g2 : (64 : Int) < endS 76 := by decide
          simp [lb_law_sense_1, i1, q1, q2, q3, sp, okV, g1, g2, hb, sizeLine_eq]
        · have ev : pv xs 76 p = c1 := by unfold pv partV; rw [hx1]; simp [h0]
          rw [ev]
          by_cases g1 : lowS 76 ≤ c1
          · by_cases g2 : c1 < endS 76 <;> simp [lb_law_sense_1, i1, q1, q2, q3, sp, h0, okV, g1, g2, hb, sizeLine_eq]
          · simp [lb_law_sense_1, i1, q1, q2, q3, sp, h0, okV, g1, hb, sizeLine_eq]
      · have ev : pv xs s p = c1 := by unfold pv partV; rw [hx1, if_neg h68, if_neg h100, if_neg (by simp [h76])]
        rw [ev]
        by_cases g1 : lowS s ≤ c1
        · by_cases g2 : c1 < endS s <;> simp [lb_law_sense_1, i1, q1, q2, q3, sp, h68, h100, h76, okV, g1, g2, hb, sizeLine_eq]
        · simp [lb_law_sense_1, i1, q1, q2, q3, sp, h68, h100, h76, okV, g1, hb, sizeLine_eq]
theorem lw_loop {tp : Bool} {xs : List Int} (hr : Run xs) {s1 s2 s3 s4 : Option OV} : ∀ {l : List Nat} {p : Nat} {acc : List PyData} {x7 x8 x9 x10 : Option OV}, (∀ s ∈ l, SgOk s ∧ s ≠ 107) → p + widS l ≤ xs.length → acc.length + l.length ≤ 1000 →
    ∃ y5 y6 y7 y8 y9 y10, forL (gN 7) (lb_law_sense_1 K c) (l.map sg) [some (.d (sq tp xs)), s1, s2, s3, s4, some (.lst (acc.map .d)), some (.d (.int (p : Int))), x7, x8, x9, x10] =
      some (match decS xs l p with
        | some _ => .nx
        | none => .ret (.d .none), [some (.d (sq tp xs)), s1, s2, s3, s4, y5, y6, y7, y8, y9, y10]) ∧ ∀ vs, decS xs l p = some vs → y5 = some (.lst ((acc ++ iD vs).map .d))
  | [], p, acc, x7, x8, x9, x10, _, _, _ => ⟨_, _, _, _, _, _, rfl, fun vs e => by cases e; simp [iD]⟩
  | s :: l, p, acc, x7, x8, x9, x10, hl, hp, ha => by
    rw [widS_cons] at hp
    rw [List.length_cons] at ha
    obtain ⟨v, y6, hv, e⟩ := lw_body (K := K) (c := c) (tp := tp) (acc := acc) (s1 := s1) (s2 := s2) (s3 := s3) (s4 := s4) (x8 := x8) (x9 := x9) (x10 := x10) hr (hl s List.mem_cons_self).1 (hl s List.mem_cons_self).2 (p := p) (by omega) (by omega)
    have eg : gN 7 (sg s) [some (.d (sq tp xs)), s1, s2, s3, s4, some (.lst (acc.map .d)), some (.d (.int (p : Int))), x7, x8, x9, x10] = some [some (.d (sq tp xs)), s1, s2, s3, s4, some (.lst (acc.map .d)), some (.d (.int (p : Int))), some (.d (sg s)), x8, x9, x10] := by simp
    have ed : decS xs (s :: l) p = if okV s v then (decS xs l (p + wid s)).map (v :: ·) else none := by rw [hv]; rfl
    cases hq : okV s v with
    | false =>
      rw [hq] at e ed
      refine ⟨some (.lst (acc.map .d)), y6, some (.d (sg s)), some (.d (.int v)), some (.d (.int (lowS s))), some (.d (.int (endS s))), ?_, fun vs h => ?_⟩
      · rw [List.map_cons, forL_ret eg e, ed]; rfl
      · rw [ed] at h; cases h
    | true =>
      rw [hq] at e ed
      obtain ⟨y5, y6, y7, y8, y9, y10, e2, e3⟩ := lw_loop hr (l := l) (p := p + wid s) (acc := acc ++ [PyData.int v]) (x7 := some (.d (sg s))) (x8 := some (.d (.int v))) (x9 := some (.d (.int (lowS s)))) (x10 := some (.d (.int (endS s)))) (fun s' h' => hl s' (List.mem_cons_of_mem _ h')) (by omega) (by rw [List.length_append]; simp; omega)
      refine ⟨y5, y6, y7, y8, y9, y10, ?_, fun vs h => ?_⟩
      · rw [List.map_cons, forL_step eg e, e2, ed]
        cases decS xs l (p + wid s) <;> rfl
      · rw [ed] at h
        cases hd : decS xs l (p + wid s) with
        | none => rw [hd] at h; cases h
        | some ws =>
          rw [hd] at h
          cases h
          rw [e3 ws hd, List.append_assoc]; rfl
def rowA (xs : List Int) (a : Nat) (r : Row) : PyData := match decS xs (sgs r) (a + 1) with
  | some vs => .tuple [.tuple (.str r.2.1 :: iD vs), .int (manyN (sgs r))]
  | none => .none
def senseA (rows : List Row) (xs : List Int) (a : Nat) : PyData := match rows.find? (fun r => decide (r.1 = xs.getD a 0)) with
  | some r => if a + manyN (sgs r) ≤ xs.length then rowA xs a r else .none
  | none => .none
def lawA : List Row → List Int → Nat → Option PyData
  | [], _, _ => none
  | r :: t, xs, a => if decide (r.1 = xs.getD a 0) && decide (a + manyN (sgs r) ≤ xs.length) then some (rowA xs a r) else lawA t xs a
theorem lawA_none {xs : List Int} {a : Nat} : ∀ {rows : List Row}, xs.getD a 0 ∉ rows.map (·.1) → lawA rows xs a = none
  | [], _ => rfl
  | r :: t, h => by
    have h1 : ¬ r.1 = xs.getD a 0 := fun z => h (by rw [← z]; exact List.mem_cons_self)
    have h2 := lawA_none (rows := t) (fun z => h (List.mem_cons_of_mem _ z))
    simp only [lawA, decide_eq_false h1, Bool.false_and, Bool.false_eq_true, if_false]
    exact h2
theorem lawA_eq {xs : List Int} {a : Nat} : ∀ {rows : List Row}, (rows.map (·.1)).Nodup → (lawA rows xs a).getD .none = senseA rows xs a
  | [], _ => rfl
  | r :: t, h => by
    rw [List.map_cons] at h
    obtain ⟨h1, h2⟩ := List.nodup_cons.mp h
    unfold senseA
    rw [List.find?_cons]
    by_cases e : r.1 = xs.getD a 0
    · rw [decide_eq_true e]
      simp only [lawA, decide_eq_true e, Bool.true_and]
      by_cases e2 : a + manyN (sgs r) ≤ xs.length
      · simp [e2]
      · simp only [e2, decide_false, Bool.false_eq_true, if_false]
        rw [lawA_none (by rw [← e]; exact h1)]
        rfl
    · rw [decide_eq_false e]
      simp only [lawA, decide_eq_false e, Bool.false_and, Bool.false_eq_true, if_false]
      exact lawA_eq h2
theorem rowsL_nodup : (rowsL.map (·.1)).Nodup := by decide +kernel
theorem decS_kc (xs : List Int) : ∀ (l : List Nat) (p : Nat), decS xs (l.map kc) p = decS xs l p
  | [], _ => rfl
  | s :: l, p => by
    obtain ⟨h1, h2, h3⟩ := kc_low s
    have e1 : pv xs (kc s) p = pv xs s p := by
      unfold pv partV kc
      by_cases h : s = 107
      · subst h; rfl
      · rw [if_neg h]
    have e2 : okV (kc s) (pv xs s p) = okV s (pv xs s p) := by unfold okV; rw [h1, h2]
    have e3 : wid (kc s) = wid s := by
      unfold wid
      by_cases h : s = 68
      · rw [if_pos (h3.mpr h), if_pos h]
      · rw [if_neg (fun z => h (h3.mp z)), if_neg h]
    show (if okV (kc s) (pv xs (kc s) p) then (decS xs (l.map kc) (p + wid (kc s))).map (pv xs (kc s) p :: ·) else none) = _
    rw [e1, e2, e3, decS_kc xs l]
    rfl
theorem senseA_kc (xs : List Int) (a : Nat) : senseA rowsL xs a = senseA rowsP xs a := by
  unfold senseA rowsL
  rw [List.find?_map]
  show (match (rowsP.find? fun r => decide (r.1 = xs.getD a 0)).map _ with
    | some r => if a + manyN (sgs r) ≤ xs.length then rowA xs a r else PyData.none
    | none => .none) = _
  cases rowsP.find? fun r => decide (r.1 = xs.getD a 0) with
  | none => rfl
  | some r =>
    show (if a + manyN (sgs (r.1, r.2.1, kcS r.2.2)) ≤ xs.length then rowA xs a (r.1, r.2.1, kcS r.2.2) else PyData.none) = if a + manyN (sgs r) ≤ xs.length then rowA xs a r else .none
    have e : rowA xs a (r.1, r.2.1, kcS r.2.2) = rowA xs a r := by
      unfold rowA
      rw [sgs_kc, decS_kc, manyN_kc]
    rw [e, sgs_kc, manyN_kc]
theorem tabP_eq : tb_CODES = rowsP.map fun r => (r.1, PyData.tuple [.str r.2.1, .str r.2.2]) := rfl
theorem look_P (k : Int) : lookI tb_CODES k = (rowsP.find? fun r => decide (r.1 = k)).map fun r => .tuple [.str r.2.1, .str r.2.2] := by
  unfold lookI
  rw [tabP_eq, List.find?_map, Option.map_map]
  rfl
theorem sense_in_ok {tp : Bool} {xs : List Int} {a : Nat} (hr : Run xs) (ha : a < xs.length) (hl : xs.length ≤ 1000) : g_sense_in K c [.d (sq tp xs), .d (.int (a : Int))] = some (.ok (.d (senseA rowsP xs a)), [.d (sq tp xs), .d (.int (a : Int))]) := by
  have i1 := oIx_sq (tp := tp) ha
  have lk := look_P (xs.getD a 0)
  have cin : oCin tb_CODES true (.int (xs.getD a 0)) = okB (!(lookI tb_CODES (xs.getD a 0)).isSome) := rfl
  have cix : oCix tb_CODES (.int (xs.getD a 0)) = (lookI tb_CODES (xs.getD a 0)).map .d := rfl
  rw [lk] at cin cix
  unfold senseA
  cases hf : rowsP.find? fun r => decide (r.1 = xs.getD a 0) with
  | none =>
    rw [hf] at cin cix
    simp only [Option.map_none, Option.isSome_none, Bool.not_false, okB_e] at cin cix
    generalize xs.getD a 0 = v at *
    simp [g_sense_in, bd_sense_in, runF, runF.lentF, runF.lentL, i1, cin]
  | some r =>
    rw [hf] at cin cix
    simp only [Option.map_some, Option.isSome_some, Bool.not_true, okB_e] at cin cix
    have hro := rowsP_ok r (List.mem_of_find?_eq_some hf)
    have cf := cells_for_ok (K := K) (c := c) hro
    have h6 := hro.len
    generalize xs.getD a 0 = v at *
    by_cases hm : a + manyN (sgs r) ≤ xs.length
    · have hm2 : ¬ ((xs.length : Int) < (a : Int) + (manyN (sgs r) : Int)) := by omega
      have e4 : strOf (.d (.str r.2.2)) = some ((sgs r).map sg) := rfl
      obtain ⟨y5, y6, y7, y8, e1, e2⟩ := in_loop (K := K) (c := c) (tp := tp) hr (s1 := some (.d (.int (a : Int)))) (s2 := some (.d (.str r.2.1))) (s3 := some (.d (.str r.2.2))) (s4 := some (.d (.int (manyN (sgs r) : Int)))) (l := sgs r) (p := a + 1) (acc := [.str r.2.1]) (x7 := none) (x8 := none) hro.sg (by rw [manyN_eq] at hm; omega) (by simp; omega)
      have e5 : ((a + 1 : Nat) : Int) = (a : Int) + 1 := rfl
      rw [e5] at e1
      simp only [hm, if_true]
      unfold rowA
      cases hd : decS xs (sgs r) (a + 1) with
      | none =>
        rw [hd] at e1
        simp at e1
        simp [g_sense_in, bd_sense_in, runF, runF.lentF, runF.lentL, i1, cin, cix, cf, hm2, putLs, sizeLine_eq, e4, e1]
      | some vs =>
        rw [hd] at e1
        rw [e2 vs hd] at e1
        dsimp only
        generalize iD vs = z at e1 ⊢
        simp at e1
        simp [g_sense_in, bd_sense_in, runF, runF.lentF, runF.lentL, i1, cin, cix, cf, hm2, putLs, sizeLine_eq, e4, e1]
    · have hm2 : ((xs.length : Int) < (a : Int) + (manyN (sgs r) : Int)) := by omega
      simp only [hm, if_false]
      simp [g_sense_in, bd_sense_in, runF, runF.lentF, runF.lentL, i1, cin, cix, cf, hm2, putLs, sizeLine_eq]
theorem lw2_body {tp : Bool} {xs : List Int} {a : Nat} {r : Row} (hr : Run xs) (ha : a < xs.length) (hl : xs.length ≤ 1000) (hro : RowOk r) (hk : ∀ s ∈ sgs r, s ≠ 107) {x5 x6 x7 x8 x9 x10 : Option OV} :
    ∃ y5 y6 y7 y8 y9 y10, lb_law_sense_2 K c [some (.d (sq tp xs)), some (.d (.int (a : Int))), some (.d (.int r.1)), some (.d (.str r.2.1)), some (.d (.str r.2.2)), x5, x6, x7, x8, x9, x10] =
      some (if decide (r.1 = xs.getD a 0) && decide (a + manyN (sgs r) ≤ xs.length) then .ret (.d (rowA xs a r)) else .nx, [some (.d (sq tp xs)), some (.d (.int (a : Int))), some (.d (.int r.1)), some (.d (.str r.2.1)), some (.d (.str r.2.2)), y5, y6, y7, y8, y9, y10]) := by
  have i1 := oIx_sq (tp := tp) ha
  have lm := law_many_ok (K := K) (c := c) hro
  have h6 := hro.len
  unfold lb_law_sense_2
  have cond : (andT (asB (bin (rdV 2) (toV (bin (rdV 0) (rdV 1) oIx)) oEq)) (asB (bin (toV (bin (rdV 1) (toV (callF 1 (g_law_many K c) (argsCons (rdV 4) argsNil))) (oAdd false))) (toV (callN (argsCons (rdV 0) argsNil) oLen)) oLe))) [some (.d (sq tp xs)), some (.d (.int (a : Int))), some (.d (.int r.1)), some (.d (.str r.2.1)), some (.d (.str r.2.2)), x5, x6, x7, x8, x9, x10] =
      some (.ok (decide (r.1 = xs.getD a 0) && decide (a + manyN (sgs r) ≤ xs.length)), [some (.d (sq tp xs)), some (.d (.int (a : Int))), some (.d (.int r.1)), some (.d (.str r.2.1)), some (.d (.str r.2.2)), x5, x6, x7, x8, x9, x10]) := by
    generalize xs.getD a 0 = v at *
    refine and_all ?_ ?_
    · simp [i1]
    · simp [lm]
      constructor <;> omega
  rw [if_of cond]
  cases hb : (decide (r.1 = xs.getD a 0) && decide (a + manyN (sgs r) ≤ xs.length)) with
  | false => exact ⟨x5, x6, x7, x8, x9, x10, rfl⟩
  | true =>
    rw [Bool.and_eq_true, decide_eq_true_eq, decide_eq_true_eq] at hb
    have hm := hb.2
    simp only [if_true]
    have e4 : strOf (.d (.str r.2.2)) = some ((sgs r).map sg) := rfl
    obtain ⟨y5, y6, y7, y8, y9, y10, e1, e2⟩ := lw_loop (K := K) (c := c) (tp := tp) hr (s1 := some (.d (.int (a : Int)))) (s2 := some (.d (.int r.1))) (s3 := some (.d (.str r.2.1))) (s4 := some (.d (.str r.2.2))) (l := sgs r) (p := a + 1) (acc := []) (x7 := x7) (x8 := x8) (x9 := x9) (x10 := x10) (fun s h => ⟨hro.sg s h, hk s h⟩) (by rw [manyN_eq] at hm; omega) (by simp; omega)
    have e5 : ((a + 1 : Nat) : Int) = (a : Int) + 1 := rfl
    rw [e5] at e1
    unfold rowA
    rw [seq_nx (S1 := [some (.d (sq tp xs)), some (.d (.int (a : Int))), some (.d (.int r.1)), some (.d (.str r.2.1)), some (.d (.str r.2.2)), some (.lst []), some (.d (.int ((a : Int) + 1))), x7, x8, x9, x10]) (by simp [putLs, sizeLine_eq])]
    cases hd : decS xs (sgs r) (a + 1) with
    | none =>
      rw [hd] at e1
      simp at e1
      refine ⟨y5, y6, y7, y8, y9, y10, ?_⟩
      rw [seq_ret (o := .d .none)]
      rw [for_of (S1 := [some (.d (sq tp xs)), some (.d (.int (a : Int))), some (.d (.int r.1)), some (.d (.str r.2.1)), some (.d (.str r.2.2)), some (.lst []), some (.d (.int ((a : Int) + 1))), x7, x8, x9, x10]) (ds := (sgs r).map sg) (by simp [e4])]
      exact e1
    | some vs =>
      rw [hd] at e1
      rw [e2 vs hd] at e1
      have hvl : (iD vs).length ≤ 1000 := by
        have : ∀ (l : List Nat) (p : Nat) (ws : List Int), decS xs l p = some ws → ws.length = l.length := fun l => by
          induction l with
          | nil => intro p ws h; cases h; rfl
          | cons s l ih =>
            intro p ws h
            unfold decS at h
            split at h
            · cases h2 : decS xs l (p + wid s) with
              | none => rw [h2] at h; cases h
              | some us => rw [h2] at h; cases h; simp [ih _ _ h2]
            · cases h
        rw [iD_len, this _ _ _ hd]; omega
      simp at e1
      refine ⟨some (.lst ((iD vs).map .d)), y6, y7, y8, y9, y10, ?_⟩
      dsimp only
      generalize iD vs = z at e1 hvl ⊢
      rw [seq_nx (S1 := [some (.d (sq tp xs)), some (.d (.int (a : Int))), some (.d (.int r.1)), some (.d (.str r.2.1)), some (.d (.str r.2.2)), some (.lst (z.map .d)), y6, y7, y8, y9, y10])]
      · have hz : z.length + 1 ≤ 16777216 := by omega
        have hz2 : 1 + z.length ≤ 16777216 := by omega
        simp [sizeLine_eq, hz, hz2, lm]
      · rw [for_of (S1 := [some (.d (sq tp xs)), some (.d (.int (a : Int))), some (.d (.int r.1)), some (.d (.str r.2.1)), some (.d (.str r.2.2)), some (.lst []), some (.d (.int ((a : Int) + 1))), x7, x8, x9, x10]) (ds := (sgs r).map sg) (by simp [e4])]
        exact e1
theorem lw2_loop {tp : Bool} {xs : List Int} {a : Nat} (hr : Run xs) (ha : a < xs.length) (hl : xs.length ≤ 1000) : ∀ {rows : List Row} {x2 x3 x4 x5 x6 x7 x8 x9 x10 : Option OV}, (∀ r ∈ rows, RowOk r ∧ ∀ s ∈ sgs r, s ≠ 107) →
    ∃ y2 y3 y4 y5 y6 y7 y8 y9 y10, forL (gTupD 3 (gConsD (gN 2) (gConsD (gN 3) (gConsD (gN 4) gNilD)))) (lb_law_sense_2 K c) (rows.map itL) [some (.d (sq tp xs)), some (.d (.int (a : Int))), x2, x3, x4, x5, x6, x7, x8, x9, x10] =
      some (match lawA rows xs a with
        | some x => .ret (.d x)
        | none => .nx, [some (.d (sq tp xs)), some (.d (.int (a : Int))), y2, y3, y4, y5, y6, y7, y8, y9, y10])
  | [], x2, x3, x4, x5, x6, x7, x8, x9, x10, _ => ⟨x2, x3, x4, x5, x6, x7, x8, x9, x10, rfl⟩
  | r :: rows, x2, x3, x4, x5, x6, x7, x8, x9, x10, hro => by
    obtain ⟨y5, y6, y7, y8, y9, y10, e⟩ := lw2_body (K := K) (c := c) (tp := tp) hr ha hl (hro r List.mem_cons_self).1 (hro r List.mem_cons_self).2 (x5 := x5) (x6 := x6) (x7 := x7) (x8 := x8) (x9 := x9) (x10 := x10)
    have eg : (gTupD 3 (gConsD (gN 2) (gConsD (gN 3) (gConsD (gN 4) gNilD)))) (itL r) [some (.d (sq tp xs)), some (.d (.int (a : Int))), x2, x3, x4, x5, x6, x7, x8, x9, x10] = some [some (.d (sq tp xs)), some (.d (.int (a : Int))), some (.d (.int r.1)), some (.d (.str r.2.1)), some (.d (.str r.2.2)), x5, x6, x7, x8, x9, x10] := by simp [itL]
    cases hf : (decide (r.1 = xs.getD a 0) && decide (a + manyN (sgs r) ≤ xs.length)) with
    | true =>
      rw [hf] at e
      refine ⟨some (.d (.int r.1)), some (.d (.str r.2.1)), some (.d (.str r.2.2)), y5, y6, y7, y8, y9, y10, ?_⟩
      rw [List.map_cons, forL_ret eg e]
      simp only [lawA, hf, if_true]
    | false =>
      rw [hf] at e
      obtain ⟨z2, z3, z4, z5, z6, z7, z8, z9, z10, e2⟩ := lw2_loop hr ha hl (rows := rows) (x2 := some (.d (.int r.1))) (x3 := some (.d (.str r.2.1))) (x4 := some (.d (.str r.2.2))) (x5 := y5) (x6 := y6) (x7 := y7) (x8 := y8) (x9 := y9) (x10 := y10) (fun r' h' => hro r' (List.mem_cons_of_mem _ h'))
      refine ⟨z2, z3, z4, z5, z6, z7, z8, z9, z10, ?_⟩
      rw [List.map_cons, forL_step eg e, e2]
      simp only [lawA, hf, Bool.false_eq_true, if_false]
theorem law_sense_ok {tp : Bool} {xs : List Int} {a : Nat} (hr : Run xs) (ha : a < xs.length) (hl : xs.length ≤ 1000) : g_law_sense K c [.d (sq tp xs), .d (.int (a : Int))] = some (.ok (.d (senseA rowsL xs a)), [.d (sq tp xs), .d (.int (a : Int))]) := by
  obtain ⟨y2, y3, y4, y5, y6, y7, y8, y9, y10, e⟩ := lw2_loop (K := K) (c := c) (tp := tp) hr ha hl (rows := rowsL) (x2 := none) (x3 := none) (x4 := none) (x5 := none) (x6 := none) (x7 := none) (x8 := none) (x9 := none) (x10 := none) rowsL_k
  have e4 := codes_ok (K := K) (c := c)
  have e5 := lawA_eq (xs := xs) (a := a) rowsL_nodup
  generalize hT : rowsL.map itL = T at e e4
  rw [← e5]
  cases hd : lawA rowsL xs a with
  | none =>
    rw [hd] at e
    simp [g_law_sense, bd_law_sense, runF, runF.lentF, runF.lentL, e4, e, List.replicate]
  | some x =>
    rw [hd] at e
    simp [g_law_sense, bd_law_sense, runF, runF.lentF, runF.lentL, e4, e, List.replicate]
def cellB (x : PyData) : Bool := isNum x 0 64
def cellsB (x : PyData) : Bool := match x with
  | .tuple xs => xs.all cellB
  | .list xs => xs.all cellB
  | _ => false
theorem are_cells_ok {x : PyData} {n : Nat} (hx : Shp (n + 1) x) (hl : ∀ xs, x = .tuple xs ∨ x = .list xs → xs.length ≤ 1000) : g_are_cells K c [.d x] = some (.ok (.d (.bool (cellsB x))), [.d x]) := by
  have key : ∀ (xs : List PyData), (∀ y ∈ xs, NX y) → xs.length ≤ 1000 → compL (gN 1) tYesM (ce_are_cells_1 K c) [1] xs [] [some (.d x), none] = some (xs.map (fun y => .bool (cellB y)), [some (.d x), none]) := fun xs hy hl => by
    have := compL_map (g := gN 1) (fe := ce_are_cells_1 K c) (vs := [1]) (S := [some (.d x), none]) (ds := xs) (acc := []) (h := fun y => .bool (cellB y)) (by rw [sizeLine_eq]; simp; omega) (fun d hd => by
      have e := is_number_ok (K := K) (c := c) (hy d hd) 0 64
      refine ⟨[some (.d x), some (.d d)], [some (.d x), some (.d d)], by simp, ?_, rfl⟩
      simp [ce_are_cells_1, e, cellB])
    rw [List.nil_append] at this
    exact this
  have hb : ∀ xs : List PyData, bools (xs.map fun y => PyData.bool (cellB y)) = some (xs.map cellB) := fun xs => by
    rw [← bools_mapB, List.map_map]; rfl
  have ha : ∀ xs : List PyData, (xs.map cellB).all id = xs.all cellB := fun xs => by rw [List.all_map]; rfl
  cases x with
  | dict kvs => exact absurd rfl (hx.nx kvs)
  | tuple xs =>
    have e := key xs (fun y hy => (shp_mem_tup hx y hy).nx) (hl xs (.inl rfl))
    simp [g_are_cells, bd_are_cells, runF, runF.lentF, runF.lentL, wipeS, e, hb, okB, cellsB]
  | list xs =>
    have e := key xs (fun y hy => (shp_mem_lst hx y hy).nx) (hl xs (.inr rfl))
    simp [g_are_cells, bd_are_cells, runF, runF.lentF, runF.lentL, wipeS, e, hb, okB, cellsB]
  | _ => simp [g_are_cells, bd_are_cells, runF, runF.lentF, runF.lentL, cellsB]
theorem sq_shp (tp : Bool) (xs : List Int) : Shp 2 (sq tp xs) := by
  cases tp
  · exact shp_lst (iD_shp 1 xs)
  · exact shp_tup (iD_shp 1 xs)
theorem cellsB_sq {tp : Bool} {xs : List Int} (hr : Run xs) : cellsB (sq tp xs) = true := by
  have : (iD xs).all cellB = true := by
    rw [List.all_eq_true]
    intro y hy
    obtain ⟨i, hi, rfl⟩ := mem_iD hy
    have := hr i hi
    simp [cellB, isNum, this.1, this.2]
  cases tp <;> exact this
theorem span_pos {s : Nat} (h : SgOk s) : lowS s < endS s ∧ endS s - lowS s ≤ 4096 := by
  rcases h with rfl | rfl | rfl | rfl | rfl | rfl | rfl | rfl <;> decide
theorem made_body {b : Nat} {L : List (Key × OV)} {s : Nat} {acc : List PyData} {s1 s2 s3 x6 x7 x8 : Option OV} (hs : SgOk s) (hk : s ≠ 107) (ha : acc.length ≤ 1000) (hd : DOk (b + 2) (.dct L)) :
    ∃ (v : Int) (L' : List (Key × OV)) (y8 : Option OV), lb_law_made_1 K c [some (.dct L), s1, s2, s3, some (.lst (acc.map .d)), some (.d (sg s)), x6, x7, x8] = some (.nx, [some (.dct L'), s1, s2, s3, some (.lst ((acc ++ [PyData.int v]).map .d)), some (.d (sg s)), some (.d (.int (lowS s))), some (.d (.int (endS s))), y8]) ∧ lowS s ≤ v ∧ v < endS s ∧ DOk b (.dct L') := by
  obtain ⟨f, L1, e1, f0, f1, h1⟩ := take_L (K := K) (c := c) (b := b + 1) (m := 6) (by decide) (by decide) hd
  obtain ⟨p1, p2⟩ := span_pos hs
  obtain ⟨g, L2, e2, g0, g1, h2⟩ := take_L (K := K) (c := c) (b := b) (m := endS s - lowS s) (by omega) (by omega) h1
  have sp := span_ok (K := K) (c := c) hs hk
  have hb : acc.length < 16777216 := by omega
  by_cases hf0 : f = 0
  · subst hf0
    refine ⟨lowS s, L1, some (.d (.int 0)), ?_, by omega, p1, h1.mono (by omega)⟩
    simp [lb_law_made_1, sp, e1, hb, sizeLine_eq]
  · by_cases hf1 : f = 1
    · subst hf1
      refine ⟨endS s - 1, L1, some (.d (.int 1)), ?_, by omega, by omega, h1.mono (by omega)⟩
      simp [lb_law_made_1, sp, e1, hb, sizeLine_eq]
    · refine ⟨lowS s + g, L2, some (.d (.int f)), ?_, by omega, by omega, h2⟩
      simp [lb_law_made_1, sp, e1, e2, hb, hf0, hf1, sizeLine_eq]
theorem made_loop {b : Nat} : ∀ {l : List Nat} {L : List (Key × OV)} {acc : List PyData} {s1 s2 s3 x5 x6 x7 x8 : Option OV}, (∀ s ∈ l, SgOk s ∧ s ≠ 107) → acc.length + l.length ≤ 1000 → DOk (b + 2 * l.length) (.dct L) →
    ∃ (vs : List PyData) (L' : List (Key × OV)) (y5 y6 y7 y8 : Option OV), forL (gN 5) (lb_law_made_1 K c) (l.map sg) [some (.dct L), s1, s2, s3, some (.lst (acc.map .d)), x5, x6, x7, x8] = some (.nx, [some (.dct L'), s1, s2, s3, some (.lst ((acc ++ vs).map .d)), y5, y6, y7, y8]) ∧
      partsOk l vs = true ∧ (∀ v ∈ vs, ∃ i : Int, v = .int i) ∧ vs.length = l.length ∧ DOk b (.dct L')
  | [], L, acc, s1, s2, s3, x5, x6, x7, x8, _, _, hd => ⟨[], L, x5, x6, x7, x8, by simp [forL_nil], rfl, fun v h => (by cases h), rfl, hd.mono (by simp)⟩
  | s :: l, L, acc, s1, s2, s3, x5, x6, x7, x8, hl, ha, hd => by
    rw [List.length_cons] at ha hd
    obtain ⟨v, L1, y8, e, v0, v1, h1⟩ := made_body (K := K) (c := c) (b := b + 2 * l.length) (acc := acc) (s1 := s1) (s2 := s2) (s3 := s3) (x6 := x6) (x7 := x7) (x8 := x8) (hl s List.mem_cons_self).1 (hl s List.mem_cons_self).2 (by omega) (hd.mono (by omega))
    obtain ⟨vs, L2, z5, z6, z7, z8, e2, p1, p2, p3, h2⟩ := made_loop (l := l) (L := L1) (acc := acc ++ [PyData.int v]) (s1 := s1) (s2 := s2) (s3 := s3) (x5 := some (.d (sg s))) (x6 := some (.d (.int (lowS s)))) (x7 := some (.d (.int (endS s)))) (x8 := y8) (fun s' h' => hl s' (List.mem_cons_of_mem _ h')) (by rw [List.length_append]; simp; omega) h1
    have eg : gN 5 (sg s) [some (.dct L), s1, s2, s3, some (.lst (acc.map .d)), x5, x6, x7, x8] = some [some (.dct L), s1, s2, s3, some (.lst (acc.map .d)), some (.d (sg s)), x6, x7, x8] := by simp
    refine ⟨PyData.int v :: vs, L2, z5, z6, z7, z8, ?_, ?_, ?_, ?_, h2⟩
    · rw [List.map_cons, forL_step eg e, e2, List.append_assoc]; rfl
    · simp [partsOk, isNum, v0, v1, p1]
    · intro w hw
      rcases List.mem_cons.mp hw with rfl | hw
      · exact ⟨v, rfl⟩
      · exact p2 w hw
    · simp [p3]
theorem pcs_run (s : Nat) (v : Int) : Run (pcs s v) := by
  unfold pcs
  split
  · intro x hx
    simp only [List.mem_cons, List.not_mem_nil, or_false] at hx
    rcases hx with rfl | rfl <;> omega
  · intro x hx
    simp only [List.mem_cons, List.not_mem_nil, or_false] at hx
    subst hx; omega
theorem cellsS_run : ∀ (l : List Nat) (xs : List PyData), Run (cellsS l xs)
  | [], _ => Run.nil
  | _ :: _, [] => Run.nil
  | s :: l, x :: xs => (pcs_run s _).app (cellsS_run l xs)
theorem cellsS_len : ∀ (l : List Nat) (xs : List PyData), (cellsS l xs).length ≤ 2 * l.length
  | [], _ => Nat.zero_le _
  | _ :: _, [] => Nat.zero_le _
  | s :: l, x :: xs => by
    show (pcs s (intOf x) ++ cellsS l xs).length ≤ _
    have h1 := pcs_len s (intOf x)
    have h2 := cellsS_len l xs
    rw [List.length_append, List.length_cons]; omega
structure Made (x : PyData) (w : Str) (vs : List PyData) (cs : List Int) : Prop where
  he : x = .tuple [.tuple (.str w :: vs), .tuple (iD cs)]
  hw : PyData.strOk w = true
  hv : ∀ v ∈ vs, ∃ i : Int, v = .int i
  hl : vs.length ≤ 6
  hr : Run cs
  hn : 1 ≤ cs.length ∧ cs.length ≤ 13
  ht : w ∈ [("call" : Str), "jump", "if"] → 1 ≤ vs.length
theorem rows_t : ∀ r ∈ rowsL, r.2.1 ∈ [("call" : Str), "jump", "if"] → 1 ≤ (sgs r).length := by
  have h : rowsL.all (fun r => !(eqStrB r.2.1 "call" || eqStrB r.2.1 "jump" || eqStrB r.2.1 "if") || Nat.ble 1 (sgs r).length) = true := by decide +kernel
  intro r hr hm
  have := List.all_eq_true.mp h r hr
  rw [Bool.or_eq_true] at this
  rcases this with h1 | h1
  · exfalso
    simp only [List.mem_cons, List.not_mem_nil, or_false] at hm
    rcases hm with e | e | e <;> rw [e] at h1 <;> exact absurd h1 (by decide +kernel)
  · exact Nat.ble_eq.mp h1
theorem made_ok {b : Nat} {L : List (Key × OV)} (hd : DOk (b + 13) (.dct L)) : ∃ x w vs cs L', g_law_made K c [.dct L] = some (.ok (.d x), [.dct L']) ∧ Made x w vs cs ∧ DOk b (.dct L') := by
  have hne : rowsL.map itL ≠ [] := by decide +kernel
  have hlen : (rowsL.map itL).length = 31 := by decide +kernel
  obtain ⟨y, hy, L1, e1, h1⟩ := pick_L (K := K) (c := c) (b := b + 12) hne (by rw [hlen]; decide) hd
  obtain ⟨r, hr, rfl⟩ := List.mem_map.mp hy
  obtain ⟨hro, hk⟩ := rowsL_k r hr
  have h6 := hro.len
  have ec := codes_ok (K := K) (c := c)
  generalize hT : rowsL.map itL = T at e1 ec
  obtain ⟨vs, L2, y5, y6, y7, y8, e2, p1, p2, p3, h2⟩ := made_loop (K := K) (c := c) (b := b) (l := sgs r) (L := L1) (acc := []) (s1 := some (.d (.int r.1))) (s2 := some (.d (.str r.2.1))) (s3 := some (.d (.str r.2.2))) (x5 := none) (x6 := none) (x7 := none) (x8 := none) (fun s h => ⟨hro.sg s h, hk s h⟩) (by simp; omega) (h1.mono (by omega))
  have ecl := cells_of_l (K := K) (c := c) hro p1
  have e4 : strOf (.d (.str r.2.2)) = some ((sgs r).map sg) := rfl
  refine ⟨_, r.2.1, vs, r.1 :: cellsS (sgs r) vs, L2, ?_, ⟨rfl, hro.w, p2, by omega, ?_, ?_, fun h => by rw [p3]; exact rows_t r hr h⟩, h2⟩
  · generalize iD (r.1 :: cellsS (sgs r) vs) = q at ecl ⊢
    have hv1 : vs.length + 1 ≤ 16777216 := by omega
    have hv2 : 1 + vs.length ≤ 16777216 := by omega
    simp at e2
    simp [g_law_made, bd_law_made, runF, runF.lentF, runF.lentL, ec, e1, itL, sizeLine_eq, e4, e2, ecl, hv1, hv2]
  · exact (Run.one hro.lo.1 hro.lo.2).app (cellsS_run _ _)
  · have := cellsS_len (sgs r) vs
    rw [List.length_cons]; omega
theorem Made.shp {x : PyData} {w : Str} {vs : List PyData} {cs : List Int} (h : Made x w vs cs) : Shp 1 (.tuple (.str w :: vs)) := shp_tup (n := 0) fun y hy => by
  rcases List.mem_cons.mp hy with rfl | hy
  · exact shp_str 0 h.hw
  · obtain ⟨i, rfl⟩ := h.hv y hy
    exact shp_int 0 i
end K16

/-! parted, _law_walked, _law_is_walk -/
namespace K16
open PySem PySem.Spec PyProof.Rows L2 LamX PL
variable {K : PySem.W.Frag} {c : Ad}
theorem senseA_shp (rows : List Row) (hrow : ∀ r ∈ rows, RowOk r) (xs : List Int) (a : Nat) : Shp 3 (senseA rows xs a) := by
  unfold senseA
  cases hf : rows.find? (fun r => decide (r.1 = xs.getD a 0)) with
  | none => exact shp_none 3
  | some r =>
    simp only
    split
    · unfold rowA
      cases hd : decS xs (sgs r) (a + 1) with
      | none => exact shp_none 3
      | some vs =>
        refine shp_tup fun y hy => ?_
        simp only [List.mem_cons, List.not_mem_nil, or_false] at hy
        rcases hy with rfl | rfl
        · refine (shp_tup (n := 1) fun z hz => ?_)
          rcases List.mem_cons.mp hz with rfl | hz
          · exact shp_str 1 (hrow r (List.mem_of_find?_eq_some hf)).w
          · exact iD_shp 1 vs z hz
        · exact shp_int 2 _
    · exact shp_none 3
def flP (c : Ad) : Option Nat → Fl
  | none => .nx
  | some b => .exc (excD c.BadCode [("at", .int (b : Int))])
def flW (L : List PyData) : Option Nat → Fl
  | none => .nx
  | some b => .ret (.d (.tuple [.list L, .int (b : Int)]))
def rP (c : Ad) (L : List PyData) : Option Nat → Except PyData OV
  | none => .ok (.d (.tuple L))
  | some b => .error (excD c.BadCode [("at", .int (b : Int))])
/-- what a walk meets: the instructions, or the first place without one -/
inductive Wk (xs : List Int) : Nat → List PyData → Option Nat → Prop
  | fin {a : Nat} : xs.length ≤ a → Wk xs a [] none
  | bad {a : Nat} : a < xs.length → senseA rowsP xs a = .none → Wk xs a [] (some a)
  | step {a m : Nat} {t : PyData} {L : List PyData} {w : Option Nat} : a < xs.length → senseA rowsP xs a = .tuple [t, .int (m : Int)] → 1 ≤ m → Wk xs (a + m) L w → Wk xs a (.tuple [.int (a : Int), t, .int (m : Int)] :: L) w
theorem senseA_cases (xs : List Int) (a : Nat) : senseA rowsP xs a = .none ∨ ∃ (t : PyData) (m : Nat), senseA rowsP xs a = .tuple [t, .int (m : Int)] ∧ 1 ≤ m := by
  unfold senseA
  cases rowsP.find? (fun r => decide (r.1 = xs.getD a 0)) with
  | none => exact .inl rfl
  | some r =>
    simp only
    split
    · unfold rowA
      cases decS xs (sgs r) (a + 1) with
      | none => exact .inl rfl
      | some vs => exact .inr ⟨_, _, rfl, by unfold manyN; omega⟩
    · exact .inl rfl
theorem wk_ex (xs : List Int) : ∀ (n a : Nat), xs.length - a ≤ n → ∃ L w, Wk xs a L w
  | n, a, h => by
    by_cases ha : xs.length ≤ a
    · exact ⟨_, _, .fin ha⟩
    · have ha : a < xs.length := by omega
      rcases senseA_cases xs a with e | ⟨t, m, e, hm⟩
      · exact ⟨_, _, .bad ha e⟩
      · cases n with
        | zero => omega
        | succ n =>
          obtain ⟨L, w, h2⟩ := wk_ex xs n (a + m) (by omega)
          exact ⟨_, _, .step ha e hm h2⟩
theorem Wk.len {xs : List Int} {a : Nat} {L : List PyData} {w : Option Nat} (h : Wk xs a L w) : L.length ≤ xs.length - a := by
  induction h with
  | fin _ => simp
  | bad _ _ => simp
  | step h1 _ h3 _ ih => rw [List.length_cons]; omega
theorem Wk.shp {xs : List Int} {a : Nat} {L : List PyData} {w : Option Nat} (h : Wk xs a L w) : ∀ x ∈ L, Shp 3 x := by
  induction h with
  | fin _ => intro x hx; cases hx
  | bad _ _ => intro x hx; cases hx
  | @step a m t L w h1 h2 h3 _ ih =>
    intro x hx
    rcases List.mem_cons.mp hx with rfl | hx
    · have := senseA_shp rowsP rowsP_ok xs a
      rw [h2] at this
      have ht := shp_mem_tup this t List.mem_cons_self
      refine shp_tup fun y hy => ?_
      simp only [List.mem_cons, List.not_mem_nil, or_false] at hy
      rcases hy with rfl | rfl | rfl
      · exact shp_int 2 _
      · exact ht
      · exact shp_int 2 _
    · exact ih x hx
theorem parted_loop {tp : Bool} {xs : List Int} (hr : Run xs) (hl : xs.length ≤ 1000) {a : Nat} {L : List PyData} {w : Option Nat} (h : Wk xs a L w) : ∀ {acc : List PyData} {x3 : Option OV}, acc.length + L.length ≤ 1000 →
    ∃ (n : Nat) (y1 y2 y3 : Option OV), whileN (wt_parted_1 K c) (lb_parted_1 K c) n [some (.d (sq tp xs)), some (.lst (acc.map .d)), some (.d (.int (a : Int))), x3] = some (flP c w, [some (.d (sq tp xs)), y1, y2, y3]) ∧ (w = none → y1 = some (.lst ((acc ++ L).map .d))) := by
  induction h with
  | @fin a ha =>
    intro acc x3 hz
    refine ⟨1, some (.lst (acc.map .d)), some (.d (.int (a : Int))), x3, ?_, fun _ => by simp⟩
    have : ¬ (a : Int) < (xs.length : Int) := by omega
    exact wh_stop (by simp [wt_parted_1]; omega)
  | @bad a ha e =>
    intro acc x3 hz
    have e1 := sense_in_ok (K := K) (c := c) (tp := tp) hr ha hl
    rw [e] at e1
    refine ⟨1, some (.lst (acc.map .d)), some (.d (.int (a : Int))), some (.d .none), ?_, fun z => by cases z⟩
    refine wh_exc (S1 := [some (.d (sq tp xs)), some (.lst (acc.map .d)), some (.d (.int (a : Int))), x3]) (by simp [wt_parted_1, ha]) ?_
    simp [lb_parted_1, e1, oIsN_n, isNone, attrsD, flP]
  | @step a m t L w ha e hm _ ih =>
    intro acc x3 hz
    rw [List.length_cons] at hz
    have e1 := sense_in_ok (K := K) (c := c) (tp := tp) hr ha hl
    rw [e] at e1
    obtain ⟨n, y1, y2, y3, e2, e3⟩ := ih (acc := acc ++ [.tuple [.int (a : Int), t, .int (m : Int)]]) (x3 := some (.d (.tuple [t, .int (m : Int)]))) (by rw [List.length_append]; simp; omega)
    refine ⟨n + 1, y1, y2, y3, ?_, fun z => by rw [e3 z, List.append_assoc]; rfl⟩
    refine wh_step (S1 := [some (.d (sq tp xs)), some (.lst (acc.map .d)), some (.d (.int (a : Int))), x3]) (by simp [wt_parted_1, ha]) ?_ e2
    have hb : acc.length < 16777216 := by omega
    simp [lb_parted_1, e1, oIsN_n, isNone, sizeLine_eq, hb, at1]
theorem walked_loop {tp : Bool} {xs : List Int} (hr : Run xs) (hl : xs.length ≤ 1000) {a : Nat} {L : List PyData} {w : Option Nat} (h : Wk xs a L w) : ∀ {acc : List PyData} {x3 : Option OV}, acc.length + L.length ≤ 1000 →
    ∃ (n : Nat) (y1 y2 y3 : Option OV), whileN (wt_law_walked_1 K c) (lb_law_walked_1 K c) n [some (.d (sq tp xs)), some (.lst (acc.map .d)), some (.d (.int (a : Int))), x3] = some (flW (acc ++ L) w, [some (.d (sq tp xs)), y1, y2, y3]) ∧ (w = none → y1 = some (.lst ((acc ++ L).map .d))) := by
  induction h with
  | @fin a ha =>
    intro acc x3 hz
    refine ⟨1, some (.lst (acc.map .d)), some (.d (.int (a : Int))), x3, ?_, fun _ => by simp⟩
    exact wh_stop (by simp [wt_law_walked_1]; omega)
  | @bad a ha e =>
    intro acc x3 hz
    have e1 := law_sense_ok (K := K) (c := c) (tp := tp) hr ha hl
    rw [senseA_kc, e] at e1
    refine ⟨1, some (.d (.list acc)), some (.d (.int (a : Int))), some (.d .none), ?_, fun z => by cases z⟩
    refine wh_ret (S1 := [some (.d (sq tp xs)), some (.lst (acc.map .d)), some (.d (.int (a : Int))), x3]) (by simp [wt_law_walked_1, ha]) ?_
    simp [lb_law_walked_1, e1, oIsN_n, isNone, sizeLine_eq, flW]
  | @step a m t L w ha e hm _ ih =>
    intro acc x3 hz
    rw [List.length_cons] at hz
    have e1 := law_sense_ok (K := K) (c := c) (tp := tp) hr ha hl
    rw [senseA_kc, e] at e1
    obtain ⟨n, y1, y2, y3, e2, e3⟩ := ih (acc := acc ++ [.tuple [.int (a : Int), t, .int (m : Int)]]) (x3 := some (.d (.tuple [t, .int (m : Int)]))) (by rw [List.length_append]; simp; omega)
    refine ⟨n + 1, y1, y2, y3, ?_, fun z => by rw [e3 z, List.append_assoc]; rfl⟩
    rw [List.append_assoc] at e2
    refine wh_step (S1 := [some (.d (sq tp xs)), some (.lst (acc.map .d)), some (.d (.int (a : Int))), x3]) (by simp [wt_law_walked_1, ha]) ?_ e2
    have hb : acc.length < 16777216 := by omega
    simp [lb_law_walked_1, e1, oIsN_n, isNone, sizeLine_eq, hb, at1]
theorem cells_all {tp : Bool} {xs : List Int} (hr : Run xs) (hl : xs.length ≤ 1000) : g_are_cells K c [.d (sq tp xs)] = some (.ok (.d (.bool true)), [.d (sq tp xs)]) := by
  have e1 := are_cells_ok (K := K) (c := c) (sq_shp tp xs) (fun ys h => by
    have : ys = iD xs := by cases tp <;> rcases h with h | h <;> simp [sq] at h <;> exact h.symm
    rw [this, iD_len]; exact hl)
  rw [cellsB_sq hr] at e1
  exact e1
theorem parted_ok {tp : Bool} {xs : List Int} {L : List PyData} {w : Option Nat} (hr : Run xs) (hl : xs.length ≤ 1000) (h : Wk xs 0 L w) : g_parted K c [.d (sq tp xs)] = some (rP c L w, [.d (sq tp xs)]) := by
  have e0 := cells_all (K := K) (c := c) (tp := tp) hr hl
  obtain ⟨n, y1, y2, y3, e1, e2⟩ := parted_loop (K := K) (c := c) (tp := tp) hr hl h (acc := []) (x3 := none) (by have := h.len; simp; omega)
  have e1 := whileS_of e1
  cases w with
  | none =>
    rw [e2 rfl] at e1
    simp [flP, flW] at e1
    simp [g_parted, bd_parted, runF, runF.lentF, runF.lentL, e0, putLs, sizeLine_eq, e1, rP]
  | some b =>
    simp [flP, flW] at e1
    simp [g_parted, bd_parted, runF, runF.lentF, runF.lentL, e0, putLs, sizeLine_eq, e1, rP]
def wD (w : Option Nat) : PyData := match w with
  | none => .none
  | some b => .int (b : Int)
theorem walked_ok {tp : Bool} {xs : List Int} {L : List PyData} {w : Option Nat} (hr : Run xs) (hl : xs.length ≤ 1000) (h : Wk xs 0 L w) : g_law_walked K c [.d (sq tp xs)] = some (.ok (.d (.tuple [.list L, wD w])), [.d (sq tp xs)]) := by
  obtain ⟨n, y1, y2, y3, e1, e2⟩ := walked_loop (K := K) (c := c) (tp := tp) hr hl h (acc := []) (x3 := none) (by have := h.len; simp; omega)
  have e1 := whileS_of e1
  cases w with
  | none =>
    rw [e2 rfl] at e1
    simp [flP, flW] at e1
    simp [g_law_walked, bd_law_walked, runF, runF.lentF, runF.lentL, putLs, sizeLine_eq, e1, wD]
  | some b =>
    simp [flP, flW] at e1
    simp [g_law_walked, bd_law_walked, runF, runF.lentF, runF.lentL, putLs, sizeLine_eq, e1, wD]
structure Facts (K : PySem.W.Frag) (c : Ad) : Prop where
  m1 : PySem.W.exmOne K (.ref c.BadCells) (.ref c.LinkError) = some true
  m2 : PySem.W.exmOne K (.ref c.BadCode) (.ref c.LinkError) = some true
  k1 : PySem.W.kitOne K (.ref c.BadCells) (.ref c.BadCells) = some true
  k2 : PySem.W.kitOne K (.ref c.BadCode) (.ref c.BadCode) = some true
  t1 : PySem.W.kitOne K (.ref c.BadCells) (.type "tuple") = some false
  t2 : PySem.W.kitOne K (.ref c.BadCode) (.type "tuple") = some false
theorem exm_x {C : Addr} {fs : List (Str × PyData)} (h : PySem.W.exmOne K (.ref C) (.ref c.LinkError) = some true) : exm K c.LinkError (excD C fs) = some true := by
  unfold exm
  rw [excC_excD]
  exact h
theorem isY_x {C : Addr} {cl : Value} {b : Bool} {fs : List (Str × PyData)} (h2 : PySem.W.kitOne K (.ref C) cl = some b) (hC : C ∈ [c.BadCells, c.BadCode]) : oIsiY K [c.BadCells, c.BadCode] cl (excD C fs) = some (.d (.bool b)) := by
  unfold oIsiY
  have e1 : tyName (excD C fs) = none := rfl
  rw [e1, getX_excD]
  simp only
  rw [if_pos hC, h2]
  rfl
theorem at_x (b : Int) : oAttrD [c.BadCode] "at" (excD c.BadCode [("at", .int b)]) = some (.d (.int b)) := by
  unfold oAttrD oAttr
  rw [getX_excD]
  simp
theorem is_walk_ok (F : Facts K c) {tp : Bool} {xs : List Int} (hr : Run xs) (hl : xs.length ≤ 1000) : g_law_is_walk K c [.d (sq tp xs)] = some (.ok (.d (.bool true)), [.d (sq tp xs)]) := by
  obtain ⟨L, w, h⟩ := wk_ex xs xs.length 0 (by omega)
  have e1 := walked_ok (K := K) (c := c) (tp := tp) hr hl h
  have e2 := parted_ok (K := K) (c := c) (tp := tp) hr hl h
  cases w with
  | none =>
    simp only [wD, rP] at e1 e2
    have hs : Shp 4 (.tuple L) := shp_tup h.shp
    have e3 : oEq (.tuple L) (.tuple L) = some (.d (.bool true)) := by rw [oEq_of hs hs, hs.refl]
    simp [g_law_is_walk, bd_law_is_walk, runF, runF.lentF, runF.lentL, e1, e2, oIsN_n, isNone, e3]
  | some b =>
    simp only [wD, rP] at e1 e2
    have q1 := exm_x (fs := [("at", .int (b : Int))]) F.m2
    have q2 := isY_x (K := K) (c := c) (fs := [("at", .int (b : Int))]) F.k2 (by simp)
    have q3 := at_x (c := c) (b : Int)
    generalize excD c.BadCode [("at", .int (b : Int))] = x at *
    simp [g_law_is_walk, bd_law_is_walk, runF, runF.lentF, runF.lentL, e1, e2, oIsN_n, isNone, q1, q2, q3]
end K16

/-! readings that meet stay together -/
namespace K16
open PySem PySem.Spec PyProof.Rows L2 LamX PL
variable {K : PySem.W.Frag} {c : Ad}
theorem getD_drop (xs : List Int) (k a : Nat) : (xs.drop k).getD a 0 = xs.getD (k + a) 0 := by
  rw [List.getD_eq_getElem?_getD, List.getD_eq_getElem?_getD, List.getElem?_drop]
theorem decS_drop (xs : List Int) (k : Nat) : ∀ (l : List Nat) (p : Nat), decS (xs.drop k) l p = decS xs l (k + p)
  | [], _ => rfl
  | s :: l, p => by
    have e : pv (xs.drop k) s p = pv xs s (k + p) := by
      unfold pv
      rw [getD_drop, getD_drop]; rfl
    show (if okV s (pv (xs.drop k) s p) then (decS (xs.drop k) l (p + wid s)).map (pv (xs.drop k) s p :: ·) else none) = (if okV s (pv xs s (k + p)) then (decS xs l (k + p + wid s)).map (pv xs s (k + p) :: ·) else none)
    rw [e, decS_drop xs k l (p + wid s), Nat.add_assoc]
theorem senseA_drop (xs : List Int) (k a : Nat) (hk : k ≤ xs.length) : senseA rowsP (xs.drop k) a = senseA rowsP xs (k + a) := by
  unfold senseA
  rw [getD_drop]
  cases rowsP.find? (fun r => decide (r.1 = xs.getD (k + a) 0)) with
  | none => rfl
  | some r =>
    simp only
    have e1 : (a + manyN (sgs r) ≤ (xs.drop k).length) ↔ (k + a + manyN (sgs r) ≤ xs.length) := by rw [List.length_drop]; omega
    have e2 : rowA (xs.drop k) a r = rowA xs (k + a) r := by
      unfold rowA
      rw [decS_drop, Nat.add_assoc]
    rw [e2]
    by_cases h : a + manyN (sgs r) ≤ (xs.drop k).length
    · rw [if_pos h, if_pos (e1.mp h)]
    · rw [if_neg h, if_neg (fun z => h (e1.mpr z))]
/-- the starts of a walk that comes to the end -/
inductive St (xs : List Int) : Nat → List Nat → Prop
  | fin {a : Nat} : xs.length ≤ a → St xs a []
  | step {a m : Nat} {t : PyData} {L : List Nat} : a < xs.length → senseA rowsP xs a = .tuple [t, .int (m : Int)] → 1 ≤ m → St xs (a + m) L → St xs a (a :: L)
theorem St.uniq {xs : List Int} {a : Nat} {L : List Nat} (h : St xs a L) : ∀ {M : List Nat}, St xs a M → L = M := by
  induction h with
  | fin h =>
    intro M g
    cases g with
    | fin _ => rfl
    | step h1 _ _ _ => omega
  | step h1 h2 h3 _ ih =>
    intro M g
    cases g with
    | fin h => omega
    | step g1 g2 g3 g4 =>
      rw [h2] at g2
      cases g2
      rw [ih g4]
theorem eqv_int (i j : Int) : PyData.eqv (.int i) (.int j) = decide (i = j) := by simp [PyData.eqv, beqI]
def nD (L : List Nat) : List PyData := L.map fun n : Nat => PyData.int (n : Int)
theorem St.suffix {xs : List Int} {a s : Nat} {L : List Nat} (h : St xs a L) (hs : s ∈ L) : ∃ n, idxD (.int (s : Int)) (nD L) = some n ∧ St xs s (L.drop n) := by
  induction h with
  | fin _ => cases hs
  | @step a m t L h1 h2 h3 h4 ih =>
    by_cases e : a = s
    · subst e
      refine ⟨0, ?_, .step h1 h2 h3 h4⟩
      show (if PyData.eqv (.int (a : Int)) (.int (a : Int)) then some 0 else _) = _
      rw [eqv_int, if_pos (by simp)]
    · have hs : s ∈ L := by
        rcases List.mem_cons.mp hs with h | h
        · exact absurd h.symm e
        · exact h
      obtain ⟨n, g1, g2⟩ := ih hs
      refine ⟨n + 1, ?_, g2⟩
      show (if PyData.eqv (.int (a : Int)) (.int (s : Int)) then some 0 else (idxD (.int (s : Int)) (nD L)).map (· + 1)) = _
      rw [eqv_int, if_neg (by simp; omega), g1]; rfl
/-- the starts that the law makes of what parted tells -/
theorem starts {xs : List Int} {k : Nat} (hk : k ≤ xs.length) {a : Nat} {L : List PyData} {w : Option Nat} (h : Wk (xs.drop k) a L w) (hw : w = none) : ∃ M, St xs (k + a) M ∧ M.length = L.length ∧ ∀ (j : Nat) (d : PyData), L[j]? = some d → ∃ (p : Nat) (t m : PyData), d = .tuple [.int (p : Int), t, m] ∧ M[j]? = some (k + p) := by
  induction h with
  | fin ha => exact ⟨[], .fin (by rw [List.length_drop] at ha; omega), rfl, fun j d e => by simp at e⟩
  | bad _ _ => cases hw
  | @step a m t L w ha e hm _ ih =>
    obtain ⟨M, h1, h2, h3⟩ := ih hw
    rw [senseA_drop xs k a hk] at e
    rw [List.length_drop] at ha
    refine ⟨(k + a) :: M, .step (by omega) e hm (by rw [Nat.add_assoc]; exact h1), by simp [h2], fun j d hd => ?_⟩
    cases j with
    | zero => simp at hd; subst hd; exact ⟨a, t, _, rfl, rfl⟩
    | succ j => exact h3 j d (by simpa using hd)
theorem nD_shp (L : List Nat) : ∀ x ∈ nD L, Shp 1 x := fun x hx => by
  obtain ⟨n, _, rfl⟩ := List.mem_map.mp hx
  exact shp_int 1 _
theorem eqvAll_nD : ∀ L M : List Nat, PyData.eqvAll (nD L) (nD M) = decide (L = M)
  | [], [] => rfl
  | [], _ :: _ => rfl
  | _ :: _, [] => rfl
  | x :: L, y :: M => by
    show (PyData.eqv (.int (x : Int)) (.int (y : Int)) && PyData.eqvAll (nD L) (nD M)) = _
    rw [eqvAll_nD L M, eqv_int]
    by_cases h : x = y
    · subst h; simp
    · have : ¬ (x : Int) = (y : Int) := by omega
      simp [h, this]
theorem oNe_nD (L M : List Nat) : oNe (.list (nD L)) (.list (nD M)) = some (.d (.bool (!decide (L = M)))) := by
  rw [oNe_of (shp_lst (nD_shp L)) (shp_lst (nD_shp M))]
  simp only [PyData.eqv, eqvAll_nD]
theorem oIn_nD (s : Nat) (M : List Nat) : oIn (.int (s : Int)) (.list (nD M)) = some (.d (.bool (decide (s ∈ M)))) := by
  unfold oIn
  simp only [(shp_int 1 (s : Int)).sh, (shp_lst (nD_shp M)).sh, Bool.and_self, if_true, okB_e]
  congr 3
  induction M with
  | nil => rfl
  | cons m M ih =>
    show (PyData.eqv (.int (m : Int)) (.int (s : Int)) || (nD M).any _) = _
    rw [ih, eqv_int]
    by_cases h : m = s
    · subst h; simp
    · have h1 : ¬ (m : Int) = (s : Int) := by omega
      have h2 : ¬ s = m := fun z => h z.symm
      simp [h1, h2]
theorem oIndex_nD {s n : Nat} {M : List Nat} (h : idxD (.int (s : Int)) (nD M) = some n) : oIndex (.list (nD M)) [.int (s : Int)] = some (.d (.int (n : Int))) := by
  rw [oIndex_e, (shp_int 1 (s : Int)).sh, (shp_lst (nD_shp M)).sh, h]
  rfl
theorem nD_drop (L : List Nat) (n : Nat) : (nD L).drop n = nD (L.drop n) := by simp [nD]
theorem sIx_none (n : Nat) : HT.sIx n n none = n := rfl
theorem sIx_zero (n : Nat) : HT.sIx n 0 none = 0 := rfl
theorem sIx_i (n d : Nat) (i : Nat) : HT.sIx n d (some (i : Int)) = min i n := HT.sIx_nat n d i
theorem sl_nD (L : List Nat) (n : Nat) : oSl false (.list (nD L)) (some (n : Int)) none = some (.d (.list (nD (L.drop n)))) := by
  rw [oSl_l, sIx_i, sIx_none, ← nD_drop]
  by_cases h : n ≤ (nD L).length
  · rw [Nat.min_eq_left h, List.take_of_length_le (by rw [List.length_drop]; omega)]; rfl
  · rw [Nat.min_eq_right (by omega)]
    simp
    omega
end K16

/-! the law's lap -/
namespace K16
open PySem PySem.Spec PyProof.Rows L2 LamX PL
variable {K : PySem.W.Frag} {c : Ad}
theorem Run.drop {xs : List Int} (h : Run xs) (n : Nat) : Run (xs.drop n) := fun x hx => h x (List.mem_of_mem_drop hx)
theorem Run.take {xs : List Int} (h : Run xs) (n : Nat) : Run (xs.take n) := fun x hx => h x (List.mem_of_mem_take hx)
theorem sl_iD (own : Bool) (xs : List Int) (n : Nat) : oSl own (.list (iD xs)) (some (n : Int)) none = some (newL own (iD (xs.drop n))) := by
  have e : iD (xs.drop n) = (iD xs).drop n := by simp [iD]
  rw [oSl_l, sIx_i, sIx_none, e]
  by_cases h : n ≤ (iD xs).length
  · rw [Nat.min_eq_left h, List.take_of_length_le (by rw [List.length_drop]; omega)]
  · rw [Nat.min_eq_right (by omega), Nat.sub_self, List.take_zero, List.drop_of_length_le (by omega)]
theorem sl_iDt (own : Bool) (xs : List Int) (n : Nat) : oSl own (.list (iD xs)) none (some (n : Int)) = some (newL own (iD (xs.take n))) := by
  have e : iD (xs.take n) = (iD xs).take n := by simp [iD]
  rw [oSl_l, sIx_zero, sIx_i, e]
  simp only [List.drop_zero, Nat.sub_zero]
  congr 2
  by_cases h : n ≤ (iD xs).length
  · rw [Nat.min_eq_left h]
  · rw [Nat.min_eq_right (by omega), List.take_of_length_le (Nat.le_refl _), List.take_of_length_le (by omega)]
theorem oNe_iD (xs : List Int) : oNe (.list (iD xs)) (.list []) = some (.d (.bool (!xs.isEmpty))) := by
  rw [oNe_nil (n := 1) (iD_shp 1 xs), iD_emp]
theorem iD_set (xs : List Int) (i : Nat) (v : Int) : (iD xs).set i (.int v) = iD (xs.set i v) := by simp [iD, List.map_set]
theorem Run.set {xs : List Int} (h : Run xs) {i : Nat} {v : Int} (h0 : 0 ≤ v) (h1 : v < 64) : Run (xs.set i v) := fun x hx => by
  rcases List.mem_or_eq_of_mem_set hx with hx | rfl
  · exact h x hx
  · exact ⟨h0, h1⟩
section
variable {s0 s4 x2 x3 x5 x6 x7 x8 x9 x10 x11 x12 x13 x14 x15 : Option OV} {b : Nat} {L : List (Key × OV)}
theorem turn1 {cs : List Int} (hr : Run cs) (hl : cs.length ≤ 500) (hd : DOk (b + 13) (.dct L)) : ∃ (cs' : List Int) (L' : List (Key × OV)),
    lb_law_1 K c [s0, some (.dct L), x2, some (.d (.list (iD cs))), s4, x5, x6, x7, x8, x9, x10, x11, x12, x13, x14, x15] = some (.nx, [s0, some (.dct L'), x2, some (.d (.list (iD cs'))), s4, x5, x6, x7, x8, x9, x10, x11, x12, x13, x14, x15]) ∧ Run cs' ∧ cs'.length ≤ cs.length + 13 ∧ DOk b (.dct L') := by
  obtain ⟨x, w, vs, c1, L1, e1, m1, h1⟩ := made_ok (K := K) (c := c) (b := b) hd
  have n1 := m1.hn
  rw [m1.he] at e1
  refine ⟨cs ++ c1, L1, ?_, hr.app m1.hr, by simp; omega, h1⟩
  have b1 : cs.length + c1.length ≤ 16777216 := by omega
  rw [iD_app]
  simp [lb_law_1, e1, at1, b1, sizeLine_eq]
theorem stepA {cs : List Int} (hr : Run cs) (hl : cs.length ≤ 500) (hd : DOk (b + 2) (.dct L)) : ∃ (ns : List Int) (L' : List (Key × OV)),
    (setS 5 (ifE (andT (asB (bin (rdV 3) (toV (mkLst false argsNil)) oNe)) (asB (bin (toV (callF 2 (g_law_take K c) (argsCons (rdV 1) (argsCons (toV (cst (.int 2))) argsNil)))) (toV (cst (.int 0))) oEq))) (slA true (rdV 3) noPart (part (toV (bin (toV (cst (.int 1))) (toV (callF 2 (g_law_take K c) (argsCons (rdV 1) (argsCons (toV (callN (argsCons (rdV 3) argsNil) oLen)) argsNil)))) (oAdd false))))) (callN (argsCons (rdV 3) argsNil) (oList true))))
      [s0, some (.dct L), x2, some (.d (.list (iD cs))), s4, x5, x6, x7, x8, x9, x10, x11, x12, x13, x14, x15] = some (.nx, [s0, some (.dct L'), x2, some (.d (.list (iD cs))), s4, some (.lst ((iD ns).map .d)), x6, x7, x8, x9, x10, x11, x12, x13, x14, x15]) ∧ Run ns ∧ ns.length ≤ 500 ∧ DOk b (.dct L') := by
  have q := oNe_iD cs
  by_cases hc : cs = []
  · subst hc
    refine ⟨[], L, ?_, Run.nil, by simp, hd.mono (by omega)⟩
    simp [iD] at q
    simp [iD, q, sizeLine_eq]
  · have he : cs.isEmpty = false := by
      cases cs with
      | nil => exact absurd rfl hc
      | cons a l => rfl
    rw [he] at q
    obtain ⟨f, L1, e1, _, _, h1⟩ := take_L (K := K) (c := c) (b := b + 1) (m := 2) (by decide) (by decide) hd
    have hp : 0 < cs.length := List.length_pos_iff.mpr hc
    by_cases hf : f = 0
    · subst hf
      obtain ⟨g, L2, e2, g0, g1, h2⟩ := take_L (K := K) (c := c) (b := b) (m := (cs.length : Int)) (by omega) (by omega) h1
      obtain ⟨i, rfl⟩ := Int.eq_ofNat_of_zero_le g0
      have es := sl_iDt true cs (1 + i)
      have e1i : ((1 + i : Nat) : Int) = 1 + (i : Int) := by omega
      rw [e1i] at es
      refine ⟨cs.take (1 + i), L2, ?_, hr.take _, by rw [List.length_take]; omega, h2⟩
      simp at q
      simp [q, e1, e2, es, sizeLine_eq]
    · refine ⟨cs, L1, ?_, hr, hl, h1.mono (by omega)⟩
      simp at q
      simp [q, e1, hf, sizeLine_eq]
theorem bend1 {ns : List Int} (hr : Run ns) (h0 : 0 < ns.length) (hl : ns.length ≤ 500) (hd : DOk (b + 2) (.dct L)) : ∃ (ms : List Int) (L' : List (Key × OV)),
    lb_law_2 K c [s0, some (.dct L), x2, x3, s4, some (.lst ((iD ns).map .d)), x6, x7, x8, x9, x10, x11, x12, x13, x14, x15] = some (.nx, [s0, some (.dct L'), x2, x3, s4, some (.lst ((iD ms).map .d)), x6, x7, x8, x9, x10, x11, x12, x13, x14, x15]) ∧ Run ms ∧ ms.length = ns.length ∧ DOk b (.dct L') := by
  obtain ⟨v, L1, e1, v0, v1, h1⟩ := take_L (K := K) (c := c) (b := b + 1) (m := 64) (by decide) (by decide) hd
  obtain ⟨g, L2, e2, g0, g1, h2⟩ := take_L (K := K) (c := c) (b := b) (m := (ns.length : Int)) (by omega) (by omega) h1
  obtain ⟨i, rfl⟩ := Int.eq_ofNat_of_zero_le g0
  have hi : i < ns.length := by omega
  have ex : ixN ns.length (i : Int) = some i := by
    unfold ixN
    rw [if_pos (by omega), if_pos (by omega)]
    simp
  refine ⟨ns.set i v, L2, ?_, hr.set v0 v1, by simp, h2⟩
  have es := iD_set ns i v
  have hlen := iD_len ns
  generalize iD (ns.set i v) = Y at *
  rw [← hlen] at ex e2
  generalize iD ns = X at *
  simp [lb_law_2, e1, e2, ex]
  rw [← es, List.map_set]
theorem bends : ∀ {n : Nat} {ds : List PyData} {L : List (Key × OV)} {b : Nat} {ns : List Int} {x6 : Option OV}, ds.length = n → Run ns → 0 < ns.length → ns.length ≤ 500 → DOk (b + 2 * n) (.dct L) → ∃ (ms : List Int) (L' : List (Key × OV)) (y6 : Option OV),
    forL (gN 6) (lb_law_2 K c) ds [s0, some (.dct L), x2, x3, s4, some (.lst ((iD ns).map .d)), x6, x7, x8, x9, x10, x11, x12, x13, x14, x15] = some (.nx, [s0, some (.dct L'), x2, x3, s4, some (.lst ((iD ms).map .d)), y6, x7, x8, x9, x10, x11, x12, x13, x14, x15]) ∧ Run ms ∧ ms.length ≤ 500 ∧ DOk b (.dct L')
  | 0, ds, L, b, ns, x6, hn, hr, h0, hl, hd => by
    rw [List.length_eq_zero_iff.mp hn]
    exact ⟨ns, L, x6, rfl, hr, hl, hd.mono (by omega)⟩
  | n + 1, [], L, b, ns, x6, hn, _, _, _, _ => by simp at hn
  | n + 1, d :: ds, L, b, ns, x6, hn, hr, h0, hl, hd => by
    obtain ⟨ms, L1, e1, r1, l1, h1⟩ := bend1 (K := K) (c := c) (s0 := s0) (s4 := s4) (x2 := x2) (x3 := x3) (x6 := some (.d d)) (x7 := x7) (x8 := x8) (x9 := x9) (x10 := x10) (x11 := x11) (x12 := x12) (x13 := x13) (x14 := x14) (x15 := x15) (b := b + 2 * n) hr h0 hl (hd.mono (by omega))
    obtain ⟨ms2, L2, y6, e2, r2, l2, h2⟩ := bends (n := n) (ds := ds) (L := L1) (b := b) (ns := ms) (x6 := some (.d d)) (by simpa using hn) r1 (by omega) (by omega) h1
    exact ⟨ms2, L2, y6, (forL_step (by simp) e1).trans e2, r2, l2, h2⟩
theorem stepB {bd : Nat} {ns : List Int} (hb : bd ≤ 2) (hr : Run ns) (hl : ns.length ≤ 500) (hd : DOk (b + 4) (.dct L)) : ∃ (ms : List Int) (L' : List (Key × OV)) (y6 : Option OV),
    (forS (rng1 (argsCons (toV (ifE (asB (bin (rdV 5) (toV (mkLst false argsNil)) oNe)) (rdZ 2) (cst (.int 0)))) argsNil)) (gN 6) (lb_law_2 K c))
      [s0, some (.dct L), some (.d (.int (bd : Int))), x3, s4, some (.lst ((iD ns).map .d)), x6, x7, x8, x9, x10, x11, x12, x13, x14, x15] = some (.nx, [s0, some (.dct L'), some (.d (.int (bd : Int))), x3, s4, some (.lst ((iD ms).map .d)), y6, x7, x8, x9, x10, x11, x12, x13, x14, x15]) ∧ Run ms ∧ ms.length ≤ 500 ∧ DOk b (.dct L') := by
  have q := oNe_iD ns
  have hb2 : (-4611686018427387904 : Int) ≤ (bd : Int) ∧ (bd : Int) < 4611686018427387904 := by omega
  by_cases hc : ns = []
  · subst hc
    refine ⟨[], L, x6, ?_, Run.nil, by simp, hd.mono (by omega)⟩
    rw [for_of (ds := []) (S1 := [s0, some (.dct L), some (.d (.int (bd : Int))), x3, s4, some (.lst ((iD []).map .d)), x6, x7, x8, x9, x10, x11, x12, x13, x14, x15])]
    · rfl
    · simp [iD] at q
      simp [iD, q, sizeLine_eq, rngD]
  · have hp : 0 < ns.length := List.length_pos_iff.mpr hc
    have he : ns.isEmpty = false := by
      cases ns with
      | nil => exact absurd rfl hc
      | cons a l => rfl
    rw [he] at q
    obtain ⟨ms, L1, y6, e1, r1, l1, h1⟩ := bends (K := K) (c := c) (s0 := s0) (s4 := s4) (x2 := some (.d (.int (bd : Int)))) (x3 := x3) (x7 := x7) (x8 := x8) (x9 := x9) (x10 := x10) (x11 := x11) (x12 := x12) (x13 := x13) (x14 := x14) (x15 := x15) (n := bd) (ds := rngD 0 bd) (L := L) (b := b) (ns := ns) (x6 := x6) (by simp [rngD]) hr hp hl (hd.mono (by omega))
    refine ⟨ms, L1, y6, ?_, r1, l1, h1⟩
    rw [for_of (ds := rngD 0 bd) (S1 := [s0, some (.dct L), some (.d (.int (bd : Int))), x3, s4, some (.lst ((iD ns).map .d)), x6, x7, x8, x9, x10, x11, x12, x13, x14, x15])]
    · exact e1
    · generalize iD ns = X at *
      simp at q
      simp [q, hb2, sizeLine_eq]
theorem stepC {ns : List Int} (hl : ns.length ≤ 500) (hd : DOk (b + 2) (.dct L)) : ∃ (o1 o2 : Nat) (L' : List (Key × OV)),
    (parS [7, 8] (osCons (callF 2 (g_law_take K c) (argsCons (rdV 1) (argsCons (toV (bin (toV (callN (argsCons (rdV 5) argsNil) oLen)) (toV (cst (.int 1))) (oAdd false))) argsNil))) (osCons (callF 2 (g_law_take K c) (argsCons (rdV 1) (argsCons (toV (bin (toV (callN (argsCons (rdV 5) argsNil) oLen)) (toV (cst (.int 1))) (oAdd false))) argsNil))) osNil)))
      [s0, some (.dct L), x2, x3, s4, some (.lst ((iD ns).map .d)), x6, x7, x8, x9, x10, x11, x12, x13, x14, x15] = some (.nx, [s0, some (.dct L'), x2, x3, s4, some (.lst ((iD ns).map .d)), x6, some (.d (.int (o1 : Int))), some (.d (.int (o2 : Int))), x9, x10, x11, x12, x13, x14, x15]) ∧ o1 ≤ ns.length ∧ o2 ≤ ns.length ∧ DOk b (.dct L') := by
  obtain ⟨v, L1, e1, v0, v1, h1⟩ := take_L (K := K) (c := c) (b := b + 1) (m := (ns.length : Int) + 1) (by omega) (by omega) hd
  obtain ⟨g, L2, e2, g0, g1, h2⟩ := take_L (K := K) (c := c) (b := b) (m := (ns.length : Int) + 1) (by omega) (by omega) h1
  obtain ⟨i, rfl⟩ := Int.eq_ofNat_of_zero_le v0
  obtain ⟨j, rfl⟩ := Int.eq_ofNat_of_zero_le g0
  refine ⟨i, j, L2, ?_, by omega, by omega, h2⟩
  have hlen := iD_len ns
  rw [← hlen] at e1 e2
  generalize iD ns = X at *
  simp [e1, e2, putLs, sizeLine_eq]
theorem stepD (F : Facts K c) {o1 : Nat} {ns : List Int} (hr : Run ns) (hl : ns.length ≤ 500) :
    (ifS (orT (notT (tstV (toV (callF 1 (g_law_is_walk K c) (argsCons (toV (rdZ 5)) argsNil))))) (notT (tstV (toV (callF 1 (g_law_is_walk K c) (argsCons (toV (slA false (rdV 5) (part (rdV 7)) noPart)) argsNil)))))) (retS (cst (.bool false))) skipS)
      [s0, some (.dct L), x2, x3, s4, some (.lst ((iD ns).map .d)), x6, some (.d (.int (o1 : Int))), x8, x9, x10, x11, x12, x13, x14, x15] = some (.nx, [s0, some (.dct L), x2, x3, s4, some (.d (.list (iD ns))), x6, some (.d (.int (o1 : Int))), x8, x9, x10, x11, x12, x13, x14, x15]) := by
  have e1 := is_walk_ok F (tp := false) hr (by omega)
  have e2 := is_walk_ok F (tp := false) (hr.drop o1) (by rw [List.length_drop]; omega)
  have e3 := sl_iD false ns o1
  simp only [sq, Bool.false_eq_true, if_false] at e1 e2
  rw [newL_f] at e3
  generalize iD (ns.drop o1) = Y at *
  generalize iD ns = X at *
  simp [e1, e2, e3]
/-- what parted tells of near[o:], caught -/
def caD (c : Ad) (L : List PyData) : Option Nat → PyData
  | none => .tuple L
  | some b => excD c.BadCode [("at", .int (b : Int))]
theorem caught_ok (F : Facts K c) {o : Nat} {ns : List Int} {S : SS} {i : Nat} {PL' : List PyData} {w : Option Nat} (hr : Run ns) (hl : ns.length ≤ 500) (h5 : S[5]? = some (some (.d (.list (iD ns))))) (hi : S[i]? = some (some (.d (.int (o : Int))))) (h : Wk (ns.drop o) 0 PL' w) :
    caughtM K c.LinkError true (callF 1 (g_parted K c) (argsCons (toV (slA false (rdV 5) (part (rdV i)) noPart)) argsNil)) S = some (.ok (.d (caD c PL' w)), S) := by
  have e2 := parted_ok (K := K) (c := c) (tp := false) (hr.drop o) (by rw [List.length_drop]; omega) h
  have e3 := sl_iD false ns o
  simp only [sq, Bool.false_eq_true, if_false] at e2
  rw [newL_f] at e3
  generalize iD (ns.drop o) = Y at *
  generalize iD ns = X at *
  cases w with
  | none =>
    simp only [rP] at e2
    simp [h5, hi, e3, e2, caD]
  | some b =>
    have q1 := exm_x (fs := [("at", .int (b : Int))]) F.m2
    simp only [rP] at e2
    simp [h5, hi, e3, e2, caD, q1]
end
end K16

/-! the law -/
namespace K16
open PySem PySem.Spec PyProof.Rows L2 LamX PL
variable {K : PySem.W.Frag} {c : Ad}
theorem kit_tt : PySem.W.kitOne K (.type "tuple") (.type "tuple") = some true := if_pos (by decide)
theorem isY_t (L : List PyData) : oIsiY K [c.BadCells, c.BadCode] (.type "tuple") (.tuple L) = some (.d (.bool true)) := by
  unfold oIsiY
  show (PySem.W.kitOne K (.type "tuple") (.type "tuple")).bind okB = _
  rw [kit_tt]; rfl
theorem isY_ca (F : Facts K c) (L : List PyData) (w : Option Nat) : oIsiY K [c.BadCells, c.BadCode] (.type "tuple") (caD c L w) = some (.d (.bool w.isNone)) := by
  cases w with
  | none => exact isY_t L
  | some b => exact isY_x F.t2 (by simp)
def stD (k : Int) (d : PyData) : PyData := match d with
  | .tuple (.int p :: _) => .int (k + p)
  | d => d
theorem starts_map {xs : List Int} {k : Nat} {L : List PyData} {M : List Nat} (h : ∀ (j : Nat) (d : PyData), L[j]? = some d → ∃ (p : Nat) (t m : PyData), d = .tuple [.int (p : Int), t, m] ∧ M[j]? = some (k + p)) (hl : M.length = L.length) : L.map (stD (k : Int)) = nD M := by
  apply List.ext_getElem?
  intro j
  unfold nD
  rw [List.getElem?_map, List.getElem?_map]
  cases e : L[j]? with
  | none =>
    have : L.length ≤ j := List.getElem?_eq_none_iff.mp e
    rw [List.getElem?_eq_none (by omega)]; rfl
  | some d =>
    obtain ⟨p, t, m, rfl, h2⟩ := h j d e
    rw [h2]
    show some (PyData.int ((k : Int) + (p : Int))) = some (PyData.int ((k + p : Nat) : Int))
    rw [Int.natCast_add]
theorem fil_nD (L M : List Nat) : (nD L).filter (fun d => match d with
  | .int i => decide (i.toNat ∈ M)
  | _ => false) = nD (L.filter fun n => decide (n ∈ M)) := by
  induction L with
  | nil => rfl
  | cons n L ih =>
    show List.filter _ (PyData.int (n : Int) :: nD L) = _
    rw [List.filter_cons, List.filter_cons, ih]
    show (if decide ((n : Int).toNat ∈ M) = true then _ else _) = _
    rw [Int.toNat_natCast]
    by_cases h : n ∈ M
    · simp [h, nD]
    · simp [h]
section
variable {s0 s4 x2 x3 x5 x6 x7 x8 x9 x10 x11 x12 x13 x14 x15 : Option OV} {b : Nat} {L : List (Key × OV)}
theorem here_comp {own : Bool} {k : Nat} {xs : List Int} {D : List PyData} {Ms : List Nat} {S : SS} {i j : Nat} {fe : M OV} (hlen : D.length ≤ 1000) (hM : Ms.length = D.length) (h : ∀ (j : Nat) (d : PyData), D[j]? = some d → ∃ (p : Nat) (t m : PyData), d = .tuple [.int (p : Int), t, m] ∧ Ms[j]? = some (k + p))
    (hS : S.length = 16) (hi : S[i]? = some (some (.d (.tuple D)))) (h14 : S.set 14 none = S)
    (hfe : ∀ (p : Nat) (t m : PyData), fe (S.set 14 (some (.d (.tuple [.int (p : Int), t, m])))) = some (.ok (.d (.int ((k : Int) + (p : Int)))), S.set 14 (some (.d (.tuple [.int (p : Int), t, m]))))) :
    compE false (itE (rdZ i)) (gN 14) tYesM fe [14] S = some (.ok (.d (.list (nD Ms))), S) := by
  have e1 : compL (gN 14) tYesM fe [14] D [] S = some (nD Ms, S) := by
    have := compL_map (g := gN 14) (fe := fe) (vs := [14]) (S := S) (ds := D) (acc := []) (h := stD (k : Int)) (by rw [sizeLine_eq]; simp; omega) (fun d hd => by
      obtain ⟨q, hq⟩ := List.getElem?_of_mem hd
      obtain ⟨p, t, m, rfl, _⟩ := h q d hq
      refine ⟨S.set 14 (some (.d (.tuple [.int (p : Int), t, m]))), S.set 14 (some (.d (.tuple [.int (p : Int), t, m]))), ?_, hfe p t m, ?_⟩
      · rw [gN_S, if_pos (by omega)]
      · show ((S.set 14 _).set 14 none) = S
        rw [List.set_set, h14])
    rw [List.nil_append, starts_map (xs := xs) h hM] at this
    exact this
  refine comp_of (ds := D) (S1 := S) ?_ ?_ ?_
  · simp [hi]
  · simp [hS]
  · show compL _ _ _ _ _ _ (S.set 14 none) = _
    rw [h14]
    exact e1
theorem stepG (F : Facts K c) {o1 o2 : Nat} {ns : List Int} {D1 D2 : List PyData} {w1 w2 : Option Nat} (ho1 : o1 ≤ ns.length) (ho2 : o2 ≤ ns.length) (hl : ns.length ≤ 500) (h1 : Wk (ns.drop o1) 0 D1 w1) (h2 : Wk (ns.drop o2) 0 D2 w2) :
    ∃ y11 y12 y13, (ifS (andT (tstV (toV (isiY K [c.BadCells, c.BadCode] (.type "tuple") (rdV 9)))) (tstV (toV (isiY K [c.BadCells, c.BadCode] (.type "tuple") (rdV 10))))) (seqS (parS [11, 12] (osCons (compE false (itE (rdZ 9)) (gN 14) tYesM (ce_law_1 K c) [14]) (osCons (compE false (itE (rdZ 10)) (gN 14) tYesM (ce_law_2 K c) [14]) osNil)))
    (seqS (setS 13 (compE false (itE (rdZ 11)) (gN 15) (ci_law_1 K c) (ce_law_3 K c) [15]))
    (ifS (andT (asB (bin (rdV 13) (toV (mkLst false argsNil)) oNe)) (asB (bin (toV (slA false (rdV 11) (part (toV (methN "list" (rdV 11) (argsCons (toV (bin (rdV 13) (toV (cst (.int 0))) oIx)) argsNil) oIndex))) noPart)) (toV (slA false (rdV 12) (part (toV (methN "list" (rdV 12) (argsCons (toV (bin (rdV 13) (toV (cst (.int 0))) oIx)) argsNil) oIndex))) noPart)) oNe))) (retS (cst (.bool false))) skipS))) skipS)
      [s0, some (.dct L), x2, x3, s4, some (.d (.list (iD ns))), x6, some (.d (.int (o1 : Int))), some (.d (.int (o2 : Int))), some (.d (caD c D1 w1)), some (.d (caD c D2 w2)), x11, x12, x13, none, none] =
        some (.nx, [s0, some (.dct L), x2, x3, s4, some (.d (.list (iD ns))), x6, some (.d (.int (o1 : Int))), some (.d (.int (o2 : Int))), some (.d (caD c D1 w1)), some (.d (caD c D2 w2)), y11, y12, y13, none, none]) := by
  have q1 := isY_ca F D1 w1
  have q2 := isY_ca F D2 w2
  by_cases hw : w1 = none ∧ w2 = none
  · obtain ⟨rfl, rfl⟩ := hw
    obtain ⟨M1, st1, lm1, hm1⟩ := starts ho1 h1 rfl
    obtain ⟨M2, st2, lm2, hm2⟩ := starts ho2 h2 rfl
    have l1 := h1.len
    have l2 := h2.len
    rw [List.length_drop] at l1 l2
    simp only [caD] at q1 q2 ⊢
    rw [if_t (S1 := [s0, some (.dct L), x2, x3, s4, some (.d (.list (iD ns))), x6, some (.d (.int (o1 : Int))), some (.d (.int (o2 : Int))), some (.d (.tuple D1)), some (.d (.tuple D2)), x11, x12, x13, none, none]) (by simp at q1 q2; simp [q1, q2])]
    have c1 := here_comp (own := false) (k := o1) (xs := ns) (D := D1) (Ms := M1) (S := [s0, some (.dct L), x2, x3, s4, some (.d (.list (iD ns))), x6, some (.d (.int (o1 : Int))), some (.d (.int (o2 : Int))), some (.d (.tuple D1)), some (.d (.tuple D2)), x11, x12, x13, none, none]) (i := 9) (j := 0) (fe := ce_law_1 K c) (by omega) lm1 hm1 rfl rfl rfl (fun p t m => by simp [ce_law_1, at0])
    have c2 := here_comp (own := false) (k := o2) (xs := ns) (D := D2) (Ms := M2) (S := [s0, some (.dct L), x2, x3, s4, some (.d (.list (iD ns))), x6, some (.d (.int (o1 : Int))), some (.d (.int (o2 : Int))), some (.d (.tuple D1)), some (.d (.tuple D2)), x11, x12, x13, none, none]) (i := 10) (j := 0) (fe := ce_law_2 K c) (by omega) lm2 hm2 rfl rfl rfl (fun p t m => by simp [ce_law_2, at0])
    rw [seq_nx (S1 := [s0, some (.dct L), x2, x3, s4, some (.d (.list (iD ns))), x6, some (.d (.int (o1 : Int))), some (.d (.int (o2 : Int))), some (.d (.tuple D1)), some (.d (.tuple D2)), some (.d (.list (nD M1))), some (.d (.list (nD M2))), x13, none, none])]
    · -- shared
      have e3 : compL (gN 15) (ci_law_1 K c) (ce_law_3 K c) [15] (nD M1) [] [s0, some (.dct L), x2, x3, s4, some (.d (.list (iD ns))), x6, some (.d (.int (o1 : Int))), some (.d (.int (o2 : Int))), some (.d (.tuple D1)), some (.d (.tuple D2)), some (.d (.list (nD M1))), some (.d (.list (nD M2))), x13, none, none] =
          some (nD (M1.filter fun n => decide (n ∈ M2)), [s0, some (.dct L), x2, x3, s4, some (.d (.list (iD ns))), x6, some (.d (.int (o1 : Int))), some (.d (.int (o2 : Int))), some (.d (.tuple D1)), some (.d (.tuple D2)), some (.d (.list (nD M1))), some (.d (.list (nD M2))), x13, none, none]) := by
        have := compL_fil (g := gN 15) (ft := ci_law_1 K c) (fe := ce_law_3 K c) (vs := [15]) (S := [s0, some (.dct L), x2, x3, s4, some (.d (.list (iD ns))), x6, some (.d (.int (o1 : Int))), some (.d (.int (o2 : Int))), some (.d (.tuple D1)), some (.d (.tuple D2)), some (.d (.list (nD M1))), some (.d (.list (nD M2))), x13, none, none]) (ds := nD M1) (acc := []) (p := fun d => match d with
          | .int i => decide (i.toNat ∈ M2)
          | _ => false) (h := id) (by rw [sizeLine_eq]; unfold nD; simp; omega) (fun d hd => by
          obtain ⟨n, _, rfl⟩ := List.mem_map.mp hd
          have q := oIn_nD n M2
          refine ⟨[s0, some (.dct L), x2, x3, s4, some (.d (.list (iD ns))), x6, some (.d (.int (o1 : Int))), some (.d (.int (o2 : Int))), some (.d (.tuple D1)), some (.d (.tuple D2)), some (.d (.list (nD M1))), some (.d (.list (nD M2))), x13, none, some (.d (.int (n : Int)))], [s0, some (.dct L), x2, x3, s4, some (.d (.list (iD ns))), x6, some (.d (.int (o1 : Int))), some (.d (.int (o2 : Int))), some (.d (.tuple D1)), some (.d (.tuple D2)), some (.d (.list (nD M1))), some (.d (.list (nD M2))), x13, none, some (.d (.int (n : Int)))], by simp, ?_, fun _ => ⟨[s0, some (.dct L), x2, x3, s4, some (.d (.list (iD ns))), x6, some (.d (.int (o1 : Int))), some (.d (.int (o2 : Int))), some (.d (.tuple D1)), some (.d (.tuple D2)), some (.d (.list (nD M1))), some (.d (.list (nD M2))), x13, none, some (.d (.int (n : Int)))], ?_, rfl⟩, fun _ => rfl⟩
          · simp [ci_law_1, q]
          · simp [ce_law_3])
        rw [List.nil_append, fil_nD, List.map_id] at this
        exact this
      generalize hsh : M1.filter (fun n => decide (n ∈ M2)) = SH at e3
      rw [seq_nx (S1 := [s0, some (.dct L), x2, x3, s4, some (.d (.list (iD ns))), x6, some (.d (.int (o1 : Int))), some (.d (.int (o2 : Int))), some (.d (.tuple D1)), some (.d (.tuple D2)), some (.d (.list (nD M1))), some (.d (.list (nD M2))), some (.d (.list (nD SH))), none, none])]
      · refine ⟨some (.d (.list (nD M1))), some (.d (.list (nD M2))), some (.d (.list (nD SH))), ?_⟩
        cases SH with
        | nil =>
          have q := oNe_nD [] []
          simp [nD] at q
          rw [if_f]
          · rfl
          · rw [and_f (S1 := [s0, some (.dct L), x2, x3, s4, some (.d (.list (iD ns))), x6, some (.d (.int (o1 : Int))), some (.d (.int (o2 : Int))), some (.d (.tuple D1)), some (.d (.tuple D2)), some (.d (.list (nD M1))), some (.d (.list (nD M2))), some (.d (.list (nD []))), none, none])]
            simp [nD, q, sizeLine_eq]
        | cons s SH =>
          have hs : s ∈ M1.filter (fun n => decide (n ∈ M2)) := by rw [hsh]; exact List.mem_cons_self
          obtain ⟨hs1, hs2⟩ := List.mem_filter.mp hs
          obtain ⟨n1, i1, g1⟩ := st1.suffix hs1
          obtain ⟨n2, i2, g2⟩ := st2.suffix (of_decide_eq_true hs2)
          have eq := g1.uniq g2
          have r1 := oIndex_nD i1
          have r2 := oIndex_nD i2
          have t1 := sl_nD M1 n1
          have t2 := sl_nD M2 n2
          rw [← eq] at t2
          have q := oNe_nD (M1.drop n1) (M1.drop n1)
          have q0 : oNe (.list (nD (s :: SH))) (.list []) = some (.d (.bool true)) := oNe_nil (n := 1) (nD_shp _)
          have a0 : atI (nD (s :: SH)) 0 = some (.int (s : Int)) := at0 _ _
          rw [if_f]
          · rfl
          · rw [and_t (S1 := [s0, some (.dct L), x2, x3, s4, some (.d (.list (iD ns))), x6, some (.d (.int (o1 : Int))), some (.d (.int (o2 : Int))), some (.d (.tuple D1)), some (.d (.tuple D2)), some (.d (.list (nD M1))), some (.d (.list (nD M2))), some (.d (.list (nD (s :: SH)))), none, none])]
            · generalize nD (s :: SH) = X at *
              generalize nD (M1.drop n1) = Y at *
              simp [a0, r1, r2, t1, t2, q]
            · generalize nD (s :: SH) = X at *
              simp [q0, sizeLine_eq]
      · simp [wipeS, e3]
    · simp [c1, putLs] at *
      simp [c1, c2, putLs]
  · refine ⟨x11, x12, x13, ?_⟩
    have hb : (w1.isNone && w2.isNone) = false := by
      cases w1 with
      | some _ => rfl
      | none =>
        cases w2 with
        | some _ => rfl
        | none => exact absurd ⟨rfl, rfl⟩ hw
    rw [if_f (S1 := [s0, some (.dct L), x2, x3, s4, some (.d (.list (iD ns))), x6, some (.d (.int (o1 : Int))), some (.d (.int (o2 : Int))), some (.d (caD c D1 w1)), some (.d (caD c D2 w2)), x11, x12, x13, none, none])]
    · rfl
    · rw [and_all (a := w1.isNone) (b := w2.isNone), hb]
      · simp [q1]
      · simp [q2]
end
end K16

/-! the law tells true -/
namespace K16
open PySem PySem.Spec PyProof.Rows L2 LamX PL
variable {K : PySem.W.Frag} {c : Ad}
theorem parted_no {n : Nat} {x : PyData} (hx : Shp (n + 1) x) (hl : ∀ xs, x = .tuple xs ∨ x = .list xs → xs.length ≤ 1000) (hb : cellsB x = false) : g_parted K c [.d x] = some (.error (excD c.BadCells []), [.d x]) := by
  have e1 := are_cells_ok (K := K) (c := c) hx hl
  rw [hb] at e1
  simp [g_parted, bd_parted, runF, runF.lentF, runF.lentL, e1]
def oddL : List PyData := [.none, .int 5, .str "21", .list [.int 64], .tuple [.int 21, .bool true], .list [.int 21, .none]]
theorem oddL_ok : ∀ y ∈ oddL, Shp 1 y ∧ cellsB y = false ∧ ∀ xs, y = .tuple xs ∨ y = .list xs → xs.length ≤ 1000 := by
  have hs : PyData.strOk ("21" : Str) = true := by decide +kernel
  intro y hy
  simp only [oddL, List.mem_cons, List.not_mem_nil, or_false] at hy
  rcases hy with rfl | rfl | rfl | rfl | rfl | rfl
  · exact ⟨shp_none 1, rfl, fun xs h => by rcases h with h | h <;> cases h⟩
  · exact ⟨shp_int 1 _, rfl, fun xs h => by rcases h with h | h <;> cases h⟩
  · exact ⟨shp_str 1 hs, rfl, fun xs h => by rcases h with h | h <;> cases h⟩
  · exact ⟨shp_lst (by simp [shp_int]), rfl, fun xs h => by rcases h with h | h <;> cases h; simp⟩
  · exact ⟨shp_tup (by simp [shp_int, shp_bool]), rfl, fun xs h => by rcases h with h | h <;> cases h; simp⟩
  · exact ⟨shp_lst (by simp [shp_int, shp_none]), rfl, fun xs h => by rcases h with h | h <;> cases h; simp⟩
section
variable {s0 s4 x2 x3 x5 x6 x7 x8 x9 x10 x11 x12 x13 x14 x15 : Option OV} {b : Nat} {L : List (Key × OV)}
theorem lap_ok (F : Facts K c) {bd : Nat} {cs : List Int} (hb : bd ≤ 2) (hr : Run cs) (hl : cs.length ≤ 500) (hd : DOk (b + 10) (.dct L)) : ∃ (L' : List (Key × OV)) (y5 y6 y7 y8 y9 y10 y11 y12 y13 : Option OV),
    lb_law_3 K c [s0, some (.dct L), some (.d (.int (bd : Int))), some (.d (.list (iD cs))), s4, x5, x6, x7, x8, x9, x10, x11, x12, x13, none, none] = some (.nx, [s0, some (.dct L'), some (.d (.int (bd : Int))), some (.d (.list (iD cs))), s4, y5, y6, y7, y8, y9, y10, y11, y12, y13, none, none]) ∧ DOk b (.dct L') := by
  obtain ⟨ns, L1, e1, r1, l1, h1⟩ := stepA (K := K) (c := c) (s0 := s0) (s4 := s4) (x2 := some (.d (.int (bd : Int)))) (x5 := x5) (x6 := x6) (x7 := x7) (x8 := x8) (x9 := x9) (x10 := x10) (x11 := x11) (x12 := x12) (x13 := x13) (x14 := none) (x15 := none) (b := b + 6) hr hl (hd.mono (by omega))
  obtain ⟨ms, L2, y6, e2, r2, l2, h2⟩ := stepB (K := K) (c := c) (s0 := s0) (s4 := s4) (x3 := some (.d (.list (iD cs)))) (x6 := x6) (x7 := x7) (x8 := x8) (x9 := x9) (x10 := x10) (x11 := x11) (x12 := x12) (x13 := x13) (x14 := none) (x15 := none) (b := b + 2) hb r1 l1 (h1.mono (by omega))
  obtain ⟨o1, o2, L3, e3, ho1, ho2, h3⟩ := stepC (K := K) (c := c) (s0 := s0) (s4 := s4) (x2 := some (.d (.int (bd : Int)))) (x3 := some (.d (.list (iD cs)))) (x6 := y6) (x7 := x7) (x8 := x8) (x9 := x9) (x10 := x10) (x11 := x11) (x12 := x12) (x13 := x13) (x14 := none) (x15 := none) (b := b) l2 h2
  have e4 := stepD (K := K) (c := c) (s0 := s0) (s4 := s4) (x2 := some (.d (.int (bd : Int)))) (x3 := some (.d (.list (iD cs)))) (x6 := y6) (x8 := some (.d (.int (o2 : Int)))) (x9 := x9) (x10 := x10) (x11 := x11) (x12 := x12) (x13 := x13) (x14 := none) (x15 := none) (L := L3) F (o1 := o1) r2 l2
  obtain ⟨D1, w1, k1⟩ := wk_ex (ms.drop o1) (ms.drop o1).length 0 (by omega)
  obtain ⟨D2, w2, k2⟩ := wk_ex (ms.drop o2) (ms.drop o2).length 0 (by omega)
  have c1 := caught_ok (K := K) (c := c) F (i := 7) (S := [s0, some (.dct L3), some (.d (.int (bd : Int))), some (.d (.list (iD cs))), s4, some (.d (.list (iD ms))), y6, some (.d (.int (o1 : Int))), some (.d (.int (o2 : Int))), x9, x10, x11, x12, x13, none, none]) r2 l2 rfl rfl k1
  have e5 := set_of (i := 9) c1 (by simp)
  have c2 := caught_ok (K := K) (c := c) F (i := 8) (S := [s0, some (.dct L3), some (.d (.int (bd : Int))), some (.d (.list (iD cs))), s4, some (.d (.list (iD ms))), y6, some (.d (.int (o1 : Int))), some (.d (.int (o2 : Int))), some (.d (caD c D1 w1)), x10, x11, x12, x13, none, none]) r2 l2 rfl rfl k2
  have e6 := set_of (i := 10) c2 (by simp)
  obtain ⟨y11, y12, y13, e7⟩ := stepG (K := K) (c := c) (s0 := s0) (s4 := s4) (x2 := some (.d (.int (bd : Int)))) (x3 := some (.d (.list (iD cs)))) (x6 := y6) (x11 := x11) (x12 := x12) (x13 := x13) (L := L3) F ho1 ho2 l2 k1 k2
  have ef : lb_law_3 K c [s0, some (.dct L), some (.d (.int (bd : Int))), some (.d (.list (iD cs))), s4, x5, x6, x7, x8, x9, x10, x11, x12, x13, none, none] = _ := (seq_nx e1).trans ((seq_nx e2).trans ((seq_nx e3).trans ((seq_nx e4).trans ((seq_nx e5).trans ((seq_nx e6).trans e7)))))
  exact ⟨L3, _, _, _, _, _, _, _, _, _, ef, h3⟩
theorem turns : ∀ {n : Nat} {ds : List PyData} {L : List (Key × OV)} {b : Nat} {cs : List Int} {x4 : Option OV}, ds.length = n → Run cs → cs.length + 13 * n ≤ 500 → DOk (b + 13 * n) (.dct L) → ∃ (ms : List Int) (L' : List (Key × OV)) (y4 : Option OV),
    forL (gN 4) (lb_law_1 K c) ds [s0, some (.dct L), x2, some (.d (.list (iD cs))), x4, x5, x6, x7, x8, x9, x10, x11, x12, x13, x14, x15] = some (.nx, [s0, some (.dct L'), x2, some (.d (.list (iD ms))), y4, x5, x6, x7, x8, x9, x10, x11, x12, x13, x14, x15]) ∧ Run ms ∧ ms.length ≤ 500 ∧ DOk b (.dct L')
  | 0, ds, L, b, cs, x4, hn, hr, hl, hd => by
    rw [List.length_eq_zero_iff.mp hn]
    exact ⟨cs, L, x4, rfl, hr, by omega, hd.mono (by omega)⟩
  | n + 1, [], L, b, cs, x4, hn, _, _, _ => by simp at hn
  | n + 1, d :: ds, L, b, cs, x4, hn, hr, hl, hd => by
    obtain ⟨ms, L1, e1, r1, l1, h1⟩ := turn1 (K := K) (c := c) (s0 := s0) (s4 := some (.d d)) (x2 := x2) (x5 := x5) (x6 := x6) (x7 := x7) (x8 := x8) (x9 := x9) (x10 := x10) (x11 := x11) (x12 := x12) (x13 := x13) (x14 := x14) (x15 := x15) (b := b + 13 * n) hr (by omega) (hd.mono (by omega))
    obtain ⟨ms2, L2, y4, e2, r2, l2, h2⟩ := turns (n := n) (ds := ds) (L := L1) (b := b) (cs := ms) (x4 := some (.d d)) (by simpa using hn) r1 (by omega) h1
    exact ⟨ms2, L2, y4, (forL_step (by simp) e1).trans e2, r2, l2, h2⟩
end
theorem law_true (h1 : PySem.W.exmOne K (.ref c.BadCells) (.ref c.LinkError) = some true) (h2 : PySem.W.exmOne K (.ref c.BadCode) (.ref c.LinkError) = some true)
    (k1 : PySem.W.kitOne K (.ref c.BadCells) (.ref c.BadCells) = some true) (k2 : PySem.W.kitOne K (.ref c.BadCode) (.ref c.BadCode) = some true)
    (t1 : PySem.W.kitOne K (.ref c.BadCells) (.type "tuple") = some false) (t2 : PySem.W.kitOne K (.ref c.BadCode) (.type "tuple") = some false)
    (ns : List Int) (hl : ns.length ≤ 63) (hb : ∀ z ∈ ns, Builtin.Int.intBits z ≤ 1048576) : ∃ S', bd_law K c (some (.d (scrD ns)) :: List.replicate 15 none) = some (.ret (.d (.bool true)), S') := by
  have F : Facts K c := ⟨h1, h2, k1, k2, t1, t2⟩
  obtain ⟨L0, e0, hd0⟩ := begun_L (K := K) (c := c) hl
  obtain ⟨f1, L1, e1, f10, f11, hd1⟩ := take_L (K := K) (c := c) (b := 10000) (m := 3) (by decide) (by decide) (hd0.mono (by decide))
  obtain ⟨f2, L2, e2, f20, f21, hd2⟩ := take_L (K := K) (c := c) (b := 9999) (m := 31) (by decide) (by decide) hd1
  obtain ⟨bd, rfl⟩ := Int.eq_ofNat_of_zero_le f10
  obtain ⟨n, rfl⟩ := Int.eq_ofNat_of_zero_le f20
  obtain ⟨cs, L3, y4, e3, r3, l3, hd3⟩ := turns (K := K) (c := c) (s0 := some (.d (scrD ns))) (x2 := some (.d (.int (bd : Int)))) (x5 := none) (x6 := none) (x7 := none) (x8 := none) (x9 := none) (x10 := none) (x11 := none) (x12 := none) (x13 := none) (x14 := none) (x15 := none) (n := n) (ds := rngD 0 n) (L := L2) (b := 9000) (cs := []) (x4 := none) (by simp [rngD]) Run.nil (by simp; omega) (hd2.mono (by omega))
  have w1 := is_walk_ok (K := K) (c := c) F (tp := false) r3 (by omega)
  have w2 := is_walk_ok (K := K) (c := c) F (tp := true) r3 (by omega)
  generalize hk : (4 + (if (20 : Int) < (ns.length : Int) then (20 : Int) else (ns.length : Int))) = k
  have hk1 : 0 ≤ k ∧ k ≤ 24 := by
    rw [← hk]
    split <;> omega
  obtain ⟨S', e4, z4, y5, y6, y7, y8, y9, y10, y11, y12, y13, L', hd', rfl⟩ := forL_inv (g := gN 4) (b := lb_law_3 K c) (ds := rngD 0 k.toNat) (S := [some (.d (scrD ns)), some (.dct L3), some (.d (.int (bd : Int))), some (.d (.list (iD cs))), y4, none, none, none, none, none, none, none, none, none, none, none]) (n := 0)
    (fun j S => ∃ z4 y5 y6 y7 y8 y9 y10 y11 y12 y13 L', DOk (9000 - 10 * j) (.dct L') ∧ S = [some (.d (scrD ns)), some (.dct L'), some (.d (.int (bd : Int))), some (.d (.list (iD cs))), z4, y5, y6, y7, y8, y9, y10, y11, y12, y13, none, none]) ⟨y4, none, none, none, none, none, none, none, none, none, L3, hd3, rfl⟩ (by
      rintro j dd S hj ⟨z4, y5, y6, y7, y8, y9, y10, y11, y12, y13, L', hd', rfl⟩
      have hjk : j < k.toNat := by
        have := (List.getElem?_eq_some_iff.mp hj).1
        simpa [rngD] using this
      obtain ⟨L2, w5, w6, w7, w8, w9, w10, w11, w12, w13, e2, hd2⟩ := lap_ok (K := K) (c := c) F (b := 9000 - 10 * (j + 1)) (bd := bd) (cs := cs) (s0 := some (.d (scrD ns))) (s4 := some (.d dd)) (x5 := y5) (x6 := y6) (x7 := y7) (x8 := y8) (x9 := y9) (x10 := y10) (x11 := y11) (x12 := y12) (x13 := y13) (by omega) r3 l3 (hd'.mono (by omega))
      exact ⟨_, _, rfl, e2, some (.d dd), w5, w6, w7, w8, w9, w10, w11, w12, w13, L2, by rw [show 0 + j + 1 = j + 1 by omega]; exact hd2, rfl⟩)
  have hkl : (rngD 0 k.toNat).length = k.toNat := by simp [rngD]
  obtain ⟨y, hy, L9, e9, h9⟩ := pick_L (K := K) (c := c) (b := 100) (xs := oddL) (by simp [oddL]) (by simp [oddL]) (hd'.mono (by rw [hkl]; omega))
  obtain ⟨o1, o2, o3⟩ := oddL_ok y hy
  have q1 := parted_no (K := K) (c := c) (n := 0) o1 o3 o2
  have q2 := exm_x (fs := []) F.m1
  have q3 := isY_x (K := K) (c := c) (fs := []) F.k1 (by simp)
  have hb2 : (-4611686018427387904 : Int) ≤ k ∧ k < 4611686018427387904 := by omega
  have hb3 : (-4611686018427387904 : Int) ≤ (n : Int) ∧ (n : Int) < 4611686018427387904 := by omega
  refine ⟨[some (.d (scrD ns)), some (.dct L9), some (.d (.int (bd : Int))), some (.d (.list (iD cs))), z4, y5, y6, y7, y8, y9, y10, y11, y12, y13, none, none], ?_⟩
  unfold oddL at e9
  simp only [sq, Bool.false_eq_true, if_false, if_true] at w1 w2
  have i0 : iD [] = [] := rfl
  rw [i0] at e3
  generalize iD cs = X at *
  simp [bd_law, e0, e1, e2, putLs, hb3, e3, w1, w2, hk, hb2, e4, e9, q1, q2, q3, List.replicate, sizeLine_eq]
end K16

namespace K16
open PySem PySem.Spec PyProof.Rows L2 LamX PL

theorem law_run {P : Program} {w : World} {K : PySem.W.Frag} {mg : Str → Option Value} {base : Heap} {T : List (Addr × Str)} {c : Ad} {H : Hp} {s : Shared} {a : Addr} {ns : List Int} (GG : Gs P w K mg base T c)
    (hS : ∃ S', bd_law K c (some (.d (scrD ns)) :: List.replicate 15 none) = some (.ret (.d (.bool true)), S')) (hT : ∀ p ∈ T, H p.1 = some (.tbl #[])) (sq : SqL K H a (ns.map V.int)) (e0 : Env0 P w K mg base callerA [] s H) :
    codeAny (model P w) callerA (.call (.ref c.f_law) ⟨[.ref a], []⟩) (CR (L2.CX P w) [] P w H s (fun v _ => v = .bl true) fun _ _ _ => False) s := by
  obtain ⟨oc, od, kV, doc, pm, an, ct, osl, e, lk, hcd⟩ := GG.F_law.ex
  obtain ⟨S', hS⟩ := hS
  rw [e] at lk
  have hr : Room 7 callerA := ⟨rfl, by decide, by decide⟩
  refine run_at (us := [.ref a]) (vs := [.ref a]) (ps := ["_law_script"]) (N := ["_law_script", "_law_draw", "_law_bends", "_law_cells", "_law_turn", "_law_near", "_law_bend", "_law_one", "_law_other", "_law_first", "_law_second", "_law_here", "_law_there", "_law_shared", "_law_told", "_law_start"]) lk hcd sc_law rfl (by decide) rfl e0 (.of_eq rfl) (.cons rfl .nil)
    (sv_law GG (hr.deeper _) rfl) ?_
  exact rsg_start (T := T) (H := H) (N := ["_law_script", "_law_draw", "_law_bends", "_law_cells", "_law_turn", "_law_near", "_law_bend", "_law_one", "_law_other", "_law_first", "_law_second", "_law_here", "_law_there", "_law_shared", "_law_told", "_law_start"]) (m := 15) hT sq rfl hS
set_option linter.unusedVariables false in
theorem all_mk {l : PySem.W.OpenLaw} {w : World} {K : PySem.W.Frag} {h : Heap} {mg : Str → Option Value} {fa : Addr} (X : K.In h) (G : h.Ns mainGlobals mg) (hfa : mg "law" = some (.ref fa))
    {C_LinkError C_BadCells C_BadCode A_CODES A_LOWEST A_BEYOND I_BadCode cda_BadCode cc_BadCode NN_BadCode f_is_number f_cells_for f_are_cells f_sense_in f_parted f_law_begun f_law_mixed f_law_take f_law_pick f_law_caught f_law_codes f_law_span f_law_many f_law_cells_of f_law_made f_law_sense f_law_walked f_law_is_walk cl_law_is_walk Pt_law_is_walk f_law cl_law Pt_law : Addr} {odi_BadCode ani_BadCode cld_BadCode cdd_BadCode dd_BadCode od_is_number an_is_number od_cells_for an_cells_for od_are_cells an_are_cells od_sense_in an_sense_in od_parted an_parted od_law_begun an_law_begun od_law_mixed an_law_mixed od_law_take an_law_take od_law_pick an_law_pick od_law_caught an_law_caught od_law_codes an_law_codes od_law_span an_law_span od_law_many an_law_many od_law_cells_of an_law_cells_of od_law_made an_law_made od_law_sense an_law_sense od_law_walked an_law_walked od_law_is_walk an_law_is_walk odc_law_is_walk od_law an_law odc_law : Option Addr} {sli_BadCode csl_BadCode ccs_BadCode sl_is_number sl_cells_for sl_are_cells sl_sense_in sl_parted sl_law_begun sl_law_mixed sl_law_take sl_law_pick sl_law_caught sl_law_codes sl_law_span sl_law_many sl_law_cells_of sl_law_made sl_law_sense sl_law_walked sl_law_is_walk slc_law_is_walk sl_law slc_law : Array (Option Value)} {oci_BadCode kVi_BadCode dci_BadCode pmi_BadCode cti_BadCode cl2_BadCode ccl_BadCode oc_is_number kV_is_number dc_is_number pm_is_number ct_is_number cd_is_number oc_cells_for kV_cells_for dc_cells_for pm_cells_for ct_cells_for cd_cells_for oc_are_cells kV_are_cells dc_are_cells pm_are_cells ct_are_cells cd_are_cells oc_sense_in kV_sense_in dc_sense_in pm_sense_in ct_sense_in cd_sense_in oc_parted kV_parted dc_parted pm_parted ct_parted cd_parted oc_law_begun kV_law_begun dc_law_begun pm_law_begun ct_law_begun cd_law_begun oc_law_mixed kV_law_mixed dc_law_mixed pm_law_mixed ct_law_mixed cd_law_mixed oc_law_take kV_law_take dc_law_take pm_law_take ct_law_take cd_law_take oc_law_pick kV_law_pick dc_law_pick pm_law_pick ct_law_pick cd_law_pick oc_law_caught kV_law_caught dc_law_caught pm_law_caught ct_law_caught cd_law_caught oc_law_codes kV_law_codes dc_law_codes pm_law_codes ct_law_codes cd_law_codes oc_law_span kV_law_span dc_law_span pm_law_span ct_law_span cd_law_span oc_law_many kV_law_many dc_law_many pm_law_many ct_law_many cd_law_many oc_law_cells_of kV_law_cells_of dc_law_cells_of pm_law_cells_of ct_law_cells_of cd_law_cells_of oc_law_made kV_law_made dc_law_made pm_law_made ct_law_made cd_law_made oc_law_sense kV_law_sense dc_law_sense pm_law_sense ct_law_sense cd_law_sense oc_law_walked kV_law_walked dc_law_walked pm_law_walked ct_law_walked cd_law_walked oc_law_is_walk kV_law_is_walk dc_law_is_walk pm_law_is_walk ct_law_is_walk occ_law_is_walk oc_law kV_law dc_law pm_law ct_law occ_law : Value} {vs_law_is_walk vs_law : Array Value} {cvs_BadCode : Array Value} {fi_BadCode nm_BadCode qn_BadCode : Str} {tf_BadCode : Tok} {bs_BadCode bm_BadCode sb_BadCode : List Value} {sn_BadCode : List Str} {ab_BadCode : Bool} {co_BadCode : Option Bool} {k0_BadCode k1_BadCode k2_BadCode k3_BadCode k5_BadCode : Option Value}
    (own : ∀ x ∈ [("_law_is_walk" : Str), ("law" : Str)], ∀ c P, PySem.W.tabIn K x = some (c, P) → PySem.W.CodeHd h c P ∧ h.get? P = some (PySem.W.tabObj #[]))
    (z_super : PySem.W.nsIn K mainGlobals "super" = some none)
    (f11 : PySem.W.nsIn K cStatics "thirdparty.any" = some none)
    (f9 : (l.prog.main.scope.names.lookup ("super" : Str)).isSome = false)
    (z_len : PySem.W.nsIn K mainGlobals "len" = some none)
    (z_abs : PySem.W.nsIn K mainGlobals "abs" = some none)
    (z_all : PySem.W.nsIn K mainGlobals "all" = some none)
    (z_min : PySem.W.nsIn K mainGlobals "min" = some none)
    (z_int : PySem.W.nsIn K mainGlobals "int" = some none)
    (z_tuple : PySem.W.nsIn K mainGlobals "tuple" = some none)
    (z_list : PySem.W.nsIn K mainGlobals "list" = some none)
    (z_isinstance : PySem.W.nsIn K mainGlobals "isinstance" = some none)
    (z_range : PySem.W.nsIn K mainGlobals "range" = some none)
    (z_bool : PySem.W.nsIn K mainGlobals "bool" = some none)
    (z_zip : PySem.W.nsIn K mainGlobals "zip" = some none)
    (a_LinkError : PySem.W.nsIn K mainGlobals "LinkError" = some (some (.ref C_LinkError)))
    (x_LinkError : PySem.W.excIn K C_LinkError [.type "ValueError", .type "Exception", .type "BaseException", .type "object"] "ValueError.__new__" = true)
    (k_LinkError : PySem.W.keepIn K (.ref C_LinkError) = true)
    (s_LinkError : PySem.W.subIn K (.ref C_LinkError) (.type "BaseException") = some true)
    (t_LinkError : PySem.W.typeIn K (.ref C_LinkError) = some (.type "type"))
    (a_BadCells : PySem.W.nsIn K mainGlobals "BadCells" = some (some (.ref C_BadCells)))
    (x_BadCells : PySem.W.excIn K C_BadCells [.type "ValueError", .type "Exception", .type "BaseException", .type "object"] "ValueError.__new__" = true)
    (k_BadCells : PySem.W.keepIn K (.ref C_BadCells) = true)
    (s_BadCells : PySem.W.subIn K (.ref C_BadCells) (.type "BaseException") = some true)
    (t_BadCells : PySem.W.typeIn K (.ref C_BadCells) = some (.type "type"))
    (a_BadCode : PySem.W.nsIn K mainGlobals "BadCode" = some (some (.ref C_BadCode)))
    (k_BadCode : PySem.W.keepIn K (.ref C_BadCode) = true)
    (s_BadCode : PySem.W.subIn K (.ref C_BadCode) (.type "BaseException") = some true)
    (t_BadCode : PySem.W.typeIn K (.ref C_BadCode) = some (.type "type"))
    (e1_BadCells : PySem.W.findIn K (.ref C_BadCells) "__getattribute__" = some (some (.builtin "BaseException.__getattribute__")))
    (e2_BadCells : PySem.W.findIn K (.ref C_BadCells) "__getattr__" = some none)
    (e3_BadCells : PySem.W.hasDictIn K C_BadCells = true)
    (e4_BadCells : PySem.W.findIn K (.ref C_BadCells) "__class__" = some (some (.builtin "object.__class__")))
    (e5_BadCells : PySem.W.mroIn K C_BadCells (.type "object") = some true)
    (e1_BadCode : PySem.W.findIn K (.ref C_BadCode) "__getattribute__" = some (some (.builtin "BaseException.__getattribute__")))
    (e2_BadCode : PySem.W.findIn K (.ref C_BadCode) "__getattr__" = some none)
    (e3_BadCode : PySem.W.hasDictIn K C_BadCode = true)
    (e4_BadCode : PySem.W.findIn K (.ref C_BadCode) "__class__" = some (some (.builtin "object.__class__")))
    (e5_BadCode : PySem.W.mroIn K C_BadCode (.type "object") = some true)
    (e6 : PySem.W.specialIn K (.builtin "object.__class__") "__get__" = some (some (.builtin "getset_descriptor.__get__")))
    (e7 : PySem.W.takesIn K (.builtin "object.__class__") = some true)
    (v_BadCells_tuple : PySem.W.subIn K (.ref C_BadCells) (.type "tuple") = some false)
    (v_BadCode_tuple : PySem.W.subIn K (.ref C_BadCode) (.type "tuple") = some false)
    (i_LinkError : PySem.W.isClsIn K C_LinkError = true)
    (u_BadCells_LinkError : PySem.W.subIn K (.ref C_BadCells) (.ref C_LinkError) = some true)
    (u_BadCode_LinkError : PySem.W.subIn K (.ref C_BadCode) (.ref C_LinkError) = some true)
    (a_CODES : PySem.W.nsIn K mainGlobals "CODES" = some (some (.ref A_CODES)))
    (q_CODES : cdI K A_CODES tb_CODES = true)
    (a_LOWEST : PySem.W.nsIn K mainGlobals "LOWEST" = some (some (.ref A_LOWEST)))
    (d_LOWEST : He.dicW K A_LOWEST = some (He.keysIn w.params ["r", "p", "c", "k", "f", "L", "d", "D"]))
    (q_LOWEST : cdS K A_LOWEST tb_LOWEST = true)
    (a_BEYOND : PySem.W.nsIn K mainGlobals "BEYOND" = some (some (.ref A_BEYOND)))
    (d_BEYOND : He.dicW K A_BEYOND = some (He.keysIn w.params ["r", "p", "c", "k", "f", "L", "d", "D"]))
    (q_BEYOND : cdS K A_BEYOND tb_BEYOND = true)
    (g8_BadCode : PySem.W.findIn K (.ref C_BadCode) "__init__" = some (some (.ref I_BadCode)))
    (f1_BadCode : K.lookup I_BadCode = some ⟨oci_BadCode, odi_BadCode, .func (PySem.W.ksFn "__init__" "BadCode.__init__" (defArgs si_BadCode) (defBody si_BadCode) (defScope si_BadCode) .none kVi_BadCode dci_BadCode pmi_BadCode ani_BadCode (.ref cda_BadCode) cti_BadCode cc_BadCode), sli_BadCode⟩)
    (f2_BadCode : PySem.W.codeIn K (.ref cda_BadCode) "BadCode.__init__" = true)
    (f3_BadCode : K.lookup cc_BadCode = some ⟨cl2_BadCode, cld_BadCode, .cell (some (.ref C_BadCode)), csl_BadCode⟩)
    (f4_BadCode : PySem.W.isClsIn K C_BadCode = true)
    (f5_BadCode : PySem.W.mroIn K C_BadCode (.ref C_BadCode) = some true)
    (f6_BadCode : K.lookup cda_BadCode = some ⟨ccl_BadCode, cdd_BadCode, .fields cvs_BadCode, ccs_BadCode⟩)
    (f7_BadCode : cvs_BadCode[2]? = some (.str fi_BadCode tf_BadCode))
    (f8_BadCode : ((l.prog.main.file : Str) == fi_BadCode) = true)
    (f10_BadCode : PySem.W.ks_superIn K C_BadCode C_BadCode "__init__" = some (some (.builtin "ValueError.__init__")))
    (f12_BadCode : PySem.W.subIn K (.ref C_BadCode) (.type "ValueError") = some true)
    (g1_BadCode : K.lookup C_BadCode = some (excClassObj nm_BadCode qn_BadCode C_BadCode NN_BadCode bs_BadCode bm_BadCode true sn_BadCode sb_BadCode ab_BadCode co_BadCode dd_BadCode k0_BadCode k1_BadCode k2_BadCode k3_BadCode k5_BadCode "ValueError.__new__"))
    (g2_BadCode : PySem.HandSPX.refsVE bm_BadCode = true)
    (g3_BadCode : PySem.W.findIn K (.ref C_BadCode) "__setattr__" = some (some (.builtin "object.__setattr__")))
    (no_BadCode_at : PySem.W.findIn K (.ref C_BadCode) "at" = some none)
    (g9_BadCode : PySem.W.typeIn K (.ref I_BadCode) = some (.type "function"))
    (a_is_number : PySem.W.nsIn K mainGlobals "is_number" = some (some (.ref f_is_number)))
    (l_is_number : K.lookup f_is_number = some ⟨oc_is_number, od_is_number, .func (PySem.W.fnOf "is_number" "is_number" (defArgs s_is_number) (defBody s_is_number) (defScope s_is_number) .none kV_is_number dc_is_number pm_is_number an_is_number (cd_is_number) ct_is_number), sl_is_number⟩)
    (c_is_number : PySem.W.codeIn K (cd_is_number) "is_number" = true)
    (p_is_number : PySem.W.keepIn K (.ref f_is_number) = true)
    (a_cells_for : PySem.W.nsIn K mainGlobals "cells_for" = some (some (.ref f_cells_for)))
    (l_cells_for : K.lookup f_cells_for = some ⟨oc_cells_for, od_cells_for, .func (PySem.W.fnOf "cells_for" "cells_for" (defArgs s_cells_for) (defBody s_cells_for) (defScope s_cells_for) .none kV_cells_for dc_cells_for pm_cells_for an_cells_for (cd_cells_for) ct_cells_for), sl_cells_for⟩)
    (c_cells_for : PySem.W.codeIn K (cd_cells_for) "cells_for" = true)
    (p_cells_for : PySem.W.keepIn K (.ref f_cells_for) = true)
    (a_are_cells : PySem.W.nsIn K mainGlobals "are_cells" = some (some (.ref f_are_cells)))
    (l_are_cells : K.lookup f_are_cells = some ⟨oc_are_cells, od_are_cells, .func (PySem.W.fnOf "are_cells" "are_cells" (defArgs s_are_cells) (defBody s_are_cells) (defScope s_are_cells) .none kV_are_cells dc_are_cells pm_are_cells an_are_cells (cd_are_cells) ct_are_cells), sl_are_cells⟩)
    (c_are_cells : PySem.W.codeIn K (cd_are_cells) "are_cells" = true)
    (p_are_cells : PySem.W.keepIn K (.ref f_are_cells) = true)
    (a_sense_in : PySem.W.nsIn K mainGlobals "sense_in" = some (some (.ref f_sense_in)))
    (l_sense_in : K.lookup f_sense_in = some ⟨oc_sense_in, od_sense_in, .func (PySem.W.fnOf "sense_in" "sense_in" (defArgs s_sense_in) (defBody s_sense_in) (defScope s_sense_in) .none kV_sense_in dc_sense_in pm_sense_in an_sense_in (cd_sense_in) ct_sense_in), sl_sense_in⟩)
    (c_sense_in : PySem.W.codeIn K (cd_sense_in) "sense_in" = true)
    (p_sense_in : PySem.W.keepIn K (.ref f_sense_in) = true)
    (a_parted : PySem.W.nsIn K mainGlobals "parted" = some (some (.ref f_parted)))
    (l_parted : K.lookup f_parted = some ⟨oc_parted, od_parted, .func (PySem.W.fnOf "parted" "parted" (defArgs s_parted) (defBody s_parted) (defScope s_parted) .none kV_parted dc_parted pm_parted an_parted (cd_parted) ct_parted), sl_parted⟩)
    (c_parted : PySem.W.codeIn K (cd_parted) "parted" = true)
    (p_parted : PySem.W.keepIn K (.ref f_parted) = true)
    (a_law_begun : PySem.W.nsIn K mainGlobals "_law_begun" = some (some (.ref f_law_begun)))
    (l_law_begun : K.lookup f_law_begun = some ⟨oc_law_begun, od_law_begun, .func (PySem.W.fnOf "_law_begun" "_law_begun" (defArgs s_law_begun) (defBody s_law_begun) (defScope s_law_begun) .none kV_law_begun dc_law_begun pm_law_begun an_law_begun (cd_law_begun) ct_law_begun), sl_law_begun⟩)
    (c_law_begun : PySem.W.codeIn K (cd_law_begun) "_law_begun" = true)
    (p_law_begun : PySem.W.keepIn K (.ref f_law_begun) = true)
    (a_law_mixed : PySem.W.nsIn K mainGlobals "_law_mixed" = some (some (.ref f_law_mixed)))
    (l_law_mixed : K.lookup f_law_mixed = some ⟨oc_law_mixed, od_law_mixed, .func (PySem.W.fnOf "_law_mixed" "_law_mixed" (defArgs s_law_mixed) (defBody s_law_mixed) (defScope s_law_mixed) .none kV_law_mixed dc_law_mixed pm_law_mixed an_law_mixed (cd_law_mixed) ct_law_mixed), sl_law_mixed⟩)
    (c_law_mixed : PySem.W.codeIn K (cd_law_mixed) "_law_mixed" = true)
    (p_law_mixed : PySem.W.keepIn K (.ref f_law_mixed) = true)
    (a_law_take : PySem.W.nsIn K mainGlobals "_law_take" = some (some (.ref f_law_take)))
    (l_law_take : K.lookup f_law_take = some ⟨oc_law_take, od_law_take, .func (PySem.W.fnOf "_law_take" "_law_take" (defArgs s_law_take) (defBody s_law_take) (defScope s_law_take) .none kV_law_take dc_law_take pm_law_take an_law_take (cd_law_take) ct_law_take), sl_law_take⟩)
    (c_law_take : PySem.W.codeIn K (cd_law_take) "_law_take" = true)
    (p_law_take : PySem.W.keepIn K (.ref f_law_take) = true)
    (a_law_pick : PySem.W.nsIn K mainGlobals "_law_pick" = some (some (.ref f_law_pick)))
    (l_law_pick : K.lookup f_law_pick = some ⟨oc_law_pick, od_law_pick, .func (PySem.W.fnOf "_law_pick" "_law_pick" (defArgs s_law_pick) (defBody s_law_pick) (defScope s_law_pick) .none kV_law_pick dc_law_pick pm_law_pick an_law_pick (cd_law_pick) ct_law_pick), sl_law_pick⟩)
    (c_law_pick : PySem.W.codeIn K (cd_law_pick) "_law_pick" = true)
    (p_law_pick : PySem.W.keepIn K (.ref f_law_pick) = true)
    (a_law_caught : PySem.W.nsIn K mainGlobals "_law_caught" = some (some (.ref f_law_caught)))
    (l_law_caught : K.lookup f_law_caught = some ⟨oc_law_caught, od_law_caught, .func (PySem.W.fnOf "_law_caught" "_law_caught" (defArgs s_law_caught) (defBody s_law_caught) (defScope s_law_caught) .none kV_law_caught dc_law_caught pm_law_caught an_law_caught (cd_law_caught) ct_law_caught), sl_law_caught⟩)
    (c_law_caught : PySem.W.codeIn K (cd_law_caught) "_law_caught" = true)
    (p_law_caught : PySem.W.keepIn K (.ref f_law_caught) = true)
    (a_law_codes : PySem.W.nsIn K mainGlobals "_law_codes" = some (some (.ref f_law_codes)))
    (l_law_codes : K.lookup f_law_codes = some ⟨oc_law_codes, od_law_codes, .func (PySem.W.fnOf "_law_codes" "_law_codes" (defArgs s_law_codes) (defBody s_law_codes) (defScope s_law_codes) .none kV_law_codes dc_law_codes pm_law_codes an_law_codes (cd_law_codes) ct_law_codes), sl_law_codes⟩)
    (c_law_codes : PySem.W.codeIn K (cd_law_codes) "_law_codes" = true)
    (p_law_codes : PySem.W.keepIn K (.ref f_law_codes) = true)
    (a_law_span : PySem.W.nsIn K mainGlobals "_law_span" = some (some (.ref f_law_span)))
    (l_law_span : K.lookup f_law_span = some ⟨oc_law_span, od_law_span, .func (PySem.W.fnOf "_law_span" "_law_span" (defArgs s_law_span) (defBody s_law_span) (defScope s_law_span) .none kV_law_span dc_law_span pm_law_span an_law_span (cd_law_span) ct_law_span), sl_law_span⟩)
    (c_law_span : PySem.W.codeIn K (cd_law_span) "_law_span" = true)
    (p_law_span : PySem.W.keepIn K (.ref f_law_span) = true)
    (a_law_many : PySem.W.nsIn K mainGlobals "_law_many" = some (some (.ref f_law_many)))
    (l_law_many : K.lookup f_law_many = some ⟨oc_law_many, od_law_many, .func (PySem.W.fnOf "_law_many" "_law_many" (defArgs s_law_many) (defBody s_law_many) (defScope s_law_many) .none kV_law_many dc_law_many pm_law_many an_law_many (cd_law_many) ct_law_many), sl_law_many⟩)
    (c_law_many : PySem.W.codeIn K (cd_law_many) "_law_many" = true)
    (p_law_many : PySem.W.keepIn K (.ref f_law_many) = true)
    (a_law_cells_of : PySem.W.nsIn K mainGlobals "_law_cells_of" = some (some (.ref f_law_cells_of)))
    (l_law_cells_of : K.lookup f_law_cells_of = some ⟨oc_law_cells_of, od_law_cells_of, .func (PySem.W.fnOf "_law_cells_of" "_law_cells_of" (defArgs s_law_cells_of) (defBody s_law_cells_of) (defScope s_law_cells_of) .none kV_law_cells_of dc_law_cells_of pm_law_cells_of an_law_cells_of (cd_law_cells_of) ct_law_cells_of), sl_law_cells_of⟩)
    (c_law_cells_of : PySem.W.codeIn K (cd_law_cells_of) "_law_cells_of" = true)
    (p_law_cells_of : PySem.W.keepIn K (.ref f_law_cells_of) = true)
    (a_law_made : PySem.W.nsIn K mainGlobals "_law_made" = some (some (.ref f_law_made)))
    (l_law_made : K.lookup f_law_made = some ⟨oc_law_made, od_law_made, .func (PySem.W.fnOf "_law_made" "_law_made" (defArgs s_law_made) (defBody s_law_made) (defScope s_law_made) .none kV_law_made dc_law_made pm_law_made an_law_made (cd_law_made) ct_law_made), sl_law_made⟩)
    (c_law_made : PySem.W.codeIn K (cd_law_made) "_law_made" = true)
    (p_law_made : PySem.W.keepIn K (.ref f_law_made) = true)
    (a_law_sense : PySem.W.nsIn K mainGlobals "_law_sense" = some (some (.ref f_law_sense)))
    (l_law_sense : K.lookup f_law_sense = some ⟨oc_law_sense, od_law_sense, .func (PySem.W.fnOf "_law_sense" "_law_sense" (defArgs s_law_sense) (defBody s_law_sense) (defScope s_law_sense) .none kV_law_sense dc_law_sense pm_law_sense an_law_sense (cd_law_sense) ct_law_sense), sl_law_sense⟩)
    (c_law_sense : PySem.W.codeIn K (cd_law_sense) "_law_sense" = true)
    (p_law_sense : PySem.W.keepIn K (.ref f_law_sense) = true)
    (a_law_walked : PySem.W.nsIn K mainGlobals "_law_walked" = some (some (.ref f_law_walked)))
    (l_law_walked : K.lookup f_law_walked = some ⟨oc_law_walked, od_law_walked, .func (PySem.W.fnOf "_law_walked" "_law_walked" (defArgs s_law_walked) (defBody s_law_walked) (defScope s_law_walked) .none kV_law_walked dc_law_walked pm_law_walked an_law_walked (cd_law_walked) ct_law_walked), sl_law_walked⟩)
    (c_law_walked : PySem.W.codeIn K (cd_law_walked) "_law_walked" = true)
    (p_law_walked : PySem.W.keepIn K (.ref f_law_walked) = true)
    (a_law_is_walk : PySem.W.nsIn K mainGlobals "_law_is_walk" = some (some (.ref f_law_is_walk)))
    (l_law_is_walk : K.lookup f_law_is_walk = some ⟨oc_law_is_walk, od_law_is_walk, .func (PySem.W.fnOf "_law_is_walk" "_law_is_walk" (defArgs s_law_is_walk) (defBody s_law_is_walk) (defScope s_law_is_walk) .none kV_law_is_walk dc_law_is_walk pm_law_is_walk an_law_is_walk (.ref cl_law_is_walk) ct_law_is_walk), sl_law_is_walk⟩)
    (c_law_is_walk : PySem.W.codeIn K (.ref cl_law_is_walk) "_law_is_walk" = true)
    (p_law_is_walk : PySem.W.keepIn K (.ref f_law_is_walk) = true)
    (lc_law_is_walk : K.lookup cl_law_is_walk = some ⟨occ_law_is_walk, odc_law_is_walk, .fields vs_law_is_walk, slc_law_is_walk⟩)
    (h11_law_is_walk : vs_law_is_walk[11]? = some (.ref Pt_law_is_walk))
    (np_law_is_walk : List.lookup Pt_law_is_walk K = none)
    (a_law : PySem.W.nsIn K mainGlobals "law" = some (some (.ref f_law)))
    (l_law : K.lookup f_law = some ⟨oc_law, od_law, .func (PySem.W.fnOf "law" "law" (defArgs s_law) (defBody s_law) (defScope s_law) .none kV_law dc_law pm_law an_law (.ref cl_law) ct_law), sl_law⟩)
    (c_law : PySem.W.codeIn K (.ref cl_law) "law" = true)
    (p_law : PySem.W.keepIn K (.ref f_law) = true)
    (lc_law : K.lookup cl_law = some ⟨occ_law, odc_law, .fields vs_law, slc_law⟩)
    (h11_law : vs_law[11]? = some (.ref Pt_law))
    (np_law : List.lookup Pt_law K = none)
    (nt_law_is_walk_law : ¬ Pt_law_is_walk = Pt_law)
    : LawG l w K 63 mg fa h := by
  have e := hfa.symm.trans (PySem.W.mg_of X G a_law)
  cases e
  have o_law_is_walk := own "_law_is_walk" (by simp) cl_law_is_walk Pt_law_is_walk (tab_is a_law_is_walk l_law_is_walk rfl lc_law_is_walk h11_law_is_walk)
  have o_law := own "law" (by simp) cl_law Pt_law (tab_is a_law l_law rfl lc_law h11_law)
  refine ⟨[(cl_law_is_walk, Pt_law_is_walk), (cl_law, Pt_law)], fun p hp => ?_, fun p hp => ?_, fun p hp => ?_, fun base H s a ns hl hb TB e0 hH sq => ?_⟩
  · simp only [List.mem_cons, List.not_mem_nil, or_false] at hp
    rcases hp with rfl | rfl
    · exact o_law_is_walk.2
    · exact o_law.2
  · simp only [List.mem_cons, List.not_mem_nil, or_false] at hp
    rcases hp with rfl | rfl
    · exact np_law_is_walk
    · exact np_law
  · simp only [List.mem_cons, List.not_mem_nil, or_false] at hp
    rcases hp with rfl | rfl
    · exact o_law_is_walk.1
    · exact o_law.1
  · have GG : Gs l.prog w K mg base (([((cl_law_is_walk, Pt_law_is_walk), q_law_is_walk), ((cl_law, Pt_law), q_law)] : List ((Addr × Addr) × Str)).map fun p => (p.1.2, p.2)) ⟨C_LinkError, C_BadCells, C_BadCode, f_is_number, PySem.W.fnOf "is_number" "is_number" (defArgs s_is_number) (defBody s_is_number) (defScope s_is_number) .none kV_is_number dc_is_number pm_is_number an_is_number (cd_is_number) ct_is_number, f_cells_for, PySem.W.fnOf "cells_for" "cells_for" (defArgs s_cells_for) (defBody s_cells_for) (defScope s_cells_for) .none kV_cells_for dc_cells_for pm_cells_for an_cells_for (cd_cells_for) ct_cells_for, f_are_cells, PySem.W.fnOf "are_cells" "are_cells" (defArgs s_are_cells) (defBody s_are_cells) (defScope s_are_cells) .none kV_are_cells dc_are_cells pm_are_cells an_are_cells (cd_are_cells) ct_are_cells, f_sense_in, PySem.W.fnOf "sense_in" "sense_in" (defArgs s_sense_in) (defBody s_sense_in) (defScope s_sense_in) .none kV_sense_in dc_sense_in pm_sense_in an_sense_in (cd_sense_in) ct_sense_in, f_parted, PySem.W.fnOf "parted" "parted" (defArgs s_parted) (defBody s_parted) (defScope s_parted) .none kV_parted dc_parted pm_parted an_parted (cd_parted) ct_parted, f_law_begun, PySem.W.fnOf "_law_begun" "_law_begun" (defArgs s_law_begun) (defBody s_law_begun) (defScope s_law_begun) .none kV_law_begun dc_law_begun pm_law_begun an_law_begun (cd_law_begun) ct_law_begun, f_law_mixed, PySem.W.fnOf "_law_mixed" "_law_mixed" (defArgs s_law_mixed) (defBody s_law_mixed) (defScope s_law_mixed) .none kV_law_mixed dc_law_mixed pm_law_mixed an_law_mixed (cd_law_mixed) ct_law_mixed, f_law_take, PySem.W.fnOf "_law_take" "_law_take" (defArgs s_law_take) (defBody s_law_take) (defScope s_law_take) .none kV_law_take dc_law_take pm_law_take an_law_take (cd_law_take) ct_law_take, f_law_pick, PySem.W.fnOf "_law_pick" "_law_pick" (defArgs s_law_pick) (defBody s_law_pick) (defScope s_law_pick) .none kV_law_pick dc_law_pick pm_law_pick an_law_pick (cd_law_pick) ct_law_pick, f_law_caught, PySem.W.fnOf "_law_caught" "_law_caught" (defArgs s_law_caught) (defBody s_law_caught) (defScope s_law_caught) .none kV_law_caught dc_law_caught pm_law_caught an_law_caught (cd_law_caught) ct_law_caught, f_law_codes, PySem.W.fnOf "_law_codes" "_law_codes" (defArgs s_law_codes) (defBody s_law_codes) (defScope s_law_codes) .none kV_law_codes dc_law_codes pm_law_codes an_law_codes (cd_law_codes) ct_law_codes, f_law_span, PySem.W.fnOf "_law_span" "_law_span" (defArgs s_law_span) (defBody s_law_span) (defScope s_law_span) .none kV_law_span dc_law_span pm_law_span an_law_span (cd_law_span) ct_law_span, f_law_many, PySem.W.fnOf "_law_many" "_law_many" (defArgs s_law_many) (defBody s_law_many) (defScope s_law_many) .none kV_law_many dc_law_many pm_law_many an_law_many (cd_law_many) ct_law_many, f_law_cells_of, PySem.W.fnOf "_law_cells_of" "_law_cells_of" (defArgs s_law_cells_of) (defBody s_law_cells_of) (defScope s_law_cells_of) .none kV_law_cells_of dc_law_cells_of pm_law_cells_of an_law_cells_of (cd_law_cells_of) ct_law_cells_of, f_law_made, PySem.W.fnOf "_law_made" "_law_made" (defArgs s_law_made) (defBody s_law_made) (defScope s_law_made) .none kV_law_made dc_law_made pm_law_made an_law_made (cd_law_made) ct_law_made, f_law_sense, PySem.W.fnOf "_law_sense" "_law_sense" (defArgs s_law_sense) (defBody s_law_sense) (defScope s_law_sense) .none kV_law_sense dc_law_sense pm_law_sense an_law_sense (cd_law_sense) ct_law_sense, f_law_walked, PySem.W.fnOf "_law_walked" "_law_walked" (defArgs s_law_walked) (defBody s_law_walked) (defScope s_law_walked) .none kV_law_walked dc_law_walked pm_law_walked an_law_walked (cd_law_walked) ct_law_walked, f_law_is_walk, PySem.W.fnOf "_law_is_walk" "_law_is_walk" (defArgs s_law_is_walk) (defBody s_law_is_walk) (defScope s_law_is_walk) .none kV_law_is_walk dc_law_is_walk pm_law_is_walk an_law_is_walk (.ref cl_law_is_walk) ct_law_is_walk, fa, PySem.W.fnOf "law" "law" (defArgs s_law) (defBody s_law) (defScope s_law) .none kV_law dc_law pm_law an_law (.ref cl_law) ct_law, I_BadCode, PySem.W.ksFn "__init__" "BadCode.__init__" (defArgs si_BadCode) (defBody si_BadCode) (defScope si_BadCode) .none kVi_BadCode dci_BadCode pmi_BadCode ani_BadCode (.ref cda_BadCode) cti_BadCode cc_BadCode, A_CODES, A_LOWEST, A_BEYOND, cl_law_is_walk, Pt_law_is_walk, cl_law, Pt_law⟩ := by
      refine ⟨?_, ?_, ?_, ?_, ?_, ?_, ?_, ?_, ?_, ?_, ?_, ?_, ?_, ?_, ?_, ?_, ?_, ?_, ?_, ?_, ?_, ?_, ?_, ?_, ?_, ?_, ?_, ?_, ?_, ?_, ?_, ?_, ?_, ?_, ?_, ?_, ?_, ?_, ?_, ?_, ?_, ?_, ?_, ?_, ?_, ?_, ?_, ?_, ?_, ?_, ?_, ?_, ?_, ?_, ?_, ?_, ?_, ?_, ?_, ?_, ?_, ?_, ?_, ?_, ?_, ?_, ?_, ?_, ?_, ?_, ?_, ?_, ?_, ?_, ?_, ?_, ?_⟩
      · exact PySem.W.mg_none_of X G z_len
      · exact PySem.W.mg_none_of X G z_abs
      · exact PySem.W.mg_none_of X G z_all
      · exact PySem.W.mg_none_of X G z_min
      · exact PySem.W.mg_none_of X G z_int
      · exact PySem.W.mg_none_of X G z_tuple
      · exact PySem.W.mg_none_of X G z_list
      · exact PySem.W.mg_none_of X G z_isinstance
      · exact PySem.W.mg_none_of X G z_range
      · exact PySem.W.mg_none_of X G z_bool
      · exact PySem.W.mg_none_of X G z_zip
      · exact PySem.W.mg_of X G a_LinkError
      · exact x_LinkError
      · exact k_LinkError
      · exact s_LinkError
      · exact t_LinkError
      · exact PySem.W.mg_of X G a_BadCells
      · exact x_BadCells
      · exact k_BadCells
      · exact s_BadCells
      · exact t_BadCells
      · exact PySem.W.mg_of X G a_BadCode
      · exact k_BadCode
      · exact s_BadCode
      · exact t_BadCode
      · intro D hD
        simp only [List.mem_cons, List.not_mem_nil, or_false] at hD
        rcases hD with rfl | rfl
        · exact ⟨e1_BadCells, e2_BadCells, s_BadCells, e3_BadCells, e4_BadCells, e6, e7, e5_BadCells⟩
        · exact ⟨e1_BadCode, e2_BadCode, s_BadCode, e3_BadCode, e4_BadCode, e6, e7, e5_BadCode⟩
      · exact xi_mk (st := si_BadCode) ss_BadCode (PySem.W.mg_none_of X G z_super) rfl rfl rfl rfl (by simp) (by simp) (by simp) rfl (.cons rfl rfl rfl (fun _ => rfl) .nil) (fun _ => ⟨_, rfl⟩) (fun _ => rfl) (fun us hl => match us, hl with | [_, _], _ => rfl) f1_BadCode f2_BadCode f3_BadCode f4_BadCode f5_BadCode f6_BadCode f7_BadCode f8_BadCode f9 f10_BadCode f11 f12_BadCode g1_BadCode g2_BadCode g3_BadCode s_BadCode t_BadCode k_BadCode (by simp [no_BadCode_at]) g8_BadCode g9_BadCode
      · exact PySem.W.mg_of X G a_CODES
      · exact cdI_ok q_CODES
      · exact PySem.W.mg_of X G a_LOWEST
      · exact cdS_ok d_LOWEST q_LOWEST
      · exact PySem.W.mg_of X G a_BEYOND
      · exact cdS_ok d_BEYOND q_BEYOND
      · exact fun_mk (st := s_is_number) l_is_number c_is_number p_is_number
      · exact PySem.W.mg_of X G a_is_number
      · exact fun_mk (st := s_cells_for) l_cells_for c_cells_for p_cells_for
      · exact PySem.W.mg_of X G a_cells_for
      · exact fun_mk (st := s_are_cells) l_are_cells c_are_cells p_are_cells
      · exact PySem.W.mg_of X G a_are_cells
      · exact fun_mk (st := s_sense_in) l_sense_in c_sense_in p_sense_in
      · exact PySem.W.mg_of X G a_sense_in
      · exact fun_mk (st := s_parted) l_parted c_parted p_parted
      · exact PySem.W.mg_of X G a_parted
      · exact fun_mk (st := s_law_begun) l_law_begun c_law_begun p_law_begun
      · exact PySem.W.mg_of X G a_law_begun
      · exact fun_mk (st := s_law_mixed) l_law_mixed c_law_mixed p_law_mixed
      · exact PySem.W.mg_of X G a_law_mixed
      · exact fun_mk (st := s_law_take) l_law_take c_law_take p_law_take
      · exact PySem.W.mg_of X G a_law_take
      · exact fun_mk (st := s_law_pick) l_law_pick c_law_pick p_law_pick
      · exact PySem.W.mg_of X G a_law_pick
      · exact fun_mk (st := s_law_caught) l_law_caught c_law_caught p_law_caught
      · exact PySem.W.mg_of X G a_law_caught
      · exact fun_mk (st := s_law_codes) l_law_codes c_law_codes p_law_codes
      · exact PySem.W.mg_of X G a_law_codes
      · exact fun_mk (st := s_law_span) l_law_span c_law_span p_law_span
      · exact PySem.W.mg_of X G a_law_span
      · exact fun_mk (st := s_law_many) l_law_many c_law_many p_law_many
      · exact PySem.W.mg_of X G a_law_many
      · exact fun_mk (st := s_law_cells_of) l_law_cells_of c_law_cells_of p_law_cells_of
      · exact PySem.W.mg_of X G a_law_cells_of
      · exact fun_mk (st := s_law_made) l_law_made c_law_made p_law_made
      · exact PySem.W.mg_of X G a_law_made
      · exact fun_mk (st := s_law_sense) l_law_sense c_law_sense p_law_sense
      · exact PySem.W.mg_of X G a_law_sense
      · exact fun_mk (st := s_law_walked) l_law_walked c_law_walked p_law_walked
      · exact PySem.W.mg_of X G a_law_walked
      · exact funC_mk (st := s_law_is_walk) l_law_is_walk c_law_is_walk p_law_is_walk
      · exact PySem.W.mg_of X G a_law_is_walk
      · exact TB (cl_law_is_walk, Pt_law_is_walk) (by simp)
      · exact List.mem_map_of_mem (f := fun p : (Addr × Addr) × Str => (p.1.2, p.2)) (a := ((cl_law_is_walk, Pt_law_is_walk), q_law_is_walk)) (by simp)
      · intro p hp e
        simp only [List.map_cons, List.map_nil, List.mem_cons, List.not_mem_nil, or_false] at hp
        rcases hp with rfl | rfl
        · rfl
        · exact absurd e (fun z => nt_law_is_walk_law z.symm)
      · exact funC_mk (st := s_law) l_law c_law p_law
      · exact PySem.W.mg_of X G a_law
      · exact TB (cl_law, Pt_law) (by simp)
      · exact List.mem_map_of_mem (f := fun p : (Addr × Addr) × Str => (p.1.2, p.2)) (a := ((cl_law, Pt_law), q_law)) (by simp)
      · intro p hp e
        simp only [List.map_cons, List.map_nil, List.mem_cons, List.not_mem_nil, or_false] at hp
        rcases hp with rfl | rfl
        · exact absurd e nt_law_is_walk_law
        · rfl
    have hT : ∀ p ∈ (([((cl_law_is_walk, Pt_law_is_walk), q_law_is_walk), ((cl_law, Pt_law), q_law)] : List ((Addr × Addr) × Str)).map fun p => (p.1.2, p.2)), H p.1 = some (.tbl #[]) := by
      intro p hp
      simp only [List.map_cons, List.map_nil, List.mem_cons, List.not_mem_nil, or_false] at hp
      rcases hp with rfl | rfl
      · exact hH (cl_law_is_walk, Pt_law_is_walk) (by simp)
      · exact hH (cl_law, Pt_law) (by simp)
    exact law_run GG (law_true (K := K) (c := ⟨C_LinkError, C_BadCells, C_BadCode, f_is_number, PySem.W.fnOf "is_number" "is_number" (defArgs s_is_number) (defBody s_is_number) (defScope s_is_number) .none kV_is_number dc_is_number pm_is_number an_is_number (cd_is_number) ct_is_number, f_cells_for, PySem.W.fnOf "cells_for" "cells_for" (defArgs s_cells_for) (defBody s_cells_for) (defScope s_cells_for) .none kV_cells_for dc_cells_for pm_cells_for an_cells_for (cd_cells_for) ct_cells_for, f_are_cells, PySem.W.fnOf "are_cells" "are_cells" (defArgs s_are_cells) (defBody s_are_cells) (defScope s_are_cells) .none kV_are_cells dc_are_cells pm_are_cells an_are_cells (cd_are_cells) ct_are_cells, f_sense_in, PySem.W.fnOf "sense_in" "sense_in" (defArgs s_sense_in) (defBody s_sense_in) (defScope s_sense_in) .none kV_sense_in dc_sense_in pm_sense_in an_sense_in (cd_sense_in) ct_sense_in, f_parted, PySem.W.fnOf "parted" "parted" (defArgs s_parted) (defBody s_parted) (defScope s_parted) .none kV_parted dc_parted pm_parted an_parted (cd_parted) ct_parted, f_law_begun, PySem.W.fnOf "_law_begun" "_law_begun" (defArgs s_law_begun) (defBody s_law_begun) (defScope s_law_begun) .none kV_law_begun dc_law_begun pm_law_begun an_law_begun (cd_law_begun) ct_law_begun, f_law_mixed, PySem.W.fnOf "_law_mixed" "_law_mixed" (defArgs s_law_mixed) (defBody s_law_mixed) (defScope s_law_mixed) .none kV_law_mixed dc_law_mixed pm_law_mixed an_law_mixed (cd_law_mixed) ct_law_mixed, f_law_take, PySem.W.fnOf "_law_take" "_law_take" (defArgs s_law_take) (defBody s_law_take) (defScope s_law_take) .none kV_law_take dc_law_take pm_law_take an_law_take (cd_law_take) ct_law_take, f_law_pick, PySem.W.fnOf "_law_pick" "_law_pick" (defArgs s_law_pick) (defBody s_law_pick) (defScope s_law_pick) .none kV_law_pick dc_law_pick pm_law_pick an_law_pick (cd_law_pick) ct_law_pick, f_law_caught, PySem.W.fnOf "_law_caught" "_law_caught" (defArgs s_law_caught) (defBody s_law_caught) (defScope s_law_caught) .none kV_law_caught dc_law_caught pm_law_caught an_law_caught (cd_law_caught) ct_law_caught, f_law_codes, PySem.W.fnOf "_law_codes" "_law_codes" (defArgs s_law_codes) (defBody s_law_codes) (defScope s_law_codes) .none kV_law_codes dc_law_codes pm_law_codes an_law_codes (cd_law_codes) ct_law_codes, f_law_span, PySem.W.fnOf "_law_span" "_law_span" (defArgs s_law_span) (defBody s_law_span) (defScope s_law_span) .none kV_law_span dc_law_span pm_law_span an_law_span (cd_law_span) ct_law_span, f_law_many, PySem.W.fnOf "_law_many" "_law_many" (defArgs s_law_many) (defBody s_law_many) (defScope s_law_many) .none kV_law_many dc_law_many pm_law_many an_law_many (cd_law_many) ct_law_many, f_law_cells_of, PySem.W.fnOf "_law_cells_of" "_law_cells_of" (defArgs s_law_cells_of) (defBody s_law_cells_of) (defScope s_law_cells_of) .none kV_law_cells_of dc_law_cells_of pm_law_cells_of an_law_cells_of (cd_law_cells_of) ct_law_cells_of, f_law_made, PySem.W.fnOf "_law_made" "_law_made" (defArgs s_law_made) (defBody s_law_made) (defScope s_law_made) .none kV_law_made dc_law_made pm_law_made an_law_made (cd_law_made) ct_law_made, f_law_sense, PySem.W.fnOf "_law_sense" "_law_sense" (defArgs s_law_sense) (defBody s_law_sense) (defScope s_law_sense) .none kV_law_sense dc_law_sense pm_law_sense an_law_sense (cd_law_sense) ct_law_sense, f_law_walked, PySem.W.fnOf "_law_walked" "_law_walked" (defArgs s_law_walked) (defBody s_law_walked) (defScope s_law_walked) .none kV_law_walked dc_law_walked pm_law_walked an_law_walked (cd_law_walked) ct_law_walked, f_law_is_walk, PySem.W.fnOf "_law_is_walk" "_law_is_walk" (defArgs s_law_is_walk) (defBody s_law_is_walk) (defScope s_law_is_walk) .none kV_law_is_walk dc_law_is_walk pm_law_is_walk an_law_is_walk (.ref cl_law_is_walk) ct_law_is_walk, fa, PySem.W.fnOf "law" "law" (defArgs s_law) (defBody s_law) (defScope s_law) .none kV_law dc_law pm_law an_law (.ref cl_law) ct_law, I_BadCode, PySem.W.ksFn "__init__" "BadCode.__init__" (defArgs si_BadCode) (defBody si_BadCode) (defScope si_BadCode) .none kVi_BadCode dci_BadCode pmi_BadCode ani_BadCode (.ref cda_BadCode) cti_BadCode cc_BadCode, A_CODES, A_LOWEST, A_BEYOND, cl_law_is_walk, Pt_law_is_walk, cl_law, Pt_law⟩) (exm_of s_LinkError i_LinkError t_LinkError u_BadCells_LinkError) (exm_of s_LinkError i_LinkError t_LinkError u_BadCode_LinkError) kit_self kit_self (kit_ty (by first | rfl | simp) (by decide +kernel) v_BadCells_tuple) (kit_ty (by first | rfl | simp) (by decide +kernel) v_BadCode_tuple) ns hl hb) hT sq e0
end K16
open PySem PySem.W PyProof.Rows in
set_option maxRecDepth 100000 in
set_option maxHeartbeats 0 in
theorem PySem.Challenge.cw_onebase_k16_whole_cells_parted_one_way_holds : PySem.Challenge.rw_onebase_k16_whole_cells_parted_one_way.Holds := by
  w_on; o_law; k_head; (case hw => w_witness2)
  k_fill
  refine PL.walkG2 (l := PySem.Challenge.rw_onebase_k16_whole_cells_parted_one_way) (n := 63) (xs := [("_law_is_walk" : Str), ("law" : Str)]) rfl (by decide) rfl (by rfl) (fun w h Y => PySem.W.km_in_of Y) ?F
  case F =>
    intro w mg fa h Y KX G hmg own
    refine' K16.all_mk KX G hmg own ?z_super ?f11 ?f9 ?z_len ?z_abs ?z_all ?z_min ?z_int ?z_tuple ?z_list ?z_isinstance ?z_range ?z_bool ?z_zip ?a_LinkError ?x_LinkError ?k_LinkError ?s_LinkError ?t_LinkError ?a_BadCells ?x_BadCells ?k_BadCells ?s_BadCells ?t_BadCells ?a_BadCode ?k_BadCode ?s_BadCode ?t_BadCode ?e1_BadCells ?e2_BadCells ?e3_BadCells ?e4_BadCells ?e5_BadCells ?e1_BadCode ?e2_BadCode ?e3_BadCode ?e4_BadCode ?e5_BadCode ?e6 ?e7 ?v_BadCells_tuple ?v_BadCode_tuple ?i_LinkError ?u_BadCells_LinkError ?u_BadCode_LinkError ?a_CODES ?q_CODES ?a_LOWEST ?d_LOWEST ?q_LOWEST ?a_BEYOND ?d_BEYOND ?q_BEYOND ?g8_BadCode ?f1_BadCode ?f2_BadCode ?f3_BadCode ?f4_BadCode ?f5_BadCode ?f6_BadCode ?f7_BadCode ?f8_BadCode ?f10_BadCode ?f12_BadCode ?g1_BadCode ?g2_BadCode ?g3_BadCode ?no_BadCode_at ?g9_BadCode ?a_is_number ?l_is_number ?c_is_number ?p_is_number ?a_cells_for ?l_cells_for ?c_cells_for ?p_cells_for ?a_are_cells ?l_are_cells ?c_are_cells ?p_are_cells ?a_sense_in ?l_sense_in ?c_sense_in ?p_sense_in ?a_parted ?l_parted ?c_parted ?p_parted ?a_law_begun ?l_law_begun ?c_law_begun ?p_law_begun ?a_law_mixed ?l_law_mixed ?c_law_mixed ?p_law_mixed ?a_law_take ?l_law_take ?c_law_take ?p_law_take ?a_law_pick ?l_law_pick ?c_law_pick ?p_law_pick ?a_law_caught ?l_law_caught ?c_law_caught ?p_law_caught ?a_law_codes ?l_law_codes ?c_law_codes ?p_law_codes ?a_law_span ?l_law_span ?c_law_span ?p_law_span ?a_law_many ?l_law_many ?c_law_many ?p_law_many ?a_law_cells_of ?l_law_cells_of ?c_law_cells_of ?p_law_cells_of ?a_law_made ?l_law_made ?c_law_made ?p_law_made ?a_law_sense ?l_law_sense ?c_law_sense ?p_law_sense ?a_law_walked ?l_law_walked ?c_law_walked ?p_law_walked ?a_law_is_walk ?l_law_is_walk ?c_law_is_walk ?p_law_is_walk ?lc_law_is_walk ?h11_law_is_walk ?np_law_is_walk ?a_law ?l_law ?c_law ?p_law ?lc_law ?h11_law ?np_law ?nt_law_is_walk_law
    (case z_super => k_is)
    (case f11 => k_is)
    (case f9 => first | rfl | kernel_rfl)
    (case z_len => k_is)
    (case z_abs => k_is)
    (case z_all => k_is)
    (case z_min => k_is)
    (case z_int => k_is)
    (case z_tuple => k_is)
    (case z_list => k_is)
    (case z_isinstance => k_is)
    (case z_range => k_is)
    (case z_bool => k_is)
    (case z_zip => k_is)
    (case a_LinkError => k_is)
    (case x_LinkError => k_exc)
    (case k_LinkError => k_is)
    (case s_LinkError => k_is)
    (case t_LinkError => k_is)
    (case a_BadCells => k_is)
    (case x_BadCells => k_exc)
    (case k_BadCells => k_is)
    (case s_BadCells => k_is)
    (case t_BadCells => k_is)
    (case a_BadCode => k_is)
    (case k_BadCode => k_is)
    (case s_BadCode => k_is)
    (case t_BadCode => k_is)
    (case e1_BadCells => k_is)
    (case e2_BadCells => k_is)
    (case e3_BadCells => k_is)
    (case e4_BadCells => k_is)
    (case e5_BadCells => k_is)
    (case e1_BadCode => k_is)
    (case e2_BadCode => k_is)
    (case e3_BadCode => k_is)
    (case e4_BadCode => k_is)
    (case e5_BadCode => k_is)
    (case e6 => k_is)
    (case e7 => k_is)
    (case v_BadCells_tuple => k_is)
    (case v_BadCode_tuple => k_is)
    (case i_LinkError => k_is)
    (case u_BadCells_LinkError => k_is)
    (case u_BadCode_LinkError => k_is)
    (case a_CODES => k_is)
    (case q_CODES => kernel_rfl)
    (case a_LOWEST => k_is)
    (case d_LOWEST => kernel_rfl)
    (case q_LOWEST => kernel_rfl)
    (case a_BEYOND => k_is)
    (case d_BEYOND => kernel_rfl)
    (case q_BEYOND => kernel_rfl)
    (case g8_BadCode => k_is)
    (case f1_BadCode => k_is)
    (case f2_BadCode => k_is)
    (case f3_BadCode => k_is)
    (case f4_BadCode => k_is)
    (case f5_BadCode => k_is)
    (case f6_BadCode => k_is)
    (case f7_BadCode => rfl)
    (case f8_BadCode => first | rfl | kernel_rfl)
    (case f10_BadCode => kernel_rfl)
    (case f12_BadCode => k_is)
    (case g1_BadCode => k_is)
    (case g2_BadCode => rfl)
    (case g3_BadCode => k_is)
    (case no_BadCode_at => k_is)
    (case g9_BadCode => k_is)
    (case a_is_number => k_is)
    (case l_is_number => k_is)
    (case c_is_number => k_is)
    (case p_is_number => k_is)
    (case a_cells_for => k_is)
    (case l_cells_for => k_is)
    (case c_cells_for => k_is)
    (case p_cells_for => k_is)
    (case a_are_cells => k_is)
    (case l_are_cells => k_is)
    (case c_are_cells => k_is)
    (case p_are_cells => k_is)
    (case a_sense_in => k_is)
    (case l_sense_in => k_is)
    (case c_sense_in => k_is)
    (case p_sense_in => k_is)
    (case a_parted => k_is)
    (case l_parted => k_is)
    (case c_parted => k_is)
    (case p_parted => k_is)
    (case a_law_begun => k_is)
    (case l_law_begun => k_is)
    (case c_law_begun => k_is)
    (case p_law_begun => k_is)
    (case a_law_mixed => k_is)
    (case l_law_mixed => k_is)
    (case c_law_mixed => k_is)
    (case p_law_mixed => k_is)
    (case a_law_take => k_is)
    (case l_law_take => k_is)
    (case c_law_take => k_is)
    (case p_law_take => k_is)
    (case a_law_pick => k_is)
    (case l_law_pick => k_is)
    (case c_law_pick => k_is)
    (case p_law_pick => k_is)
    (case a_law_caught => k_is)
    (case l_law_caught => k_is)
    (case c_law_caught => k_is)
    (case p_law_caught => k_is)
    (case a_law_codes => k_is)
    (case l_law_codes => k_is)
    (case c_law_codes => k_is)
    (case p_law_codes => k_is)
    (case a_law_span => k_is)
    (case l_law_span => k_is)
    (case c_law_span => k_is)
    (case p_law_span => k_is)
    (case a_law_many => k_is)
    (case l_law_many => k_is)
    (case c_law_many => k_is)
    (case p_law_many => k_is)
    (case a_law_cells_of => k_is)
    (case l_law_cells_of => k_is)
    (case c_law_cells_of => k_is)
    (case p_law_cells_of => k_is)
    (case a_law_made => k_is)
    (case l_law_made => k_is)
    (case c_law_made => k_is)
    (case p_law_made => k_is)
    (case a_law_sense => k_is)
    (case l_law_sense => k_is)
    (case c_law_sense => k_is)
    (case p_law_sense => k_is)
    (case a_law_walked => k_is)
    (case l_law_walked => k_is)
    (case c_law_walked => k_is)
    (case p_law_walked => k_is)
    (case a_law_is_walk => k_is)
    (case l_law_is_walk => k_is)
    (case c_law_is_walk => k_is)
    (case p_law_is_walk => k_is)
    (case lc_law_is_walk => k_is)
    (case h11_law_is_walk => rfl)
    (case np_law_is_walk => first | rfl | k_is)
    (case a_law => k_is)
    (case l_law => k_is)
    (case c_law => k_is)
    (case p_law => k_is)
    (case lc_law => k_is)
    (case h11_law => rfl)
    (case np_law => first | rfl | k_is)
    (case nt_law_is_walk_law => decide)
#print axioms PySem.Challenge.cw_onebase_k16_whole_cells_parted_one_way_holds

