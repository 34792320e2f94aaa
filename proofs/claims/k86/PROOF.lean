import PyProof.Rows.All
import HandS.ForMost
import HandS.Deep
import HandS.IsInst
import HandS.Zip
import HandS.TupAny
import HandS.Conv
import HandS.Style
import HandS.Flow
import HandS.Exc
import HandS.Wide
import HandS.CallSlots
import HandS.Defaults
import HandS.List
import HandS.ExcInit
import HandS.ExcField
import HandS.ExcSuper
import HandS.TryOnly
import KE.KExcSuper
import KE.KSuper
import HandS.ExcIs
import HandS.HeadHook2
import KE.GoesMore
import KE.KExcIs
import PyProof.ZipIter
import HandS.SortInts
import HandS.Dict
import Wide.All
import OpenK.AllK
import Wide.FinOn
import KE.KStateDown
import Lean
import HandS.Base
import HandS.Call
import HandS.Ends
import HandS.More
import HandS.Words
import HandS.WordsExc
import HandS.Head0
import HandS.Head1
import HandS.Head2
import HandS.HeadEnd
import HandS.HeadHook1
import PySem.Challenge.RW_fairanyprice_k86_the_case_of_counsel
set_option Elab.async false
set_option linter.all false
set_option maxRecDepth 100000
set_option maxHeartbeats 0
/-! EvA: the data of the plain reading, what it stands for on the heap. -/
namespace EV
open PySem PySem.Spec PyProof.Rows L2

/-- plain data: a list or a dict bears a flag: true, it is its holder's alone and may be written; false, it is shared and never written again -/
inductive D where
  | non | bl (b : Bool) | int (i : Int) | str (s : Str)
  | tup (xs : List D) | lst (o : Bool) (xs : List D) | scr (ns : List Int)
  | dk (o : Bool) (kvs : List (Key × D)) | dt (o : Bool) (kvs : List (List Key × D)) | fn (i : Nat)
instance : Inhabited D := ⟨.non⟩

mutual
/-- shared from now on -/
def frz : D → D
  | .tup xs => .tup (frzs xs)
  | .lst _ xs => .lst false (frzs xs)
  | .dk _ kvs => .dk false kvs
  | .dt _ kvs => .dt false kvs
  | d => d
def frzs : List D → List D
  | [] => []
  | d :: ds => frz d :: frzs ds
end
mutual
/-- nothing in it may be written -/
def fz : D → Bool
  | .tup xs => fzs xs
  | .lst o xs => !o && fzs xs
  | .dk o _ => !o
  | .dt o _ => !o
  | _ => true
def fzs : List D → Bool
  | [] => true
  | d :: ds => fz d && fzs ds
end
mutual
theorem frz_of : ∀ d : D, fz d = true → frz d = d
  | .non, _ => rfl
  | .bl _, _ => rfl
  | .int _, _ => rfl
  | .str _, _ => rfl
  | .scr _, _ => rfl
  | .fn _, _ => rfl
  | .tup xs, h => congrArg D.tup (frzs_of xs h)
  | .lst o xs, h => by
    have h2 : (!o && fzs xs) = true := h
    rw [Bool.and_eq_true] at h2
    show D.lst false (frzs xs) = D.lst o xs
    rw [frzs_of xs h2.2]
    cases o
    · rfl
    · exact absurd h2.1 (by decide)
  | .dk o kvs, h => by
    cases o
    · rfl
    · cases h
  | .dt o kvs, h => by
    cases o
    · rfl
    · cases h
theorem frzs_of : ∀ ds : List D, fzs ds = true → frzs ds = ds
  | [], _ => rfl
  | d :: ds, h => by
    have h2 : (fz d && fzs ds) = true := h
    rw [Bool.and_eq_true] at h2
    show frz d :: frzs ds = d :: ds
    rw [frz_of d h2.1, frzs_of ds h2.2]
end
mutual
theorem fz_frz : ∀ d : D, fz (frz d) = true
  | .non => rfl
  | .bl _ => rfl
  | .int _ => rfl
  | .str _ => rfl
  | .scr _ => rfl
  | .fn _ => rfl
  | .tup xs => fzs_frzs xs
  | .lst o xs => by
    show (!false && fzs (frzs xs)) = true
    rw [fzs_frzs xs]; rfl
  | .dk o kvs => rfl
  | .dt o kvs => rfl
theorem fzs_frzs : ∀ ds : List D, fzs (frzs ds) = true
  | [] => rfl
  | d :: ds => by
    show (fz (frz d) && fzs (frzs ds)) = true
    rw [fz_frz d, fzs_frzs ds]; rfl
end
theorem frzs_map : ∀ ds : List D, frzs ds = ds.map frz
  | [] => rfl
  | d :: ds => by
    show frz d :: frzs ds = _
    rw [frzs_map ds]; rfl
theorem fzs_all : ∀ ds : List D, fzs ds = ds.all fz
  | [] => rfl
  | d :: ds => by
    show (fz d && fzs ds) = _
    rw [fzs_all ds]; rfl

/-! ### what data stand for -/
/-- global facts that data lean on: the functions by number -/
structure GF where
  fa : Nat → Addr
  ca : Nat → Addr
  xn : Nat → Str
structure GI extends GF where
  K : PySem.W.Frag

mutual
/-- v is d: F the shared heap, H all of it; the list: whose alone -/
inductive RO (G : GI) (F H : Hp) : List Addr → V → D → Prop
  | non : RO G F H [] .non .non
  | bl (b : Bool) : RO G F H [] (.bl b) (.bl b)
  | int (i : Int) : RO G F H [] (.int i) (.int i)
  | str (s : Str) : RO G F H [] (.str s) (.str s)
  | tup {a : Addr} {vs : List V} {ds : List D} {fs : List Addr} : F a = some (.tup vs) → ROs G F H fs vs ds → RO G F H fs (.ref a) (.tup ds)
  | lz {a : Addr} {vs : List V} {ds : List D} : F a = some (.lst vs) → ROs G F H [] vs ds → RO G F H [] (.ref a) (.lst false ds)
  | lo {a : Addr} {vs : List V} {ds : List D} {fs : List Addr} : H a = some (.lst vs) → ROs G F H fs vs ds → RO G F H (a :: fs) (.ref a) (.lst true ds)
  | scr {a : Addr} {ns : List Int} : SqL G.K F a (ns.map V.int) → RO G F H [] (.ref a) (.scr ns)
  | dkz {a : Addr} {kvs : List (Key × V)} {kds : List (Key × D)} : F a = some (.dK kvs) → kvs.map (·.1) = kds.map (·.1) → ROs G F H [] (kvs.map (·.2)) (kds.map (·.2)) → RO G F H [] (.ref a) (.dk false kds)
  | dko {a : Addr} {kvs : List (Key × V)} {kds : List (Key × D)} : H a = some (.dK kvs) → kvs.map (·.1) = kds.map (·.1) → ROs G F H [] (kvs.map (·.2)) (kds.map (·.2)) → RO G F H [a] (.ref a) (.dk true kds)
  | dtz {a : Addr} {kvs : List (List Key × V)} {kds : List (List Key × D)} : F a = some (.dT kvs) → kvs.map (·.1) = kds.map (·.1) → ROs G F H [] (kvs.map (·.2)) (kds.map (·.2)) → RO G F H [] (.ref a) (.dt false kds)
  | dto {a : Addr} {kvs : List (List Key × V)} {kds : List (List Key × D)} : H a = some (.dT kvs) → kvs.map (·.1) = kds.map (·.1) → ROs G F H [] (kvs.map (·.2)) (kds.map (·.2)) → RO G F H [a] (.ref a) (.dt true kds)
  | fn (i : Nat) : RO G F H [] (.ref (G.fa i)) (.fn i)
inductive ROs (G : GI) (F H : Hp) : List Addr → List V → List D → Prop
  | nil : ROs G F H [] [] []
  | cons {f fs : List Addr} {v : V} {vs : List V} {d : D} {ds : List D} : RO G F H f v d → ROs G F H fs vs ds → ROs G F H (f ++ fs) (v :: vs) (d :: ds)
end
section
variable {G : GI} {F H F' H' : Hp}
theorem SqL.le {K : PySem.W.Frag} {a : Addr} {xs : List V} (h : SqL K F a xs) (hF : ∀ a o, F a = some o → F' a = some o) : SqL K F' a xs := by
  rcases h with (h | ⟨o, h⟩) | h
  · exact .inl (.inl (hF _ _ h))
  · exact .inl (.inr ⟨o, hF _ _ h⟩)
  · exact .inr h
mutual
theorem RO.mono (hF : ∀ a o, F a = some o → F' a = some o) : ∀ {p : List Addr} {v : V} {d : D}, RO G F H p v d → (∀ a, a ∈ p → ∀ o, H a = some o → H' a = some o) → RO G F' H' p v d
  | _, _, _, .non, _ => .non
  | _, _, _, .bl b, _ => .bl b
  | _, _, _, .int i, _ => .int i
  | _, _, _, .str i, _ => .str i
  | _, _, _, .fn i, _ => .fn i
  | _, _, _, .tup e r, h => .tup (hF _ _ e) (ROs.mono hF r h)
  | _, _, _, .lz e r, h => .lz (hF _ _ e) (ROs.mono hF r fun a z => nomatch z)
  | _, _, _, .lo e r, h => .lo (h _ (List.mem_cons_self ..) _ e) (ROs.mono hF r fun a z => h a (List.mem_cons_of_mem _ z))
  | _, _, _, .scr e, _ => .scr (SqL.le e hF)
  | _, _, _, .dkz e k r, h => .dkz (hF _ _ e) k (ROs.mono hF r fun a z => nomatch z)
  | _, _, _, .dko e k r, h => .dko (h _ (List.mem_cons_self ..) _ e) k (ROs.mono hF r fun a z => nomatch z)
  | _, _, _, .dtz e k r, h => .dtz (hF _ _ e) k (ROs.mono hF r fun a z => nomatch z)
  | _, _, _, .dto e k r, h => .dto (h _ (List.mem_cons_self ..) _ e) k (ROs.mono hF r fun a z => nomatch z)
theorem ROs.mono (hF : ∀ a o, F a = some o → F' a = some o) : ∀ {p : List Addr} {v : List V} {d : List D}, ROs G F H p v d → (∀ a, a ∈ p → ∀ o, H a = some o → H' a = some o) → ROs G F' H' p v d
  | _, _, _, .nil, _ => .nil
  | _, _, _, .cons r rs, h => .cons (RO.mono hF r fun a z => h a (List.mem_append_left _ z)) (ROs.mono hF rs fun a z => h a (List.mem_append_right _ z))
end
theorem RO.monoZ (hF : ∀ a o, F a = some o → F' a = some o) {v : V} {d : D} (r : RO G F H [] v d) : RO G F' H' [] v d := r.mono hF fun a z => nomatch z
theorem ROs.monoZ (hF : ∀ a o, F a = some o → F' a = some o) {v : List V} {d : List D} (r : ROs G F H [] v d) : ROs G F' H' [] v d := r.mono hF fun a z => nomatch z
theorem RO.cast {p q : List Addr} {v : V} {d : D} (r : RO G F H p v d) (e : p = q) : RO G F H q v d := e ▸ r
theorem ROs.cast {p q : List Addr} {v : List V} {d : List D} (r : ROs G F H p v d) (e : p = q) : ROs G F H q v d := e ▸ r
mutual
/-- all of it becomes shared -/
theorem RO.frz (hF : ∀ a o, F a = some o → F' a = some o) : ∀ {p : List Addr} {v : V} {d : D}, RO G F H p v d → (∀ a, a ∈ p → ∀ o, H a = some o → F' a = some o) → RO G F' H' [] v (frz d)
  | _, _, _, .non, _ => .non
  | _, _, _, .bl b, _ => .bl b
  | _, _, _, .int i, _ => .int i
  | _, _, _, .str i, _ => .str i
  | _, _, _, .fn i, _ => .fn i
  | _, _, _, .tup e r, h => .tup (hF _ _ e) (ROs.frz hF r h)
  | _, _, _, .lz e r, h => .lz (hF _ _ e) (ROs.frz hF r fun a z => nomatch z)
  | _, _, _, .lo e r, h => .lz (h _ (List.mem_cons_self ..) _ e) (ROs.frz hF r fun a z => h a (List.mem_cons_of_mem _ z))
  | _, _, _, .scr e, _ => .scr (SqL.le e hF)
  | _, _, _, .dkz e k r, h => .dkz (hF _ _ e) k (r.monoZ hF)
  | _, _, _, .dko e k r, h => .dkz (h _ (List.mem_cons_self ..) _ e) k (r.monoZ hF)
  | _, _, _, .dtz e k r, h => .dtz (hF _ _ e) k (r.monoZ hF)
  | _, _, _, .dto e k r, h => .dtz (h _ (List.mem_cons_self ..) _ e) k (r.monoZ hF)
theorem ROs.frz (hF : ∀ a o, F a = some o → F' a = some o) : ∀ {p : List Addr} {v : List V} {d : List D}, ROs G F H p v d → (∀ a, a ∈ p → ∀ o, H a = some o → F' a = some o) → ROs G F' H' [] v (frzs d)
  | _, _, _, .nil, _ => .nil
  | _, _, _, .cons r rs, h => .cons (RO.frz hF r fun a z => h a (List.mem_append_left _ z)) (ROs.frz hF rs fun a z => h a (List.mem_append_right _ z))
end
mutual
theorem RO.nil_of_fz : ∀ {p : List Addr} {v : V} {d : D}, RO G F H p v d → fz d = true → p = []
  | _, _, _, .non, _ => rfl
  | _, _, _, .bl b, _ => rfl
  | _, _, _, .int i, _ => rfl
  | _, _, _, .str i, _ => rfl
  | _, _, _, .fn i, _ => rfl
  | _, _, _, .tup e r, h => ROs.nil_of_fz r h
  | _, _, _, .lz e r, h => rfl
  | _, _, _, .lo e r, h => by cases h
  | _, _, _, .scr e, _ => rfl
  | _, _, _, .dkz e k r, h => rfl
  | _, _, _, .dko e k r, h => by cases h
  | _, _, _, .dtz e k r, h => rfl
  | _, _, _, .dto e k r, h => by cases h
theorem ROs.nil_of_fz : ∀ {p : List Addr} {v : List V} {d : List D}, ROs G F H p v d → fzs d = true → p = []
  | _, _, _, .nil, _ => rfl
  | _, _, _, .cons (d := d) (ds := ds) r rs, h => by
    have h2 : (fz d && fzs ds) = true := h
    rw [Bool.and_eq_true] at h2
    rw [RO.nil_of_fz r h2.1, ROs.nil_of_fz rs h2.2]; rfl
end
mutual
theorem RO.fz_of_nil : ∀ {p : List Addr} {v : V} {d : D}, RO G F H p v d → p = [] → fz d = true
  | _, _, _, .non, _ => rfl
  | _, _, _, .bl b, _ => rfl
  | _, _, _, .int i, _ => rfl
  | _, _, _, .str i, _ => rfl
  | _, _, _, .fn i, _ => rfl
  | _, _, _, .tup e r, h => ROs.fz_of_nil r h
  | _, _, _, .lz (ds := ds) e r, h => by
    show (!false && fzs ds) = true
    rw [ROs.fz_of_nil r rfl]; rfl
  | _, _, _, .lo e r, h => by cases h
  | _, _, _, .scr e, _ => rfl
  | _, _, _, .dkz e k r, h => rfl
  | _, _, _, .dko e k r, h => by cases h
  | _, _, _, .dtz e k r, h => rfl
  | _, _, _, .dto e k r, h => by cases h
theorem ROs.fz_of_nil : ∀ {p : List Addr} {v : List V} {d : List D}, ROs G F H p v d → p = [] → fzs d = true
  | _, _, _, .nil, _ => rfl
  | _, _, _, .cons (d := d) (ds := ds) r rs, h => by
    have h2 := List.append_eq_nil_iff.mp h
    show (fz d && fzs ds) = true
    rw [RO.fz_of_nil r h2.1, ROs.fz_of_nil rs h2.2]; rfl
end
theorem RO.z {v : V} {d : D} (r : RO G F H [] v d) : EV.frz d = d := frz_of d (r.fz_of_nil rfl)
theorem ROs.z {v : List V} {d : List D} (r : ROs G F H [] v d) : frzs d = d := frzs_of d (r.fz_of_nil rfl)
mutual
/-- what is one's own is tracked -/
theorem RO.there : ∀ {p : List Addr} {v : V} {d : D}, RO G F H p v d → ∀ a, a ∈ p → ∃ o, H a = some o
  | _, _, _, .non, _, z => nomatch z
  | _, _, _, .bl b, _, z => nomatch z
  | _, _, _, .int i, _, z => nomatch z
  | _, _, _, .str i, _, z => nomatch z
  | _, _, _, .fn i, _, z => nomatch z
  | _, _, _, .tup e r, a, z => ROs.there r a z
  | _, _, _, .lz e r, _, z => nomatch z
  | _, _, _, .lo e r, a, z => by
    rcases List.mem_cons.mp z with q | q
    · exact q ▸ ⟨_, e⟩
    · exact ROs.there r a q
  | _, _, _, .scr e, _, z => nomatch z
  | _, _, _, .dkz e k r, _, z => nomatch z
  | _, _, _, .dko e k r, a, z => by
    rcases List.mem_cons.mp z with q | q
    · exact q ▸ ⟨_, e⟩
    · cases q
  | _, _, _, .dtz e k r, _, z => nomatch z
  | _, _, _, .dto e k r, a, z => by
    rcases List.mem_cons.mp z with q | q
    · exact q ▸ ⟨_, e⟩
    · cases q
theorem ROs.there : ∀ {p : List Addr} {v : List V} {d : List D}, ROs G F H p v d → ∀ a, a ∈ p → ∃ o, H a = some o
  | _, _, _, .nil, _, z => nomatch z
  | _, _, _, .cons r rs, a, z => (List.mem_append.mp z).elim (RO.there r a) (ROs.there rs a)
end
theorem ROs.length : ∀ {p : List Addr} {v : List V} {d : List D}, ROs G F H p v d → v.length = d.length
  | _, _, _, .nil => rfl
  | _, _, _, .cons r rs => congrArg (· + 1) (ROs.length rs)
theorem ROs.inv {p : List Addr} {v : V} {vs : List V} {d : D} {ds : List D} (r : ROs G F H p (v :: vs) (d :: ds)) : ∃ f fs, p = f ++ fs ∧ RO G F H f v d ∧ ROs G F H fs vs ds := by
  cases r with
  | cons r rs => exact ⟨_, _, rfl, r, rs⟩
theorem ROs.invD {p : List Addr} {vs : List V} {d : D} {ds : List D} (r : ROs G F H p vs (d :: ds)) : ∃ v ws f fs, vs = v :: ws ∧ p = f ++ fs ∧ RO G F H f v d ∧ ROs G F H fs ws ds := by
  cases r with
  | cons r rs => exact ⟨_, _, _, _, rfl, rfl, r, rs⟩
theorem ROs.invN {p : List Addr} {vs : List V} (r : ROs G F H p vs []) : vs = [] ∧ p = [] := by
  cases r
  exact ⟨rfl, rfl⟩
theorem ROs.unconsZ {v : V} {vs : List V} {d : D} {ds : List D} (r : ROs G F H [] (v :: vs) (d :: ds)) : RO G F H [] v d ∧ ROs G F H [] vs ds := by
  obtain ⟨f, fs, e, r1, r2⟩ := r.inv
  obtain ⟨e1, e2⟩ := List.append_eq_nil_iff.mp e.symm
  subst e1 e2
  exact ⟨r1, r2⟩
theorem ROs.get : ∀ {d : List D} {v : List V} {i : Nat} {x : D}, ROs G F H [] v d → d[i]? = some x → ∃ u, v[i]? = some u ∧ RO G F H [] u x
  | [], _, _, _, _, h => by simp at h
  | d :: ds, [], _, _, r, _ => nomatch (r.length)
  | d :: ds, v :: vs, 0, x, r, h => by
    simp at h; subst h
    exact ⟨v, by simp, r.unconsZ.1⟩
  | d :: ds, v :: vs, i + 1, x, r, h => by
    obtain ⟨u, h1, h2⟩ := ROs.get (i := i) (x := x) r.unconsZ.2 (by simpa using h)
    exact ⟨u, by simpa using h1, h2⟩
theorem ROs.consZ {v : V} {vs : List V} {d : D} {ds : List D} (r : RO G F H [] v d) (rs : ROs G F H [] vs ds) : ROs G F H [] (v :: vs) (d :: ds) := ROs.cons r rs
theorem ROs.append : ∀ {p q : List Addr} {v w : List V} {d e : List D}, ROs G F H p v d → ROs G F H q w e → ROs G F H (p ++ q) (v ++ w) (d ++ e)
  | _, _, _, _, _, _, .nil, s => s
  | _, _, _, _, _, _, .cons r rs, s => (ROs.cons r (ROs.append rs s)).cast (List.append_assoc ..).symm
theorem ROs.one {p : List Addr} {v : V} {d : D} (r : RO G F H p v d) : ROs G F H p [v] [d] := (ROs.cons r .nil).cast (List.append_nil _)
end
end EV

/-! EvB: the state, its steps, the readings. -/
namespace EV
open PySem PySem.Spec PyProof.Rows L2

abbrev DEnv := List (Option D)
/-- how an expression ends, a statement, a call -/
inductive RE where
  | ok (d : D) (e : DEnv) | ex (c : Nat) (d : D) (e : DEnv) | no
inductive RS where
  | nx (e : DEnv) | rt (d : D) (e : DEnv) | bk (e : DEnv) | ct (e : DEnv) | ex (c : Nat) (d : D) (e : DEnv) | no
inductive RC where
  | ok (d : D) (fin : List D) | ex (c : Nat) (d : D) (fin : List D) | no
abbrev ME := DEnv → RE
abbrev MS := DEnv → RS

def own (fp : Nat → List Addr) (a : Addr) : Prop := ∃ i, a ∈ fp i
structure SO (G : GI) (F H : Hp) (fp : Nat → List Addr) (σ : L2.St) (e : DEnv) : Prop where
  sub : ∀ a o, F a = some o → H a = some o
  rep : ∀ i d, e[i]? = some (some d) → ∃ v, σ[i]? = some (some v) ∧ RO G F H (fp i) v d
  nd : ∀ i, (fp i).Nodup
  dj : ∀ i j a, a ∈ fp i → a ∈ fp j → i = j
  sep : ∀ i a, a ∈ fp i → F a = none
  th : ∀ i a, a ∈ fp i → ∃ o, H a = some o
  len : σ.length = e.length
structure Tr (F H : Hp) (O : Addr → Prop) (F' H' : Hp) (O' : Addr → Prop) : Prop where
  ff : ∀ a o, F a = some o → F' a = some o
  fr : ∀ a o, ¬ O a → H a = some o → H' a = some o
  ow : ∀ a, O' a → O a ∨ H a = none
  fz : ∀ a o, F' a = some o → F a = some o ∨ O a ∨ H a = none
structure TO (G : GI) (F H : Hp) (fp : Nat → List Addr) (p : List Addr) (v : V) (d : D) : Prop where
  r : RO G F H p v d
  nd : p.Nodup
  sep : ∀ a, a ∈ p → F a = none
  dj : ∀ a, a ∈ p → ¬ own fp a
structure TOs (G : GI) (F H : Hp) (fp : Nat → List Addr) (p : List Addr) (v : List V) (d : List D) : Prop where
  r : ROs G F H p v d
  nd : p.Nodup
  sep : ∀ a, a ∈ p → F a = none
  dj : ∀ a, a ∈ p → ¬ own fp a
section
variable {G : GI} {F H F1 H1 F2 H2 : Hp} {O O1 O2 : Addr → Prop} {fp fp1 fp2 : Nat → List Addr} {p q : List Addr} {v : V} {d : D} {vs : List V} {ds : List D} {σ : L2.St} {e : DEnv}
theorem Tr.refl : Tr F H O F H O := ⟨fun _ _ h => h, fun _ _ _ h => h, fun _ h => .inl h, fun _ _ h => .inl h⟩
theorem Tr.trans (a : Tr F H O F1 H1 O1) (b : Tr F1 H1 O1 F2 H2 O2) : Tr F H O F2 H2 O2 where
  ff := fun c o h => b.ff c o (a.ff c o h)
  fr := fun c o n h => by
    refine b.fr c o (fun z => ?_) (a.fr c o n h)
    rcases a.ow c z with q | q
    · exact n q
    · rw [h] at q; cases q
  ow := fun c h => by
    rcases b.ow c h with q | q
    · exact a.ow c q
    · by_cases z : O c
      · exact .inl z
      · cases r : H c with
        | none => exact .inr rfl
        | some o =>
          have := a.fr c o z r
          rw [q] at this; cases this
  fz := fun c o h => by
    rcases b.fz c o h with q | q | q
    · exact a.fz c o q
    · exact .inr (a.ow c q)
    · by_cases z : O c
      · exact .inr (.inl z)
      · cases r : H c with
        | none => exact .inr (.inr rfl)
        | some o =>
          have := a.fr c o z r
          rw [q] at this; cases this
theorem Tr.weak {P P1 : Addr → Prop} (a : Tr F H O F1 H1 O1) (h : ∀ c, O c → P c) (h1 : ∀ c, P1 c → O1 c ∨ P c) : Tr F H P F1 H1 P1 :=
  ⟨a.ff, fun c o n => a.fr c o fun z => n (h c z), fun c z => (h1 c z).elim (fun z => (a.ow c z).imp (h c) id) .inl, fun c o z => (a.fz c o z).imp id (Or.imp (h c) id)⟩
theorem Tr.drop {P1 : Addr → Prop} (a : Tr F H O F1 H1 O1) (h1 : ∀ c, P1 c → O1 c) : Tr F H O F1 H1 P1 := a.weak (fun _ z => z) fun c z => .inl (h1 c z)
/-- a value held meanwhile -/
theorem TO.keep (t : TO G F H fp p v d) (a : Tr F H (own fp) F1 H1 O1) (h : ∀ c, own fp1 c → O1 c) : TO G F1 H1 fp1 p v d where
  r := t.r.mono a.ff fun c z o => a.fr c o (t.dj c z)
  nd := t.nd
  sep := fun c z => by
    cases r : F1 c with
    | none => rfl
    | some o =>
      obtain ⟨u, hu⟩ := t.r.there c z
      rcases a.fz c o r with q | q | q
      · rw [t.sep c z] at q; cases q
      · exact absurd q (t.dj c z)
      · rw [hu] at q; cases q
  dj := fun c z w => by
    obtain ⟨u, hu⟩ := t.r.there c z
    rcases a.ow c (h c w) with q | q
    · exact t.dj c z q
    · rw [hu] at q; cases q
theorem TOs.keep (t : TOs G F H fp p vs ds) (a : Tr F H (own fp) F1 H1 O1) (h : ∀ c, own fp1 c → O1 c) : TOs G F1 H1 fp1 p vs ds where
  r := t.r.mono a.ff fun c z o => a.fr c o (t.dj c z)
  nd := t.nd
  sep := fun c z => by
    cases r : F1 c with
    | none => rfl
    | some o =>
      obtain ⟨u, hu⟩ := t.r.there c z
      rcases a.fz c o r with q | q | q
      · rw [t.sep c z] at q; cases q
      · exact absurd q (t.dj c z)
      · rw [hu] at q; cases q
  dj := fun c z w => by
    obtain ⟨u, hu⟩ := t.r.there c z
    rcases a.ow c (h c w) with q | q
    · exact t.dj c z q
    · rw [hu] at q; cases q
/-- what is not held either -/
theorem TO.apart (t : TO G F H fp p v d) (a : Tr F H (own fp) F1 H1 O1) (h : ∀ c, c ∈ q → O1 c) : ∀ c, c ∈ p → c ∈ q → False := fun c z w => by
  obtain ⟨u, hu⟩ := t.r.there c z
  rcases a.ow c (h c w) with r | r
  · exact t.dj c z r
  · rw [hu] at r; cases r
theorem TOs.apart (t : TOs G F H fp p vs ds) (a : Tr F H (own fp) F1 H1 O1) (h : ∀ c, c ∈ q → O1 c) : ∀ c, c ∈ p → c ∈ q → False := fun c z w => by
  obtain ⟨u, hu⟩ := t.r.there c z
  rcases a.ow c (h c w) with r | r
  · exact t.dj c z r
  · rw [hu] at r; cases r
/-- shared heap with one's own too -/
def addF (F H : Hp) (p : List Addr) : Hp := fun a => if a ∈ p then H a else F a
theorem addF_le (hs : ∀ a, a ∈ p → F a = none) : ∀ a o, F a = some o → addF F H p a = some o := fun a o h => by
  unfold addF
  split
  · rename_i z; rw [hs a z] at h; cases h
  · exact h
theorem addF_at : ∀ a, a ∈ p → ∀ o, H a = some o → addF F H p a = some o := fun a z o h => by
  unfold addF; rw [if_pos z]; exact h
theorem addF_sub (hF : ∀ a o, F a = some o → H a = some o) : ∀ a o, addF F H p a = some o → H a = some o := fun a o h => by
  unfold addF at h
  split at h
  · exact h
  · exact hF a o h
/-- a value becomes shared: the state then -/
theorem SO.share (s : SO G F H fp σ e) (hp : ∀ a, a ∈ p → F a = none) (hd : ∀ a, a ∈ p → ¬ own fp a) : SO G (addF F H p) H fp σ e where
  sub := addF_sub s.sub
  rep := fun i d h => by
    obtain ⟨v, h1, r⟩ := s.rep i d h
    exact ⟨v, h1, r.mono (addF_le hp) fun _ _ _ z => z⟩
  nd := s.nd
  dj := s.dj
  sep := fun i a z => by
    unfold addF
    rw [if_neg fun w => hd a w ⟨i, z⟩]
    exact s.sep i a z
  th := s.th
  len := s.len
theorem TO.share (t : TO G F H fp p v d) : RO G (addF F H p) H [] v (frz d) := t.r.frz (addF_le t.sep) fun a z o => addF_at a z o
theorem Tr.share (hp : ∀ a, a ∈ p → F a = none) : Tr F H (fun a => O a ∨ a ∈ p) (addF F H p) H O where
  ff := addF_le hp
  fr := fun _ _ _ h => h
  ow := fun _ h => .inl (.inl h)
  fz := fun a o h => by
    unfold addF at h
    split at h
    · rename_i z; exact .inr (.inl (.inr z))
    · exact .inl h
theorem TO.z {v : V} {d : D} (r : RO G F H [] v d) : TO G F H fp [] v d := ⟨r, List.nodup_nil, fun _ z => (nomatch z), fun _ z => (nomatch z)⟩
theorem TOs.z {v : List V} {d : List D} (r : ROs G F H [] v d) : TOs G F H fp [] v d := ⟨r, List.nodup_nil, fun _ z => (nomatch z), fun _ z => (nomatch z)⟩

/-! ### slots -/
/-- a slot's content becomes shared -/
theorem SO.shareAt {i : Nat} {d : D} (s : SO G F H fp σ e) (h : e[i]? = some (some d)) : SO G (addF F H (fp i)) H (fun j => if j = i then [] else fp j) σ (e.set i (some (frz d))) where
  sub := addF_sub s.sub
  rep := fun j x hx => by
    by_cases hj : j = i
    · subst hj
      have hi : j < e.length := (List.getElem?_eq_some_iff.mp h).1
      rw [List.getElem?_set_self hi] at hx
      cases hx
      obtain ⟨v, h1, r⟩ := s.rep j d h
      refine ⟨v, h1, ?_⟩
      rw [if_pos rfl]
      exact r.frz (addF_le (s.sep j)) fun a z o => addF_at a z o
    · rw [List.getElem?_set_ne (Ne.symm hj)] at hx
      obtain ⟨v, h1, r⟩ := s.rep j x hx
      refine ⟨v, h1, ?_⟩
      rw [if_neg hj]
      exact r.mono (addF_le (s.sep i)) fun _ _ _ z => z
  nd := fun j => by
    split
    · exact List.nodup_nil
    · exact s.nd j
  dj := fun j k a h1 h2 => by
    split at h1
    · cases h1
    · split at h2
      · cases h2
      · exact s.dj j k a h1 h2
  sep := fun j a z => by
    split at z
    · cases z
    · rename_i hj
      unfold addF
      rw [if_neg fun w => hj (s.dj j i a z w)]
      exact s.sep j a z
  th := fun j a z => by
    split at z
    · cases z
    · exact s.th j a z
  len := by rw [List.length_set]; exact s.len
theorem Tr.shareAt {i : Nat} (hp : ∀ a, a ∈ fp i → F a = none) : Tr F H (own fp) (addF F H (fp i)) H (own fun j => if j = i then [] else fp j) where
  ff := addF_le hp
  fr := fun _ _ _ h => h
  ow := fun a ⟨j, h⟩ => by
    dsimp only at h
    split at h
    · cases h
    · exact .inl ⟨j, h⟩
  fz := fun a o h => by
    unfold addF at h
    split at h
    · rename_i z; exact .inr (.inl ⟨i, z⟩)
    · exact .inl h
/-- a slot is forgotten -/
theorem SO.forget {i : Nat} (s : SO G F H fp σ e) : SO G F H (fun j => if j = i then [] else fp j) σ (e.set i none) where
  sub := s.sub
  rep := fun j x hx => by
    by_cases hj : j = i
    · subst hj
      by_cases hi : j < e.length
      · rw [List.getElem?_set_self hi] at hx; cases hx
      · rw [List.getElem?_eq_none (by simpa using hi)] at hx; cases hx
    · rw [List.getElem?_set_ne (Ne.symm hj)] at hx
      obtain ⟨v, h1, r⟩ := s.rep j x hx
      exact ⟨v, h1, by rw [if_neg hj]; exact r⟩
  nd := fun j => by
    split
    · exact List.nodup_nil
    · exact s.nd j
  dj := fun j k a h1 h2 => by
    split at h1
    · cases h1
    · split at h2
      · cases h2
      · exact s.dj j k a h1 h2
  sep := fun j a z => by
    split at z
    · cases z
    · exact s.sep j a z
  th := fun j a z => by
    split at z
    · cases z
    · exact s.th j a z
  len := by rw [List.length_set]; exact s.len
/-- .. and handed on -/
theorem SO.take {i : Nat} {d : D} (s : SO G F H fp σ e) (h : e[i]? = some (some d)) : ∃ v, σ[i]? = some (some v) ∧ TO G F H (fun j => if j = i then [] else fp j) (fp i) v d := by
  obtain ⟨v, h1, r⟩ := s.rep i d h
  refine ⟨v, h1, r, s.nd i, s.sep i, fun a z ⟨j, w⟩ => ?_⟩
  dsimp only at w
  split at w
  · cases w
  · rename_i hj
    exact hj (s.dj j i a w z)
theorem own_take {i : Nat} : ∀ a, (own (fun j => if j = i then [] else fp j) a ∨ a ∈ fp i) → own fp a := fun a h => by
  rcases h with ⟨j, h⟩ | h
  · dsimp only at h
    split at h
    · cases h
    · exact ⟨j, h⟩
  · exact ⟨i, h⟩
/-- a value is stored in a slot -/
theorem SO.store {i : Nat} (s : SO G F H fp σ e) (t : TO G F H fp p v d) : SO G F H (fun j => if j = i then p else fp j) (σ.set i (some v)) (e.set i (some d)) where
  sub := s.sub
  rep := fun j x hx => by
    by_cases hj : j = i
    · subst hj
      have hl : j < e.length := by
        have := (List.getElem?_eq_some_iff.mp hx).1
        simpa using this
      rw [List.getElem?_set_self hl] at hx
      cases hx
      exact ⟨v, List.getElem?_set_self (by rw [s.len]; exact hl), by rw [if_pos rfl]; exact t.r⟩
    · rw [List.getElem?_set_ne (Ne.symm hj)] at hx
      obtain ⟨w, h1, r⟩ := s.rep j x hx
      exact ⟨w, by rw [List.getElem?_set_ne (Ne.symm hj)]; exact h1, by rw [if_neg hj]; exact r⟩
  nd := fun j => by
    split
    · exact t.nd
    · exact s.nd j
  dj := fun j k a h1 h2 => by
    split at h1
    · rename_i hj
      split at h2
      · rename_i hk; rw [hj, hk]
      · exact absurd ⟨k, h2⟩ (t.dj a h1)
    · split at h2
      · exact absurd ⟨j, h1⟩ (t.dj a h2)
      · exact s.dj j k a h1 h2
  sep := fun j a z => by
    split at z
    · exact t.sep a z
    · exact s.sep j a z
  th := fun j a z => by
    split at z
    · exact t.r.there a z
    · exact s.th j a z
  len := by rw [List.length_set, List.length_set]; exact s.len
theorem own_store {i : Nat} : ∀ a, own (fun j => if j = i then p else fp j) a → own fp a ∨ a ∈ p := fun a ⟨j, h⟩ => by
  dsimp only at h
  split at h
  · exact .inr h
  · exact .inl ⟨j, h⟩
end

/-! ### readings -/
abbrev gOf (X : Cx) (g : GF) : GI := ⟨g, X.K⟩
def RdE (G : GI) (W : WX) (m : ME) : TE := fun σ H Q => ∃ F fp e, SO G F H fp σ e ∧ match m e with
  | .ok d e' => ∀ v F' H' fp' p, SO G F' H' fp' σ e' → TO G F' H' fp' p v d → Tr F H (own fp) F' H' (fun a => own fp' a ∨ a ∈ p) → Q v H'
  | .ex c d e' => ∀ dx v F' H' fp' p, SO G F' H' fp' σ e' → TO G F' H' fp' p v d → Tr F H (own fp) F' H' (fun a => own fp' a ∨ a ∈ p) → H' dx = some (.xd [(G.xn c, v)]) → W (.ref (G.ca c)) (some dx) σ H'
  | .no => False
/-- .. its value shared -/
def RdZ (G : GI) (W : WX) (m : ME) : TE := fun σ H Q => ∃ F fp e, SO G F H fp σ e ∧ match m e with
  | .ok d e' => ∀ v F' H' fp', SO G F' H' fp' σ e' → RO G F' H' [] v (frz d) → Tr F H (own fp) F' H' (own fp') → Q v H'
  | .ex c d e' => ∀ dx v F' H' fp' p, SO G F' H' fp' σ e' → TO G F' H' fp' p v d → Tr F H (own fp) F' H' (fun a => own fp' a ∨ a ∈ p) → H' dx = some (.xd [(G.xn c, v)]) → W (.ref (G.ca c)) (some dx) σ H'
  | .no => False
theorem RdZ.to {G : GI} {W : WX} {m : ME} {σ : L2.St} {H : Hp} {Q : VK} (h : RdZ G W m σ H Q) : RdE G W m σ H Q := by
  obtain ⟨F, fp, e, s, h⟩ := h
  refine ⟨F, fp, e, s, ?_⟩
  cases q : m e with
  | ok d e' =>
    rw [q] at h
    intro v F' H' fp' p s' t tr
    exact h v (addF F' H' p) H' fp' (s'.share t.sep t.dj) t.share (tr.trans (Tr.share t.sep))
  | ex c d e' => rw [q] at h; exact h
  | no => rw [q] at h; exact h
theorem PE.imp {X : Cx} {e : Expr} {t u : TE} (h : PE X e t) (i : ∀ σ H Q, u σ H Q → t σ H Q) : PE X e u := ⟨fun pins s σ H Q I q => h.run pins s σ H Q I (i σ H Q q)⟩
theorem PT.imp {X : Cx} {e : Expr} {t u : TT} (h : PT X e t) (i : ∀ σ H Q, u σ H Q → t σ H Q) : PT X e u := ⟨fun pins s σ H Q I q => h.run pins s σ H Q I (i σ H Q q)⟩
theorem PA.imp {X : Cx} {e : List Expr} {t u : TA} (h : PA X e t) (i : ∀ σ H Q, u σ H Q → t σ H Q) : PA X e u := ⟨fun pos pins s σ H Q I q => h.run pos pins s σ H Q I (i σ H Q q)⟩
theorem PS.imp {X : Cx} {e : Stmt} {t u : TS} (h : PS X e t) (i : ∀ D σ H, u D σ H → t D σ H) : PS X e u := ⟨fun pins s σ H D I q => h.run pins s σ H D I (i D σ H q)⟩
theorem PSs.imp {X : Cx} {e : List Stmt} {t u : TS} (h : PSs X e t) (i : ∀ D σ H, u D σ H → t D σ H) : PSs X e u := ⟨fun pins s σ H D I q => h.run pins s σ H D I (i D σ H q)⟩
abbrev SE (X : Cx) (g : GF) (W : WX) (e : Expr) (m : ME) : Prop := PE X e (RdE (gOf X g) W m)
abbrev SZ (X : Cx) (g : GF) (W : WX) (e : Expr) (m : ME) : Prop := PE X e (RdZ (gOf X g) W m)
theorem SE.z {X : Cx} {g : GF} {W : WX} {e : Expr} {m : ME} (h : SE X g W e m) : SZ X g W e m := PE.imp h fun _ _ _ q => q.to

def RE.bind (r : RE) (k : D → DEnv → RE) : RE := match r with
  | .ok d e => k d e
  | .ex c d e => .ex c d e
  | .no => .no
@[simp] theorem RE.bind_ok {d e k} : (RE.ok d e).bind k = k d e := rfl
@[simp] theorem RE.bind_ex {c d e k} : (RE.ex c d e).bind k = .ex c d e := rfl
@[simp] theorem RE.bind_no {k} : RE.no.bind k = .no := rfl
def RE.of (o : Option D) (e : DEnv) : RE := match o with
  | some d => .ok d e
  | none => .no
@[simp] theorem RE.of_some {d e} : RE.of (some d) e = .ok d e := rfl
@[simp] theorem RE.of_none {e} : RE.of none e = .no := rfl
end EV

/-! EvC: operators by plain data, their readings. -/
namespace EV
open PySem PySem.Spec PyProof.Rows L2

/-! ### plain operators -/
def LIM : Nat := 1000000
theorem LIM_line {n : Nat} (h : n ≤ LIM) : n ≤ sizeLine := by rw [sizeLine_eq]; unfold LIM at h; omega
theorem LIM_lineS {n : Nat} (h : n ≤ LIM) : n < sizeLine := by rw [sizeLine_eq]; unfold LIM at h; omega
def mulOk (i j : Int) : Bool := Nat.ble i.natAbs 18446744073709551615 || (Nat.ble j.natAbs 18446744073709551615 || decide (i.natAbs.log2 + j.natAbs.log2 < 1000000))
def divOk (j : Int) : Bool := decide (j.natAbs < 1073741824) || decide (j.natAbs.log2 < 9000)
def addD : D → D → Option D
  | .int i, .int j => some (.int (i + j))
  | .lst _ xs, .lst _ ys => if xs.length + ys.length ≤ LIM then some (.lst true (xs ++ ys)) else none
  | .tup xs, .tup ys => if xs.length + ys.length ≤ LIM then some (.tup (xs ++ ys)) else none
  | _, _ => none
def subD : D → D → Option D
  | .int i, .int j => some (.int (i - j))
  | _, _ => none
def mulD : D → D → Option D
  | .int i, .int j => if mulOk i j then some (.int (i * j)) else none
  | .lst _ xs, .int k => if Nat.ble k.natAbs 9223372036854775807 = true ∧ xs.length * k.toNat ≤ LIM then some (.lst true (List.replicate k.toNat xs).flatten) else none
  | _, _ => none
def fdivD : D → D → Option D
  | .int i, .int j => if 0 < j then (if divOk j then some (.int (i / j)) else none) else if j = 0 then none else if divOk j then some (.int (i.fdiv j)) else none
  | _, _ => none
def modD : D → D → Option D
  | .int i, .int j => if 0 < j then some (.int (i % j)) else if j = 0 then none else some (.int (i.fmod j))
  | _, _ => none
def powD : D → D → Option D
  | .int i, .int j => if 0 ≤ j ∧ Nat.ble j.natAbs 1000000 = true ∧ Nat.ble i.natAbs 18446744073709551615 = true then some (.int (i ^ j.toNat)) else none
  | _, _ => none
def negD : D → Option D
  | .int i => some (.int (-i))
  | _ => none
def cmpD (f : Int → Int → Bool) : D → D → Option D
  | .int i, .int j => some (.bl (f i j))
  | _, _ => none
def isN : D → Bool
  | .non => true
  | _ => false
def isB (b : Bool) : D → Bool
  | .bl c => c == b
  | _ => false
/-! equality of data -/
mutual
def eqOk : Nat → D → Bool
  | 0, _ => false
  | n + 1, .tup xs => eqOks n xs
  | n + 1, .lst _ xs => eqOks n xs
  | n + 1, .str s => PyData.strOk s
  | n + 1, .non => true
  | n + 1, .bl _ => true
  | n + 1, .int _ => true
  | n + 1, _ => false
def eqOks : Nat → List D → Bool
  | _, [] => true
  | n, d :: ds => eqOk n d && eqOks n ds
end
mutual
def pd : D → PyData
  | .non => .none
  | .bl b => .bool b
  | .int i => .int i
  | .str s => .str s
  | .tup xs => .tuple (pds xs)
  | .lst _ xs => .list (pds xs)
  | _ => .none
def pds : List D → List PyData
  | [] => []
  | d :: ds => pd d :: pds ds
end
mutual
def eqvD : D → D → Bool
  | .non, .non => true
  | .bl a, .bl b => a == b
  | .bl a, .int j => (if a then 1 else 0) == j
  | .int i, .bl b => i == (if b then 1 else 0)
  | .int i, .int j => i == j
  | .str x, .str y => x == y
  | .lst _ xs, .lst _ ys => eqvDs xs ys
  | .tup xs, .tup ys => eqvDs xs ys
  | _, _ => false
def eqvDs : List D → List D → Bool
  | [], [] => true
  | x :: xs, y :: ys => eqvD x y && eqvDs xs ys
  | _, _ => false
end
def eqD (a b : D) : Option D := if eqOk 60 a && eqOk 60 b then some (.bl (eqvD a b)) else none
def neD (a b : D) : Option D := if eqOk 60 a && eqOk 60 b then some (.bl (!eqvD a b)) else none
def keyD : D → Option Key
  | .int i => some (.inl i)
  | .str s => some (.inr s)
  | _ => none
def keysD : List D → Option (List Key)
  | [] => some []
  | d :: ds => (keyD d).bind fun k => (keysD ds).map (k :: ·)
def getK {κ : Type} [DecidableEq κ] (kvs : List (κ × D)) (k : κ) : Option D := (kvs.find? fun kv => decide (kv.1 = k)).map (·.2)
def inD : D → D → Option D
  | a, .lst _ ys => if eqOk 60 a && eqOks 59 ys then some (.bl (ys.any fun z => eqvD z a)) else none
  | a, .dk _ kvs => (keyD a).map fun k => .bl (getK kvs k).isSome
  | .tup ks, .dt _ kvs => (keysD ks).map fun k => .bl (getK kvs k).isSome
  | a, .tup ys => match a with
    | .int i => if ys.all (fun y => match y with | .int _ => true | _ => false) then some (.bl (ys.any fun y => eqvD y (.int i))) else none
    | _ => none
  | _, _ => none
def notD : D → Option D
  | .bl b => some (.bl (!b))
  | _ => none
def ixD : D → D → Option D
  | .tup xs, .int i => atI xs i
  | .lst _ xs, .int i => atI xs i
  | .scr ns, .int i => (atI ns i).map .int
  | .dk _ kvs, a => (keyD a).bind fun k => getK kvs k
  | .dt _ kvs, .tup ks => (keysD ks).bind fun k => getK kvs k
  | _, _ => none
def lenD : D → Option D
  | .tup xs => some (.int xs.length)
  | .lst _ xs => some (.int xs.length)
  | .scr xs => some (.int xs.length)
  | _ => none
def absD : D → Option D
  | .int i => some (.int (if i < 0 then -i else i))
  | _ => none
def intD : D → Option D
  | .int i => some (.int i)
  | .bl k => some (.int (if k then 1 else 0))
  | _ => none
def max2D : D → D → Option D
  | .int i, .int j => some (.int (if j > i then j else i))
  | _, _ => none
def min2D : D → D → Option D
  | .int i, .int j => some (.int (if j < i then j else i))
  | _, _ => none
def tupleD : D → Option D
  | .tup xs => some (.tup xs)
  | .lst _ xs => some (.tup xs)
  | _ => none
def listD : D → Option D
  | .tup xs => some (.lst true xs)
  | .lst _ xs => some (.lst true xs)
  | .scr xs => some (.lst true (xs.map .int))
  | _ => none
def intsD : List D → Option (List Int)
  | [] => some []
  | .int i :: ds => (intsD ds).map (i :: ·)
  | _ :: _ => none
def blsD : List D → Option (List Bool)
  | [] => some []
  | .bl i :: ds => (blsD ds).map (i :: ·)
  | _ :: _ => none
def sumD : D → Option D
  | .lst _ xs => (intsD xs).map fun ns => .int ns.sum
  | .tup xs => none
  | _ => none
def maxL : List Int → Int
  | [] => 0
  | [a] => a
  | a :: b :: r => if maxL (b :: r) < a then a else maxL (b :: r)
def minL : List Int → Int
  | [] => 0
  | [a] => a
  | a :: b :: r => if a < minL (b :: r) then a else minL (b :: r)
def max1D : D → Option D
  | .lst _ xs => (intsD xs).bind fun ns => if 0 < ns.length then some (.int (maxL ns)) else none
  | _ => none
def min1D : D → Option D
  | .lst _ xs => (intsD xs).bind fun ns => if 0 < ns.length then some (.int (minL ns)) else none
  | _ => none
def allD : D → Option D
  | .lst _ xs => (blsD xs).map fun bs => .bl (bs.all id)
  | _ => none
def anyD : D → Option D
  | .lst _ xs => (blsD xs).map fun bs => .bl (bs.any id)
  | _ => none
inductive Ty where
  | int | bool | tuple | list | str
def isiD : Ty → D → Option Bool
  | .int, .int _ => some true
  | .int, .bl _ => some true
  | .bool, .bl _ => some true
  | .tuple, .tup _ => some true
  | .list, .lst _ _ => some true
  | .str, .str _ => some true
  | _, .non => some false
  | _, .bl _ => some false
  | _, .int _ => some false
  | _, .str _ => some false
  | _, .tup _ => some false
  | _, .lst _ _ => some false
  | _, _ => none
def truD : D → Option Bool
  | .non => some false
  | .bl b => some b
  | .int i => some (i != 0)
  | .tup xs => some (!xs.isEmpty)
  | .lst _ xs => some (!xs.isEmpty)
  | _ => none

/-! ### what a pure operator hands on -/
structure KR (G : GI) (F H : Hp) (d : D) (Q : VK) : Prop where
  go : ∀ v F' H' p, (∀ a o, F a = some o → F' a = some o) → (∀ a o, H a = some o → H' a = some o) → (∀ a o, F' a = some o → H' a = some o) → (∀ a o, F' a = some o → F a = some o ∨ H a = none) →
    RO G F' H' p v d → p.Nodup → (∀ a, a ∈ p → F' a = none ∧ H a = none) → Q v H'
section
variable {G : GI} {F H F' H' : Hp} {d : D} {Q : VK} {fp : Nat → List Addr} {σ : L2.St} {e : DEnv} {W : WX}
theorem KR.z (k : KR G F H d Q) (s : ∀ a o, F a = some o → H a = some o) {v : V} (r : RO G F H [] v d) : Q v H :=
  k.go v F H [] (fun _ _ h => h) (fun _ _ h => h) s (fun _ _ h => .inl h) r List.nodup_nil fun _ z => nomatch z
theorem upd_le {H : Hp} {a : Addr} {o : HO} (h : H a = none) : ∀ b u, H b = some u → upd H a o b = some u := fun b u e => by rw [upd_ne (ne_of_none e h)]; exact e
/-- a new tuple of shared data -/
theorem KR.tup {ds : List D} (k : KR G F H (.tup ds) Q) (s : ∀ a o, F a = some o → H a = some o) {vs : List V} (r : ROs G F H [] vs ds) {a : Addr} (h : H a = none) : Q (.ref a) (upd H a (.tup vs)) := by
  have hF : F a = none := by
    cases q : F a with
    | none => rfl
    | some o => rw [s a o q] at h; cases h
  refine k.go _ (upd F a (.tup vs)) _ [] (upd_le hF) (upd_le h) (fun b o q => ?_) (fun b o q => ?_) (.tup upd_same (r.monoZ (upd_le hF))) List.nodup_nil fun _ z => nomatch z
  · by_cases e : b = a
    · subst e; rw [upd_same] at q ⊢; exact q
    · rw [upd_ne e] at q ⊢; exact s b o q
  · by_cases e : b = a
    · subst e; exact .inr h
    · rw [upd_ne e] at q; exact .inl q
/-- a new list of shared data -/
theorem KR.lst {ds : List D} (k : KR G F H (.lst true ds) Q) (s : ∀ a o, F a = some o → H a = some o) {vs : List V} (r : ROs G F H [] vs ds) {a : Addr} (h : H a = none) : Q (.ref a) (upd H a (.lst vs)) := by
  have hF : F a = none := by
    cases q : F a with
    | none => rfl
    | some o => rw [s a o q] at h; cases h
  refine k.go _ F _ [a] (fun _ _ h => h) (upd_le h) (fun b o q => upd_le h b o (s b o q)) (fun b o q => .inl q) (RO.lo upd_same (r.monoZ fun _ _ h => h)) (by simp) fun b z => ?_
  have e : b = a := by simpa using z
  subst e
  exact ⟨hF, h⟩
theorem SO.grow (s : SO G F H fp σ e) (h1 : ∀ a o, F a = some o → F' a = some o) (h2 : ∀ a o, H a = some o → H' a = some o) (h3 : ∀ a o, F' a = some o → H' a = some o) (h4 : ∀ a o, F' a = some o → F a = some o ∨ H a = none) : SO G F' H' fp σ e where
  sub := h3
  rep := fun i d h => by
    obtain ⟨v, q, r⟩ := s.rep i d h
    exact ⟨v, q, r.mono h1 fun a _ o z => h2 a o z⟩
  nd := s.nd
  dj := s.dj
  sep := fun i a z => by
    cases q : F' a with
    | none => rfl
    | some o =>
      obtain ⟨u, hu⟩ := s.th i a z
      rcases h4 a o q with w | w
      · rw [s.sep i a z] at w; cases w
      · rw [hu] at w; cases w
  th := fun i a z => by
    obtain ⟨u, hu⟩ := s.th i a z
    exact ⟨u, h2 a u hu⟩
  len := s.len
/-- from a state's wish to a pure operator's -/
theorem SO.kr (s : SO G F H fp σ e) (k : ∀ v F' H' fp' p, SO G F' H' fp' σ e → TO G F' H' fp' p v d → Tr F H (own fp) F' H' (fun a => own fp' a ∨ a ∈ p) → Q v H') : KR G F H d Q := by
  refine ⟨fun v F' H' p h1 h2 h3 h4 r nd np => ?_⟩
  refine k v F' H' fp p (s.grow h1 h2 h3 h4) ⟨r, nd, fun a z => (np a z).1, fun a z ⟨i, w⟩ => ?_⟩ ⟨h1, fun a o _ => h2 a o, fun a z => ?_, fun a o z => (h4 a o z).imp id .inr⟩
  · obtain ⟨u, hu⟩ := s.th i a w
    rw [(np a z).2] at hu; cases hu
  · exact z.imp id fun z => (np a z).2
end

/-! ### a view: shared data, or a list or dict of one's own that is only looked at -/
inductive RB (G : GI) (F H : Hp) : V → D → Prop
  | z {v : V} {d : D} : RO G F H [] v d → RB G F H v d
  | l {a : Addr} {vs : List V} {ds : List D} : H a = some (.lst vs) → ROs G F H [] vs ds → RB G F H (.ref a) (.lst false ds)
  | k {a : Addr} {kvs : List (Key × V)} {kds : List (Key × D)} : H a = some (.dK kvs) → kvs.map (·.1) = kds.map (·.1) → ROs G F H [] (kvs.map (·.2)) (kds.map (·.2)) → RB G F H (.ref a) (.dk false kds)
  | t {a : Addr} {kvs : List (List Key × V)} {kds : List (List Key × D)} : H a = some (.dT kvs) → kvs.map (·.1) = kds.map (·.1) → ROs G F H [] (kvs.map (·.2)) (kds.map (·.2)) → RB G F H (.ref a) (.dt false kds)
/-- may it be looked at as it is -/
def vwOk : D → Bool
  | .lst _ xs => fzs xs
  | .dk _ _ => true
  | .dt _ _ => true
  | d => fz d
def vw : D → D
  | .lst _ xs => .lst false xs
  | .dk _ kvs => .dk false kvs
  | .dt _ kvs => .dt false kvs
  | d => d
theorem ROs.toZ {G : GI} {F H : Hp} {p : List Addr} {vs : List V} {ds : List D} (r : ROs G F H p vs ds) (h : fzs ds = true) : ROs G F H [] vs ds := r.cast (r.nil_of_fz h)
theorem RB.of {G : GI} {F H : Hp} {p : List Addr} {v : V} {d : D} (r : RO G F H p v d) (h : vwOk d = true) : RB G F H v (vw d) := by
  cases r with
  | lz e r => exact .z (.lz e r)
  | lo e r => exact .l e (r.toZ h)
  | dkz e k r => exact .z (.dkz e k r)
  | dko e k r => exact .k e k r
  | dtz e k r => exact .z (.dtz e k r)
  | dto e k r => exact .t e k r
  | tup e r => exact .z (.tup e (r.toZ h))
  | non => exact .z .non
  | bl b => exact .z (.bl b)
  | int b => exact .z (.int b)
  | str b => exact .z (.str b)
  | fn b => exact .z (.fn b)
  | scr e => exact .z (.scr e)
theorem RB.mono {G : GI} {F F' H H' : Hp} (hF : ∀ a o, F a = some o → F' a = some o) (hH : ∀ a o, H a = some o → H' a = some o) {v : V} {d : D} (r : RB G F H v d) : RB G F' H' v d := by
  cases r with
  | z r => exact .z (r.monoZ hF)
  | l e r => exact .l (hH _ _ e) (r.monoZ hF)
  | k e q r => exact .k (hH _ _ e) q (r.monoZ hF)
  | t e q r => exact .t (hH _ _ e) q (r.monoZ hF)
inductive Op where
  | v (i : Nat) | e (m : ME)
inductive PV where
  | d (d : D) | v (i : Nat)
inductive RP where
  | ok (p : PV) (e : DEnv) | ex (c : Nat) (d : D) (e : DEnv) | no
def runV (i : Nat) (en : DEnv) : RP := match en[i]? with
    | some (some _) => .ok (.v i) en
    | _ => .no
def runE (m : ME) (en : DEnv) : RP := match m en with
    | .ok x e1 => .ok (.d (frz x)) e1
    | .ex c x e1 => .ex c x e1
    | .no => .no
def Op.run : Op → DEnv → RP
  | .v i => runV i
  | .e m => runE m
def RP.bind (r : RP) (k : PV → DEnv → RE) : RE := match r with
  | .ok p e => k p e
  | .ex c d e => .ex c d e
  | .no => .no
@[simp] theorem RP.bind_ok {d e k} : (RP.ok d e).bind k = k d e := rfl
@[simp] theorem RP.bind_ex {c d e k} : (RP.ex c d e).bind k = .ex c d e := rfl
@[simp] theorem RP.bind_no {k} : RP.no.bind k = .no := rfl
def seeAt (i : Nat) (e : DEnv) (k : D → DEnv → RE) : RE := match e[i]? with
  | some (some d) => if vwOk d = true then k (vw d) e else k (frz d) (e.set i (some (frz d)))
  | _ => .no
def PV.see : PV → DEnv → (D → DEnv → RE) → RE
  | .d x, en, k => k x en
  | .v i, en, k => seeAt i en k
def RdO (G : GI) (W : WX) : Op → TE
  | .v i => tVar i
  | .e m => RdZ G W m
def PVis (G : GI) (F H : Hp) (σ : L2.St) : PV → V → Prop
  | .d dd, x => RO G F H [] x dd
  | .v i, x => σ[i]? = some (some x)
section
variable {G : GI} {F H F' H' : Hp} {fp : Nat → List Addr} {σ : L2.St} {e : DEnv} {W : WX} {Q : VK}
theorem PVis.mono {p : PV} {x : V} (hF : ∀ a o, F a = some o → F' a = some o) (h : PVis G F H σ p x) : PVis G F' H' σ p x := by
  cases p with
  | d d => exact RO.monoZ hF h
  | v i => exact h
/-- what is asked of the ways out by an exception -/
def XOut (G : GI) (W : WX) (σ : L2.St) (F H : Hp) (fp : Nat → List Addr) (c : Nat) (d : D) (e' : DEnv) : Prop :=
  ∀ dx v F' H' fp' p, SO G F' H' fp' σ e' → TO G F' H' fp' p v d → Tr F H (own fp) F' H' (fun a => own fp' a ∨ a ∈ p) → H' dx = some (.xd [(G.xn c, v)]) → W (.ref (G.ca c)) (some dx) σ H'
theorem XOut.trans {F1 H1 : Hp} {fp1 : Nat → List Addr} {c : Nat} {d : D} {e' : DEnv} (h : XOut G W σ F H fp c d e') (t : Tr F H (own fp) F1 H1 (own fp1)) : XOut G W σ F1 H1 fp1 c d e' :=
  fun dx v F' H' fp' p s' t' tr hx => h dx v F' H' fp' p s' t' (t.trans tr) hx
theorem RdO.step (o : Op) (s : SO G F H fp σ e) (k : match o.run e with
    | .ok p e1 => ∀ x F1 H1 fp1, SO G F1 H1 fp1 σ e1 → Tr F H (own fp) F1 H1 (own fp1) → PVis G F1 H1 σ p x → Q x H1
    | .ex c d e1 => XOut G W σ F H fp c d e1
    | .no => False) : RdO G W o σ H Q := by
  cases o with
  | v i =>
    rw [show (Op.v i).run e = runV i e from rfl] at k
    unfold runV at k
    cases q : e[i]? with
    | none => rw [q] at k; exact k.elim
    | some o =>
      cases o with
      | none => rw [q] at k; exact k.elim
      | some d =>
        rw [q] at k
        obtain ⟨v, hv, _⟩ := s.rep i d q
        exact ⟨v, hv, k v F H fp s Tr.refl hv⟩
  | e m =>
    refine ⟨F, fp, e, s, ?_⟩
    rw [show (Op.e m).run e = runE m e from rfl] at k
    unfold runE at k
    cases q : m e with
    | ok d e1 =>
      rw [q] at k
      exact fun v F1 H1 fp1 s1 r1 tr1 => k v F1 H1 fp1 s1 tr1 r1
    | ex c d e1 => rw [q] at k; exact k
    | no => rw [q] at k; exact k
theorem PV.see_ok {p : PV} {x : V} {k : D → DEnv → RE} {R : RE} (s : SO G F H fp σ e) (h : PVis G F H σ p x) (q : p.see e k = R) (hR : R ≠ .no) :
    ∃ d e' F' fp', SO G F' H fp' σ e' ∧ RB G F' H x d ∧ Tr F H (own fp) F' H (own fp') ∧ k d e' = R := by
  cases p with
  | d d => exact ⟨d, e, F, fp, s, .z h, Tr.refl, q⟩
  | v i =>
    have q : seeAt i e k = R := q
    unfold seeAt at q
    cases q2 : e[i]? with
    | none => rw [q2] at q; exact absurd q.symm hR
    | some o =>
      cases o with
      | none => rw [q2] at q; exact absurd q.symm hR
      | some d =>
        rw [q2] at q
        obtain ⟨v, hv, r⟩ := s.rep i d q2
        have hv2 : σ[i]? = some (some x) := h
        rw [hv] at hv2
        cases hv2
        simp only at q
        split at q
        · rename_i hw
          exact ⟨_, _, F, fp, s, RB.of r hw, Tr.refl, q⟩
        · have s2 := s.shareAt q2
          exact ⟨_, _, _, _, s2, .z (r.frz (addF_le (s.sep i)) fun a z o => addF_at a z o), Tr.shareAt (s.sep i), q⟩
end
def mOp1 (f : D → Option D) (oa : Op) : ME := fun e => (oa.run e).bind fun p e1 => p.see e1 fun d e2 => RE.of (f d) e2
def mOp2 (f : D → D → Option D) (oa ob : Op) : ME := fun e => (oa.run e).bind fun p e1 => (ob.run e1).bind fun q e2 => p.see e2 fun d e3 => q.see e3 fun d2 e4 => RE.of (f d d2) e4
section
variable {G : GI} {W : WX} {oa ob : Op} {σ : L2.St} {H : Hp} {Q : VK}
/-- an expression's end -/
def EOut (G : GI) (W : WX) (σ : L2.St) (F H : Hp) (fp : Nat → List Addr) (Q : VK) : RE → Prop
  | .ok d e' => ∀ v F' H' fp' p, SO G F' H' fp' σ e' → TO G F' H' fp' p v d → Tr F H (own fp) F' H' (fun a => own fp' a ∨ a ∈ p) → Q v H'
  | .ex c d e' => XOut G W σ F H fp c d e'
  | .no => False
theorem EOut.trans {F F1 H1 : Hp} {fp fp1 : Nat → List Addr} {r : RE} (h : EOut G W σ F H fp Q r) (t : Tr F H (own fp) F1 H1 (own fp1)) : EOut G W σ F1 H1 fp1 Q r := by
  cases r with
  | ok d e => exact fun v F' H' fp' p s' t' tr => h v F' H' fp' p s' t' (t.trans tr)
  | ex c d e => exact XOut.trans h t
  | no => exact h
theorem EOut.ne {F : Hp} {fp : Nat → List Addr} {r : RE} (h : EOut G W σ F H fp Q r) : r ≠ .no := fun z => by rw [z] at h; exact h
theorem RdE.iff {m : ME} : RdE G W m σ H Q ↔ ∃ F fp e, SO G F H fp σ e ∧ EOut G W σ F H fp Q (m e) := by
  unfold RdE
  constructor
  · rintro ⟨F, fp, e, s, h⟩
    refine ⟨F, fp, e, s, ?_⟩
    cases q : m e with
    | ok d e' => rw [q] at h; exact h
    | ex c d e' => rw [q] at h; exact h
    | no => rw [q] at h; exact h
  · rintro ⟨F, fp, e, s, h⟩
    refine ⟨F, fp, e, s, ?_⟩
    cases q : m e with
    | ok d e' => rw [q] at h; exact h
    | ex c d e' => rw [q] at h; exact h
    | no => rw [q] at h; exact h
theorem rd_op1 {f : D → Option D} {r : V → Hp → VK → Prop} (hr : ∀ F H x d1 d Q, (∀ a o, F a = some o → H a = some o) → RB G F H x d1 → f d1 = some d → KR G F H d Q → r x H Q)
    (h : RdE G W (mOp1 f oa) σ H Q) : RdO G W oa σ H fun x H1 => r x H1 Q := by
  obtain ⟨F, fp, e, s, h⟩ := RdE.iff.mp h
  refine RdO.step oa s ?_
  unfold mOp1 at h
  cases q : oa.run e with
  | ok p e1 =>
    rw [q] at h
    intro x F1 H1 fp1 s1 tr1 v1
    obtain ⟨d1, e2, F2, fp2, s2, b2, tr2, k⟩ := PV.see_ok s1 v1 rfl h.ne
    rw [RP.bind_ok, ← k] at h
    cases q3 : f d1 with
    | none => rw [q3] at h; exact h.elim
    | some d =>
      rw [q3] at h
      exact hr F2 H1 x d1 d Q s2.sub b2 q3 (s2.kr (h.trans (tr1.trans tr2)))
  | ex c d e1 => rw [q] at h; exact h
  | no => rw [q] at h; exact h
theorem rd_op2 {f : D → D → Option D} {r : V → V → Hp → VK → Prop} (hr : ∀ F H x y d1 d2 d Q, (∀ a o, F a = some o → H a = some o) → RB G F H x d1 → RB G F H y d2 → f d1 d2 = some d → KR G F H d Q → r x y H Q)
    (h : RdE G W (mOp2 f oa ob) σ H Q) : RdO G W oa σ H fun x H1 => RdO G W ob σ H1 fun y H2 => r x y H2 Q := by
  obtain ⟨F, fp, e, s, h⟩ := RdE.iff.mp h
  refine RdO.step oa s ?_
  unfold mOp2 at h
  cases q : oa.run e with
  | ok p e1 =>
    rw [q] at h
    intro x F1 H1 fp1 s1 tr1 v1
    rw [RP.bind_ok] at h
    refine RdO.step ob s1 ?_
    cases q2 : ob.run e1 with
    | ok p2 e2 =>
      rw [q2] at h
      intro y F2 H2 fp2 s2 tr2 v2
      rw [RP.bind_ok] at h
      obtain ⟨d1, e3, F3, fp3, s3, b3, tr3, k⟩ := PV.see_ok s2 (v1.mono tr2.ff) rfl h.ne
      rw [← k] at h
      obtain ⟨d2, e4, F4, fp4, s4, b4, tr4, k4⟩ := PV.see_ok s3 (v2.mono tr3.ff) rfl h.ne
      rw [← k4] at h
      cases q3 : f d1 d2 with
      | none => rw [q3] at h; exact h.elim
      | some d =>
        rw [q3] at h
        exact hr F4 H2 x y d1 d2 d Q s4.sub (b3.mono tr4.ff fun _ _ z => z) b4 q3 (s4.kr (h.trans (((tr1.trans tr2).trans tr3).trans tr4)))
    | ex c d e2 => rw [q2] at h; exact XOut.trans h tr1
    | no => rw [q2] at h; exact h
  | ex c d e1 => rw [q] at h; exact h
  | no => rw [q] at h; exact h
end
end EV

/-! EvD: each operator's rule serves its plain reading. -/
namespace EV
open PySem PySem.Spec PyProof.Rows L2
section
variable {X : Cx} {g : GF} {F H : Hp} {x y : V} {d1 d2 d : D} {Q : VK}
abbrev Sb (F H : Hp) : Prop := ∀ a o, F a = some o → H a = some o
theorem RO.int_inv {G : GI} {p : List Addr} {i : Int} (r : RO G F H p x (.int i)) : x = .int i := by cases r; rfl
theorem RO.bl_inv {G : GI} {p : List Addr} {i : Bool} (r : RO G F H p x (.bl i)) : x = .bl i := by cases r; rfl
theorem RO.non_inv {G : GI} {p : List Addr} (r : RO G F H p x .non) : x = .non := by cases r; rfl
theorem RO.str_inv {G : GI} {p : List Addr} {i : Str} (r : RO G F H p x (.str i)) : x = .str i := by cases r; rfl
theorem RO.tup_inv {G : GI} {ds : List D} (r : RO G F H [] x (.tup ds)) : ∃ a vs, x = .ref a ∧ F a = some (.tup vs) ∧ ROs G F H [] vs ds := by
  cases r with
  | tup e r => exact ⟨_, _, rfl, e, r⟩
theorem RO.lst_inv {G : GI} {o : Bool} {ds : List D} (r : RO G F H [] x (.lst o ds)) : o = false ∧ ∃ a vs, x = .ref a ∧ F a = some (.lst vs) ∧ ROs G F H [] vs ds := by
  cases r with
  | lz e r => exact ⟨rfl, _, _, rfl, e, r⟩
theorem RO.scr_inv {G : GI} {ns : List Int} (r : RO G F H [] x (.scr ns)) : ∃ a, x = .ref a ∧ SqL G.K F a (ns.map V.int) := by
  cases r with
  | scr e => exact ⟨_, rfl, e⟩
theorem RO.dk_inv {G : GI} {o : Bool} {kds : List (Key × D)} (r : RO G F H [] x (.dk o kds)) : o = false ∧ ∃ a kvs, x = .ref a ∧ F a = some (.dK kvs) ∧ kvs.map (·.1) = kds.map (·.1) ∧ ROs G F H [] (kvs.map (·.2)) (kds.map (·.2)) := by
  cases r with
  | dkz e k r => exact ⟨rfl, _, _, rfl, e, k, r⟩
theorem RO.dt_inv {G : GI} {o : Bool} {kds : List (List Key × D)} (r : RO G F H [] x (.dt o kds)) : o = false ∧ ∃ a kvs, x = .ref a ∧ F a = some (.dT kvs) ∧ kvs.map (·.1) = kds.map (·.1) ∧ ROs G F H [] (kvs.map (·.2)) (kds.map (·.2)) := by
  cases r with
  | dtz e k r => exact ⟨rfl, _, _, rfl, e, k, r⟩
theorem RB.int_inv {G : GI} {i : Int} (r : RB G F H x (.int i)) : x = .int i := by cases r with | z r => exact r.int_inv
theorem RB.bl_inv {G : GI} {i : Bool} (r : RB G F H x (.bl i)) : x = .bl i := by cases r with | z r => exact r.bl_inv
theorem RB.non_inv {G : GI} (r : RB G F H x .non) : x = .non := by cases r with | z r => exact r.non_inv
theorem RB.str_inv {G : GI} {i : Str} (r : RB G F H x (.str i)) : x = .str i := by cases r with | z r => exact r.str_inv
theorem RB.tup_inv {G : GI} {ds : List D} (r : RB G F H x (.tup ds)) : ∃ a vs, x = .ref a ∧ F a = some (.tup vs) ∧ ROs G F H [] vs ds := by
  cases r with
  | z r => exact r.tup_inv
theorem RB.lst_inv {G : GI} {o : Bool} {ds : List D} (s : Sb F H) (r : RB G F H x (.lst o ds)) : o = false ∧ ∃ a vs, x = .ref a ∧ H a = some (.lst vs) ∧ ROs G F H [] vs ds := by
  cases r with
  | z r =>
    obtain ⟨h1, a, vs, h2, h3, h4⟩ := r.lst_inv
    exact ⟨h1, a, vs, h2, s _ _ h3, h4⟩
  | l e r => exact ⟨rfl, _, _, rfl, e, r⟩
theorem RB.scr_inv {G : GI} {ns : List Int} (r : RB G F H x (.scr ns)) : ∃ a, x = .ref a ∧ SqL G.K F a (ns.map V.int) := by
  cases r with
  | z r => exact r.scr_inv
theorem RB.dk_inv {G : GI} {o : Bool} {kds : List (Key × D)} (s : Sb F H) (r : RB G F H x (.dk o kds)) : o = false ∧ ∃ a kvs, x = .ref a ∧ H a = some (.dK kvs) ∧ kvs.map (·.1) = kds.map (·.1) ∧ ROs G F H [] (kvs.map (·.2)) (kds.map (·.2)) := by
  cases r with
  | z r =>
    obtain ⟨h1, a, vs, h2, h3, h4⟩ := r.dk_inv
    exact ⟨h1, a, vs, h2, s _ _ h3, h4⟩
  | k e q r => exact ⟨rfl, _, _, rfl, e, q, r⟩
theorem RB.dt_inv {G : GI} {o : Bool} {kds : List (List Key × D)} (s : Sb F H) (r : RB G F H x (.dt o kds)) : o = false ∧ ∃ a kvs, x = .ref a ∧ H a = some (.dT kvs) ∧ kvs.map (·.1) = kds.map (·.1) ∧ ROs G F H [] (kvs.map (·.2)) (kds.map (·.2)) := by
  cases r with
  | z r =>
    obtain ⟨h1, a, vs, h2, h3, h4⟩ := r.dt_inv
    exact ⟨h1, a, vs, h2, s _ _ h3, h4⟩
  | t e q r => exact ⟨rfl, _, _, rfl, e, q, r⟩
theorem ints_rep {G : GI} : ∀ {ds : List D} {vs : List V} {ns : List Int}, ROs G F H [] vs ds → intsD ds = some ns → vs = ns.map V.int
  | [], _, ns, r, h => by
    obtain ⟨e, _⟩ := r.invN
    have : ns = [] := by injection h with h; exact h.symm
    rw [e, this]; rfl
  | d :: ds, [], _, r, _ => nomatch r.length
  | d :: ds, v :: vs, ns, r, h => by
    obtain ⟨r1, r2⟩ := r.unconsZ
    cases d with
    | int i =>
      have h2 : (intsD ds).map (i :: ·) = some ns := h
      cases q : intsD ds with
      | none => rw [q] at h2; cases h2
      | some ms =>
        rw [q] at h2
        injection h2 with h2
        rw [← h2, r1.int_inv, ints_rep r2 q]; rfl
    | _ => cases h
theorem bls_rep {G : GI} : ∀ {ds : List D} {vs : List V} {ns : List Bool}, ROs G F H [] vs ds → blsD ds = some ns → vs = ns.map V.bl
  | [], _, ns, r, h => by
    obtain ⟨e, _⟩ := r.invN
    have : ns = [] := by injection h with h; exact h.symm
    rw [e, this]; rfl
  | d :: ds, [], _, r, _ => nomatch r.length
  | d :: ds, v :: vs, ns, r, h => by
    obtain ⟨r1, r2⟩ := r.unconsZ
    cases d with
    | bl i =>
      have h2 : (blsD ds).map (i :: ·) = some ns := h
      cases q : blsD ds with
      | none => rw [q] at h2; cases h2
      | some ms =>
        rw [q] at h2
        injection h2 with h2
        rw [← h2, r1.bl_inv, bls_rep r2 q]; rfl
    | _ => cases h
/-! ### arithmetic -/
theorem hr_cmp {G : GI} {f : Int → Int → Bool} (s : Sb F H) (r1 : RB G F H x d1) (r2 : RB G F H y d2) (h : cmpD f d1 d2 = some d) (k : KR G F H d Q) : rI0 (fun i j => .bl (f i j)) x y H Q := by
  cases d1 <;> first | (cases h; done) | skip
  cases d2 <;> first | (cases h; done) | skip
  injection h with h; subst h
  exact ⟨_, _, r1.int_inv, r2.int_inv, k.z s (.bl _)⟩
theorem hr_add {G : GI} (s : Sb F H) (r1 : RB G F H x d1) (r2 : RB G F H y d2) (h : addD d1 d2 = some d) (k : KR G F H d Q) :
    rI0 (fun i j => .int (i + j)) x y H Q ∨ (rCat x y H Q ∨ rCatA G.K x y H Q) := by
  cases d1 with
  | int i =>
    cases d2 <;> first | (cases h; done) | skip
    injection h with h; subst h
    exact .inl ⟨_, _, r1.int_inv, r2.int_inv, k.z s (.int _)⟩
  | lst o xs =>
    cases d2 <;> first | (cases h; done) | skip
    rename_i o2 ys
    have h : (if xs.length + ys.length ≤ LIM then some (D.lst true (xs ++ ys)) else none) = some d := h
    split at h
    · rename_i hl
      injection h with h; subst h
      obtain ⟨_, a, vs, rfl, ha, ra⟩ := r1.lst_inv s
      obtain ⟨_, b, ws, rfl, hb, rb⟩ := r2.lst_inv s
      refine .inr (.inl ⟨a, b, vs, ws, rfl, rfl, ha, hb, ?_, fun p hp => k.lst s (ra.append rb) hp⟩)
      rw [ra.length, rb.length]; exact LIM_line hl
    · cases h
  | tup xs =>
    cases d2 <;> first | (cases h; done) | skip
    rename_i ys
    have h : (if xs.length + ys.length ≤ LIM then some (D.tup (xs ++ ys)) else none) = some d := h
    split at h
    · rename_i hl
      injection h with h; subst h
      obtain ⟨a, vs, rfl, ha, ra⟩ := r1.tup_inv
      obtain ⟨b, ws, rfl, hb, rb⟩ := r2.tup_inv
      refine .inr (.inr ⟨a, b, vs, ws, rfl, rfl, SqT.of (s _ _ ha), SqT.of (s _ _ hb), ?_, fun e => ?_, fun _ e => ?_, fun _ _ p hp => k.tup s (ra.append rb) hp⟩)
      · rw [ra.length, rb.length]; exact LIM_line hl
      · have hx : xs = [] := by
          have := ra.length
          rw [e] at this
          exact List.length_eq_zero_iff.mp this.symm
        subst hx
        exact k.z s (.tup hb rb)
      · have hx : ys = [] := by
          have := rb.length
          rw [e] at this
          exact List.length_eq_zero_iff.mp this.symm
        subst hx
        rw [List.append_nil] at k
        exact k.z s (.tup ha ra)
    · cases h
  | _ => cases h
theorem hr_sub {G : GI} (s : Sb F H) (r1 : RB G F H x d1) (r2 : RB G F H y d2) (h : subD d1 d2 = some d) (k : KR G F H d Q) : rI0 (fun i j => .int (i - j)) x y H Q := by
  cases d1 <;> first | (cases h; done) | skip
  cases d2 <;> first | (cases h; done) | skip
  injection h with h; subst h
  exact ⟨_, _, r1.int_inv, r2.int_inv, k.z s (.int _)⟩
theorem ROs.rep {G : GI} {ds : List D} {vs : List V} (r : ROs G F H [] vs ds) : ∀ n : Nat, ROs G F H [] (List.replicate n vs).flatten (List.replicate n ds).flatten
  | 0 => .nil
  | n + 1 => by
    rw [List.replicate_succ, List.replicate_succ, List.flatten_cons, List.flatten_cons]
    exact (r.append (ROs.rep r n)).cast rfl
theorem hr_mul {G : GI} (s : Sb F H) (r1 : RB G F H x d1) (r2 : RB G F H y d2) (h : mulD d1 d2 = some d) (k : KR G F H d Q) :
    rI CMul (fun i j => .int (i * j)) x y H Q ∨ (rI CMulW (fun i j => .int (i * j)) x y H Q ∨ rRep x y H Q) := by
  cases d1 with
  | int i =>
    cases d2 <;> first | (cases h; done) | skip
    rename_i j
    have h : (if mulOk i j = true then some (D.int (i * j)) else none) = some d := h
    split at h
    · rename_i hm
      injection h with h; subst h
      have q : Q (.int (i * j)) H := k.z s (.int _)
      unfold mulOk at hm
      rw [Bool.or_eq_true, Bool.or_eq_true, decide_eq_true_eq] at hm
      rcases hm with hm | hm | hm
      · have hm := Nat.le_of_ble_eq_true hm
        exact .inl ⟨_, _, r1.int_inv, r2.int_inv, .inl (by omega), q⟩
      · have hm := Nat.le_of_ble_eq_true hm
        exact .inl ⟨_, _, r1.int_inv, r2.int_inv, .inr (by omega), q⟩
      · exact .inr (.inl ⟨_, _, r1.int_inv, r2.int_inv, hm, q⟩)
    · cases h
  | lst o xs =>
    cases d2 <;> first | (cases h; done) | skip
    rename_i n
    have h : (if Nat.ble n.natAbs 9223372036854775807 = true ∧ xs.length * n.toNat ≤ LIM then some (D.lst true (List.replicate n.toNat xs).flatten) else none) = some d := h
    split at h
    · rename_i hl
      injection h with h; subst h
      obtain ⟨_, a, vs, rfl, ha, ra⟩ := r1.lst_inv s
      have hb := Nat.le_of_ble_eq_true hl.1
      refine .inr (.inr ⟨a, n, vs, rfl, r2.int_inv, ha, by omega, by omega, ?_, fun p hp => k.lst s (ra.rep _) hp⟩)
      rw [ra.length]; exact LIM_line hl.2
    · cases h
  | _ => cases h
theorem divOk_log {j : Int} (h : divOk j = true) : j.natAbs < 1073741824 ∨ j.natAbs.log2 < 9000 := by
  unfold divOk at h
  rw [Bool.or_eq_true, decide_eq_true_eq, decide_eq_true_eq] at h
  exact h
def CDivA (_ j : Int) : Prop := j ≠ 0 ∧ (j.natAbs < 1073741824 ∨ j.natAbs.log2 < 9000)
theorem op_fdivA : OpR X (binaryOp .FloorDiv) (rI CDivA fun i j => .int (i.fdiv j)) := opI fun i j _ _ _ _ _ hc q => by
  rcases hc.2 with h | h
  · exact floordiv_int hc.1 q (.inl (PyProof.noPylong_small h))
  · exact floordiv_int hc.1 q (.inl (PyProof.noPylong_of_log2 h))
theorem hr_fdiv {G : GI} (s : Sb F H) (r1 : RB G F H x d1) (r2 : RB G F H y d2) (h : fdivD d1 d2 = some d) (k : KR G F H d Q) : rI CDivA (fun i j => .int (i.fdiv j)) x y H Q := by
  cases d1 <;> first | (cases h; done) | skip
  cases d2 <;> first | (cases h; done) | skip
  rename_i i j
  have h : (if 0 < j then (if divOk j = true then some (D.int (i / j)) else none) else if j = 0 then none else if divOk j = true then some (D.int (i.fdiv j)) else none) = some d := h
  split at h
  · rename_i hj
    split at h
    · rename_i hd
      injection h with h; subst h
      refine ⟨_, _, r1.int_inv, r2.int_inv, ⟨by omega, divOk_log hd⟩, ?_⟩
      show Q (.int (i.fdiv j)) H
      rw [Int.fdiv_eq_ediv_of_nonneg i (by omega)]
      exact k.z s (.int _)
    · cases h
  · split at h
    · cases h
    · rename_i hj
      split at h
      · rename_i hd
        injection h with h; subst h
        exact ⟨_, _, r1.int_inv, r2.int_inv, ⟨hj, divOk_log hd⟩, k.z s (.int _)⟩
      · cases h
theorem hr_mod {G : GI} (s : Sb F H) (r1 : RB G F H x d1) (r2 : RB G F H y d2) (h : modD d1 d2 = some d) (k : KR G F H d Q) : rI (fun _ j => j ≠ 0) (fun i j => .int (i.fmod j)) x y H Q := by
  cases d1 <;> first | (cases h; done) | skip
  cases d2 <;> first | (cases h; done) | skip
  rename_i i j
  have h : (if 0 < j then some (D.int (i % j)) else if j = 0 then none else some (D.int (i.fmod j))) = some d := h
  split at h
  · injection h with h; subst h
    refine ⟨_, _, r1.int_inv, r2.int_inv, by omega, ?_⟩
    show Q (.int (i.fmod j)) H
    rw [Int.fmod_eq_emod_of_nonneg i (by omega)]
    exact k.z s (.int _)
  · split at h
    · cases h
    · rename_i hj
      injection h with h; subst h
      exact ⟨_, _, r1.int_inv, r2.int_inv, hj, k.z s (.int _)⟩
theorem hr_pow {G : GI} (s : Sb F H) (r1 : RB G F H x d1) (r2 : RB G F H y d2) (h : powD d1 d2 = some d) (k : KR G F H d Q) : rI CPow (fun i j => .int (i ^ j.toNat)) x y H Q := by
  cases d1 <;> first | (cases h; done) | skip
  cases d2 <;> first | (cases h; done) | skip
  rename_i i j
  have h : (if 0 ≤ j ∧ Nat.ble j.natAbs 1000000 = true ∧ Nat.ble i.natAbs 18446744073709551615 = true then some (D.int (i ^ j.toNat)) else none) = some d := h
  split at h
  · rename_i hp
    injection h with h; subst h
    have h1 := Nat.le_of_ble_eq_true hp.2.1
    have h2 := Nat.le_of_ble_eq_true hp.2.2
    exact ⟨_, _, r1.int_inv, r2.int_inv, ⟨hp.1, by omega, by omega⟩, k.z s (.int _)⟩
  · cases h
theorem hr_neg {G : GI} (s : Sb F H) (r1 : RB G F H x d1) (h : negD d1 = some d) (k : KR G F H d Q) : rU (fun i => .int (-i)) x H Q := by
  cases d1 <;> first | (cases h; done) | skip
  injection h with h; subst h
  exact ⟨_, r1.int_inv, k.z s (.int _)⟩
/-! ### is -/
theorem isN_rep {G : GI} (r : RB G F H x d1) : decide (x = .non) = isN d1 := by
  cases r with
  | z r => cases r <;> rfl
  | _ => rfl
theorem hr_isN {G : GI} (s : Sb F H) (r1 : RB G F H x d1) (h : some (D.bl (isN d1)) = some d) (k : KR G F H d Q) : Q (.bl (decide (x = .non))) H := by
  injection h with h; subst h
  rw [isN_rep r1]
  exact k.z s (.bl _)
theorem hr_notN {G : GI} (s : Sb F H) (r1 : RB G F H x d1) (h : some (D.bl (!isN d1)) = some d) (k : KR G F H d Q) : Q (.bl (!decide (x = .non))) H := by
  injection h with h; subst h
  rw [isN_rep r1]
  exact k.z s (.bl _)
theorem op_isC {b : Bool} : OpR X (compareOp .Is) (fun x y H Q => y = .bl b ∧ Q (.bl (decide (x = .bl b))) H) := by
  intro pins s σ H x y v u Q I rx ry h
  obtain ⟨rfl, q⟩ := h
  cases ry
  cases x with
  | bl c =>
    cases (show v = Value.bool c from rx)
    by_cases e : c = b
    · subst e
      exact wpAny_is_self rfl ⟨.bl true, H, I, rfl, by simpa using q⟩
    · exact wpAny_is_other rfl (fun z => e (Value.bool.inj z)) ⟨.bl false, H, I, rfl, by simpa [e] using q⟩
  | non => cases rx; exact wpAny_pure ⟨.bl false, H, I, rfl, by simpa using q⟩
  | int i => obtain ⟨t, rfl⟩ := rx; exact wpAny_pure ⟨.bl false, H, I, rfl, by simpa using q⟩
  | str i => obtain ⟨t, rfl⟩ := rx; exact wpAny_pure ⟨.bl false, H, I, rfl, by simpa using q⟩
  | byt i => obtain ⟨t, rfl⟩ := rx; exact wpAny_pure ⟨.bl false, H, I, rfl, by simpa using q⟩
  | flt i => obtain ⟨t, rfl⟩ := rx; exact wpAny_pure ⟨.bl false, H, I, rfl, by simpa using q⟩
  | ref a => cases rx; exact wpAny_pure ⟨.bl false, H, I, rfl, by simpa using q⟩
  | ty n => cases rx; exact wpAny_pure ⟨.bl false, H, I, rfl, by simpa using q⟩
theorem op_isnotC {b : Bool} : OpR X (compareOp .IsNot) (fun x y H Q => y = .bl b ∧ Q (.bl (!decide (x = .bl b))) H) := by
  intro pins s σ H x y v u Q I rx ry h
  obtain ⟨rfl, q⟩ := h
  cases ry
  cases x with
  | bl c =>
    cases (show v = Value.bool c from rx)
    by_cases e : c = b
    · subst e
      exact wpAny_isNot_self rfl ⟨.bl false, H, I, rfl, by simpa using q⟩
    · exact wpAny_isNot_other rfl (fun z => e (Value.bool.inj z)) ⟨.bl true, H, I, rfl, by simpa [e] using q⟩
  | non => cases rx; exact wpAny_pure ⟨.bl true, H, I, rfl, by simpa using q⟩
  | int i => obtain ⟨t, rfl⟩ := rx; exact wpAny_pure ⟨.bl true, H, I, rfl, by simpa using q⟩
  | str i => obtain ⟨t, rfl⟩ := rx; exact wpAny_pure ⟨.bl true, H, I, rfl, by simpa using q⟩
  | byt i => obtain ⟨t, rfl⟩ := rx; exact wpAny_pure ⟨.bl true, H, I, rfl, by simpa using q⟩
  | flt i => obtain ⟨t, rfl⟩ := rx; exact wpAny_pure ⟨.bl true, H, I, rfl, by simpa using q⟩
  | ref a => cases rx; exact wpAny_pure ⟨.bl true, H, I, rfl, by simpa using q⟩
  | ty n => cases rx; exact wpAny_pure ⟨.bl true, H, I, rfl, by simpa using q⟩
theorem isB_rep {G : GI} {b : Bool} (r : RB G F H x d1) : decide (x = .bl b) = isB b d1 := by
  cases r with
  | z r =>
    cases r <;> first
      | rfl
      | (rename_i c; cases c <;> cases b <;> rfl)
  | _ => rfl
/-! ### equality -/
mutual
theorem dp_of {G : GI} (s : Sb F H) : ∀ (n : Nat) (d : D) {x : V}, RO G F H [] x d → eqOk n d = true → Dp G.K H x (pd d)
  | 0, d, _, _, h => by cases d <;> cases h
  | n + 1, .non, _, r, _ => by rw [r.non_inv]; exact .non
  | n + 1, .bl b, _, r, _ => by rw [r.bl_inv]; exact .bl b
  | n + 1, .int b, _, r, _ => by rw [r.int_inv]; exact .int b
  | n + 1, .str b, _, r, _ => by rw [r.str_inv]; exact .str b
  | n + 1, .tup ds, _, r, h => by
    obtain ⟨a, vs, rfl, e, r⟩ := r.tup_inv
    exact .tup (SqT.of (s _ _ e)) (dps_of s n ds r h)
  | n + 1, .lst o ds, _, r, h => by
    obtain ⟨_, a, vs, rfl, e, r⟩ := r.lst_inv
    exact .lst (SqL.of (s _ _ e)) (dps_of s n ds r h)
  | n + 1, .scr _, _, _, h => by cases h
  | n + 1, .dk _ _, _, _, h => by cases h
  | n + 1, .dt _ _, _, _, h => by cases h
  | n + 1, .fn _, _, _, h => by cases h
theorem dps_of {G : GI} (s : Sb F H) : ∀ (n : Nat) (ds : List D) {vs : List V}, ROs G F H [] vs ds → eqOks n ds = true → DpAll G.K H vs (pds ds)
  | n, [], vs, r, _ => by
    obtain ⟨rfl, _⟩ := r.invN
    exact .nil
  | n, d :: ds, [], r, _ => nomatch r.length
  | n, d :: ds, v :: vs, r, h => by
    have h2 : (eqOk n d && eqOks n ds) = true := by
      cases n <;> exact h
    rw [Bool.and_eq_true] at h2
    obtain ⟨r1, r2⟩ := r.unconsZ
    exact .cons (dp_of s n d r1 h2.1) (dps_of s n ds r2 h2.2)
end
mutual
theorem lay_of : ∀ (n : Nat) (d : D), eqOk n d = true → (pd d).canLay0 = true ∧ (pd d).depth ≤ n
  | 0, d, h => by cases d <;> cases h
  | n + 1, .non, _ => ⟨by simp [pd, PyData.canLay0], by simp [pd, PyData.depth]⟩
  | n + 1, .bl b, _ => ⟨by simp [pd, PyData.canLay0], by simp [pd, PyData.depth]⟩
  | n + 1, .int b, _ => ⟨by simp [pd, PyData.canLay0], by simp [pd, PyData.depth]⟩
  | n + 1, .str b, h => ⟨by simp only [pd, PyData.canLay0]; exact h, by simp [pd, PyData.depth]⟩
  | n + 1, .tup ds, h => by
    obtain ⟨h1, h2⟩ := lays_of n ds h
    refine ⟨by simp only [pd, PyData.canLay0]; exact h1, ?_⟩
    simp only [pd, PyData.depth]
    omega
  | n + 1, .lst o ds, h => by
    obtain ⟨h1, h2⟩ := lays_of n ds h
    refine ⟨by simp only [pd, PyData.canLay0]; exact h1, ?_⟩
    simp only [pd, PyData.depth]
    omega
  | n + 1, .scr _, h => by cases h
  | n + 1, .dk _ _, h => by cases h
  | n + 1, .dt _ _, h => by cases h
  | n + 1, .fn _, h => by cases h
theorem lays_of : ∀ (n : Nat) (ds : List D), eqOks n ds = true → PyData.canLayAll0 (pds ds) = true ∧ PyData.depthAll (pds ds) ≤ n
  | n, [], _ => ⟨by simp [pds, PyData.canLayAll0], by simp [pds, PyData.depthAll]⟩
  | n, d :: ds, h => by
    have h2 : (eqOk n d && eqOks n ds) = true := by
      cases n <;> exact h
    rw [Bool.and_eq_true] at h2
    obtain ⟨a1, a2⟩ := lay_of n d h2.1
    obtain ⟨b1, b2⟩ := lays_of n ds h2.2
    refine ⟨by simp only [pds, PyData.canLayAll0, a1, b1, Bool.and_self], ?_⟩
    simp only [pds, PyData.depthAll]
    omega
end
theorem shaped_of {n : Nat} {d : D} (h : eqOk n d = true) (hn : n ≤ 64) : SeqAt.shaped (pd d) = true := by
  obtain ⟨h1, h2⟩ := lay_of n d h
  unfold SeqAt.shaped
  rw [h1, Bool.true_and, decide_eq_true_eq]
  omega
mutual
theorem eqv_of : ∀ (n : Nat) (a b : D) (m : Nat), eqOk n a = true → eqOk m b = true → PyData.eqv (pd a) (pd b) = eqvD a b
  | 0, d, _, _, h, _ => by cases d <;> cases h
  | _, _, d, 0, _, h => by cases d <;> cases h
  | n + 1, .non, b, m + 1, _, h => by cases b <;> first | (cases h; done) | simp [pd, PyData.eqv, eqvD]
  | n + 1, .bl a, b, m + 1, _, h => by cases b <;> first | (cases h; done) | simp [pd, PyData.eqv, eqvD]
  | n + 1, .int a, b, m + 1, _, h => by cases b <;> first | (cases h; done) | simp [pd, PyData.eqv, eqvD]
  | n + 1, .str a, b, m + 1, _, h => by cases b <;> first | (cases h; done) | simp [pd, PyData.eqv, eqvD]
  | n + 1, .tup xs, b, m + 1, h1, h => by
    cases b with
    | tup ys => simp only [pd, PyData.eqv, eqvD]; exact eqvs_of n xs ys m h1 h
    | non => simp [pd, PyData.eqv, eqvD]
    | bl _ => simp [pd, PyData.eqv, eqvD]
    | int _ => simp [pd, PyData.eqv, eqvD]
    | str _ => simp [pd, PyData.eqv, eqvD]
    | lst _ _ => simp [pd, PyData.eqv, eqvD]
    | _ => cases h
  | n + 1, .lst o xs, b, m + 1, h1, h => by
    cases b with
    | lst o2 ys => simp only [pd, PyData.eqv, eqvD]; exact eqvs_of n xs ys m h1 h
    | non => simp [pd, PyData.eqv, eqvD]
    | bl _ => simp [pd, PyData.eqv, eqvD]
    | int _ => simp [pd, PyData.eqv, eqvD]
    | str _ => simp [pd, PyData.eqv, eqvD]
    | tup _ => simp [pd, PyData.eqv, eqvD]
    | _ => cases h
  | n + 1, .scr _, _, _, h, _ => by cases h
  | n + 1, .dk _ _, _, _, h, _ => by cases h
  | n + 1, .dt _ _, _, _, h, _ => by cases h
  | n + 1, .fn _, _, _, h, _ => by cases h
theorem eqvs_of : ∀ (n : Nat) (a b : List D) (m : Nat), eqOks n a = true → eqOks m b = true → PyData.eqvAll (pds a) (pds b) = eqvDs a b
  | n, [], [], m, _, _ => by simp [pds, PyData.eqvAll, eqvDs]
  | n, [], _ :: _, m, _, _ => by simp [pds, PyData.eqvAll, eqvDs]
  | n, _ :: _, [], m, _, _ => by simp [pds, PyData.eqvAll, eqvDs]
  | n, a :: as, b :: bs, m, h1, h2 => by
    have h3 : (eqOk n a && eqOks n as) = true := by
      cases n <;> exact h1
    have h4 : (eqOk m b && eqOks m bs) = true := by
      cases m <;> exact h2
    rw [Bool.and_eq_true] at h3 h4
    simp only [pds, PyData.eqvAll, eqvDs]
    rw [eqv_of n a b m h3.1 h4.1, eqvs_of n as bs m h3.2 h4.2]
end
theorem dp_ofB {G : GI} (s : Sb F H) {n : Nat} {d : D} (r : RB G F H x d) (h : eqOk n d = true) : Dp G.K H x (pd d) := by
  cases n with
  | zero => cases d <;> cases h
  | succ n =>
    cases r with
    | z r => exact dp_of s _ d r h
    | l e r => exact .lst (SqL.of e) (dps_of s n _ r h)
    | k _ _ _ => cases h
    | t _ _ _ => cases h
theorem hr_eq {G : GI} (s : Sb F H) (r1 : RB G F H x d1) (r2 : RB G F H y d2) (h : eqD d1 d2 = some d) (k : KR G F H d Q) : rEqD G.K x y H Q := by
  unfold eqD at h
  split at h
  · rename_i he
    injection h with h; subst h
    rw [Bool.and_eq_true] at he
    refine ⟨pd d1, pd d2, dp_ofB s r1 he.1, dp_ofB s r2 he.2, shaped_of he.1 (by decide), shaped_of he.2 (by decide), ?_⟩
    rw [eqv_of 60 d1 d2 60 he.1 he.2]
    exact k.z s (.bl _)
  · cases h
theorem hr_ne {G : GI} (s : Sb F H) (r1 : RB G F H x d1) (r2 : RB G F H y d2) (h : neD d1 d2 = some d) (k : KR G F H d Q) : rNeD G.K x y H Q := by
  unfold neD at h
  split at h
  · rename_i he
    injection h with h; subst h
    rw [Bool.and_eq_true] at he
    refine ⟨pd d1, pd d2, dp_ofB s r1 he.1, dp_ofB s r2 he.2, shaped_of he.1 (by decide), shaped_of he.2 (by decide), ?_⟩
    rw [eqv_of 60 d1 d2 60 he.1 he.2]
    exact k.z s (.bl _)
  · cases h
end
end EV

/-! EvE: items, membership, built-ins: each rule serves its plain reading. -/
namespace EV
open PySem PySem.Spec PyProof.Rows L2
section
variable {X : Cx} {g : GF} {F H : Hp} {x y : V} {d1 d2 d : D} {Q : VK}
theorem keyD_rep {G : GI} {k : Key} (r : RB G F H x d1) (h : keyD d1 = some k) : x = kV k := by
  cases d1 <;> first | (cases h; done) | skip
  · injection h with h; subst h; exact r.int_inv
  · injection h with h; subst h; exact r.str_inv
theorem keysD_rep {G : GI} : ∀ {ds : List D} {vs : List V} {ks : List Key}, ROs G F H [] vs ds → keysD ds = some ks → vs = ks.map kV
  | [], vs, ks, r, h => by
    obtain ⟨e, _⟩ := r.invN
    injection h with h; subst h; rw [e]; rfl
  | d :: ds, [], _, r, _ => nomatch r.length
  | d :: ds, v :: vs, ks, r, h => by
    obtain ⟨r1, r2⟩ := r.unconsZ
    have h2 : ((keyD d).bind fun k => (keysD ds).map (k :: ·)) = some ks := h
    cases q : keyD d with
    | none => rw [q] at h2; cases h2
    | some k =>
      rw [q] at h2
      cases q2 : keysD ds with
      | none => rw [q2] at h2; cases h2
      | some ms =>
        rw [q2] at h2
        injection h2 with h2; subst h2
        rw [keyD_rep (.z r1) q, keysD_rep r2 q2]; rfl
theorem getK_rep {κ : Type} [DecidableEq κ] {G : GI} : ∀ {kvs : List (κ × V)} {kds : List (κ × D)} (k : κ), kvs.map (·.1) = kds.map (·.1) → ROs G F H [] (kvs.map (·.2)) (kds.map (·.2)) →
    (valV kvs k = none ∧ getK kds k = none) ∨ ∃ v d, valV kvs k = some v ∧ getK kds k = some d ∧ RO G F H [] v d
  | [], [], k, _, _ => .inl ⟨rfl, rfl⟩
  | [], _ :: _, k, h, _ => by cases h
  | _ :: _, [], k, h, _ => by cases h
  | a :: kvs, b :: kds, k, h, r => by
    have h1 : a.1 = b.1 ∧ kvs.map (·.1) = kds.map (·.1) := by
      simpa using h
    obtain ⟨r1, r2⟩ := r.unconsZ
    by_cases e : b.1 = k
    · refine .inr ⟨a.2, b.2, valV_pos (h1.1.trans e), ?_, r1⟩
      unfold getK
      rw [List.find?_cons, decide_eq_true e]; rfl
    · rw [valV_neg (p := a) (fun z => e (h1.1.symm.trans z))]
      have e2 : getK (b :: kds) k = getK kds k := by
        unfold getK
        rw [List.find?_cons, decide_eq_false e]
      rw [e2]
      exact getK_rep k h1.2 r2
theorem getK_some {κ : Type} [DecidableEq κ] {G : GI} {kvs : List (κ × V)} {kds : List (κ × D)} {k : κ} (h : kvs.map (·.1) = kds.map (·.1)) (r : ROs G F H [] (kvs.map (·.2)) (kds.map (·.2))) : (valV kvs k).isSome = (getK kds k).isSome := by
  rcases getK_rep k h r with ⟨a, b⟩ | ⟨v, d, a, b, _⟩ <;> rw [a, b] <;> rfl
/-! ### in -/
theorem op_inDk (hu : X.A.units + 1 < cLine) : OpR X (compareOp .In) (fun x y H Q => ∃ a o, y = .ref a ∧ DGet H a x o ∧ Q (.bl o.isSome) H) := by
  intro pins s σ H x y v u Q I rx ry h
  obtain ⟨a, o, rfl, gd, q⟩ := h
  cases (show u = Value.ref a from ry)
  exact d_in hu I gd rx fun s' I' => ⟨.bl o.isSome, H, I', rfl, q⟩
theorem op_notinDk (hu : X.A.units + 1 < cLine) : OpR X (compareOp .NotIn) (fun x y H Q => ∃ a o, y = .ref a ∧ DGet H a x o ∧ Q (.bl (!o.isSome)) H) := by
  intro pins s σ H x y v u Q I rx ry h
  obtain ⟨a, o, rfl, gd, q⟩ := h
  cases (show u = Value.ref a from ry)
  exact d_notIn hu I gd rx fun s' I' => ⟨.bl (!o.isSome), H, I', rfl, q⟩
theorem any_eqv {n : Nat} (h1 : eqOk 60 d1 = true) : ∀ (ds : List D), eqOks n ds = true → (pds ds).any (fun z => PyData.eqv z (pd d1)) = ds.any fun z => eqvD z d1
  | [], _ => rfl
  | d :: ds, h => by
    have h2 : (eqOk n d && eqOks n ds) = true := by
      cases n <;> exact h
    rw [Bool.and_eq_true] at h2
    show (PyData.eqv (pd d) (pd d1) || (pds ds).any _) = (eqvD d d1 || ds.any _)
    rw [eqv_of n d d1 60 h2.1 h1, any_eqv h1 ds h2.2]
theorem flat_ints {G : GI} : ∀ {ds : List D} {vs : List V}, ROs G F H [] vs ds → (ds.all fun y => match y with | .int _ => true | _ => false) = true → vs.all flatV = true ∧ ∀ i, (vs.any fun y => eqV y (.int i)) = ds.any fun y => eqvD y (.int i)
  | [], vs, r, _ => by
    obtain ⟨e, _⟩ := r.invN
    subst e; exact ⟨rfl, fun _ => rfl⟩
  | d :: ds, [], r, _ => nomatch r.length
  | d :: ds, v :: vs, r, h => by
    obtain ⟨r1, r2⟩ := r.unconsZ
    cases d with
    | int j =>
      obtain ⟨h1, h2⟩ := flat_ints r2 (by simpa using h)
      rw [r1.int_inv]
      refine ⟨?_, fun i => ?_⟩
      · show (flatV (.int j) && vs.all flatV) = true
        rw [h1]; rfl
      · show (eqV (.int j) (.int i) || vs.any _) = (eqvD (.int j) (.int i) || ds.any _)
        rw [h2 i]
        congr 1
    | _ => simp at h
theorem hr_in {G : GI} {n : Bool} (s : Sb F H) (r1 : RB G F H x d1) (r2 : RB G F H y d2) (h : inD d1 d2 = some (.bl n)) :
    (∃ d ds, Dp G.K H x d ∧ Dp G.K H y (.list ds) ∧ SeqAt.shaped d = true ∧ SeqAt.shaped (.list ds) = true ∧ (ds.any fun z => PyData.eqv z d) = n) ∨
    ((∃ p xs, y = .ref p ∧ (SqL G.K H p xs ∨ SqT G.K H p xs) ∧ flatV x = true ∧ xs.all flatV = true ∧ inV x xs = n) ∨ ∃ a o, y = .ref a ∧ DGet H a x o ∧ o.isSome = n) := by
  cases d2 with
  | lst o ys =>
    have h : (if eqOk 60 d1 && eqOks 59 ys then some (D.bl (ys.any fun z => eqvD z d1)) else none) = some (.bl n) := by
      cases d1 <;> exact h
    split at h
    · rename_i he
      injection h with h
      injection h with h
      rw [Bool.and_eq_true] at he
      refine .inl ⟨pd d1, pds ys, dp_ofB s r1 he.1, ?_, shaped_of he.1 (by decide), shaped_of (n := 60) (d := .lst o ys) he.2 (by decide), (any_eqv he.1 ys he.2).trans h⟩
      exact dp_ofB (n := 60) (d := .lst o ys) s r2 he.2
    · cases h
  | dk o kds =>
    have h : ((keyD d1).map fun k => D.bl (getK kds k).isSome) = some (.bl n) := by
      cases d1 <;> exact h
    cases q : keyD d1 with
    | none => rw [q] at h; cases h
    | some k =>
      rw [q] at h
      injection h with h
      injection h with h
      obtain ⟨_, a, kvs, rfl, ha, hk, rk⟩ := r2.dk_inv s
      rw [keyD_rep r1 q]
      exact .inr (.inr ⟨a, _, rfl, DGet.k ha, by rw [getK_some hk rk]; exact h⟩)
  | dt o kds =>
    cases d1 with
    | tup ks =>
      have h : ((keysD ks).map fun k => D.bl (getK kds k).isSome) = some (.bl n) := h
      cases q : keysD ks with
      | none => rw [q] at h; cases h
      | some k =>
        rw [q] at h
        injection h with h
        injection h with h
        obtain ⟨_, a, kvs, rfl, ha, hk, rk⟩ := r2.dt_inv s
        obtain ⟨b, vs, rfl, hb, rb⟩ := r1.tup_inv
        rw [keysD_rep rb q] at hb
        exact .inr (.inr ⟨a, _, rfl, DGet.t ha (s _ _ hb), by rw [getK_some hk rk]; exact h⟩)
    | _ => cases h
  | tup ys =>
    cases d1 with
    | int i =>
      have h : (if ys.all (fun y => match y with | .int _ => true | _ => false) then some (D.bl (ys.any fun y => eqvD y (.int i))) else none) = some (.bl n) := h
      split at h
      · rename_i he
        injection h with h
        injection h with h
        obtain ⟨b, vs, rfl, hb, rb⟩ := r2.tup_inv
        obtain ⟨f1, f2⟩ := flat_ints rb he
        rw [r1.int_inv]
        exact .inr (.inl ⟨b, vs, rfl, .inr (SqT.of (s _ _ hb)), rfl, f1, (f2 i).trans h⟩)
      · cases h
    | _ => cases h
  | _ => cases d1 <;> cases h
/-! ### items -/
theorem ix_dict (hu : X.A.units + 1 < cLine) : IxR X (fun x y H Q => ∃ a v, x = .ref a ∧ DGet H a y (some v) ∧ Q v H) := by
  intro value slice pins s σ H x y v u Q I rx ry h hs
  obtain ⟨a, z, rfl, gd, q⟩ := h
  cases rx
  exact tail_any (dict_typeIs I gd) PySem.F.slot_dict_getitem.lookup (d_getItem hu I gd ry fun w' s3 I3 rw' => ⟨z, H, I3, rw', q⟩) hs
theorem ROs.at_ {G : GI} {vs : List V} {ds : List D} (r : ROs G F H [] vs ds) {i : Int} (h : atI ds i = some d) : ∃ u, atI vs i = some u ∧ RO G F H [] u d := by
  unfold atI at h ⊢
  rw [r.length]
  cases q : ixN ds.length i with
  | none => rw [q] at h; cases h
  | some j =>
    rw [q] at h
    exact r.get h
theorem atI_map {α β : Type} (f : α → β) (xs : List α) (i : Int) : atI (xs.map f) i = (atI xs i).map f := by
  unfold atI
  rw [List.length_map]
  cases ixN xs.length i with
  | none => rfl
  | some j => simp
theorem hr_ix {G : GI} (s : Sb F H) (r1 : RB G F H x d1) (r2 : RB G F H y d2) (h : ixD d1 d2 = some d) (k : KR G F H d Q) :
    rIxL G.K x y H Q ∨ (rIxT G.K x y H Q ∨ ∃ a v, x = .ref a ∧ DGet H a y (some v) ∧ Q v H) := by
  cases d1 with
  | tup xs =>
    cases d2 <;> first | (cases h; done) | skip
    rename_i i
    obtain ⟨a, vs, rfl, ha, ra⟩ := r1.tup_inv
    obtain ⟨u, hu, ru⟩ := ra.at_ (i := i) (d := d) h
    exact .inr (.inl ⟨a, vs, i, u, rfl, r2.int_inv, SqT.of (s _ _ ha), hu, k.z s ru⟩)
  | lst o xs =>
    cases d2 <;> first | (cases h; done) | skip
    rename_i i
    obtain ⟨_, a, vs, rfl, ha, ra⟩ := r1.lst_inv s
    obtain ⟨u, hu, ru⟩ := ra.at_ (i := i) (d := d) h
    exact .inl ⟨a, vs, i, u, rfl, r2.int_inv, SqL.of ha, hu, k.z s ru⟩
  | scr ns =>
    cases d2 <;> first | (cases h; done) | skip
    rename_i i
    obtain ⟨a, rfl, ha⟩ := r1.scr_inv
    have h : (atI ns i).map D.int = some d := h
    cases q : atI ns i with
    | none => rw [q] at h; cases h
    | some n =>
      rw [q] at h
      injection h with h; subst h
      exact .inl ⟨a, _, i, .int n, rfl, r2.int_inv, SqL.le ha s, by rw [atI_map, q]; rfl, k.z s (.int n)⟩
  | dk o kds =>
    have h : ((keyD d2).bind fun k => getK kds k) = some d := by
      cases d2 <;> exact h
    cases q : keyD d2 with
    | none => rw [q] at h; cases h
    | some key =>
      rw [q] at h
      have h : getK kds key = some d := h
      obtain ⟨_, a, kvs, rfl, ha, hk, rk⟩ := r1.dk_inv s
      rcases getK_rep key hk rk with ⟨_, z⟩ | ⟨u, e, z1, z2, ru⟩
      · rw [z] at h; cases h
      · rw [z2] at h
        injection h with h; subst h
        rw [keyD_rep r2 q]
        exact .inr (.inr ⟨a, u, rfl, by rw [← z1]; exact DGet.k ha, k.z s ru⟩)
  | dt o kds =>
    cases d2 <;> first | (cases h; done) | skip
    rename_i ks
    have h : ((keysD ks).bind fun k => getK kds k) = some d := h
    cases q : keysD ks with
    | none => rw [q] at h; cases h
    | some key =>
      rw [q] at h
      have h : getK kds key = some d := h
      obtain ⟨_, a, kvs, rfl, ha, hk, rk⟩ := r1.dt_inv s
      obtain ⟨b, vs, rfl, hb, rb⟩ := r2.tup_inv
      rw [keysD_rep rb q] at hb
      rcases getK_rep key hk rk with ⟨_, z⟩ | ⟨u, e, z1, z2, ru⟩
      · rw [z] at h; cases h
      · rw [z2] at h
        injection h with h; subst h
        exact .inr (.inr ⟨a, u, rfl, by rw [← z1]; exact DGet.t ha (s _ _ hb), k.z s ru⟩)
  | _ => cases d2 <;> cases h
/-! ### built-ins -/
theorem hr_len {G : GI} (s : Sb F H) (r1 : RB G F H x d1) (h : lenD d1 = some d) (k : KR G F H d Q) : ∃ n, LenV G.K x H n ∧ Q (.int n) H := by
  cases d1 <;> first | (cases h; done) | skip
  · injection h with h; subst h
    obtain ⟨a, vs, rfl, ha, ra⟩ := r1.tup_inv
    exact ⟨vs.length, .inr ⟨vs, SqT.of (s _ _ ha), rfl⟩, by rw [ra.length]; exact k.z s (.int _)⟩
  · injection h with h; subst h
    obtain ⟨_, a, vs, rfl, ha, ra⟩ := r1.lst_inv s
    exact ⟨vs.length, .inl ⟨vs, SqL.of ha, rfl⟩, by rw [ra.length]; exact k.z s (.int _)⟩
  · injection h with h; subst h
    obtain ⟨a, rfl, ha⟩ := r1.scr_inv
    exact ⟨_, .inl ⟨_, SqL.le ha s, rfl⟩, by rw [List.length_map]; exact k.z s (.int _)⟩
theorem hr_abs {G : GI} (s : Sb F H) (r1 : RB G F H x d1) (h : absD d1 = some d) (k : KR G F H d Q) : ∃ i, [x] = [.int i] ∧ Q (.int (if i < 0 then -i else i)) H := by
  cases d1 <;> first | (cases h; done) | skip
  injection h with h; subst h
  exact ⟨_, by rw [r1.int_inv], k.z s (.int _)⟩
theorem hr_int {G : GI} (s : Sb F H) (r1 : RB G F H x d1) (h : intD d1 = some d) (k : KR G F H d Q) : (∃ i, [x] = [V.int i] ∧ Q (.int i) H) ∨ ∃ k, [x] = [V.bl k] ∧ Q (.int (if k then 1 else 0)) H := by
  cases d1 <;> first | (cases h; done) | skip
  · injection h with h; subst h
    exact .inr ⟨_, by rw [r1.bl_inv], k.z s (.int _)⟩
  · injection h with h; subst h
    exact .inl ⟨_, by rw [r1.int_inv], k.z s (.int _)⟩
theorem hr_max2 {G : GI} (s : Sb F H) (r1 : RB G F H x d1) (r2 : RB G F H y d2) (h : max2D d1 d2 = some d) (k : KR G F H d Q) : ∃ i j, [x, y] = [V.int i, .int j] ∧ Q (.int (if j > i then j else i)) H := by
  cases d1 <;> first | (cases h; done) | skip
  cases d2 <;> first | (cases h; done) | skip
  injection h with h; subst h
  exact ⟨_, _, by rw [r1.int_inv, r2.int_inv], k.z s (.int _)⟩
theorem hr_min2 {G : GI} (s : Sb F H) (r1 : RB G F H x d1) (r2 : RB G F H y d2) (h : min2D d1 d2 = some d) (k : KR G F H d Q) : ∃ i j, [x, y] = [V.int i, .int j] ∧ Q (.int (if j < i then j else i)) H := by
  cases d1 <;> first | (cases h; done) | skip
  cases d2 <;> first | (cases h; done) | skip
  injection h with h; subst h
  exact ⟨_, _, by rw [r1.int_inv, r2.int_inv], k.z s (.int _)⟩
theorem hr_tuple {G : GI} (s : Sb F H) (r1 : RB G F H x d1) (h : tupleD d1 = some d) (k : KR G F H d Q) :
    ∃ p ys, [x] = [V.ref p] ∧ ((SqL G.K H p ys ∧ ∀ l, H l = none → Q (.ref l) (upd H l (.tup ys))) ∨ (SqT G.K H p ys ∧ Q (.ref p) H)) := by
  cases d1 <;> first | (cases h; done) | skip
  · injection h with h; subst h
    obtain ⟨a, vs, rfl, ha, ra⟩ := r1.tup_inv
    exact ⟨a, vs, rfl, .inr ⟨SqT.of (s _ _ ha), k.z s (.tup ha ra)⟩⟩
  · injection h with h; subst h
    obtain ⟨_, a, vs, rfl, ha, ra⟩ := r1.lst_inv s
    exact ⟨a, vs, rfl, .inl ⟨SqL.of ha, fun l hl => k.tup s ra hl⟩⟩
theorem ints_RO {G : GI} : ∀ ns : List Int, ROs G F H [] (ns.map V.int) (ns.map D.int)
  | [] => .nil
  | n :: ns => ROs.consZ (.int n) (ints_RO ns)
theorem hr_list {G : GI} (s : Sb F H) (r1 : RB G F H x d1) (h : listD d1 = some d) (k : KR G F H d Q) :
    ∃ p ys, [x] = [V.ref p] ∧ (SqL G.K H p ys ∨ SqT G.K H p ys) ∧ ∀ l, H l = none → Q (.ref l) (upd H l (.lst ys)) := by
  cases d1 <;> first | (cases h; done) | skip
  · injection h with h; subst h
    obtain ⟨a, vs, rfl, ha, ra⟩ := r1.tup_inv
    exact ⟨a, vs, rfl, .inr (SqT.of (s _ _ ha)), fun l hl => k.lst s ra hl⟩
  · injection h with h; subst h
    obtain ⟨_, a, vs, rfl, ha, ra⟩ := r1.lst_inv s
    exact ⟨a, vs, rfl, .inl (SqL.of ha), fun l hl => k.lst s ra hl⟩
  · injection h with h; subst h
    obtain ⟨a, rfl, ha⟩ := r1.scr_inv
    exact ⟨a, _, rfl, .inl (SqL.le ha s), fun l hl => k.lst s (ints_RO _) hl⟩
theorem hr_sum {G : GI} (s : Sb F H) (r1 : RB G F H x d1) (h : sumD d1 = some d) (k : KR G F H d Q) : rSum G.K [x] H Q := by
  cases d1 <;> first | (cases h; done) | skip
  rename_i o xs
  have h : ((intsD xs).map fun ns => D.int ns.sum) = some d := h
  cases q : intsD xs with
  | none => rw [q] at h; cases h
  | some ns =>
    rw [q] at h
    injection h with h; subst h
    obtain ⟨_, a, vs, rfl, ha, ra⟩ := r1.lst_inv s
    rw [ints_rep ra q] at ha
    exact ⟨a, ns, rfl, SqL.of ha, k.z s (.int _)⟩
theorem maxL_ok : ∀ ns : List Int, 0 < ns.length → maxL ns ∈ ns ∧ ∀ y, y ∈ ns → y ≤ maxL ns
  | [], h => nomatch h
  | [a], _ => ⟨by simp [maxL], fun y hy => by simp at hy; subst hy; exact Int.le_refl _⟩
  | a :: b :: r, _ => by
    obtain ⟨h1, h2⟩ := maxL_ok (b :: r) (by simp)
    unfold maxL
    split
    · rename_i hl
      refine ⟨List.mem_cons_self .., fun y hy => ?_⟩
      rcases List.mem_cons.mp hy with e | hy
      · omega
      · have := h2 y hy; omega
    · refine ⟨List.mem_cons_of_mem _ h1, fun y hy => ?_⟩
      rcases List.mem_cons.mp hy with e | hy
      · omega
      · exact h2 y hy
theorem minL_ok : ∀ ns : List Int, 0 < ns.length → minL ns ∈ ns ∧ ∀ y, y ∈ ns → minL ns ≤ y
  | [], h => nomatch h
  | [a], _ => ⟨by simp [minL], fun y hy => by simp at hy; subst hy; exact Int.le_refl _⟩
  | a :: b :: r, _ => by
    obtain ⟨h1, h2⟩ := minL_ok (b :: r) (by simp)
    unfold minL
    split
    · rename_i hl
      refine ⟨List.mem_cons_self .., fun y hy => ?_⟩
      rcases List.mem_cons.mp hy with e | hy
      · omega
      · have := h2 y hy; omega
    · refine ⟨List.mem_cons_of_mem _ h1, fun y hy => ?_⟩
      rcases List.mem_cons.mp hy with e | hy
      · omega
      · exact h2 y hy
theorem hr_max1 {G : GI} (s : Sb F H) (r1 : RB G F H x d1) (h : max1D d1 = some d) (k : KR G F H d Q) : rMax G.K [x] H Q := by
  cases d1 <;> first | (cases h; done) | skip
  rename_i o xs
  have h : ((intsD xs).bind fun ns => if 0 < ns.length then some (D.int (maxL ns)) else none) = some d := h
  cases q : intsD xs with
  | none => rw [q] at h; cases h
  | some ns =>
    rw [q] at h
    have h : (if 0 < ns.length then some (D.int (maxL ns)) else none) = some d := h
    split at h
    · rename_i hl
      injection h with h; subst h
      obtain ⟨_, a, vs, rfl, ha, ra⟩ := r1.lst_inv s
      rw [ints_rep ra q] at ha
      refine ⟨a, ns, rfl, SqL.of ha, hl, fun m h1 h2 => ?_⟩
      obtain ⟨h3, h4⟩ := maxL_ok ns hl
      rw [show m = maxL ns from Int.le_antisymm (h4 m h1) (h2 _ h3)]
      exact k.z s (.int _)
    · cases h
theorem hr_min1 {G : GI} (s : Sb F H) (r1 : RB G F H x d1) (h : min1D d1 = some d) (k : KR G F H d Q) : rMin G.K [x] H Q := by
  cases d1 <;> first | (cases h; done) | skip
  rename_i o xs
  have h : ((intsD xs).bind fun ns => if 0 < ns.length then some (D.int (minL ns)) else none) = some d := h
  cases q : intsD xs with
  | none => rw [q] at h; cases h
  | some ns =>
    rw [q] at h
    have h : (if 0 < ns.length then some (D.int (minL ns)) else none) = some d := h
    split at h
    · rename_i hl
      injection h with h; subst h
      obtain ⟨_, a, vs, rfl, ha, ra⟩ := r1.lst_inv s
      rw [ints_rep ra q] at ha
      refine ⟨a, ns, rfl, SqL.of ha, hl, fun m h1 h2 => ?_⟩
      obtain ⟨h3, h4⟩ := minL_ok ns hl
      rw [show m = minL ns from Int.le_antisymm (h2 _ h3) (h4 m h1)]
      exact k.z s (.int _)
    · cases h
theorem hr_all {G : GI} (s : Sb F H) (r1 : RB G F H x d1) (h : allD d1 = some d) (k : KR G F H d Q) : rAll G.K [x] H Q := by
  cases d1 <;> first | (cases h; done) | skip
  rename_i o xs
  have h : ((blsD xs).map fun ns => D.bl (ns.all id)) = some d := h
  cases q : blsD xs with
  | none => rw [q] at h; cases h
  | some ns =>
    rw [q] at h
    injection h with h; subst h
    obtain ⟨_, a, vs, rfl, ha, ra⟩ := r1.lst_inv s
    rw [bls_rep ra q] at ha
    exact ⟨a, ns, rfl, SqL.of ha, k.z s (.bl _)⟩
theorem hr_any {G : GI} (s : Sb F H) (r1 : RB G F H x d1) (h : anyD d1 = some d) (k : KR G F H d Q) : rAny G.K [x] H Q := by
  cases d1 <;> first | (cases h; done) | skip
  rename_i o xs
  have h : ((blsD xs).map fun ns => D.bl (ns.any id)) = some d := h
  cases q : blsD xs with
  | none => rw [q] at h; cases h
  | some ns =>
    rw [q] at h
    injection h with h; subst h
    obtain ⟨_, a, vs, rfl, ha, ra⟩ := r1.lst_inv s
    rw [bls_rep ra q] at ha
    exact ⟨a, ns, rfl, SqL.of ha, k.z s (.bl _)⟩
def Ty.nm : Ty → String
  | .int => "int"
  | .bool => "bool"
  | .tuple => "tuple"
  | .list => "list"
  | .str => "str"
theorem kit_ty {K : PySem.W.Frag} (t : String) (T : Ty) : PySem.W.kitOne K (.type t) (.type T.nm) = PySem.W.kitOne [] (.type t) (.type T.nm) := rfl
theorem hr_isi {G : GI} {T : Ty} {b : Bool} (s : Sb F H) (r1 : RB G F H x d1) (h : isiD T d1 = some b) (q : Q (.bl b) H) : rIsi G.K [x, .ty T.nm] H Q := by
  refine ⟨x, .ty T.nm, ?_⟩
  cases d1 with
  | non => exact ⟨.type "NoneType", .type T.nm, b, rfl, .ty _, .base (by rw [r1.non_inv]; exact .non), by rw [kit_ty]; cases T <;> (injection h with h; subst h; decide +kernel), q⟩
  | bl c => exact ⟨.type "bool", .type T.nm, b, rfl, .ty _, .base (by rw [r1.bl_inv]; exact .bl _), by rw [kit_ty]; cases T <;> (injection h with h; subst h; decide +kernel), q⟩
  | int c => exact ⟨.type "int", .type T.nm, b, rfl, .ty _, .base (by rw [r1.int_inv]; exact .int _), by rw [kit_ty]; cases T <;> (injection h with h; subst h; decide +kernel), q⟩
  | str c => exact ⟨.type "str", .type T.nm, b, rfl, .ty _, .base (by rw [r1.str_inv]; exact .str _), by rw [kit_ty]; cases T <;> (injection h with h; subst h; decide +kernel), q⟩
  | tup xs =>
    obtain ⟨a, vs, rfl, ha, _⟩ := r1.tup_inv
    exact ⟨.type "tuple", .type T.nm, b, rfl, .ty _, .base (.tup (s _ _ ha)), by rw [kit_ty]; cases T <;> (injection h with h; subst h; decide +kernel), q⟩
  | lst o xs =>
    obtain ⟨_, a, vs, rfl, ha, _⟩ := r1.lst_inv s
    exact ⟨.type "list", .type T.nm, b, rfl, .ty _, .base (.lst ha), by rw [kit_ty]; cases T <;> (injection h with h; subst h; decide +kernel), q⟩
  | _ => cases T <;> cases h
theorem isE {α β : Type} : ∀ {xs : List α} {ys : List β}, xs.length = ys.length → (!ys.isEmpty) = !xs.isEmpty
  | [], [], _ => rfl
  | [], _ :: _, h => nomatch h
  | _ :: _, [], h => nomatch h
  | _ :: _, _ :: _, _ => rfl
theorem hr_tru {G : GI} {b : Bool} (s : Sb F H) (r1 : RB G F H x d1) (h : truD d1 = some b) : TruV G.K x H b := by
  cases d1 <;> first | (cases h; done) | skip
  · injection h with h; subst h; rw [r1.non_inv]; rfl
  · injection h with h; subst h; rw [r1.bl_inv]; rfl
  · injection h with h; subst h; rw [r1.int_inv]; rfl
  · injection h with h; subst h
    obtain ⟨a, vs, rfl, ha, ra⟩ := r1.tup_inv
    exact .inr (.inl ⟨vs, SqT.of (s _ _ ha), isE ra.length⟩)
  · injection h with h; subst h
    obtain ⟨_, a, vs, rfl, ha, ra⟩ := r1.lst_inv s
    exact .inl ⟨vs, SqL.of ha, isE ra.length⟩
end
end EV

/-! EvF: expressions of the text have plain readings. -/
namespace EV
open PySem PySem.Spec PyProof.Rows L2

/-- what is known of where one stands -/
structure Cn (X : Cx) (N : List Str) (sc : Scope) (fr : List Str) : Prop where
  hN : X.N = N
  nd : N.Nodup
  hsc : X.env.scope = sc
  calm : X.calm = true
  hu : X.A.units + 200 < cLine
  hfr : ∀ x, x ∈ fr → X.mg x = none
def visB (sc : Scope) (x : Str) : Bool := match sc.names.lookup x with
  | some .local => true
  | some .cell => true
  | some .free => true
  | _ => false
def glB (sc : Scope) (x : Str) : Bool := match sc.names.lookup x with
  | some .globalImplicit => true
  | _ => false
theorem visB_ok {sc : Scope} {x : Str} (h : visB sc x = true) : Vis sc x := by
  unfold visB at h
  split at h
  · rename_i q; exact .inl q
  · rename_i q; exact .inr (.inl q)
  · rename_i q; exact .inr (.inr q)
  · cases h
theorem glB_ok {sc : Scope} {x : Str} (h : glB sc x = true) : sc.names.lookup x = some .globalImplicit := by
  unfold glB at h
  split at h
  · rename_i q; exact q
  · cases h
/-- a local name at its slot -/
def varB (N : List Str) (sc : Scope) (i : Nat) (x : Str) : Bool := decide (N[i]? = some x) && (visB sc x && (!(x == ("__debug__" : Str)) && !(x == ("__classdict__" : Str))))
section
variable {X : Cx} {N : List Str} {sc : Scope} {fr : List Str} {g : GF} {W : WX} {a b c : Expr} {pos p2 p3 : Pos} {oa ob : Op} {ma mb : ME}
theorem Cn.hu1 (C : Cn X N sc fr) : X.A.units + 1 < cLine := by have := C.hu; omega
theorem Cn.hu0 (C : Cn X N sc fr) : X.A.units < cLine := by have := C.hu; omega
theorem Cn.hu64 (C : Cn X N sc fr) : X.A.units + 64 < cLine := by have := C.hu; omega
theorem Cn.hu65 (C : Cn X N sc fr) : X.A.units + 65 < cLine := by have := C.hu; omega
theorem pv_ok (C : Cn X N sc fr) {i : Nat} {x : Str} (h : varB N sc i x = true) : PE X (.Name x pos) (tVar i) := by
  unfold varB at h
  rw [Bool.and_eq_true, Bool.and_eq_true, Bool.and_eq_true, decide_eq_true_eq] at h
  obtain ⟨h1, h2, h3, h4⟩ := h
  exact pe_var (by rw [C.hN]; exact h1) (by rw [C.hsc]; exact visB_ok h2) (by simpa using h3) (by simpa using h4)
theorem gl_ok (C : Cn X N sc fr) {x : Str} (h : glB sc x = true) : Gl X x := by
  show X.env.scope.names.lookup x = _
  rw [C.hsc]; exact glB_ok h
abbrev SOp (X : Cx) (g : GF) (W : WX) (e : Expr) (o : Op) : Prop := PE X e (RdO (gOf X g) W o)
theorem SOp.v (C : Cn X N sc fr) {i : Nat} {x : Str} (h : varB N sc i x = true) : SOp X g W (.Name x pos) (.v i) := pv_ok C h
theorem SOp.e (h : SE X g W a ma) : SOp X g W a (.e ma) := h.z
/-! ### constants, names -/
def mC (d : D) : ME := fun e => .ok d e
theorem Tr.nil {F H F' H' : Hp} {O O' : Addr → Prop} (t : Tr F H O F' H' O') : Tr F H O F' H' (fun a => O' a ∨ a ∈ ([] : List Addr)) := t.drop fun _ z => z.elim id fun z => nomatch z
theorem RdE.const {G : GI} {W : WX} {d : D} {v : V} (r : ∀ F H, RO G F H [] v d) {σ : L2.St} {H : Hp} {Q : VK} (h : RdE G W (mC d) σ H Q) : Q v H := by
  obtain ⟨F, fp, e, s, h⟩ := h
  exact h v F H fp [] s (TO.z (r F H)) Tr.refl.nil
theorem se_int {i : Int} {j : Nat} : SE X g W (.Constant (.int i) j pos) (mC (.int i)) := PE.imp pe_int fun _ _ _ h => RdE.const (fun _ _ => .int i) h
theorem se_bl {i : Bool} {j : Nat} : SE X g W (.Constant (.bool i) j pos) (mC (.bl i)) := PE.imp pe_bl fun _ _ _ h => RdE.const (fun _ _ => .bl i) h
theorem se_non {j : Nat} : SE X g W (.Constant .none j pos) (mC .non) := PE.imp pe_non fun _ _ _ h => RdE.const (fun _ _ => .non) h
theorem se_str {i : Str} {j : Nat} : SE X g W (.Constant (.str i) j pos) (mC (.str i)) := PE.imp pe_str fun _ _ _ h => RdE.const (fun _ _ => .str i) h
/-- a name's value: shared from now on if it is not yet -/
def mV (i : Nat) : ME := fun e => match e[i]? with
  | some (some d) => if fz d = true then .ok d e else .ok (frz d) (e.set i (some (frz d)))
  | _ => .no
/-- a name's value handed on: the name is forgotten -/
def mMv (i : Nat) : ME := fun e => match e[i]? with
  | some (some d) => .ok d (e.set i none)
  | _ => .no
theorem se_v (C : Cn X N sc fr) {i : Nat} {x : Str} (h : varB N sc i x = true) : SE X g W (.Name x pos) (mV i) := PE.imp (pv_ok C h) fun σ H Q h => by
  obtain ⟨F, fp, e, s, h⟩ := RdE.iff.mp h
  unfold mV at h
  cases q : e[i]? with
  | none => rw [q] at h; exact h.elim
  | some o =>
    cases o with
    | none => rw [q] at h; exact h.elim
    | some d =>
      rw [q] at h
      obtain ⟨v, hv, r⟩ := s.rep i d q
      refine ⟨v, hv, ?_⟩
      simp only at h
      split at h
      · rename_i hf
        rw [r.nil_of_fz hf] at r
        exact h v F H fp [] s (TO.z r) Tr.refl.nil
      · have s2 := s.shareAt q
        exact h v _ H _ [] s2 (TO.z (r.frz (addF_le (s.sep i)) fun a z o => addF_at a z o)) (Tr.shareAt (s.sep i)).nil
theorem se_mv (C : Cn X N sc fr) {i : Nat} {x : Str} (h : varB N sc i x = true) : SE X g W (.Name x pos) (mMv i) := PE.imp (pv_ok C h) fun σ H Q h => by
  obtain ⟨F, fp, e, s, h⟩ := RdE.iff.mp h
  unfold mMv at h
  cases q : e[i]? with
  | none => rw [q] at h; exact h.elim
  | some o =>
    cases o with
    | none => rw [q] at h; exact h.elim
    | some d =>
      rw [q] at h
      obtain ⟨v, hv, t⟩ := s.take q
      exact ⟨v, hv, h v F H _ _ s.forget t (Tr.refl.drop own_take)⟩
/-! ### operators -/
theorem se_add (ha : SOp X g W a oa) (hb : SOp X g W b ob) : SE X g W (.BinOp a .Add b pos) (mOp2 addD oa ob) := PE.imp (pe_op (op_add.or (op_cat.or op_catA)) ha hb) fun _ _ _ h => rd_op2 (fun _ _ _ _ _ _ _ _ s r1 r2 h k => hr_add s r1 r2 h k) h
theorem se_sub (ha : SOp X g W a oa) (hb : SOp X g W b ob) : SE X g W (.BinOp a .Sub b pos) (mOp2 subD oa ob) := PE.imp (pe_op op_sub ha hb) fun _ _ _ h => rd_op2 (fun _ _ _ _ _ _ _ _ s r1 r2 h k => hr_sub s r1 r2 h k) h
theorem se_mul (ha : SOp X g W a oa) (hb : SOp X g W b ob) : SE X g W (.BinOp a .Mult b pos) (mOp2 mulD oa ob) := PE.imp (pe_op (op_mul.or (op_mulW.or op_rep)) ha hb) fun _ _ _ h => rd_op2 (fun _ _ _ _ _ _ _ _ s r1 r2 h k => hr_mul s r1 r2 h k) h
theorem se_fdiv (ha : SOp X g W a oa) (hb : SOp X g W b ob) : SE X g W (.BinOp a .FloorDiv b pos) (mOp2 fdivD oa ob) := PE.imp (pe_op op_fdivA ha hb) fun _ _ _ h => rd_op2 (fun _ _ _ _ _ _ _ _ s r1 r2 h k => hr_fdiv s r1 r2 h k) h
theorem se_mod (ha : SOp X g W a oa) (hb : SOp X g W b ob) : SE X g W (.BinOp a .Mod b pos) (mOp2 modD oa ob) := PE.imp (pe_op op_modN ha hb) fun _ _ _ h => rd_op2 (fun _ _ _ _ _ _ _ _ s r1 r2 h k => hr_mod s r1 r2 h k) h
theorem se_pow (ha : SOp X g W a oa) (hb : SOp X g W b ob) : SE X g W (.BinOp a .Pow b pos) (mOp2 powD oa ob) := PE.imp (pe_op op_pow ha hb) fun _ _ _ h => rd_op2 (fun _ _ _ _ _ _ _ _ s r1 r2 h k => hr_pow s r1 r2 h k) h
theorem se_neg (ha : SOp X g W a oa) : SE X g W (.UnaryOp .USub a pos) (mOp1 negD oa) := PE.imp (pe_un un_neg ha) fun _ _ _ h => rd_op1 (r := fun x H Q => rU (fun i => .int (-i)) x H Q) (fun _ _ _ _ _ _ s r1 h k => hr_neg s r1 h k) h
theorem se_lt (ha : SOp X g W a oa) (hb : SOp X g W b ob) : SE X g W (.Compare a [.Lt] [b] pos) (mOp2 (cmpD fun i j => decide (i < j)) oa ob) := PE.imp (pe_cmpR op_lt ha hb (nomark _)) fun _ _ _ h => rd_op2 (fun _ _ _ _ _ _ _ _ s r1 r2 h k => hr_cmp s r1 r2 h k) h
theorem se_le (ha : SOp X g W a oa) (hb : SOp X g W b ob) : SE X g W (.Compare a [.LtE] [b] pos) (mOp2 (cmpD fun i j => decide (i ≤ j)) oa ob) := PE.imp (pe_cmpR op_le ha hb (nomark _)) fun _ _ _ h => rd_op2 (fun _ _ _ _ _ _ _ _ s r1 r2 h k => hr_cmp s r1 r2 h k) h
theorem se_gt (ha : SOp X g W a oa) (hb : SOp X g W b ob) : SE X g W (.Compare a [.Gt] [b] pos) (mOp2 (cmpD fun i j => decide (j < i)) oa ob) := PE.imp (pe_cmpR op_gt ha hb (nomark _)) fun _ _ _ h => rd_op2 (fun _ _ _ _ _ _ _ _ s r1 r2 h k => hr_cmp s r1 r2 h k) h
theorem se_ge (ha : SOp X g W a oa) (hb : SOp X g W b ob) : SE X g W (.Compare a [.GtE] [b] pos) (mOp2 (cmpD fun i j => decide (j ≤ i)) oa ob) := PE.imp (pe_cmpR op_ge ha hb (nomark _)) fun _ _ _ h => rd_op2 (fun _ _ _ _ _ _ _ _ s r1 r2 h k => hr_cmp s r1 r2 h k) h
theorem se_eq (C : Cn X N sc fr) (ha : SOp X g W a oa) (hb : SOp X g W b ob) : SE X g W (.Compare a [.Eq] [b] pos) (mOp2 eqD oa ob) := PE.imp (pe_cmpR (op_eqD C.hu64) ha hb (nomark _)) fun _ _ _ h => rd_op2 (fun _ _ _ _ _ _ _ _ s r1 r2 h k => hr_eq s r1 r2 h k) h
theorem se_ne (C : Cn X N sc fr) (ha : SOp X g W a oa) (hb : SOp X g W b ob) : SE X g W (.Compare a [.NotEq] [b] pos) (mOp2 neD oa ob) := PE.imp (pe_cmpR (op_neD C.hu64) ha hb (nomark _)) fun _ _ _ h => rd_op2 (fun _ _ _ _ _ _ _ _ s r1 r2 h k => hr_ne s r1 r2 h k) h
theorem se_isN (ha : SOp X g W a oa) {j : Nat} : SE X g W (.Compare a [.Is] [.Constant .none j p2] pos) (mOp1 (fun d => some (.bl (isN d))) oa) := PE.imp (pe_cmp (pc_isN ha) rfl) fun _ _ _ h => rd_op1 (r := fun x H Q => Q (.bl (decide (x = .non))) H) (fun _ _ _ _ _ _ s r1 h k => hr_isN s r1 h k) h
theorem se_notN (ha : SOp X g W a oa) {j : Nat} : SE X g W (.Compare a [.IsNot] [.Constant .none j p2] pos) (mOp1 (fun d => some (.bl (!isN d))) oa) := PE.imp (pe_cmp (pc_notN ha) rfl) fun _ _ _ h => rd_op1 (r := fun x H Q => Q (.bl (!decide (x = .non))) H) (fun _ _ _ _ _ _ s r1 h k => hr_notN s r1 h k) h
theorem se_isB {k : Bool} (ha : SOp X g W a oa) {j : Nat} : SE X g W (.Compare a [.Is] [.Constant (.bool k) j p2] pos) (mOp1 (fun d => some (.bl (isB k d))) oa) := PE.imp (pe_cmpR (op_isC (b := k)) ha pe_bl (nomark _)) fun _ _ _ h =>
  rd_op1 (r := fun x H Q => V.bl k = V.bl k ∧ Q (.bl (decide (x = .bl k))) H) (fun _ _ _ _ _ _ s r1 h kk => ⟨rfl, by injection h with h; subst h; rw [isB_rep r1]; exact kk.z s (.bl _)⟩) h
theorem se_notB {k : Bool} (ha : SOp X g W a oa) {j : Nat} : SE X g W (.Compare a [.IsNot] [.Constant (.bool k) j p2] pos) (mOp1 (fun d => some (.bl (!isB k d))) oa) := PE.imp (pe_cmpR (op_isnotC (b := k)) ha pe_bl (nomark _)) fun _ _ _ h =>
  rd_op1 (r := fun x H Q => V.bl k = V.bl k ∧ Q (.bl (!decide (x = .bl k))) H) (fun _ _ _ _ _ _ s r1 h kk => ⟨rfl, by injection h with h; subst h; rw [isB_rep r1]; exact kk.z s (.bl _)⟩) h
def inB : D → D → Option D := fun a b => match inD a b with
  | some (.bl n) => some (.bl n)
  | _ => none
def notinB : D → D → Option D := fun a b => match inD a b with
  | some (.bl n) => some (.bl (!n))
  | _ => none
theorem inB_some {d1 d2 d : D} (h : inB d1 d2 = some d) : ∃ n, inD d1 d2 = some (.bl n) ∧ d = .bl n := by
  unfold inB at h
  split at h
  · rename_i n q; injection h with h; exact ⟨n, q, h.symm⟩
  · cases h
theorem notinB_some {d1 d2 d : D} (h : notinB d1 d2 = some d) : ∃ n, inD d1 d2 = some (.bl n) ∧ d = .bl (!n) := by
  unfold notinB at h
  split at h
  · rename_i n q; injection h with h; exact ⟨n, q, h.symm⟩
  · cases h
theorem se_in (C : Cn X N sc fr) (ha : SOp X g W a oa) (hb : SOp X g W b ob) (hm : behindInMarks .In b = false) : SE X g W (.Compare a [.In] [b] pos) (mOp2 inB oa ob) :=
  PE.imp (pe_cmpR ((op_inD C.hu65).or (op_in_seq.or (op_inDk C.hu1))) ha hb hm) fun _ _ _ h => rd_op2 (r := fun x y H Q => rInD X.K x y H Q ∨ rIn X.K false x y H Q ∨ ∃ a o, y = V.ref a ∧ DGet H a x o ∧ Q (V.bl o.isSome) H) (fun _ _ _ _ _ _ _ _ s r1 r2 h k => by
    obtain ⟨n, q, rfl⟩ := inB_some h
    have z := k.z s (.bl n)
    rcases hr_in s r1 r2 q with ⟨d, ds, h1, h2, h3, h4, h5⟩ | ⟨p, xs, h1, h2, h3, h4, h5⟩ | ⟨a, o, h1, h2, h3⟩
    · exact .inl ⟨d, ds, h1, h2, h3, h4, by rw [h5]; exact z⟩
    · exact .inr (.inl ⟨p, xs, h1, h2, h3, h4, by first | (rw [if_neg Bool.false_ne_true, h5]; exact z) | (rw [if_pos rfl, h5]; exact z)⟩)
    · exact .inr (.inr ⟨a, o, h1, h2, by rw [h3]; exact z⟩)) h
theorem se_notin (C : Cn X N sc fr) (ha : SOp X g W a oa) (hb : SOp X g W b ob) (hm : behindInMarks .NotIn b = false) : SE X g W (.Compare a [.NotIn] [b] pos) (mOp2 notinB oa ob) :=
  PE.imp (pe_cmpR ((op_notInD C.hu65).or (op_notIn_seq.or (op_notinDk C.hu1))) ha hb hm) fun _ _ _ h => rd_op2 (r := fun x y H Q => rNotInD X.K x y H Q ∨ rIn X.K true x y H Q ∨ ∃ a o, y = V.ref a ∧ DGet H a x o ∧ Q (V.bl !o.isSome) H) (fun _ _ _ _ _ _ _ _ s r1 r2 h k => by
    obtain ⟨n, q, rfl⟩ := notinB_some h
    have z := k.z s (.bl !n)
    rcases hr_in s r1 r2 q with ⟨d, ds, h1, h2, h3, h4, h5⟩ | ⟨p, xs, h1, h2, h3, h4, h5⟩ | ⟨a, o, h1, h2, h3⟩
    · exact .inl ⟨d, ds, h1, h2, h3, h4, by rw [h5]; exact z⟩
    · exact .inr (.inl ⟨p, xs, h1, h2, h3, h4, by first | (rw [if_neg Bool.false_ne_true, h5]; exact z) | (rw [if_pos rfl, h5]; exact z)⟩)
    · exact .inr (.inr ⟨a, o, h1, h2, by rw [h3]; exact z⟩)) h
theorem se_ix (C : Cn X N sc fr) (ha : SOp X g W a oa) (hb : SOp X g W b ob) (hs : PlainIx b) : SE X g W (.Subscript a b pos) (mOp2 ixD oa ob) :=
  PE.imp (pe_ix (ix_list.or (ix_tup.or (ix_dict C.hu1))) ha hb hs) fun _ _ _ h => rd_op2 (fun _ _ _ _ _ _ _ _ s r1 r2 h k => hr_ix s r1 r2 h k) h
/-! ### built-ins of one argument, of two -/
theorem se_b1 {id : String} {nm : Str} {r : List V → Hp → VK → Prop} {f : D → Option D} (C : Cn X N sc fr) (hc : CallR X (.builtin id) r) (hv : bootBuiltins nm = some (.builtin id)) (hn : nm ≠ "__name__") (hdb : (nm == ("__debug__" : Str)) = false)
    (hr : ∀ F H x d1 d Q, Sb F H → RB (gOf X g) F H x d1 → f d1 = some d → KR (gOf X g) F H d Q → r [x] H Q)
    (h1 : nm ∈ fr) (h2 : glB sc nm = true) (ha : SOp X g W a oa) (hs : starEach [a] X.env = (false, eval a X.env) :: starEach [] X.env) : SE X g W (.Call (.Name nm p2) [a] [] pos) (mOp1 f oa) :=
  PE.imp (pe_callB hc (gl_ok C h2) (C.hfr _ h1) hv (pa_cons ha pa_nil hs) hn hdb hs) fun _ _ _ h => rd_op1 (r := fun x H Q => r [x] H Q) (fun F H x d1 d Q s r1 h k => hr F H x d1 d Q s r1 h k) h
theorem se_t1 {id : String} {nm : Str} {r : List V → Hp → VK → Prop} {f : D → Option D} (C : Cn X N sc fr) (hc : CallR X (.type id) r) (hv : bootBuiltins nm = some (.type id)) (hn : nm ≠ "__name__") (hdb : (nm == ("__debug__" : Str)) = false)
    (hr : ∀ F H x d1 d Q, Sb F H → RB (gOf X g) F H x d1 → f d1 = some d → KR (gOf X g) F H d Q → r [x] H Q)
    (h1 : nm ∈ fr) (h2 : glB sc nm = true) (ha : SOp X g W a oa) (hs : starEach [a] X.env = (false, eval a X.env) :: starEach [] X.env) : SE X g W (.Call (.Name nm p2) [a] [] pos) (mOp1 f oa) :=
  PE.imp (pe_callTy hc (gl_ok C h2) (C.hfr _ h1) hv (pa_cons ha pa_nil hs) hn hdb hs) fun _ _ _ h => rd_op1 (r := fun x H Q => r [x] H Q) (fun F H x d1 d Q s r1 h k => hr F H x d1 d Q s r1 h k) h
theorem se_b2 {id : String} {nm : Str} {r : List V → Hp → VK → Prop} {f : D → D → Option D} (C : Cn X N sc fr) (hc : CallR X (.builtin id) r) (hv : bootBuiltins nm = some (.builtin id)) (hn : nm ≠ "__name__") (hdb : (nm == ("__debug__" : Str)) = false)
    (hr : ∀ F H x y d1 d2 d Q, Sb F H → RB (gOf X g) F H x d1 → RB (gOf X g) F H y d2 → f d1 d2 = some d → KR (gOf X g) F H d Q → r [x, y] H Q)
    (h1 : nm ∈ fr) (h2 : glB sc nm = true) (ha : SOp X g W a oa) (hb : SOp X g W b ob) (hs : starEach [a, b] X.env = (false, eval a X.env) :: starEach [b] X.env) (hs2 : starEach [b] X.env = (false, eval b X.env) :: starEach [] X.env) (hpl : (backTo pos (starEach [b] X.env)).any (·.1) = false) :
    SE X g W (.Call (.Name nm p2) [a, b] [] pos) (mOp2 f oa ob) :=
  PE.imp (pe_callB hc (gl_ok C h2) (C.hfr _ h1) hv (pa_cons ha (pa_cons hb pa_nil hs2) hs) hn hdb hs hpl) fun _ _ _ h => rd_op2 (r := fun x y H Q => r [x, y] H Q) (fun F H x y d1 d2 d Q s r1 r2 h k => hr F H x y d1 d2 d Q s r1 r2 h k) h
/-- isinstance(x, T) -/
theorem se_isi {T : Ty} (C : Cn X N sc fr) (h1 : ("isinstance" : Str) ∈ fr) (h2 : glB sc "isinstance" = true) (hT : ((Str.ofString T.nm) : Str) ∈ fr) (hT2 : glB sc (Str.ofString T.nm) = true) (ha : SOp X g W a oa)
    (hs : starEach [a, .Name (Str.ofString T.nm) p3] X.env = (false, eval a X.env) :: starEach [.Name (Str.ofString T.nm) p3] X.env) :
    SE X g W (.Call (.Name "isinstance" p2) [a, .Name (Str.ofString T.nm) p3] [] pos) (mOp1 (fun d => (isiD T d).map .bl) oa) := by
  have ht : PE X (.Name (Str.ofString T.nm) p3) (tC (.ty T.nm)) := by
    cases T
    · exact pe_bltn (gl_ok C hT2) (C.hfr _ hT) (u := .type "int") (by decide +kernel) rfl (by decide) (by decide)
    · exact pe_bltn (gl_ok C hT2) (C.hfr _ hT) (u := .type "bool") (by decide +kernel) rfl (by decide) (by decide)
    · exact pe_bltn (gl_ok C hT2) (C.hfr _ hT) (u := .type "tuple") (by decide +kernel) rfl (by decide) (by decide)
    · exact pe_bltn (gl_ok C hT2) (C.hfr _ hT) (u := .type "list") (by decide +kernel) rfl (by decide) (by decide)
    · exact pe_bltn (gl_ok C hT2) (C.hfr _ hT) (u := .type "str") (by decide +kernel) rfl (by decide) (by decide)
  refine PE.imp (pe_callB call_isi (gl_ok C h2) (C.hfr _ h1) (by decide +kernel) (pa_cons ha (pa_cons ht pa_nil rfl) hs) (by decide) (by decide) hs rfl) fun _ _ _ h => rd_op1 (r := fun x H Q => rIsi X.K [x, .ty T.nm] H Q) (fun F H x d1 d Q s r1 h k => ?_) h
  cases q : isiD T d1 with
  | none => rw [q] at h; cases h
  | some b =>
    rw [q] at h
    injection h with h; subst h
    exact hr_isi s r1 q (k.z s (.bl _))
end
end EV

/-! EvG: argument lists, displays, tests, choices. -/
namespace EV
open PySem PySem.Spec PyProof.Rows L2

/-! ### argument lists: values, and names that are lent -/
inductive PA1 where
  | t (d : D) | l (j : Nat)
inductive RA where
  | ok (as : List PA1) (e : DEnv) | ex (c : Nat) (d : D) (e : DEnv) | no
inductive Ar where
  | t (m : ME) | l (j : Nat)
def RA.cons (a : PA1) : RA → RA
  | .ok as e => .ok (a :: as) e
  | .ex c d e => .ex c d e
  | .no => .no
def mA : List Ar → DEnv → RA
  | [], e => .ok [] e
  | .t m :: r, e => match m e with
    | .ok d e1 => (mA r e1).cons (.t d)
    | .ex c d e1 => .ex c d e1
    | .no => .no
  | .l j :: r, e => match e[j]? with
    | some (some _) => (mA r e).cons (.l j)
    | _ => .no
inductive AR (G : GI) (F H : Hp) (σ : L2.St) : List Addr → List V → List PA1 → Prop
  | nil : AR G F H σ [] [] []
  | t {p q : List Addr} {v : V} {vs : List V} {d : D} {as : List PA1} : RO G F H p v d → AR G F H σ q vs as → AR G F H σ (p ++ q) (v :: vs) (.t d :: as)
  | l {q : List Addr} {v : V} {vs : List V} {j : Nat} {as : List PA1} : σ[j]? = some (some v) → AR G F H σ q vs as → AR G F H σ q (v :: vs) (.l j :: as)
theorem AR.mono {G : GI} {F H F' H' : Hp} {σ : L2.St} (hF : ∀ a o, F a = some o → F' a = some o) : ∀ {p : List Addr} {vs : List V} {as : List PA1}, AR G F H σ p vs as → (∀ a, a ∈ p → ∀ o, H a = some o → H' a = some o) → AR G F' H' σ p vs as
  | _, _, _, .nil, _ => .nil
  | _, _, _, .t r rs, h => .t (r.mono hF fun a z => h a (List.mem_append_left _ z)) (AR.mono hF rs fun a z => h a (List.mem_append_right _ z))
  | _, _, _, .l e rs, h => .l e (AR.mono hF rs h)
theorem AR.there {G : GI} {F H : Hp} {σ : L2.St} : ∀ {p : List Addr} {vs : List V} {as : List PA1}, AR G F H σ p vs as → ∀ a, a ∈ p → ∃ o, H a = some o
  | _, _, _, .nil, _, z => nomatch z
  | _, _, _, .t r rs, a, z => (List.mem_append.mp z).elim (r.there a) (AR.there rs a)
  | _, _, _, .l e rs, a, z => AR.there rs a z
structure AO (G : GI) (F H : Hp) (σ : L2.St) (fp : Nat → List Addr) (p : List Addr) (vs : List V) (as : List PA1) : Prop where
  r : AR G F H σ p vs as
  nd : p.Nodup
  sep : ∀ a, a ∈ p → F a = none
  dj : ∀ a, a ∈ p → ¬ own fp a
def AOut (G : GI) (W : WX) (σ : L2.St) (F H : Hp) (fp : Nat → List Addr) (Q : List V → Hp → Prop) : RA → Prop
  | .ok as e' => ∀ vs F' H' fp' p, SO G F' H' fp' σ e' → AO G F' H' σ fp' p vs as → Tr F H (own fp) F' H' (fun a => own fp' a ∨ a ∈ p) → Q vs H'
  | .ex c d e' => XOut G W σ F H fp c d e'
  | .no => False
def RdA (G : GI) (W : WX) (m : List Ar) : TA := fun σ H Q => ∃ F fp e, SO G F H fp σ e ∧ AOut G W σ F H fp Q (mA m e)
def RdAr (G : GI) (W : WX) : Ar → TE
  | .t m => RdE G W m
  | .l j => tVar j
section
variable {X : Cx} {N : List Str} {sc : Scope} {fr : List Str} {g : GF} {G : GI} {W : WX} {a b c : Expr} {es : List Expr} {pos p2 p3 : Pos} {oa ob : Op} {ma mb : ME} {F H F1 H1 : Hp} {fp : Nat → List Addr} {σ : L2.St} {e e' : DEnv}
abbrev SA (X : Cx) (g : GF) (W : WX) (es : List Expr) (m : List Ar) : Prop := PA X es (RdA (gOf X g) W m)
abbrev SAr (X : Cx) (g : GF) (W : WX) (e : Expr) (m : Ar) : Prop := PE X e (RdAr (gOf X g) W m)
theorem sa_nil : SA X g W [] [] := PA.imp pa_nil fun σ H Q ⟨F, fp, e, s, h⟩ => h [] F H fp [] s ⟨.nil, List.nodup_nil, fun _ z => (nomatch z), fun _ z => (nomatch z)⟩ Tr.refl.nil
theorem XOut.weak (h : XOut G W σ F H fp c' d' e') {P : Addr → Prop} : XOut G W σ F H fp c' d' e' := h
theorem sa_cons {m : Ar} {ms : List Ar} (ha : SAr X g W a m) (hr : SA X g W es ms) (hs : starEach (a :: es) X.env = (false, eval a X.env) :: starEach es X.env) : SA X g W (a :: es) (m :: ms) := PA.imp (pa_cons ha hr hs) fun σ H Q ⟨F, fp, e, s, h⟩ => by
  cases m with
  | t m =>
    have h : AOut (gOf X g) W σ F H fp Q (match m e with
      | .ok d e1 => (mA ms e1).cons (.t d)
      | .ex c d e1 => .ex c d e1
      | .no => .no) := h
    refine RdE.iff.mpr ⟨F, fp, e, s, ?_⟩
    cases q : m e with
    | ok d e1 =>
      rw [q] at h
      intro v F1 H1 fp1 p1 s1 t1 tr1
      refine ⟨F1, fp1, e1, s1, ?_⟩
      simp only at h
      cases q2 : mA ms e1 with
      | ok as e2 =>
        rw [q2] at h
        have h : AOut (gOf X g) W σ F H fp Q (.ok (.t d :: as) e2) := h
        intro vs F2 H2 fp2 p2 s2 t2 tr2
        have k1 := t1.keep tr2 fun c z => Or.inl z
        refine h (v :: vs) F2 H2 fp2 (p1 ++ p2) s2 ⟨.t k1.r t2.r, ?_, ?_, ?_⟩ ((tr1.trans (tr2.weak (P := fun c => own fp1 c ∨ c ∈ p1) (P1 := fun c => (own fp2 c ∨ c ∈ p2) ∨ c ∈ p1) (fun _ z => .inl z) fun c z => z.imp id .inr)).drop fun c z => ?_)
        · exact List.nodup_append.mpr ⟨t1.nd, t2.nd, fun x hx y hy z => t1.apart tr2 (q := p2) (fun c z => Or.inr z) x hx (z ▸ hy)⟩
        · exact fun c z => (List.mem_append.mp z).elim (k1.sep c) (t2.sep c)
        · exact fun c z => (List.mem_append.mp z).elim (k1.dj c) (t2.dj c)
        · rcases z with z | z
          · exact .inl (.inl z)
          · exact (List.mem_append.mp z).elim .inr fun z => .inl (.inr z)
      | ex c d2 e2 =>
        rw [q2] at h
        have h : XOut (gOf X g) W σ F H fp c d2 e2 := h
        intro dx v2 F2 H2 fp2 p2 s2 t2 tr2 hx
        exact h dx v2 F2 H2 fp2 p2 s2 t2 ((tr1.trans (tr2.weak (P := fun c => own fp1 c ∨ c ∈ p1) (P1 := fun c => (own fp2 c ∨ c ∈ p2) ∨ c ∈ p1) (fun _ z => .inl z) fun c z => z.imp id .inr)).drop fun c z => .inl z) hx
      | no => rw [q2] at h; exact h.elim
    | ex c d e1 => rw [q] at h; exact h
    | no => rw [q] at h; exact h
  | l j =>
    have h : AOut (gOf X g) W σ F H fp Q (match e[j]? with
      | some (some _) => (mA ms e).cons (.l j)
      | _ => .no) := h
    cases q : e[j]? with
    | none => rw [q] at h; exact h.elim
    | some o =>
      cases o with
      | none => rw [q] at h; exact h.elim
      | some d =>
        rw [q] at h
        simp only at h
        obtain ⟨v, hv, _⟩ := s.rep j d q
        refine ⟨v, hv, F, fp, e, s, ?_⟩
        cases q2 : mA ms e with
        | ok as e2 =>
          rw [q2] at h
          have h : AOut (gOf X g) W σ F H fp Q (.ok (.l j :: as) e2) := h
          intro vs F2 H2 fp2 p2 s2 t2 tr2
          exact h (v :: vs) F2 H2 fp2 p2 s2 ⟨.l hv t2.r, t2.nd, t2.sep, t2.dj⟩ tr2
        | ex c d2 e2 => rw [q2] at h; exact h
        | no => rw [q2] at h; exact h
/-! ### displays -/
def allT : List PA1 → Option (List D)
  | [] => some []
  | .t d :: r => (allT r).map (d :: ·)
  | .l _ :: _ => none
theorem AR.all {p : List Addr} : ∀ {as : List PA1} {vs : List V} {ds : List D}, AR G F H σ p vs as → allT as = some ds → ROs G F H p vs ds := by
  intro as vs ds r
  induction r generalizing ds with
  | nil => intro h; injection h with h; subst h; exact .nil
  | @t p q v vs d as r rs ih =>
    intro h
    have h2 : (allT as).map (d :: ·) = some ds := h
    cases q2 : allT as with
    | none => rw [q2] at h2; cases h2
    | some es => rw [q2] at h2; injection h2 with h2; subst h2; exact .cons r (ih q2)
  | l e rs ih => intro h; cases h
def RA.fin (r : RA) (k : List D → DEnv → RE) : RE := match r with
  | .ok as e => match allT as with
    | some ds => if ds.length ≤ LIM then k ds e else .no
    | none => .no
  | .ex c d e => .ex c d e
  | .no => .no
def mTup (ms : List Ar) : ME := fun e => (mA ms e).fin fun ds e1 => .ok (.tup ds) e1
def mLst (ms : List Ar) : ME := fun e => (mA ms e).fin fun ds e1 => .ok (.lst true ds) e1
theorem SO.new {a : Addr} {o : HO} (s : SO G F H fp σ e) (h : H a = none) : SO G F (upd H a o) fp σ e := s.grow (fun _ _ z => z) (upd_le h) (fun b u z => upd_le h b u (s.sub b u z)) fun b u z => .inl z
theorem SO.newF {a : Addr} {o : HO} (s : SO G F H fp σ e) (h : H a = none) : SO G (upd F a o) (upd H a o) fp σ e := s.grow (upd_le (by
    cases q : F a with
    | none => rfl
    | some o => rw [s.sub a o q] at h; cases h)) (upd_le h) (fun b u z => by
    by_cases e : b = a
    · subst e; rw [upd_same] at z ⊢; exact z
    · rw [upd_ne e] at z ⊢; exact s.sub b u z) fun b u z => by
    by_cases e : b = a
    · subst e; exact .inr h
    · rw [upd_ne e] at z; exact .inl z
theorem SO.fnone {a : Addr} (s : SO G F H fp σ e) (h : H a = none) : F a = none := by
  cases q : F a with
  | none => rfl
  | some o => rw [s.sub a o q] at h; cases h
theorem SO.noown {a : Addr} (s : SO G F H fp σ e) (h : H a = none) : ¬ own fp a := fun ⟨i, z⟩ => by
  obtain ⟨o, q⟩ := s.th i a z
  rw [h] at q; cases q
theorem Tr.newF {a : Addr} {o : HO} {O : Addr → Prop} (s : ∀ a o, F a = some o → H a = some o) (h : H a = none) : Tr F H O (upd F a o) (upd H a o) O where
  ff := upd_le (by
    cases q : F a with
    | none => rfl
    | some o => rw [s a o q] at h; cases h)
  fr := fun b u _ z => upd_le h b u z
  ow := fun _ z => .inl z
  fz := fun b u z => by
    by_cases e : b = a
    · subst e; exact .inr (.inr h)
    · rw [upd_ne e] at z; exact .inl z
theorem Tr.new {a : Addr} {o : HO} {O : Addr → Prop} (h : H a = none) : Tr F H O F (upd H a o) (fun c => O c ∨ c = a) where
  ff := fun _ _ z => z
  fr := fun b u _ z => upd_le h b u z
  ow := fun b z => by
    rcases z with z | z
    · exact .inl z
    · exact .inr (by rw [z]; exact h)
  fz := fun b u z => .inl z
theorem se_tup {ms : List Ar} {k : Nat} (ha : SA X g W es ms) : SE X g W (.Tuple es k pos) (mTup ms) := PE.imp (pe_tup ha) fun σ H Q h => by
  obtain ⟨F, fp, e, s, h⟩ := RdE.iff.mp h
  refine ⟨F, fp, e, s, ?_⟩
  unfold mTup at h
  cases q : mA ms e with
  | ok as e1 =>
    rw [q] at h
    have h : EOut (gOf X g) W σ F H fp Q (match allT as with
      | some ds => if ds.length ≤ LIM then RE.ok (.tup ds) e1 else .no
      | none => .no) := h
    cases q2 : allT as with
    | none => rw [q2] at h; exact h.elim
    | some ds =>
      rw [q2] at h
      simp only at h
      split at h
      · rename_i hl
        intro vs F1 H1 fp1 p s1 t tr
        have r := t.r.all q2
        refine ⟨by rw [r.length]; exact LIM_line hl, fun b hb => ?_⟩
        have s2 := s1.newF (o := .tup vs) hb
        have nb : ∀ c, c ∈ p → c ≠ b := fun c z w => by
          obtain ⟨o, ho⟩ := t.r.there c z
          rw [w, hb] at ho; cases ho
        refine h (.ref b) _ _ fp1 p s2 ⟨.tup upd_same (r.mono (upd_le (s1.fnone hb)) fun c _ o z => upd_le hb c o z), t.nd, fun c z => ?_, t.dj⟩ ?_
        · rw [upd_ne (nb c z)]; exact t.sep c z
        · exact tr.trans (Tr.newF s1.sub hb)
      · exact h.elim
  | ex c d e1 => rw [q] at h; exact h
  | no => rw [q] at h; exact h
theorem se_lst {ms : List Ar} (ha : SA X g W es ms) : SE X g W (.List es pos) (mLst ms) := PE.imp (pe_lst ha) fun σ H Q h => by
  obtain ⟨F, fp, e, s, h⟩ := RdE.iff.mp h
  refine ⟨F, fp, e, s, ?_⟩
  unfold mLst at h
  cases q : mA ms e with
  | ok as e1 =>
    rw [q] at h
    have h : EOut (gOf X g) W σ F H fp Q (match allT as with
      | some ds => if ds.length ≤ LIM then RE.ok (.lst true ds) e1 else .no
      | none => .no) := h
    cases q2 : allT as with
    | none => rw [q2] at h; exact h.elim
    | some ds =>
      rw [q2] at h
      simp only at h
      split at h
      · rename_i hl
        intro vs F1 H1 fp1 p s1 t tr
        have r := t.r.all q2
        refine ⟨by rw [r.length]; exact LIM_line hl, fun b hb => ?_⟩
        have s2 := s1.new (o := .lst vs) hb
        have nb : ∀ c, c ∈ p → c ≠ b := fun c z w => by
          obtain ⟨o, ho⟩ := t.r.there c z
          rw [w, hb] at ho; cases ho
        refine h (.ref b) _ _ fp1 (b :: p) s2 ⟨.lo upd_same (r.mono (fun _ _ z => z) fun c _ o z => upd_le hb c o z), List.nodup_cons.mpr ⟨fun z => nb b z rfl, t.nd⟩, fun c z => ?_, fun c z => ?_⟩ ?_
        · rcases List.mem_cons.mp z with w | w
          · rw [w]; exact s1.fnone hb
          · exact t.sep c w
        · rcases List.mem_cons.mp z with w | w
          · rw [w]; exact s1.noown hb
          · exact t.dj c w
        · refine (tr.trans (Tr.new hb)).drop fun c z => ?_
          rcases z with z | z
          · exact .inl (.inl z)
          · exact (List.mem_cons.mp z).elim .inr fun z => .inl (.inr z)
      · exact h.elim
  | ex c d e1 => rw [q] at h; exact h
  | no => rw [q] at h; exact h
/-! ### tests -/
def TOut (G : GI) (W : WX) (σ : L2.St) (F H : Hp) (fp : Nat → List Addr) (Q : Bool → Hp → Prop) : RE → Prop
  | .ok (.bl b) e' => ∀ F' H' fp', SO G F' H' fp' σ e' → Tr F H (own fp) F' H' (own fp') → Q b H'
  | .ok _ _ => False
  | .ex c d e' => XOut G W σ F H fp c d e'
  | .no => False
def RdT (G : GI) (W : WX) (m : ME) : TT := fun σ H Q => ∃ F fp e, SO G F H fp σ e ∧ TOut G W σ F H fp Q (m e)
abbrev ST (X : Cx) (g : GF) (W : WX) (e : Expr) (m : ME) : Prop := PT X e (RdT (gOf X g) W m)
/-- a value, by its truth -/
def mTru (oa : Op) : ME := mOp1 (fun d => (truD d).map .bl) oa
theorem st_tru (h : SOp X g W a oa) (he : ∀ whole, isTrue a X.env whole = (do let v ← whole; standAt a.pos; holding [v] (truthy v))) : ST X g W a (mTru oa) := PT.imp (pt_truth h he) fun σ H Q h => by
  obtain ⟨F, fp, e, s, h⟩ := h
  refine RdO.step oa s ?_
  unfold mTru mOp1 at h
  cases q : oa.run e with
  | ok p e1 =>
    rw [q] at h
    intro x F1 H1 fp1 s1 tr1 v1
    have hne : (p.see e1 fun d e2 => RE.of ((truD d).map .bl) e2) ≠ .no := fun z => by
      rw [RP.bind_ok, z] at h; exact h
    obtain ⟨d1, e2, F2, fp2, s2, b2, tr2, k⟩ := PV.see_ok s1 v1 rfl hne
    rw [RP.bind_ok, ← k] at h
    cases q3 : truD d1 with
    | none => rw [q3] at h; exact h.elim
    | some b =>
      rw [q3] at h
      exact ⟨b, hr_tru s2.sub b2 q3, h F2 H1 fp2 s2 (tr1.trans tr2)⟩
  | ex c d e1 => rw [q] at h; exact h
  | no => rw [q] at h; exact h
def mTNot (m : ME) : ME := fun e => match m e with
  | .ok (.bl b) e1 => .ok (.bl (!b)) e1
  | .ok _ _ => .no
  | .ex c d e1 => .ex c d e1
  | .no => .no
def mTAnd (m n : ME) : ME := fun e => match m e with
  | .ok (.bl true) e1 => n e1
  | .ok (.bl false) e1 => .ok (.bl false) e1
  | .ok _ _ => .no
  | .ex c d e1 => .ex c d e1
  | .no => .no
def mTOr (m n : ME) : ME := fun e => match m e with
  | .ok (.bl true) e1 => .ok (.bl true) e1
  | .ok (.bl false) e1 => n e1
  | .ok _ _ => .no
  | .ex c d e1 => .ex c d e1
  | .no => .no
/-- a choice -/
def mIf (t m n : ME) : ME := fun e => match t e with
  | .ok (.bl true) e1 => m e1
  | .ok (.bl false) e1 => n e1
  | .ok _ _ => .no
  | .ex c d e1 => .ex c d e1
  | .no => .no
variable {m n t : ME}
theorem TOut.trans {F1 H1 : Hp} {fp1 : Nat → List Addr} {Q : Bool → Hp → Prop} {r : RE} (h : TOut G W σ F H fp Q r) (t : Tr F H (own fp) F1 H1 (own fp1)) : TOut G W σ F1 H1 fp1 Q r := by
  cases r with
  | ok d e =>
    cases d with
    | bl b => exact fun F' H' fp' s' tr => h F' H' fp' s' (t.trans tr)
    | _ => exact h.elim
  | ex c d e => exact XOut.trans h t
  | no => exact h
theorem st_not (h : ST X g W a m) : ST X g W (.UnaryOp .Not a pos) (mTNot m) := PT.imp (pt_not h) fun σ H Q h => by
  obtain ⟨F, fp, e, s, h⟩ := h
  refine ⟨F, fp, e, s, ?_⟩
  unfold mTNot at h
  cases q : m e with
  | ok d e1 =>
    rw [q] at h
    cases d with
    | bl b => exact fun F' H' fp' s' tr => h F' H' fp' s' tr
    | _ => exact h.elim
  | ex c d e1 => rw [q] at h; exact h
  | no => rw [q] at h; exact h
theorem RdT.and {σ : L2.St} {H : Hp} {Q : Bool → Hp → Prop} (h : RdT G W (mTAnd m n) σ H Q) : tAnd (RdT G W m) (RdT G W n) σ H Q := by
  obtain ⟨F, fp, e, s, h⟩ := h
  refine ⟨F, fp, e, s, ?_⟩
  unfold mTAnd at h
  cases q : m e with
  | ok d e1 =>
    rw [q] at h
    cases d with
    | bl b =>
      intro F1 H1 fp1 s1 tr1
      cases b with
      | true => rw [if_pos rfl]; exact ⟨F1, fp1, e1, s1, TOut.trans h tr1⟩
      | false => rw [if_neg Bool.false_ne_true]; exact h F1 H1 fp1 s1 tr1
    | _ => exact h.elim
  | ex c d e1 => rw [q] at h; exact h
  | no => rw [q] at h; exact h
theorem RdT.or {σ : L2.St} {H : Hp} {Q : Bool → Hp → Prop} (h : RdT G W (mTOr m n) σ H Q) : tOr (RdT G W m) (RdT G W n) σ H Q := by
  obtain ⟨F, fp, e, s, h⟩ := h
  refine ⟨F, fp, e, s, ?_⟩
  unfold mTOr at h
  cases q : m e with
  | ok d e1 =>
    rw [q] at h
    cases d with
    | bl b =>
      intro F1 H1 fp1 s1 tr1
      cases b with
      | true => rw [if_pos rfl]; exact h F1 H1 fp1 s1 tr1
      | false => rw [if_neg Bool.false_ne_true]; exact ⟨F1, fp1, e1, s1, TOut.trans h tr1⟩
    | _ => exact h.elim
  | ex c d e1 => rw [q] at h; exact h
  | no => rw [q] at h; exact h
abbrev SW (X : Cx) (g : GF) (W : WX) (e : Expr) (m : ME) : Prop := PW X e (RdT (gOf X g) W m)
theorem PW.imp {X : Cx} {e : Expr} {t u : TT} (h : PW X e t) (i : ∀ σ H Q, u σ H Q → t σ H Q) : PW X e u := ⟨fun whole pins s σ H Q I q => h.run whole pins s σ H Q I (i σ H Q q)⟩
theorem sw_and1 (h : ST X g W a m) : SW X g W (.BoolOp .And [a] pos) m := pw_and1 h
theorem sw_or1 (h : ST X g W a m) : SW X g W (.BoolOp .Or [a] pos) m := pw_or1 h
theorem sw_and (h : ST X g W a m) (hb : SW X g W (.BoolOp .And (b :: es) pos) n) : SW X g W (.BoolOp .And (a :: b :: es) pos) (mTAnd m n) := PW.imp (pw_and h hb) fun _ _ _ h => RdT.and h
theorem sw_or (h : ST X g W a m) (hb : SW X g W (.BoolOp .Or (b :: es) pos) n) : SW X g W (.BoolOp .Or (a :: b :: es) pos) (mTOr m n) := PW.imp (pw_or h hb) fun _ _ _ h => RdT.or h
theorem RdE.choose {σ : L2.St} {H : Hp} {Q : VK} (h : RdE G W (mIf t m n) σ H Q) : tIf (RdT G W t) (RdE G W m) (RdE G W n) σ H Q := by
  obtain ⟨F, fp, e, s, h⟩ := RdE.iff.mp h
  refine ⟨F, fp, e, s, ?_⟩
  unfold mIf at h
  cases q : t e with
  | ok d e1 =>
    rw [q] at h
    cases d with
    | bl b =>
      intro F1 H1 fp1 s1 tr1
      cases b with
      | true => rw [if_pos rfl]; exact RdE.iff.mpr ⟨F1, fp1, e1, s1, EOut.trans h tr1⟩
      | false => rw [if_neg Bool.false_ne_true]; exact RdE.iff.mpr ⟨F1, fp1, e1, s1, EOut.trans h tr1⟩
    | _ => exact h.elim
  | ex c d e1 => rw [q] at h; exact h
  | no => rw [q] at h; exact h
theorem se_if (hc : ST X g W c t) (ha : SE X g W a m) (hb : SE X g W b n) : SE X g W (.IfExp c a b pos) (mIf t m n) := PE.imp (pe_ifExp hc ha hb) fun _ _ _ h => RdE.choose h
/-! ### and, or, not as values -/
/-- x and y: the first if it is false (its value shared), else the second -/
def mAnd (oa : Op) (n : ME) : ME := fun e => match oa.run e with
  | .ok p e1 => p.see e1 fun d e2 => match truD d with
    | some true => n e2
    | some false => if isV d then .ok d e2 else .no
    | none => .no
  | .ex c d e1 => .ex c d e1
  | .no => .no
where isV : D → Bool
  | .bl _ => true
  | .non => true
  | .int _ => true
  | _ => false
def mOr (oa : Op) (n : ME) : ME := fun e => match oa.run e with
  | .ok p e1 => p.see e1 fun d e2 => match truD d with
    | some true => if mAnd.isV d then .ok d e2 else .no
    | some false => n e2
    | none => .no
  | .ex c d e1 => .ex c d e1
  | .no => .no
theorem RB.toZ {v : V} {d : D} (r : RB G F H v d) (h : mAnd.isV d = true) : RO G F H [] v d := by
  cases r with
  | z r => exact r
  | _ => cases h
theorem se_and1 {op : BoolOp} (h : SE X g W a m) : SE X g W (.BoolOp op [a] pos) m := pe_one h
theorem se_and (ha : SOp X g W a oa) (hb : SE X g W (.BoolOp .And (b :: es) pos) n) : SE X g W (.BoolOp .And (a :: b :: es) pos) (mAnd oa n) := PE.imp (pe_andT ha hb) fun σ H Q h => by
  obtain ⟨F, fp, e, s, h⟩ := RdE.iff.mp h
  refine RdO.step oa s ?_
  unfold mAnd at h
  cases q : oa.run e with
  | ok p e1 =>
    rw [q] at h
    intro x F1 H1 fp1 s1 tr1 v1
    simp only at h
    obtain ⟨d1, e2, F2, fp2, s2, b2, tr2, k⟩ := PV.see_ok s1 v1 rfl h.ne
    rw [← k] at h
    cases q3 : truD d1 with
    | none => rw [q3] at h; exact h.elim
    | some b =>
      rw [q3] at h
      refine ⟨b, hr_tru s2.sub b2 q3, ?_⟩
      cases b with
      | true => rw [if_pos rfl]; exact RdE.iff.mpr ⟨F2, fp2, e2, s2, EOut.trans h (tr1.trans tr2)⟩
      | false =>
        rw [if_neg Bool.false_ne_true]
        simp only at h
        split at h
        · rename_i hv
          exact h x F2 H1 fp2 [] s2 (TO.z (b2.toZ hv)) (tr1.trans tr2).nil
        · exact h.elim
  | ex c d e1 => rw [q] at h; exact h
  | no => rw [q] at h; exact h
theorem se_or (ha : SOp X g W a oa) (hb : SE X g W (.BoolOp .Or (b :: es) pos) n) : SE X g W (.BoolOp .Or (a :: b :: es) pos) (mOr oa n) := PE.imp (pe_orT ha hb) fun σ H Q h => by
  obtain ⟨F, fp, e, s, h⟩ := RdE.iff.mp h
  refine RdO.step oa s ?_
  unfold mOr at h
  cases q : oa.run e with
  | ok p e1 =>
    rw [q] at h
    intro x F1 H1 fp1 s1 tr1 v1
    simp only at h
    obtain ⟨d1, e2, F2, fp2, s2, b2, tr2, k⟩ := PV.see_ok s1 v1 rfl h.ne
    rw [← k] at h
    cases q3 : truD d1 with
    | none => rw [q3] at h; exact h.elim
    | some b =>
      rw [q3] at h
      refine ⟨b, hr_tru s2.sub b2 q3, ?_⟩
      cases b with
      | true =>
        rw [if_pos rfl]
        simp only at h
        split at h
        · rename_i hv
          exact h x F2 H1 fp2 [] s2 (TO.z (b2.toZ hv)) (tr1.trans tr2).nil
        · exact h.elim
      | false => rw [if_neg Bool.false_ne_true]; exact RdE.iff.mpr ⟨F2, fp2, e2, s2, EOut.trans h (tr1.trans tr2)⟩
  | ex c d e1 => rw [q] at h; exact h
  | no => rw [q] at h; exact h
def mNot (oa : Op) : ME := mOp1 (fun d => (truD d).map fun b => .bl (!b)) oa
theorem se_not (ha : SOp X g W a oa) : SE X g W (.UnaryOp .Not a pos) (mNot oa) := PE.imp (pe_notT ha) fun σ H Q h => rd_op1 (r := fun x H Q => ∃ k, TruV X.K x H k ∧ Q (.bl (!k)) H) (fun F H x d1 d Q s r1 h k => by
  cases q : truD d1 with
  | none => rw [q] at h; cases h
  | some b =>
    rw [q] at h
    injection h with h; subst h
    exact ⟨b, hr_tru s r1 q, k.z s (.bl _)⟩) h
end
end EV

/-! EvH: statements. -/
namespace EV
open PySem PySem.Spec PyProof.Rows L2

def SOut (G : GI) (W : WX) (L : List Nat) (D : Ends) (σ : L2.St) (F H : Hp) (fp : Nat → List Addr) : RS → Prop
  | .nx e' => ∀ σ' F' H' fp', SO G F' H' fp' σ' e' → (∀ i, i ∈ L → σ'[i]? = σ[i]?) → Tr F H (own fp) F' H' (own fp') → D.nx σ' H'
  | .bk e' => ∀ σ' F' H' fp', SO G F' H' fp' σ' e' → (∀ i, i ∈ L → σ'[i]? = σ[i]?) → Tr F H (own fp) F' H' (own fp') → D.bk σ' H'
  | .ct e' => ∀ σ' F' H' fp', SO G F' H' fp' σ' e' → (∀ i, i ∈ L → σ'[i]? = σ[i]?) → Tr F H (own fp) F' H' (own fp') → D.ct σ' H'
  | .rt d e' => ∀ v σ' F' H' fp' p, SO G F' H' fp' σ' e' → (∀ i, i ∈ L → σ'[i]? = σ[i]?) → TO G F' H' fp' p v d → Tr F H (own fp) F' H' (fun a => own fp' a ∨ a ∈ p) → D.rt v H'
  | .ex c d e' => ∀ dx v σ' F' H' fp' p, SO G F' H' fp' σ' e' → (∀ i, i ∈ L → σ'[i]? = σ[i]?) → TO G F' H' fp' p v d → Tr F H (own fp) F' H' (fun a => own fp' a ∨ a ∈ p) → H' dx = some (.xd [(G.xn c, v)]) → W (.ref (G.ca c)) (some dx) σ' H'
  | .no => False
def RdS (G : GI) (W : WX) (L : List Nat) (m : MS) : TS := fun D σ H => ∃ F fp e, SO G F H fp σ e ∧ SOut G W L D σ F H fp (m e)
section
variable {X : Cx} {N : List Str} {sc : Scope} {fr : List Str} {g : GF} {G : GI} {W : WX} {L : List Nat} {a b c : Expr} {es : List Expr} {st : Stmt} {sts : List Stmt} {pos p2 p3 : Pos} {oa ob : Op} {m n t : ME} {ms ns : MS} {F H F1 H1 F' H' : Hp} {fp fp1 fp' : Nat → List Addr} {σ σ1 : L2.St} {e e' : DEnv} {D : Ends}
abbrev SS (X : Cx) (g : GF) (W : WX) (L : List Nat) (s : Stmt) (m : MS) : Prop := PS X s (RdS (gOf X g) W L m)
abbrev SSs (X : Cx) (g : GF) (W : WX) (L : List Nat) (s : List Stmt) (m : MS) : Prop := PSs X s (RdS (gOf X g) W L m)
theorem SOut.trans {r : RS} (h : SOut G W L D σ F H fp r) (t : Tr F H (own fp) F1 H1 (own fp1)) (hL : ∀ i, i ∈ L → σ1[i]? = σ[i]?) : SOut G W L D σ1 F1 H1 fp1 r := by
  cases r with
  | nx e => exact fun σ' F' H' fp' s' l' tr => h σ' F' H' fp' s' (fun i z => (l' i z).trans (hL i z)) (t.trans tr)
  | bk e => exact fun σ' F' H' fp' s' l' tr => h σ' F' H' fp' s' (fun i z => (l' i z).trans (hL i z)) (t.trans tr)
  | ct e => exact fun σ' F' H' fp' s' l' tr => h σ' F' H' fp' s' (fun i z => (l' i z).trans (hL i z)) (t.trans tr)
  | rt d e => exact fun v σ' F' H' fp' p s' l' t' tr => h v σ' F' H' fp' p s' (fun i z => (l' i z).trans (hL i z)) t' (t.trans tr)
  | ex c d e => exact fun dx v σ' F' H' fp' p s' l' t' tr hx => h dx v σ' F' H' fp' p s' (fun i z => (l' i z).trans (hL i z)) t' (t.trans tr) hx
  | no => exact h
theorem SOut.x {c : Nat} {d : EV.D} (h : SOut G W L D σ F H fp (.ex c d e')) : XOut G W σ F H fp c d e' := fun dx v F' H' fp' p s' t' tr hx => h dx v σ F' H' fp' p s' (fun _ _ => rfl) t' tr hx
/-- behind a value -/
def RE.toS (r : RE) (k : EV.D → DEnv → RS) : RS := match r with
  | .ok d e => k d e
  | .ex c d e => .ex c d e
  | .no => .no
@[simp] theorem RE.toS_ok {d e k} : (RE.ok d e).toS k = k d e := rfl
@[simp] theorem RE.toS_ex {c d e k} : (RE.ex c d e).toS k = .ex c d e := rfl
@[simp] theorem RE.toS_no {k} : RE.no.toS k = .no := rfl
def RS.seq (r : RS) (k : DEnv → RS) : RS := match r with
  | .nx e => k e
  | .rt d e => .rt d e
  | .bk e => .bk e
  | .ct e => .ct e
  | .ex c d e => .ex c d e
  | .no => .no
@[simp] theorem RS.seq_nx {e k} : (RS.nx e).seq k = k e := rfl
@[simp] theorem RS.seq_rt {d e k} : (RS.rt d e).seq k = .rt d e := rfl
@[simp] theorem RS.seq_bk {e k} : (RS.bk e).seq k = .bk e := rfl
@[simp] theorem RS.seq_ct {e k} : (RS.ct e).seq k = .ct e := rfl
@[simp] theorem RS.seq_ex {c d e k} : (RS.ex c d e).seq k = .ex c d e := rfl
@[simp] theorem RS.seq_no {k} : RS.no.seq k = .no := rfl
def mSeq (m n : MS) : MS := fun e => (m e).seq n
theorem sss_nil : SSs X g W L [] RS.nx := PSs.imp pss_nil fun D σ H ⟨F, fp, e, s, h⟩ => h σ F H fp s (fun _ _ => rfl) Tr.refl
theorem sss_cons (h1 : SS X g W L st ms) (h2 : SSs X g W L sts ns) : SSs X g W L (st :: sts) (mSeq ms ns) := PSs.imp (pss_cons h1 h2) fun D σ H ⟨F, fp, e, s, h⟩ => by
  refine ⟨F, fp, e, s, ?_⟩
  unfold mSeq at h
  cases q : ms e with
  | nx e1 =>
    rw [q] at h
    exact fun σ' F' H' fp' s' l' tr => ⟨F', fp', e1, s', SOut.trans h tr l'⟩
  | rt d e1 => rw [q] at h; exact h
  | bk e1 => rw [q] at h; exact h
  | ct e1 => rw [q] at h; exact h
  | ex c d e1 => rw [q] at h; exact h
  | no => rw [q] at h; exact h
theorem ss_pass : SS X g W L (.Pass pos) RS.nx := PS.imp ps_pass fun D σ H ⟨F, fp, e, s, h⟩ => h σ F H fp s (fun _ _ => rfl) Tr.refl
theorem ss_break : SS X g W L (.Break pos) RS.bk := PS.imp ps_break fun D σ H ⟨F, fp, e, s, h⟩ => h σ F H fp s (fun _ _ => rfl) Tr.refl
theorem ss_continue : SS X g W L (.Continue pos) RS.ct := PS.imp ps_continue fun D σ H ⟨F, fp, e, s, h⟩ => h σ F H fp s (fun _ _ => rfl) Tr.refl
/-- no comprehension stands as the whole value -/
def noComp : Expr → Bool
  | .ListComp .. => false
  | .SetComp .. => false
  | .DictComp .. => false
  | _ => true
theorem noSwap {v : Expr} (h : noComp v = true) {t : Option Expr} {l : Nat} {env : Env} : swapsWith v t l env = pure false := by
  cases v <;> first | rfl | cases h
def mExpr (m : ME) : MS := fun e => (m e).toS fun _ e1 => .nx e1
theorem ss_expr (h : SE X g W a m) (hc : noComp a = true) : SS X g W L (.Expr a pos) (mExpr m) := PS.imp (ps_expr h (noSwap hc)) fun D σ H ⟨F, fp, e, s, h⟩ => by
  refine RdE.iff.mpr ⟨F, fp, e, s, ?_⟩
  unfold mExpr at h
  cases q : m e with
  | ok d e1 =>
    rw [q] at h
    exact fun v F' H' fp' p s' t' tr => h σ F' H' fp' s' (fun _ _ => rfl) (tr.drop fun c z => .inl z)
  | ex c d e1 => rw [q] at h; exact h.x
  | no => rw [q] at h; exact h
def mRet (m : ME) : MS := fun e => (m e).toS fun d e1 => .rt d e1
theorem ss_ret (h : SE X g W a m) : SS X g W L (.Return (some a) pos) (mRet m) := PS.imp (ps_ret h) fun D σ H ⟨F, fp, e, s, h⟩ => by
  refine RdE.iff.mpr ⟨F, fp, e, s, ?_⟩
  unfold mRet at h
  cases q : m e with
  | ok d e1 =>
    rw [q] at h
    exact fun v F' H' fp' p s' t' tr => h v σ F' H' fp' p s' (fun _ _ => rfl) t' tr
  | ex c d e1 => rw [q] at h; exact h.x
  | no => rw [q] at h; exact h
def mRetN : MS := fun e => .rt .non e
theorem ss_retN : SS X g W L (.Return none pos) mRetN := PS.imp ps_retN fun D σ H ⟨F, fp, e, s, h⟩ => h .non σ F H fp [] s (fun _ _ => rfl) (TO.z .non) Tr.refl.nil
def mIfS (t : ME) (m n : MS) : MS := fun e => match t e with
  | .ok (.bl true) e1 => m e1
  | .ok (.bl false) e1 => n e1
  | .ok _ _ => .no
  | .ex c d e1 => .ex c d e1
  | .no => .no
theorem ss_if {sa sb : List Stmt} (hc : ST X g W c t) (ha : SSs X g W L sa ms) (hb : SSs X g W L sb ns) : SS X g W L (.If c sa sb pos) (mIfS t ms ns) := PS.imp (ps_if hc ha hb) fun D σ H ⟨F, fp, e, s, h⟩ => by
  refine ⟨F, fp, e, s, ?_⟩
  unfold mIfS at h
  cases q : t e with
  | ok d e1 =>
    rw [q] at h
    cases d with
    | bl b =>
      intro F1 H1 fp1 s1 tr1
      cases b with
      | true => rw [if_pos rfl]; exact ⟨F1, fp1, e1, s1, SOut.trans h tr1 fun _ _ => rfl⟩
      | false => rw [if_neg Bool.false_ne_true]; exact ⟨F1, fp1, e1, s1, SOut.trans h tr1 fun _ _ => rfl⟩
    | _ => exact h.elim
  | ex c d e1 => rw [q] at h; exact h.x
  | no => rw [q] at h; exact h
/-! ### targets -/
inductive CT where
  | v (i : Nat) | t (ts : List CT)
mutual
def put : CT → EV.D → DEnv → Option DEnv
  | .v i, d, e => some (e.set i (some d))
  | .t ts, d, e => match d with
    | .tup ds => puts ts ds e
    | _ => none
def puts : List CT → List EV.D → DEnv → Option DEnv
  | [], [], e => some e
  | t :: ts, d :: ds, e => (put t d e).bind fun e1 => puts ts ds e1
  | _, _, _ => none
end
/-- what a target asks: v stored, the value's own parts go with it -/
def GOk (G : GI) (L : List Nat) (t : CT) (r : TG) : Prop := ∀ {F H fp σ e p v d e' Q}, SO G F H fp σ e → TO G F H fp p v d → put t d e = some e' →
  (∀ σ' fp', SO G F H fp' σ' e' → (∀ i, i ∈ L → σ'[i]? = σ[i]?) → (∀ a, own fp' a → own fp a ∨ a ∈ p) → Q σ' H) → r v σ H Q
def GsOk (G : GI) (L : List Nat) (ts : List CT) (r : TGs) : Prop := ∀ {F H fp σ e p vs ds e' Q}, SO G F H fp σ e → TOs G F H fp p vs ds → puts ts ds e = some e' →
  (∀ σ' fp', SO G F H fp' σ' e' → (∀ i, i ∈ L → σ'[i]? = σ[i]?) → (∀ a, own fp' a → own fp a ∨ a ∈ p) → Q σ' H) → r vs σ H Q
theorem gok_v {i : Nat} (hi : i ∉ L) : GOk G L (.v i) (gName i) := fun {F H fp σ e p v d e' Q} s t h k => by
  injection h with h; subst h
  refine k _ _ (s.store t) (fun j hj => ?_) own_store
  rw [List.getElem?_set_ne]
  intro z; subst z; exact hi hj
theorem gsok_nil : GsOk G L [] gNil := fun {F H fp σ e p vs ds e' Q} s t h k => by
  cases ds with
  | nil =>
    obtain ⟨e1, _⟩ := t.r.invN
    injection h with h; subst h
    exact ⟨e1, k σ fp s (fun _ _ => rfl) fun _ z => .inl z⟩
  | cons d ds => cases h
theorem gsok_cons {t : CT} {ts : List CT} {r : TG} {rs : TGs} (h1 : GOk G L t r) (h2 : GsOk G L ts rs) : GsOk G L (t :: ts) (gCons r rs) := fun {F H fp σ e p vs ds e' Q} s to h k => by
  cases ds with
  | nil => cases h
  | cons d ds =>
    have h : ((put t d e).bind fun e1 => puts ts ds e1) = some e' := h
    cases q : put t d e with
    | none => rw [q] at h; cases h
    | some e1 =>
      rw [q] at h
      have h : puts ts ds e1 = some e' := h
      obtain ⟨v, ws, f, fs, rfl, ep, r1, r2⟩ := to.r.invD
      subst ep
      obtain ⟨n1, n2, n3⟩ := List.nodup_append.mp to.nd
      refine ⟨v, ws, rfl, h1 s ⟨r1, n1, fun a z => to.sep a (List.mem_append_left _ z), fun a z => to.dj a (List.mem_append_left _ z)⟩ q fun σ1 fp1 s1 l1 o1 => ?_⟩
      refine h2 s1 ⟨r2, n2, fun a z => to.sep a (List.mem_append_right _ z), fun a z w => ?_⟩ h fun σ2 fp2 s2 l2 o2 => ?_
      · rcases o1 a w with w | w
        · exact to.dj a (List.mem_append_right _ z) w
        · exact n3 a w a z rfl
      · refine k σ2 fp2 s2 (fun i z => (l2 i z).trans (l1 i z)) fun a z => ?_
        rcases o2 a z with z | z
        · exact (o1 a z).imp id fun z => List.mem_append_left _ z
        · exact .inr (List.mem_append_right _ z)
theorem gok_t {K : PySem.W.Frag} (hK : G.K = K) {ts : List CT} {r : TGs} {n : Nat} (hn : ts.length = n) (h : GsOk G L ts r) : GOk G L (.t ts) (gTup K n r) := fun {F H fp σ e p v d e' Q} s to q k => by
  cases d with
  | tup ds =>
    have q : puts ts ds e = some e' := q
    have hl : ∀ (ts : List CT) (ds : List EV.D) (e e' : DEnv), puts ts ds e = some e' → ds.length = ts.length := by
      intro ts
      induction ts with
      | nil => intro ds e e' h; cases ds with
        | nil => rfl
        | cons _ _ => cases h
      | cons t ts ih =>
        intro ds e e' h
        cases ds with
        | nil => cases h
        | cons d ds =>
          have h : ((put t d e).bind fun e1 => puts ts ds e1) = some e' := h
          cases q : put t d e with
          | none => rw [q] at h; cases h
          | some e1 => rw [q] at h; exact congrArg (· + 1) (ih ds e1 e' h)
    cases to with
    | mk r nd sep dj =>
      cases r with
      | tup ea ra =>
        refine ⟨_, _, rfl, SqT.of (s.sub _ _ ea), ?_, h s ⟨ra, nd, sep, dj⟩ q k⟩
        rw [ra.length, hl ts ds e e' q, hn]
  | _ => cases q
/-- target = value -/
def mAsg (t : CT) (m : ME) : MS := fun e => (m e).toS fun d e1 => match put t d e1 with
  | some e2 => .nx e2
  | none => .no
theorem RdS.asg {t : CT} {r : TG} (hg : GOk G L t r) {σ : L2.St} {H : Hp} (h : RdS G W L (mAsg t m) D σ H) : RdE G W m σ H fun x H1 => r x σ H1 D.nx := by
  obtain ⟨F, fp, e, s, h⟩ := h
  refine RdE.iff.mpr ⟨F, fp, e, s, ?_⟩
  unfold mAsg at h
  cases q : m e with
  | ok d e1 =>
    rw [q] at h
    intro v F' H' fp' p s' t' tr
    rw [RE.toS_ok] at h
    cases q2 : put t d e1 with
    | none => rw [q2] at h; exact h.elim
    | some e2 =>
      rw [q2] at h
      exact hg s' t' q2 fun σ2 fp2 s2 l2 o2 => h σ2 F' H' fp2 s2 l2 (tr.drop fun c z => (o2 c z))
  | ex c d e1 => rw [q] at h; exact h.x
  | no => rw [q] at h; exact h
theorem ss_asg {tg : Expr} {t : CT} {r : TG} (h : SE X g W a m) (hg : PG X tg r) (hk : GOk (gOf X g) L t r) (hs : swapsWithSole [tg] a pos.line X.env = pure false) (hw : swappedStores [tg] a X.env = pure none)
    (h1 : (assignEach [tg] X.env).map (·.2) = [assign tg X.env]) : SS X g W L (.Assign [tg] a pos) (mAsg t m) := PS.imp (ps_asg h hg hs hw h1) fun D σ H h => RdS.asg hk h
theorem ss_set {i : Nat} {x : Str} (hN : X.N.Nodup) (hi : X.N[i]? = some x) (hx : Loc X.env.scope x) (h : SE X g W a m) (hL : i ∉ L) (hs : swapsWith a (some (.Name x p2)) pos.line X.env = pure false) (hf : X.fn x = true ∨ X.env.scope.names.lookup x = some .local) :
    SS X g W L (.Assign [.Name x p2] a pos) (mAsg (.v i) m) := PS.imp (ps_set hN hi hx h hs hf) fun D σ H h => RdS.asg (gok_v hL) h
/-- a, b = x, y: two names, three names -/
def mPar (is : List Nat) (ms : List Ar) : MS := fun e => match mA ms e with
  | .ok as e1 => match allT as with
    | some ds => match puts (is.map CT.v) ds e1 with
      | some e2 => .nx e2
      | none => .no
    | none => .no
  | .ex c d e1 => .ex c d e1
  | .no => .no
theorem RdS.par {is : List Nat} {ms : List Ar} {σ : L2.St} {H : Hp} (hL : ∀ i, i ∈ is → i ∉ L) (h : RdS G W L (mPar is ms) D σ H) :
    ∃ k : List V → Hp → Prop, RdA G W ms σ H k ∧ ∀ vs H1, k vs H1 → vs.length = is.length ∧ D.nx ((is.zip vs).foldl (fun s z => s.set z.1 (some z.2)) σ) H1 := by
  refine ⟨fun vs H1 => vs.length = is.length ∧ D.nx ((is.zip vs).foldl (fun s z => s.set z.1 (some z.2)) σ) H1, ?_, fun _ _ z => z⟩
  obtain ⟨F, fp, e, s, h⟩ := h
  refine ⟨F, fp, e, s, ?_⟩
  unfold mPar at h
  cases q : mA ms e with
  | ok as e1 =>
    rw [q] at h
    simp only at h
    cases q2 : allT as with
    | none => rw [q2] at h; exact h.elim
    | some ds =>
      rw [q2] at h
      simp only at h
      cases q3 : puts (is.map CT.v) ds e1 with
      | none => rw [q3] at h; exact h.elim
      | some e2 =>
        rw [q3] at h
        simp only at h
        intro vs F1 H1 fp1 p s1 t tr
        have go : ∀ (is : List Nat), (∀ i, i ∈ is → i ∉ L) → ∀ (vs : List V) (ds : List EV.D) (p : List Addr) (fp1 : Nat → List Addr) (σ1 : L2.St) (e1 e2 : DEnv), SO G F1 H1 fp1 σ1 e1 → TOs G F1 H1 fp1 p vs ds → puts (is.map CT.v) ds e1 = some e2 →
            vs.length = is.length ∧ ∃ fp2, SO G F1 H1 fp2 ((is.zip vs).foldl (fun s z => s.set z.1 (some z.2)) σ1) e2 ∧ (∀ i, i ∈ L → ((is.zip vs).foldl (fun s z => s.set z.1 (some z.2)) σ1)[i]? = σ1[i]?) ∧ ∀ a, own fp2 a → own fp1 a ∨ a ∈ p := by
          intro is
          induction is with
          | nil =>
            intro _ vs ds p fp1 σ1 e1 e2 s1 t1 h
            cases ds with
            | nil =>
              obtain ⟨e1, _⟩ := t1.r.invN
              subst e1
              injection h with h; subst h
              exact ⟨rfl, fp1, s1, fun _ _ => rfl, fun _ z => .inl z⟩
            | cons _ _ => cases h
          | cons i is ih =>
            intro hL vs ds p fp1 σ1 e1 e2 s1 t1 h
            cases ds with
            | nil => cases h
            | cons d ds =>
              have h : puts (is.map CT.v) ds (e1.set i (some d)) = some e2 := h
              obtain ⟨v, ws, f, fs, rfl, ep, r1, r2⟩ := t1.r.invD
              subst ep
              obtain ⟨n1, n2, n3⟩ := List.nodup_append.mp t1.nd
              have s2 := s1.store (i := i) (p := f) (v := v) (d := d) ⟨r1, n1, fun a z => t1.sep a (List.mem_append_left _ z), fun a z => t1.dj a (List.mem_append_left _ z)⟩
              obtain ⟨h1, fp2, s3, h3, h4⟩ := ih (fun j z => hL j (List.mem_cons_of_mem _ z)) ws ds fs _ _ _ e2 s2 ⟨r2, n2, fun a z => t1.sep a (List.mem_append_right _ z), fun a z w => by
                rcases own_store a w with w | w
                · exact t1.dj a (List.mem_append_right _ z) w
                · exact n3 a w a z rfl⟩ h
              refine ⟨congrArg (· + 1) h1, fp2, s3, fun j z => (h3 j z).trans ?_, fun a z => ?_⟩
              · rw [List.getElem?_set_ne]
                intro w; subst w
                exact hL i (List.mem_cons_self ..) z
              · rcases h4 a z with z | z
                · exact (own_store a z).imp id fun z => List.mem_append_left _ z
                · exact .inr (List.mem_append_right _ z)
        obtain ⟨h1, fp2, s2, h3, h4⟩ := go is hL vs ds p fp1 σ e1 e2 s1 ⟨t.r.all q2, t.nd, t.sep, t.dj⟩ q3
        exact ⟨h1, h _ F1 H1 fp2 s2 h3 (tr.drop fun c z => h4 c z)⟩
  | ex c d e1 => rw [q] at h; exact h.x
  | no => rw [q] at h; exact h
theorem PAimp {σ : L2.St} {H : Hp} {ms : List Ar} {k k' : List V → Hp → Prop} (h : RdA G W ms σ H k) (hk : ∀ vs H1, k vs H1 → k' vs H1) : RdA G W ms σ H k' := by
  obtain ⟨F, fp, e, s, h⟩ := h
  refine ⟨F, fp, e, s, ?_⟩
  cases q : mA ms e with
  | ok as e1 => rw [q] at h; exact fun vs F1 H1 fp1 p s1 t tr => hk _ _ (h vs F1 H1 fp1 p s1 t tr)
  | ex c d e1 => rw [q] at h; exact h
  | no => rw [q] at h; exact h
theorem ss_par {i j : Nat} {x y : Str} {px py pt : Pos} {kt k2 : Nat} {pt2 : Pos} {ms : List Ar} (hc : X.calm = true) (hN : X.N.Nodup) (hi : X.N[i]? = some x) (hj : X.N[j]? = some y) (hij : i ≠ j) (hx : X.env.scope.names.lookup x = some .local) (hy : X.env.scope.names.lookup y = some .local)
    (ha : SA X g W [a, b] ms) (hw : swappedStores [.Tuple [.Name x px, .Name y py] kt pt] (.Tuple [a, b] k2 pt2) X.env = pure (some [x, y])) (hL : i ∉ L ∧ j ∉ L) :
    SS X g W L (.Assign [.Tuple [.Name x px, .Name y py] kt pt] (.Tuple [a, b] k2 pt2) pos) (mPar [i, j] ms) := PS.imp (L2.ps_par hc hN hi hj hij hx hy ha hw) fun D σ H h => by
  obtain ⟨k, h1, h2⟩ := RdS.par (is := [i, j]) (fun q z => by simp at z; rcases z with rfl | rfl; exact hL.1; exact hL.2) h
  refine PAimp h1 fun vs H1 z => ?_
  obtain ⟨h3, h4⟩ := h2 vs H1 z
  match vs, h3 with
  | [v, w], _ => exact ⟨v, w, rfl, h4⟩
theorem ss_par3 {i j l : Nat} {x y z : Str} {px py pz pt : Pos} {kt k2 : Nat} {pt2 : Pos} {ms : List Ar} (hc : X.calm = true) (hN : X.N.Nodup) (hi : X.N[i]? = some x) (hj : X.N[j]? = some y) (hl : X.N[l]? = some z) (hij : i ≠ j) (hil : i ≠ l) (hjl : j ≠ l) (hx : X.env.scope.names.lookup x = some .local) (hy : X.env.scope.names.lookup y = some .local) (hz : X.env.scope.names.lookup z = some .local)
    (ha : SA X g W [a, b, c] ms) (hw : swappedStores [.Tuple [.Name x px, .Name y py, .Name z pz] kt pt] (.Tuple [a, b, c] k2 pt2) X.env = pure (some [x, y, z])) (hL : i ∉ L ∧ j ∉ L ∧ l ∉ L) :
    SS X g W L (.Assign [.Tuple [.Name x px, .Name y py, .Name z pz] kt pt] (.Tuple [a, b, c] k2 pt2) pos) (mPar [i, j, l] ms) := PS.imp (L2.ps_par3 hc hN hi hj hl hij hil hjl hx hy hz ha hw) fun D σ H h => by
  obtain ⟨k, h1, h2⟩ := RdS.par (is := [i, j, l]) (fun q w => by simp at w; rcases w with rfl | rfl | rfl; exact hL.1; exact hL.2.1; exact hL.2.2) h
  refine PAimp h1 fun vs H1 z => ?_
  obtain ⟨h3, h4⟩ := h2 vs H1 z
  match vs, h3 with
  | [u, v, w], _ => exact ⟨u, v, w, rfl, h4⟩
end
end EV

/-! EvI: what is written: items of lists and dicts, append, pop. -/
namespace EV
open PySem PySem.Spec PyProof.Rows L2
section
variable {X : Cx} {N : List Str} {sc : Scope} {fr : List Str} {g : GF} {G : GI} {W : WX} {L : List Nat} {a b c : Expr} {es : List Expr} {st : Stmt} {sts : List Stmt} {pos p2 p3 p4 : Pos} {oa ob : Op} {m n t : ME} {ms ns : MS} {F H F1 H1 F' H' : Hp} {fp fp1 fp' : Nat → List Addr} {σ σ1 : L2.St} {e e' : DEnv} {D : Ends}
/-- a slot's own thing is written -/
theorem SO.mutate {k : Nat} {d0 d1 : EV.D} {v : V} {p q : List Addr} (s : SO G F H fp σ e) (h : e[k]? = some (some d0)) (hv : σ[k]? = some (some v)) (hp : ∀ a, a ∈ p → F a = none ∧ ¬ own fp a)
    (hH : ∀ b o, b ∉ fp k → H b = some o → H' b = some o) (r : RO G F H' q v d1) (nd : q.Nodup) (sub : ∀ a, a ∈ q → a ∈ fp k ∨ a ∈ p) : SO G F H' (fun j => if j = k then q else fp j) σ (e.set k (some d1)) where
  sub := fun b o z => hH b o (fun w => by rw [s.sep k b w] at z; cases z) (s.sub b o z)
  rep := fun j x hx => by
    by_cases hj : j = k
    · subst hj
      have hl : j < e.length := (List.getElem?_eq_some_iff.mp h).1
      rw [List.getElem?_set_self hl] at hx
      cases hx
      exact ⟨v, hv, by rw [if_pos rfl]; exact r⟩
    · rw [List.getElem?_set_ne (Ne.symm hj)] at hx
      obtain ⟨w, h1, r1⟩ := s.rep j x hx
      exact ⟨w, h1, by rw [if_neg hj]; exact r1.mono (fun _ _ z => z) fun b z o => hH b o fun w => hj (s.dj j k b z w)⟩
  nd := fun j => by
    split
    · exact nd
    · exact s.nd j
  dj := fun i j b h1 h2 => by
    split at h1
    · rename_i hi
      split at h2
      · rename_i hj; rw [hi, hj]
      · rename_i hj
        rcases sub b h1 with z | z
        · exact absurd (s.dj k j b z h2) (Ne.symm hj)
        · exact absurd ⟨j, h2⟩ (hp b z).2
    · rename_i hi
      split at h2
      · rcases sub b h2 with z | z
        · exact absurd (s.dj i k b h1 z) hi
        · exact absurd ⟨i, h1⟩ (hp b z).2
      · exact s.dj i j b h1 h2
  sep := fun j b z => by
    split at z
    · rcases sub b z with z | z
      · exact s.sep k b z
      · exact (hp b z).1
    · exact s.sep j b z
  th := fun j b z => by
    split at z
    · exact r.there b z
    · rename_i hj
      obtain ⟨o, ho⟩ := s.th j b z
      exact ⟨o, hH b o (fun w => hj (s.dj j k b z w)) ho⟩
  len := by rw [List.length_set]; exact s.len
theorem Tr.mutate {k : Nat} {p q : List Addr} {O : Addr → Prop} (hH : ∀ b o, b ∉ fp k → H b = some o → H' b = some o) (sub : ∀ a, a ∈ q → a ∈ fp k ∨ a ∈ p) : Tr F H (fun a => own fp a ∨ a ∈ p) F H' (own fun j => if j = k then q else fp j) where
  ff := fun _ _ z => z
  fr := fun b o n z => hH b o (fun w => n (.inl ⟨k, w⟩)) z
  ow := fun b ⟨j, z⟩ => by
    dsimp only at z
    split at z
    · exact .inl ((sub b z).imp (fun z => ⟨k, z⟩) id)
    · exact .inl (.inl ⟨j, z⟩)
  fz := fun _ _ z => .inl z
theorem ROs.put {p : List Addr} {v : V} {d : EV.D} (r : RO G F H p v d) : ∀ {j : Nat} {fs : List Addr} {vs : List V} {ds : List EV.D}, ROs G F H fs vs ds → j < ds.length → fs.Nodup → p.Nodup → (∀ a, a ∈ fs → a ∈ p → False) →
    ∃ q, ROs G F H q (vs.set j v) (ds.set j d) ∧ q.Nodup ∧ ∀ a, a ∈ q → a ∈ fs ∨ a ∈ p
  | _, _, _, [], _, h, _, _, _ => nomatch h
  | 0, _, _, _ :: _, rs, _, n1, n2, n3 => by
    obtain ⟨w, ws, f, fs, rfl, rfl, r1, r2⟩ := rs.invD
    obtain ⟨m1, m2, m3⟩ := List.nodup_append.mp n1
    refine ⟨p ++ fs, .cons r r2, List.nodup_append.mpr ⟨n2, m2, fun x hx y hy z => n3 y (List.mem_append_right _ hy) (z ▸ hx)⟩, fun a z => ?_⟩
    exact (List.mem_append.mp z).elim .inr fun z => .inl (List.mem_append_right _ z)
  | j + 1, _, _, x :: ds, rs, h, n1, n2, n3 => by
    obtain ⟨w, ws, f, fs, rfl, rfl, r1, r2⟩ := rs.invD
    obtain ⟨m1, m2, m3⟩ := List.nodup_append.mp n1
    obtain ⟨q, h1, h2, h3⟩ := ROs.put r (j := j) r2 (by simpa using h) m2 n2 fun a z => n3 a (List.mem_append_right _ z)
    refine ⟨f ++ q, .cons r1 h1, List.nodup_append.mpr ⟨m1, h2, fun x hx y hy z => ?_⟩, fun a z => ?_⟩
    · subst z
      rcases h3 x hy with w | w
      · exact m3 x hx x w rfl
      · exact n3 x (List.mem_append_left _ hx) w
    · rcases List.mem_append.mp z with z | z
      · exact .inl (List.mem_append_left _ z)
      · exact (h3 a z).imp (fun z => List.mem_append_right _ z) id
/-- a name's own list -/
theorem RO.lo_inv {p : List Addr} {v : V} {ds : List EV.D} (r : RO G F H p v (.lst true ds)) : ∃ a vs fs, v = .ref a ∧ p = a :: fs ∧ H a = some (.lst vs) ∧ ROs G F H fs vs ds := by
  cases r with
  | lo e r => exact ⟨_, _, _, rfl, rfl, e, r⟩
theorem RO.dko_inv {p : List Addr} {v : V} {ds : List (Key × EV.D)} (r : RO G F H p v (.dk true ds)) : ∃ a kvs, v = .ref a ∧ p = [a] ∧ H a = some (.dK kvs) ∧ kvs.map (·.1) = ds.map (·.1) ∧ ROs G F H [] (kvs.map (·.2)) (ds.map (·.2)) := by
  cases r with
  | dko e k r => exact ⟨_, _, rfl, rfl, e, k, r⟩
theorem RO.dto_inv {p : List Addr} {v : V} {ds : List (List Key × EV.D)} (r : RO G F H p v (.dt true ds)) : ∃ a kvs, v = .ref a ∧ p = [a] ∧ H a = some (.dT kvs) ∧ kvs.map (·.1) = ds.map (·.1) ∧ ROs G F H [] (kvs.map (·.2)) (ds.map (·.2)) := by
  cases r with
  | dto e k r => exact ⟨_, _, rfl, rfl, e, k, r⟩
/-- a dict's entry put -/
def putD {κ : Type} [DecidableEq κ] (kds : List (κ × EV.D)) (k : κ) (d : EV.D) : List (κ × EV.D) :=
  if (kds.any fun kv => decide (kv.1 = k)) then kds.map fun kv => if kv.1 = k then (kv.1, d) else kv else kds ++ [(k, d)]
/-- what becomes of a list or a dict where an item is stored -/
def setD : EV.D → EV.D → EV.D → Option EV.D
  | .lst true xs, .int i, d => (ixN xs.length i).map fun j => .lst true (xs.set j d)
  | .dk true kds, k, d => (keyD k).bind fun k => if kds.length < LIM then some (.dk true (putD kds k (frz d))) else none
  | .dt true kds, .tup ks, d => (keysD ks).bind fun k => if kds.length < LIM then some (.dt true (putD kds k (frz d))) else none
  | _, _, _ => none
theorem any_keys {κ : Type} [DecidableEq κ] (k : κ) : ∀ {kvs : List (κ × V)} {kds : List (κ × EV.D)}, kvs.map (·.1) = kds.map (·.1) → (kvs.any fun kv => decide (kv.1 = k)) = kds.any fun kv => decide (kv.1 = k)
  | [], [], _ => rfl
  | [], _ :: _, h => by cases h
  | _ :: _, [], h => by cases h
  | a :: kvs, b :: kds, h => by
    have h1 : a.1 = b.1 ∧ kvs.map (·.1) = kds.map (·.1) := by simpa using h
    show (decide (a.1 = k) || kvs.any _) = (decide (b.1 = k) || kds.any _)
    rw [h1.1, any_keys k h1.2]
theorem map_keys {κ : Type} [DecidableEq κ] (k : κ) {v : V} {d : EV.D} (r : RO G F H [] v d) : ∀ {kvs : List (κ × V)} {kds : List (κ × EV.D)}, kvs.map (·.1) = kds.map (·.1) → ROs G F H [] (kvs.map (·.2)) (kds.map (·.2)) →
    (kvs.map fun kv => if kv.1 = k then (kv.1, v) else kv).map (·.1) = (kds.map fun kv => if kv.1 = k then (kv.1, d) else kv).map (·.1) ∧
    ROs G F H [] ((kvs.map fun kv => if kv.1 = k then (kv.1, v) else kv).map (·.2)) ((kds.map fun kv => if kv.1 = k then (kv.1, d) else kv).map (·.2))
  | [], [], _, _ => ⟨rfl, .nil⟩
  | [], _ :: _, h, _ => by cases h
  | _ :: _, [], h, _ => by cases h
  | a :: kvs, b :: kds, h, rs => by
    have h1 : a.1 = b.1 ∧ kvs.map (·.1) = kds.map (·.1) := by simpa using h
    obtain ⟨r1, r2⟩ := rs.unconsZ
    obtain ⟨h2, h3⟩ := map_keys k r h1.2 r2
    simp only [List.map_cons]
    by_cases e : b.1 = k
    · rw [if_pos (h1.1.trans e), if_pos e]
      exact ⟨by rw [h2, h1.1], ROs.consZ r h3⟩
    · rw [if_neg (fun z => e (h1.1.symm.trans z)), if_neg e]
      exact ⟨by rw [h2, h1.1], ROs.consZ r1 h3⟩
theorem putD_rep {κ : Type} [DecidableEq κ] (k : κ) {v : V} {d : EV.D} (r : RO G F H [] v d) {kvs : List (κ × V)} {kds : List (κ × EV.D)} (h : kvs.map (·.1) = kds.map (·.1)) (rs : ROs G F H [] (kvs.map (·.2)) (kds.map (·.2))) :
    (putK kvs k v).map (·.1) = (putD kds k d).map (·.1) ∧ ROs G F H [] ((putK kvs k v).map (·.2)) ((putD kds k d).map (·.2)) := by
  have e : putK kvs k v = if (kvs.any fun kv => decide (kv.1 = k)) then kvs.map fun kv => if kv.1 = k then (kv.1, v) else kv else kvs ++ [(k, v)] := rfl
  rw [e]
  unfold putD
  rw [any_keys k h]
  split
  · exact map_keys k r h rs
  · rw [List.map_append, List.map_append, List.map_append, List.map_append, h]
    exact ⟨rfl, (rs.append (ROs.one r)).cast rfl⟩
/-- o[i] = v by values: a list, a dict -/
theorem set_any (hu : X.A.units + 1 < cLine) : PSet X (fun o i v H Q => rSetL o i v H Q ∨ ∃ a H', o = .ref a ∧ DPut H a i v H' ∧ Q H') := by
  intro pins s σ H o i v ov iv u Q I ro ri rv h
  rcases h with h | ⟨a, H', rfl, hp, q⟩
  · exact set_list pins s σ H o i v ov iv u Q I ro ri rv h
  · cases (show ov = Value.ref a from ro)
    exact d_setItem hu I hp ri rv fun s' I' => ⟨H', I', q⟩
theorem set_ok {k : Nat} {d0 d1 di d : EV.D} {v x y : V} {p : List Addr} {Q : Hp → Prop} (s : SO G F H fp σ e) (h : e[k]? = some (some d0)) (hv : σ[k]? = some (some x)) (t : TO G F H fp p v d) (ri : RB G F H y di) (hd : setD d0 di d = some d1)
    (q : ∀ F' H' fp', SO G F' H' fp' σ (e.set k (some d1)) → Tr F H (fun a => own fp a ∨ a ∈ p) F' H' (own fp') → Q H') : rSetL x y v H Q ∨ ∃ a H', x = .ref a ∧ DPut H a y v H' ∧ Q H' := by
  obtain ⟨x', hx', r⟩ := s.rep k d0 h
  rw [hv] at hx'
  cases hx'
  cases d0 with
  | lst o xs =>
    cases o with
    | false => cases hd
    | true =>
      cases di <;> first | (cases hd; done) | skip
      rename_i i
      have hd : (ixN xs.length i).map (fun j => EV.D.lst true (xs.set j d)) = some d1 := hd
      cases qj : ixN xs.length i with
      | none => rw [qj] at hd; cases hd
      | some j =>
        rw [qj] at hd
        injection hd with hd; subst hd
        obtain ⟨a, vs, fs, rfl, ep, ha, rs⟩ := r.lo_inv
        have nd := s.nd k
        rw [ep] at nd
        obtain ⟨n1, n2⟩ := List.nodup_cons.mp nd
        have own_fs : ∀ c, c ∈ fs → own fp c := fun c z => ⟨k, by rw [ep]; exact List.mem_cons_of_mem _ z⟩
        have own_a : own fp a := ⟨k, by rw [ep]; exact List.mem_cons_self ..⟩
        obtain ⟨w, h1, h2, h3⟩ := ROs.put t.r (j := j) rs (ixN_seq qj).2.1 n2 t.nd fun c z w => t.dj c w (own_fs c z)
        have hH : ∀ b o, b ∉ fp k → H b = some o → upd H a (.lst (vs.set j v)) b = some o := fun b o z w => by
          rw [upd_ne]
          · exact w
          · intro u; subst u; rw [ep] at z; exact z (List.mem_cons_self ..)
        have na : a ∉ w := fun z => by
          rcases h3 a z with z | z
          · exact n1 z
          · exact t.dj a z own_a
        have sub : ∀ c, c ∈ (a :: w) → c ∈ fp k ∨ c ∈ p := fun c z => by
          rcases List.mem_cons.mp z with z | z
          · rw [z, ep]; exact .inl (List.mem_cons_self ..)
          · exact (h3 c z).imp (fun z => by rw [ep]; exact List.mem_cons_of_mem _ z) id
        refine .inl ⟨a, vs, i, j, rfl, ri.int_inv, ha, by rw [rs.length]; exact qj, q F _ _ (s.mutate h hv (fun c z => ⟨t.sep c z, t.dj c z⟩) hH (.lo upd_same (h1.mono (fun _ _ z => z) fun c z o u => ?_)) (List.nodup_cons.mpr ⟨na, h2⟩) sub) (Tr.mutate (O := fun _ => True) hH sub)⟩
        rw [upd_ne]
        · exact u
        · intro z2; subst z2; exact na z
  | dk o kds =>
    cases o with
    | false => cases di <;> cases hd
    | true =>
      have hd : ((keyD di).bind fun k => if kds.length < LIM then some (EV.D.dk true (putD kds k (frz d))) else none) = some d1 := by
        cases di <;> exact hd
      cases qk : keyD di with
      | none => rw [qk] at hd; cases hd
      | some key =>
        rw [qk] at hd
        have hd : (if kds.length < LIM then some (EV.D.dk true (putD kds key (frz d))) else none) = some d1 := hd
        split at hd
        · rename_i hl
          injection hd with hd; subst hd
          obtain ⟨a, kvs, rfl, ep, ha, hk, rs⟩ := r.dko_inv
          have s2 := s.share t.sep t.dj
          have hlen : kvs.length = kds.length := by
            have := congrArg List.length hk
            simpa using this
          obtain ⟨h1, h2⟩ := putD_rep key t.share hk (rs.monoZ (addF_le t.sep))
          have hH : ∀ b o, b ∉ fp k → H b = some o → upd H a (.dK (putK kvs key v)) b = some o := fun b o z w => by
            rw [upd_ne]
            · exact w
            · intro u; subst u; rw [ep] at z; exact z (List.mem_cons_self ..)
          refine .inr ⟨a, _, rfl, ?_, q _ _ _ (s2.mutate (p := []) (q := [a]) (H' := upd H a (.dK (putK kvs key v))) h hv (fun c z => nomatch z) hH (.dko upd_same h1 (h2.monoZ fun _ _ z => z)) (by simp) fun c z => .inl (by rw [ep]; exact z)) ((Tr.share (O := own fp) t.sep).trans ((Tr.mutate (p := []) (q := [a]) (O := fun _ => True) hH fun c z => .inl (by rw [ep]; exact z)).weak (fun c z => z.elim id fun z => nomatch z) fun c z => .inl z))⟩
          rw [keyD_rep ri qk]
          exact DPut.k ha (by rw [hlen]; exact LIM_lineS (Nat.le_of_lt hl))
        · cases hd
  | dt o kds =>
    cases o with
    | false => cases di <;> cases hd
    | true =>
      cases di <;> first | (cases hd; done) | skip
      rename_i ks
      have hd : ((keysD ks).bind fun k => if kds.length < LIM then some (EV.D.dt true (putD kds k (frz d))) else none) = some d1 := hd
      cases qk : keysD ks with
      | none => rw [qk] at hd; cases hd
      | some key =>
        rw [qk] at hd
        have hd : (if kds.length < LIM then some (EV.D.dt true (putD kds key (frz d))) else none) = some d1 := hd
        split at hd
        · rename_i hl
          injection hd with hd; subst hd
          obtain ⟨a, kvs, rfl, ep, ha, hk, rs⟩ := r.dto_inv
          obtain ⟨b, us, rfl, hb, rb⟩ := ri.tup_inv
          rw [keysD_rep rb qk] at hb
          have s2 := s.share t.sep t.dj
          have hlen : kvs.length = kds.length := by
            have := congrArg List.length hk
            simpa using this
          obtain ⟨h1, h2⟩ := putD_rep key t.share hk (rs.monoZ (addF_le t.sep))
          have hH : ∀ b o, b ∉ fp k → H b = some o → upd H a (.dT (putK kvs key v)) b = some o := fun b o z w => by
            rw [upd_ne]
            · exact w
            · intro u; subst u; rw [ep] at z; exact z (List.mem_cons_self ..)
          exact .inr ⟨a, _, rfl, DPut.t ha (s.sub _ _ hb) (by rw [hlen]; exact LIM_lineS (Nat.le_of_lt hl)), q _ _ _ (s2.mutate (p := []) (q := [a]) (H' := upd H a (.dT (putK kvs key v))) h hv (fun c z => nomatch z) hH (.dto upd_same h1 (h2.monoZ fun _ _ z => z)) (by simp) fun c z => .inl (by rw [ep]; exact z)) ((Tr.share (O := own fp) t.sep).trans ((Tr.mutate (p := []) (q := [a]) (O := fun _ => True) hH fun c z => .inl (by rw [ep]; exact z)).weak (fun c z => z.elim id fun z => nomatch z) fun c z => .inl z))⟩
        · cases hd
  | _ => cases di <;> cases hd
/-- x[i] = e -/
def mSet (k : Nat) (oi : Op) (m : ME) : MS := fun e => (m e).toS fun d e1 => match e1[k]? with
  | some (some _) => match oi.run e1 with
    | .ok p e2 => match p.see e2 (fun di e3 => match e3[k]? with
      | some (some d0) => match setD d0 di d with
        | some d1 => .ok .non (e3.set k (some d1))
        | none => .no
      | _ => .no) with
      | .ok _ e4 => .nx e4
      | _ => .no
    | .ex c d e2 => .ex c d e2
    | .no => .no
  | _ => .no
theorem ss_sub {k : Nat} {x : Str} (C : Cn X N sc fr) (hx : varB N sc k x = true) (hi : SOp X g W b oa) (hv : SE X g W a m) (hs : swapsWithSole [.Subscript (.Name x p2) b p3] a pos.line X.env = pure false) (hw : swappedStores [.Subscript (.Name x p2) b p3] a X.env = pure none)
    (h1 : (assignEach [.Subscript (.Name x p2) b p3] X.env).map (·.2) = [assign (.Subscript (.Name x p2) b p3) X.env])
    (ha : ∀ v, assign (.Subscript (.Name x p2) b p3) X.env v = (do
      let ov ← holding [v] (eval (.Name x p2) X.env)
      let iv ← holding [v, ov] (eval b X.env)
      standAt p3
      holding [v, ov, iv] (setItem ov iv v)
      release [v, ov, iv] [])) : SS X g W L (.Assign [.Subscript (.Name x p2) b p3] a pos) (mSet k oa m) :=
  PS.imp (ps_asg hv (pg_sub (pv_ok C hx) hi (set_any C.hu1) ha) hs hw h1) fun D σ H ⟨F, fp, e, s, h⟩ => by
  refine RdE.iff.mpr ⟨F, fp, e, s, ?_⟩
  unfold mSet at h
  cases q : m e with
  | ok d e1 =>
    rw [q] at h
    rw [RE.toS_ok] at h
    intro v F1 H1 fp1 p s1 t1 tr1
    cases q1 : e1[k]? with
    | none => rw [q1] at h; exact h.elim
    | some o1 =>
      cases o1 with
      | none => rw [q1] at h; exact h.elim
      | some d0' =>
        rw [q1] at h
        simp only at h
        obtain ⟨u, hu, _⟩ := s1.rep k d0' q1
        refine ⟨u, hu, ?_⟩
        refine RdO.step oa s1 ?_
        cases q2 : oa.run e1 with
        | ok po e2 =>
          rw [q2] at h
          simp only at h
          intro y F2 H2 fp2 s2 tr2 v2
          have t2 := t1.keep tr2.nil fun c z => Or.inl z
          cases q3 : (po.see e2 fun di e3 => match e3[k]? with
            | some (some d0) => match setD d0 di d with
              | some d1 => RE.ok .non (e3.set k (some d1))
              | none => .no
            | _ => .no) with
          | no => rw [q3] at h; exact h.elim
          | ex c d e4 => rw [q3] at h; exact h.elim
          | ok dn e4 =>
            rw [q3] at h
            simp only at h
            obtain ⟨di, e3, F3, fp3, s3, b3, tr3, kk⟩ := PV.see_ok s2 v2 q3 (by intro z; cases z)
            have t3 := t2.keep tr3.nil fun c z => Or.inl z
            cases q4 : e3[k]? with
            | none => rw [q4] at kk; cases kk
            | some o4 =>
              cases o4 with
              | none => rw [q4] at kk; cases kk
              | some d0 =>
                rw [q4] at kk
                simp only at kk
                cases q5 : setD d0 di d with
                | none => rw [q5] at kk; cases kk
                | some d1 =>
                  rw [q5] at kk
                  injection kk with _ kk; subst kk
                  refine set_ok s3 q4 hu t3 b3 q5 fun F' H' fp' s' tr' => h σ F' H' fp' s' (fun _ _ => rfl) ?_
                  exact ((tr1.trans ((tr2.trans tr3).weak (P := fun c => own fp1 c ∨ c ∈ p) (P1 := fun c => own fp3 c ∨ c ∈ p) (fun _ z => .inl z) fun c z => z.imp id .inr)).trans tr')
        | ex c d2 e2 =>
          rw [q2] at h
          intro dx v2 F2 H2 fp2 p2 s2 t2 tr2 hx2
          exact h dx v2 σ F2 H2 fp2 p2 s2 (fun _ _ => rfl) t2 ((tr1.trans (tr2.weak (P := fun c => own fp1 c ∨ c ∈ p) (P1 := fun c => (own fp2 c ∨ c ∈ p2) ∨ c ∈ p) (fun _ z => .inl z) fun c z => z.imp id .inr)).drop fun c z => .inl z) hx2
        | no => rw [q2] at h; exact h
  | ex c d e1 => rw [q] at h; exact h.x
  | no => rw [q] at h; exact h
/-- x.append(e) -/
def mApp (k : Nat) (m : ME) : ME := fun e => match e[k]? with
  | some (some (.lst true _)) => (m e).bind fun d e1 => match e1[k]? with
    | some (some (.lst true xs)) => if xs.length < LIM then .ok .non (e1.set k (some (.lst true (xs ++ [d])))) else .no
    | _ => .no
  | _ => .no
theorem fewOk {cpos : Pos} {env : Env} (hs : starEach [a] env = (false, eval a env) :: starEach [] env) : ((backTo cpos (starEach [a] env)).all (fun x => !x.1) && (backToKw cpos (keywordEach [] env)).all (fun x => x.1.isSome)
      && decide (([a] : List Expr).length + ([] : List Keyword).length + (if ([] : List Keyword).isEmpty then 0 else 1) < 30)) = true := by
  rw [hs]; rfl
theorem se_app {k : Nat} {x : Str} (C : Cn X N sc fr) (hx : varB N sc k x = true) (hm : SE X g W a m) (hs : starEach [a] X.env = (false, eval a X.env) :: starEach [] X.env) (hl : (p3.endLine == pos.line) = true) :
    SE X g W (.Call (.Attribute (.Name x p2) "append" p3) [a] [] pos) (mApp k m) := PE.imp (pe_bm PySem.F.plainAttrs_list PySem.F.slot_list_append PySem.F.type_list_append mt_append (pv_ok C hx) (pa_cons hm pa_nil hs) rfl (fewOk hs) hl hs) fun σ H Q h => by
  obtain ⟨F, fp, e, s, h⟩ := RdE.iff.mp h
  unfold mApp at h
  cases q : e[k]? with
  | none => rw [q] at h; exact h.elim
  | some o =>
    cases o with
    | none => rw [q] at h; exact h.elim
    | some d0 =>
      cases d0 with
      | lst o xs0 =>
        cases o with
        | false => rw [q] at h; exact h.elim
        | true =>
          rw [q] at h
          simp only at h
          obtain ⟨v, hv, r⟩ := s.rep k _ q
          obtain ⟨a0, vs0, fs0, rfl, ep0, ha0, rs0⟩ := r.lo_inv
          refine ⟨.ref a0, hv, .inl ⟨rfl, vs0, SqL.of ha0⟩, ?_⟩
          refine RdE.iff.mpr ⟨F, fp, e, s, ?_⟩
          cases q1 : m e with
          | ok d e1 =>
            rw [q1] at h
            simp only [RE.bind_ok] at h
            intro u F1 H1 fp1 p s1 t1 tr1
            cases q2 : e1[k]? with
            | none => rw [q2] at h; exact h.elim
            | some o1 =>
              cases o1 with
              | none => rw [q2] at h; exact h.elim
              | some d1 =>
                cases d1 with
                | lst o xs =>
                  cases o with
                  | false => rw [q2] at h; exact h.elim
                  | true =>
                    rw [q2] at h
                    simp only at h
                    split at h
                    · rename_i hl
                      obtain ⟨v1, hv1, r1⟩ := s1.rep k _ q2
                      rw [hv] at hv1
                      cases hv1
                      obtain ⟨a1, vs, fs, ea, ep, ha, rs⟩ := r1.lo_inv
                      cases ea
                      have nd := s1.nd k
                      rw [ep] at nd
                      obtain ⟨n1, n2⟩ := List.nodup_cons.mp nd
                      have own_fs : ∀ c, c ∈ fs → own fp1 c := fun c z => ⟨k, by rw [ep]; exact List.mem_cons_of_mem _ z⟩
                      have own_a : own fp1 a0 := ⟨k, by rw [ep]; exact List.mem_cons_self ..⟩
                      have hH : ∀ b o, b ∉ fp1 k → H1 b = some o → upd H1 a0 (.lst (vs ++ [u])) b = some o := fun b o z w => by
                        rw [upd_ne]
                        · exact w
                        · intro z2; subst z2; rw [ep] at z; exact z (List.mem_cons_self ..)
                      have na : ∀ c, c ∈ fs ++ p → c ≠ a0 := fun c z w => by
                        subst w
                        rcases List.mem_append.mp z with z | z
                        · exact n1 z
                        · exact t1.dj c z own_a
                      have sub : ∀ c, c ∈ (a0 :: (fs ++ p)) → c ∈ fp1 k ∨ c ∈ p := fun c z => by
                        rcases List.mem_cons.mp z with z | z
                        · rw [z, ep]; exact .inl (List.mem_cons_self ..)
                        · exact (List.mem_append.mp z).imp (fun z => by rw [ep]; exact List.mem_cons_of_mem _ z) id
                      refine ⟨a0, vs, u, rfl, rfl, ha, by rw [rs.length]; exact LIM_lineS (Nat.le_of_lt hl), ?_⟩
                      refine h .non F1 _ _ [] (s1.mutate q2 hv (fun c z => ⟨t1.sep c z, t1.dj c z⟩) hH (.lo upd_same ((rs.append (ROs.one t1.r)).mono (fun _ _ z => z) fun c z o w => ?_)) (List.nodup_cons.mpr ⟨fun z => na a0 z rfl, List.nodup_append.mpr ⟨n2, t1.nd, fun x hx y hy z => t1.dj y hy (own_fs y (z ▸ hx))⟩⟩) sub) (TO.z .non) (tr1.trans (Tr.mutate (O := fun _ => True) hH sub)).nil
                      rw [upd_ne (na c z)]
                      exact w
                    · exact h.elim
                | _ => rw [q2] at h; exact h.elim
          | ex c d e1 => rw [q1] at h; exact h
          | no => rw [q1] at h; exact h.elim
      | _ => rw [q] at h; exact h.elim
/-- x.pop() -/
def mPop (k : Nat) : ME := fun e => match e[k]? with
  | some (some (.lst true xs)) => match xs[xs.length - 1]? with
    | some d => if fz d then .ok d (e.set k (some (.lst true xs.dropLast))) else .no
    | none => .no
  | _ => .no
/-! ### x op= e, ints -/
def augD (f : Int → Int → Int) : EV.D → EV.D → Option EV.D
  | .int i, .int j => some (.int (f i j))
  | _, _ => none
def mAug (k : Nat) (f : Int → Int → Int) (m : ME) : MS := fun e => match e[k]? with
  | some (some (.int i)) => (m e).toS fun d e1 => match d with
    | .int j => .nx (e1.set k (some (.int (f i j))))
    | _ => .no
  | _ => .no
theorem ss_aug {k : Nat} {x : Str} {op : Operator} {f : Int → Int → Int} (hN : X.N.Nodup) (hi : X.N[k]? = some x) (hx : Loc X.env.scope x) (h : SE X g W a m) (ho : PIp X op (ipI f)) (hL : k ∉ L) (hf : X.fn x = true ∨ X.env.scope.names.lookup x = some .local) :
    SS X g W L (.AugAssign (.Name x p2) op a pos) (mAug k f m) := PS.imp (ps_aug hN hi hx h ho hf) fun D σ H ⟨F, fp, e, s, h⟩ => by
  unfold mAug at h
  cases q : e[k]? with
  | none => rw [q] at h; exact h.elim
  | some o =>
    cases o with
    | none => rw [q] at h; exact h.elim
    | some d0 =>
      cases d0 with
      | int i =>
        rw [q] at h
        simp only at h
        obtain ⟨v, hv, r⟩ := s.rep k _ q
        cases r.int_inv
        refine ⟨.int i, hv, RdE.iff.mpr ⟨F, fp, e, s, ?_⟩⟩
        cases q1 : m e with
        | ok d e1 =>
          rw [q1] at h
          rw [RE.toS_ok] at h
          intro u F1 H1 fp1 p s1 t1 tr1
          cases d with
          | int j =>
            refine ⟨i, j, rfl, t1.r.int_inv, ?_⟩
            exact h _ F1 H1 _ (s1.store (TO.z (.int _))) (fun j hj => by
              rw [List.getElem?_set_ne]
              intro z; subst z; exact hL hj) (tr1.drop fun c z => (own_store c z).elim .inl fun z => nomatch z)
          | _ => exact h.elim
        | ex c d e1 => rw [q1] at h; exact h.x
        | no => rw [q1] at h; exact h
      | _ => rw [q] at h; exact h.elim
end
end EV

/-! EvJ: loops, comprehensions. -/
namespace EV
open PySem PySem.Spec PyProof.Rows L2

/-- enough turns for every while -/
@[irreducible] def FUEL : Nat := 1000000000
theorem FUEL_eq : FUEL = 1000000000 := by unfold FUEL; rfl
def whileN (t : ME) (m : MS) : Nat → MS
  | 0, _ => .no
  | n + 1, e => match t e with
    | .ok (.bl true) e1 => match m e1 with
      | .nx e2 => whileN t m n e2
      | .ct e2 => whileN t m n e2
      | .bk e2 => .nx e2
      | .rt d e2 => .rt d e2
      | .ex c d e2 => .ex c d e2
      | .no => .no
    | .ok (.bl false) e1 => .nx e1
    | .ok _ _ => .no
    | .ex c d e1 => .ex c d e1
    | .no => .no
def mWhile (t : ME) (m : MS) : MS := whileN t m FUEL
/-- a walk over known items -/
def forL (tg : CT) (m : MS) : List D → MS
  | [], e => .nx e
  | d :: ds, e => match put tg d e with
    | some e1 => match m e1 with
      | .nx e2 => forL tg m ds e2
      | .ct e2 => forL tg m ds e2
      | .bk e2 => .nx e2
      | .rt d e2 => .rt d e2
      | .ex c d e2 => .ex c d e2
      | .no => .no
    | none => .no
section
variable {X : Cx} {N : List Str} {sc : Scope} {fr : List Str} {g : GF} {G : GI} {W : WX} {L : List Nat} {a b c : Expr} {es : List Expr} {st : Stmt} {sts : List Stmt} {pos p2 p3 p4 : Pos} {oa ob : Op} {m n t : ME} {ms ns : MS} {F H F1 H1 F' H' : Hp} {fp fp1 fp' : Nat → List Addr} {σ σ1 : L2.St} {e e' : DEnv} {D : Ends}
theorem ss_while (hp : PassesOwn (model X.prog X.w) X.A X.env X.xe) (hc : ST X g W c t) (hb : SSs X g W L sts ms) : SS X g W L (.While c sts [] pos) (mWhile t ms) := PS.imp (ps_while hp hc hb) fun D σ H ⟨F, fp, e, s, h⟩ => by
  refine ⟨fun n σ H => ∃ F fp e, SO (gOf X g) F H fp σ e ∧ SOut (gOf X g) W L D σ F H fp (whileN t ms n e), ⟨FUEL, F, fp, e, s, h⟩, ?_⟩
  rintro n σ H ⟨F, fp, e, s, h⟩
  cases n with
  | zero => exact h.elim
  | succ n =>
    refine ⟨F, fp, e, s, ?_⟩
    unfold whileN at h
    cases q : t e with
    | ok d e1 =>
      rw [q] at h
      cases d with
      | bl b =>
        intro F1 H1 fp1 s1 tr1
        cases b with
        | true =>
          rw [if_pos rfl]
          refine ⟨fun σ' H' => ∃ F fp e, SO (gOf X g) F H' fp σ' e ∧ SOut (gOf X g) W L D σ' F H' fp (whileN t ms n e), fun σ' H' z => ⟨n, Nat.lt_succ_self n, z⟩, F1, fp1, e1, s1, ?_⟩
          simp only at h
          cases q1 : ms e1 with
          | nx e2 => rw [q1] at h; exact fun σ' F' H' fp' s' l' tr => ⟨F', fp', e2, s', SOut.trans h (tr1.trans tr) l'⟩
          | ct e2 => rw [q1] at h; exact fun σ' F' H' fp' s' l' tr => ⟨F', fp', e2, s', SOut.trans h (tr1.trans tr) l'⟩
          | bk e2 => rw [q1] at h; exact fun σ' F' H' fp' s' l' tr => h σ' F' H' fp' s' l' (tr1.trans tr)
          | rt d e2 => rw [q1] at h; exact fun v σ' F' H' fp' p s' l' t' tr => h v σ' F' H' fp' p s' l' t' (tr1.trans tr)
          | ex c d e2 => rw [q1] at h; exact fun dx v σ' F' H' fp' p s' l' t' tr hx => h dx v σ' F' H' fp' p s' l' t' (tr1.trans tr) hx
          | no => rw [q1] at h; exact h.elim
        | false =>
          rw [if_neg Bool.false_ne_true]
          exact h σ F1 H1 fp1 s1 (fun _ _ => rfl) tr1
      | _ => exact h.elim
    | ex c d e1 => rw [q] at h; exact h.x
    | no => rw [q] at h; exact h
/-! ### what is walked -/
/-- the items of a walk, whatever is made meanwhile; P: what stays as it was -/
structure ItOk (G : GI) (J : It) (F0 : Hp) (P : List Addr) (H0 : Hp) (ds : List EV.D) : Prop where
  go : ∀ F H k d, (∀ a o, F0 a = some o → F a = some o) → (∀ a, a ∈ P → ∀ o, H0 a = some o → H a = some o) → Sb F H → ds[k]? = some d → J.go k H ∧ ∀ x H', J.yld k H x H' →
    ∃ F', (∀ a o, F a = some o → F' a = some o) ∧ (∀ a o, H a = some o → H' a = some o) ∧ Sb F' H' ∧ (∀ a o, F' a = some o → F a = some o ∨ H a = none) ∧ RO G F' H' [] x d
  stop : ∀ F H, (∀ a o, F0 a = some o → F a = some o) → (∀ a, a ∈ P → ∀ o, H0 a = some o → H a = some o) → Sb F H → J.stop ds.length H
/-- a slot that is locked meanwhile -/
abbrev Lk := Option (Nat × EV.D)
def unlk (l : Lk) (e : DEnv) : DEnv := match l with
  | none => e
  | some (j, d) => e.set j (some d)
def lkIn (l : Lk) (Ls : List Nat) : Bool := match l with
  | none => true
  | some (j, _) => decide (j ∈ Ls)
def RE.unlk (l : Lk) : RE → RE
  | .ok d e => .ok d (EV.unlk l e)
  | .ex c d e => .ex c d (EV.unlk l e)
  | .no => .no
def RS.unlk (l : Lk) : RS → RS
  | .nx e => .nx (EV.unlk l e)
  | .bk e => .bk (EV.unlk l e)
  | .ct e => .ct (EV.unlk l e)
  | .rt d e => .rt d (EV.unlk l e)
  | .ex c d e => .ex c d (EV.unlk l e)
  | .no => .no
def LkOk (G : GI) (σ : L2.St) (F H : Hp) (fp : Nat → List Addr) (P : List Addr) (l : Lk) : Prop := match l with
  | none => P = []
  | some (j, d) => ∃ v, σ[j]? = some (some v) ∧ TO G F H fp P v d
theorem LkOk.keep {P q : List Addr} {l : Lk} {O1 : Addr → Prop} (k : LkOk G σ F H fp P l) (tr : Tr F H (own fp) F1 H1 O1) (h : ∀ c, own fp1 c → O1 c) : LkOk G σ F1 H1 fp1 P l := by
  cases l with
  | none => exact k
  | some jd =>
    obtain ⟨v, h1, t⟩ := k
    exact ⟨v, h1, t.keep tr h⟩
theorem LkOk.apart {P q : List Addr} {l : Lk} {O1 : Addr → Prop} (k : LkOk G σ F H fp P l) (tr : Tr F H (own fp) F1 H1 O1) (h : ∀ c, c ∈ q → O1 c) : ∀ c, c ∈ P → c ∈ q → False := by
  cases l with
  | none =>
    have k : P = [] := k
    subst k
    exact fun c z => nomatch z
  | some jd =>
    obtain ⟨v, h1, t⟩ := k
    exact t.apart tr h
theorem set_self' {i : Nat} {v : V} {σ : L2.St} (h : σ[i]? = some (some v)) : σ.set i (some v) = σ := by
  refine List.ext_getElem? fun j => ?_
  by_cases hj : j = i
  · subst hj
    have hl : j < σ.length := (List.getElem?_eq_some_iff.mp h).1
    rw [List.getElem?_set_self hl, h]
  · rw [List.getElem?_set_ne (Ne.symm hj)]
theorem SO.unlk {P : List Addr} {l : Lk} (k : LkOk G σ F H fp P l) (s : SO G F H fp σ1 e) (hj : ∀ j d, l = some (j, d) → σ1[j]? = σ[j]?) : ∃ fp', SO G F H fp' σ1 (EV.unlk l e) ∧ ∀ a, own fp' a → own fp a ∨ a ∈ P := by
  cases l with
  | none => exact ⟨fp, s, fun _ z => .inl z⟩
  | some jd =>
    obtain ⟨j, d⟩ := jd
    obtain ⟨v, h1, t⟩ := k
    have s2 := s.store (i := j) t
    rw [set_self' ((hj j d rfl).trans h1)] at s2
    exact ⟨_, s2, fun a z => own_store a z⟩
theorem lkIn_ok {l : Lk} {Ls : List Nat} (h : lkIn l Ls = true) {j : Nat} {d : EV.D} (e : l = some (j, d)) : j ∈ Ls := by
  subst e; exact of_decide_eq_true h
theorem TrL {P : List Addr} {O' : Addr → Prop} (t1 : Tr F H (own fp) F1 H1 (fun a => own fp1 a ∨ a ∈ P)) (t2 : Tr F1 H1 (own fp1) F' H' O') : Tr F H (own fp) F' H' (fun a => O' a ∨ a ∈ P) :=
  t1.trans (t2.weak (fun _ z => .inl z) fun c z => z.elim .inl fun z => .inr (.inr z))
theorem SOut.unlk {P : List Addr} {l : Lk} {Ls : List Nat} {r : RS} (hl : lkIn l Ls = true) (t1 : Tr F H (own fp) F1 H1 (fun a => own fp1 a ∨ a ∈ P)) (k : LkOk G σ F1 H1 fp1 P l) (h : SOut G W L D σ F H fp (r.unlk l)) : SOut G W (Ls ++ L) D σ F1 H1 fp1 r := by
  have lL : ∀ {σ' : L2.St}, (∀ i, i ∈ Ls ++ L → σ'[i]? = σ[i]?) → ∀ i, i ∈ L → σ'[i]? = σ[i]? := fun l' i z => l' i (List.mem_append_right _ z)
  have lj : ∀ {σ' : L2.St}, (∀ i, i ∈ Ls ++ L → σ'[i]? = σ[i]?) → ∀ j d, l = some (j, d) → σ'[j]? = σ[j]? := fun l' j d z => l' j (List.mem_append_left _ (lkIn_ok hl z))
  cases r with
  | nx e =>
    exact fun σ' F' H' fp' s' l' tr => by
      obtain ⟨fp2, s2, o2⟩ := SO.unlk (k.keep (q := []) tr fun _ z => z) s' (lj l')
      exact h σ' F' H' fp2 s2 (lL l') ((TrL t1 tr).drop o2)
  | bk e =>
    exact fun σ' F' H' fp' s' l' tr => by
      obtain ⟨fp2, s2, o2⟩ := SO.unlk (k.keep (q := []) tr fun _ z => z) s' (lj l')
      exact h σ' F' H' fp2 s2 (lL l') ((TrL t1 tr).drop o2)
  | ct e =>
    exact fun σ' F' H' fp' s' l' tr => by
      obtain ⟨fp2, s2, o2⟩ := SO.unlk (k.keep (q := []) tr fun _ z => z) s' (lj l')
      exact h σ' F' H' fp2 s2 (lL l') ((TrL t1 tr).drop o2)
  | rt d e =>
    exact fun v σ' F' H' fp' p s' l' t' tr => by
      obtain ⟨fp2, s2, o2⟩ := SO.unlk (k.keep (q := []) tr fun _ z => .inl z) s' (lj l')
      refine h v σ' F' H' fp2 p s2 (lL l') ⟨t'.r, t'.nd, t'.sep, fun a z w => ?_⟩ ((TrL t1 tr).drop fun c z => ?_)
      · exact (o2 a w).elim (t'.dj a z) fun w => k.apart tr (q := p) (fun c z => .inr z) a w z
      · exact z.elim (fun z => (o2 c z).imp .inl id) fun z => .inl (.inr z)
  | ex c d e =>
    exact fun dx v σ' F' H' fp' p s' l' t' tr hx => by
      obtain ⟨fp2, s2, o2⟩ := SO.unlk (k.keep (q := []) tr fun _ z => .inl z) s' (lj l')
      refine h dx v σ' F' H' fp2 p s2 (lL l') ⟨t'.r, t'.nd, t'.sep, fun a z w => ?_⟩ ((TrL t1 tr).drop fun c z => ?_) hx
      · exact (o2 a w).elim (t'.dj a z) fun w => k.apart tr (q := p) (fun c z => .inr z) a w z
      · exact z.elim (fun z => (o2 c z).imp .inl id) fun z => .inl (.inr z)
  | no => exact h
theorem EOut.unlk {P : List Addr} {l : Lk} {Q : VK} {r : RE} (t1 : Tr F H (own fp) F1 H1 (fun a => own fp1 a ∨ a ∈ P)) (k : LkOk G σ F1 H1 fp1 P l) (h : EOut G W σ F H fp Q (r.unlk l)) : EOut G W σ F1 H1 fp1 Q r := by
  cases r with
  | ok d e =>
    exact fun v F' H' fp' p s' t' tr => by
      obtain ⟨fp2, s2, o2⟩ := SO.unlk (k.keep (q := []) tr fun _ z => .inl z) s' (fun _ _ _ => rfl)
      refine h v F' H' fp2 p s2 ⟨t'.r, t'.nd, t'.sep, fun a z w => ?_⟩ ((TrL t1 tr).drop fun c z => ?_)
      · exact (o2 a w).elim (t'.dj a z) fun w => k.apart tr (q := p) (fun c z => .inr z) a w z
      · exact z.elim (fun z => (o2 c z).imp .inl id) fun z => .inl (.inr z)
  | ex c d e =>
    exact fun dx v F' H' fp' p s' t' tr hx => by
      obtain ⟨fp2, s2, o2⟩ := SO.unlk (k.keep (q := []) tr fun _ z => .inl z) s' (fun _ _ _ => rfl)
      refine h dx v F' H' fp2 p s2 ⟨t'.r, t'.nd, t'.sep, fun a z w => ?_⟩ ((TrL t1 tr).drop fun c z => ?_) hx
      · exact (o2 a w).elim (t'.dj a z) fun w => k.apart tr (q := p) (fun c z => .inr z) a w z
      · exact z.elim (fun z => (o2 c z).imp .inl id) fun z => .inl (.inr z)
  | no => exact h
inductive RI where
  | ok (ds : List EV.D) (l : Lk) (e : DEnv) | ex (c : Nat) (d : EV.D) (e : DEnv) | no
abbrev MI := DEnv → RI
def IOut (G : GI) (W : WX) (σ : L2.St) (F H : Hp) (fp : Nat → List Addr) (R : It → Hp → Prop) : RI → Prop
  | .ok ds l e' => ∀ J F' H' fp' P, SO G F' H' fp' σ e' → LkOk G σ F' H' fp' P l → Tr F H (own fp) F' H' (fun a => own fp' a ∨ a ∈ P) → ItOk G J F' P H' ds → R J H'
  | .ex c d e' => XOut G W σ F H fp c d e'
  | .no => False
def RdI (G : GI) (W : WX) (m : MI) : TI := fun σ H R => ∃ F fp e, SO G F H fp σ e ∧ IOut G W σ F H fp R (m e)
abbrev SI (X : Cx) (g : GF) (W : WX) (tg it : Expr) (m : MI) : Prop := PI X tg it (RdI (gOf X g) W m)
theorem PI.imp {tg it : Expr} {t u : TI} (h : PI X tg it t) (i : ∀ σ H Q, u σ H Q → t σ H Q) : PI X tg it u := ⟨fun pins s σ H Q I q => h.run pins s σ H Q I (i σ H Q q)⟩
def itemsD : EV.D → Option (List EV.D)
  | .tup ds => some ds
  | .lst _ ds => some ds
  | .scr ns => some (ns.map .int)
  | _ => none
/-- a list, a tuple, all of it shared -/
def mIt (m : ME) : MI := fun e => match m e with
  | .ok d e1 => match itemsD (frz d) with
    | some ds => .ok ds none e1
    | none => .no
  | .ex c d e1 => .ex c d e1
  | .no => .no
/-- what a name holds, the name not to be used meanwhile -/
def mItV (j : Nat) : MI := fun e => match e[j]? with
  | some (some (.lst true ds)) => if fzs ds = true then .ok ds (some (j, .lst true ds)) (e.set j none) else .no
  | some (some d) => match itemsD (frz d) with
    | some ds => if fz d = true then .ok ds none e else .no
    | none => .no
  | _ => .no
theorem itok_list {K : PySem.W.Frag} (hK : G.K = K) {A : Addr} {P : List Addr} {H0 : Hp} {vs : List V} {ds : List EV.D} (h : ∀ F' H', (∀ a o, F a = some o → F' a = some o) → (∀ a, a ∈ P → ∀ o, H0 a = some o → H' a = some o) → Sb F' H' → SqL K H' A vs) (r : ROs G F H [] vs ds) : ItOk G (Itl K A) F P H0 ds where
  go := fun F' H' k d h1 hP h2 h3 => by
    obtain ⟨u, hu, ru⟩ := r.get h3
    refine ⟨⟨vs, u, h F' H' h1 hP h2, hu⟩, fun x H2 y => ?_⟩
    obtain ⟨rfl, y⟩ := y
    have e := y vs (h F' H2 h1 hP h2)
    rw [hu] at e
    cases e
    exact ⟨F', fun _ _ z => z, fun _ _ z => z, h2, fun _ _ z => .inl z, ru.monoZ h1⟩
  stop := fun F' H' h1 hP h2 => ⟨vs, h F' H' h1 hP h2, by rw [r.length]; exact Nat.le_refl _⟩
theorem itok_tup {K : PySem.W.Frag} {A : Addr} {vs : List V} {P : List Addr} {H0 : Hp} {ds : List EV.D} (h : F A = some (.tup vs)) (r : ROs G F H [] vs ds) : ItOk G (Itt K A) F P H0 ds where
  go := fun F' H' k d h1 hP h2 h3 => by
    obtain ⟨u, hu, ru⟩ := r.get h3
    have q : SqT K H' A vs := SqT.of (h2 _ _ (h1 _ _ h))
    refine ⟨⟨vs, u, q, hu⟩, fun x H2 y => ?_⟩
    obtain ⟨rfl, y⟩ := y
    have e := y vs q
    rw [hu] at e
    cases e
    exact ⟨F', fun _ _ z => z, fun _ _ z => z, h2, fun _ _ z => .inl z, ru.monoZ h1⟩
  stop := fun F' H' h1 hP h2 => ⟨vs, SqT.of (h2 _ _ (h1 _ _ h)), by rw [r.length]; exact Nat.le_refl _⟩
/-- a list or a tuple walked -/
theorem pi_seq {tg l : Expr} {tl : TE} (hl : PE X l tl) : PI X tg l (fun σ H R => tl σ H fun x H1 => ∃ A, x = .ref A ∧ (((∃ xs, SqL X.K H1 A xs) ∧ R (Itl X.K A) H1) ∨ ((∃ xs, SqT X.K H1 A xs) ∧ R (Itt X.K A) H1))) := by
  refine ⟨fun pins s σ H R I h => ?_⟩
  refine thn (hl.run pins s σ H _ I h) fun v s1 ⟨x, H1, I1, r1, q1⟩ => ?_
  obtain ⟨A, e, q1⟩ := q1
  subst e
  cases r1
  rcases q1 with ⟨⟨xs, hq⟩, q⟩ | ⟨⟨xs, hq⟩, q⟩
  · obtain ⟨its, rv, p, hz⟩ := I1.list hq
    refine wpAny_pyIter_list p.isList ?_
    refine ⟨s1.heap.objs.size, [s1.heap.objs.size], _, _, H1, rfl, I1.kept (t' := s1.toks) fun b o e => Heap.get?_push_of_some _ e, turn_list A _, ⟨_, Heap.get?_push_size _ rfl, rfl, rfl⟩, fun b hb => ?_, q⟩
    have e : b = s1.heap.objs.size := by simpa using hb
    subst e
    exact I1.fpOk (Nat.le_refl _) (I1.hok.fresh (Nat.le_refl _))
  · obtain ⟨its, rv, p, hz⟩ := I1.tuple hq
    refine wpAny_pyIter_tuple (show s1.heap.IsTuple A its.toArray from p) ?_
    refine ⟨s1.heap.objs.size, [s1.heap.objs.size], _, _, H1, rfl, I1.kept (t' := s1.toks) fun b o e => Heap.get?_push_of_some _ e, turn_tuple A _, ⟨_, Heap.get?_push_size _ rfl, rfl, rfl⟩, fun b hb => ?_, q⟩
    have e : b = s1.heap.objs.size := by simpa using hb
    subst e
    exact I1.fpOk (Nat.le_refl _) (I1.hok.fresh (Nat.le_refl _))
theorem si_seq {tg l : Expr} (hl : SE X g W l m) : SI X g W tg l (mIt m) := PI.imp (pi_seq hl.z) fun σ H R ⟨F, fp, e, s, h⟩ => by
  refine ⟨F, fp, e, s, ?_⟩
  unfold mIt at h
  cases q : m e with
  | ok d e1 =>
    rw [q] at h
    intro v F1 H1 fp1 s1 r tr
    simp only at h
    generalize frz d = dz at h r
    cases dz with
    | tup ds =>
      obtain ⟨A, vs, rfl, ha, ra⟩ := r.tup_inv
      exact ⟨A, rfl, .inr ⟨⟨vs, SqT.of (s1.sub _ _ ha)⟩, h _ F1 H1 fp1 [] s1 rfl tr.nil (itok_tup ha ra)⟩⟩
    | lst o ds =>
      obtain ⟨_, A, vs, rfl, ha, ra⟩ := r.lst_inv
      exact ⟨A, rfl, .inl ⟨⟨vs, SqL.of (s1.sub _ _ ha)⟩, h _ F1 H1 fp1 [] s1 rfl tr.nil (itok_list rfl (fun F' H' h1 _ h2 => SqL.of (h2 _ _ (h1 _ _ ha))) ra)⟩⟩
    | scr ns =>
      obtain ⟨A, rfl, ha⟩ := r.scr_inv
      exact ⟨A, rfl, .inl ⟨⟨_, SqL.le ha s1.sub⟩, h _ F1 H1 fp1 [] s1 rfl tr.nil (itok_list (H := H1) rfl (fun F' H' h1 _ h2 => SqL.le ha fun c o z => h2 c o (h1 c o z)) (ints_RO ns))⟩⟩
    | _ => exact h.elim
  | ex c d e1 => rw [q] at h; exact h
  | no => rw [q] at h; exact h
/-- range(n), range(a, b) -/
def rangeD (lo hi : Int) : List EV.D := (List.range (hi - lo).toNat).map fun k => .int (lo + (k : Nat))
theorem itok_range (lo hi : Int) {P : List Addr} {H0 : Hp} : ItOk G (Itr lo (hi - lo).toNat) F P H0 (rangeD lo hi) where
  go := fun F' H' k d h1 hP h2 h3 => by
    unfold rangeD at h3
    rw [List.getElem?_map] at h3
    by_cases hk : k < (hi - lo).toNat
    · rw [List.getElem?_range hk] at h3
      injection h3 with h3; subst h3
      refine ⟨hk, fun x H2 y => ?_⟩
      obtain ⟨rfl, rfl⟩ := y
      exact ⟨F', fun _ _ z => z, fun _ _ z => z, h2, fun _ _ z => .inl z, .int _⟩
    · rw [List.getElem?_eq_none (by simpa using hk)] at h3
      cases h3
  stop := fun F' H' h1 hP h2 => by
    unfold rangeD
    rw [List.length_map, List.length_range]
    exact Nat.le_refl _
def rngOk (i : Int) : Bool := Nat.ble i.natAbs 4611686018427387903
theorem rngOk_iff {i : Int} (h : rngOk i = true) : -(2 ^ 62) ≤ i ∧ i < 2 ^ 62 := by
  have h2 := Nat.le_of_ble_eq_true h
  omega
def mRg1 (m : ME) : MI := fun e => match m e with
  | .ok (.int j) e1 => if rngOk j = true then .ok (rangeD 0 j) none e1 else .no
  | .ok _ _ => .no
  | .ex c d e1 => .ex c d e1
  | .no => .no
def mRg2 (m n : ME) : MI := fun e => match m e with
  | .ok (.int i) e1 => match n e1 with
    | .ok (.int j) e2 => if (rngOk i && rngOk j) = true then .ok (rangeD i j) none e2 else .no
    | .ok _ _ => .no
    | .ex c d e2 => .ex c d e2
    | .no => .no
  | .ok _ _ => .no
  | .ex c d e1 => .ex c d e1
  | .no => .no
theorem si_rg1 {tg : Expr} (C : Cn X N sc fr) (h1 : ("range" : Str) ∈ fr) (h2 : glB sc "range" = true) (ha : SE X g W a m) (hs : starEach [a] X.env = [(false, eval a X.env)]) : SI X g W tg (.Call (.Name "range" p2) [a] [] pos) (mRg1 m) :=
  PI.imp (pi_range1 (gl_ok C h2) (C.hfr _ h1) (pa_cons ha pa_nil hs) hs) fun σ H R ⟨F, fp, e, s, h⟩ => by
  refine RdE.iff.mpr ⟨F, fp, e, s, ?_⟩
  unfold mRg1 at h
  cases q : m e with
  | ok d e1 =>
    rw [q] at h
    intro v F1 H1 fp1 p s1 t1 tr
    cases d with
    | int j =>
      simp only at h
      split at h
      · rename_i hj
        obtain ⟨b1, b2⟩ := rngOk_iff hj
        refine ⟨j, by rw [t1.r.int_inv], b1, b2, ?_⟩
        have z := itok_range (G := gOf X g) (F := F1) (P := []) (H0 := H1) 0 j
        rw [Int.sub_zero] at z
        exact h _ F1 H1 fp1 [] s1 rfl (tr.drop fun c z => .inl z).nil z
      · exact h.elim
    | _ => exact h.elim
  | ex c d e1 => rw [q] at h; exact h
  | no => rw [q] at h; exact h
theorem si_rg2 {tg : Expr} (C : Cn X N sc fr) (h1 : ("range" : Str) ∈ fr) (h2 : glB sc "range" = true) (ha : SE X g W a m) (hb : SE X g W b n) (hs : starEach [a, b] X.env = [(false, eval a X.env), (false, eval b X.env)]) (hs2 : starEach [b] X.env = [(false, eval b X.env)]) :
    SI X g W tg (.Call (.Name "range" p2) [a, b] [] pos) (mRg2 m n) :=
  PI.imp (pi_range2 (gl_ok C h2) (C.hfr _ h1) (pa_cons ha (pa_cons hb pa_nil hs2) (by rw [hs, hs2])) hs hs2) fun σ H R ⟨F, fp, e, s, h⟩ => by
  refine RdE.iff.mpr ⟨F, fp, e, s, ?_⟩
  unfold mRg2 at h
  cases q : m e with
  | ok d e1 =>
    rw [q] at h
    intro v F1 H1 fp1 p s1 t1 tr1
    cases d with
    | int i =>
      simp only at h
      refine RdE.iff.mpr ⟨F1, fp1, e1, s1, ?_⟩
      cases q1 : n e1 with
      | ok d2 e2 =>
        rw [q1] at h
        intro v2 F2 H2 fp2 p2 s2 t2 tr2
        cases d2 with
        | int j =>
          simp only at h
          split at h
          · rename_i hj
            rw [Bool.and_eq_true] at hj
            obtain ⟨b1, b2⟩ := rngOk_iff hj.1
            obtain ⟨b3, b4⟩ := rngOk_iff hj.2
            refine ⟨i, j, by rw [t1.r.int_inv, t2.r.int_inv], ⟨b1, b2, b3, b4⟩, ?_⟩
            exact h _ F2 H2 fp2 [] s2 rfl ((tr1.drop fun c z => .inl z).trans (tr2.drop fun c z => .inl z)).nil (itok_range i j)
          · exact h.elim
        | _ => exact h.elim
      | ex c d2 e2 => rw [q1] at h; exact XOut.trans h (tr1.drop fun c z => .inl z)
      | no => rw [q1] at h; exact h.elim
    | _ => exact h.elim
  | ex c d e1 => rw [q] at h; exact h
  | no => rw [q] at h; exact h
/-- for target in iter -/
def mFor (Ls : List Nat) (tg : CT) (mi : MI) (m : MS) : MS := fun e => match mi e with
  | .ok ds l e1 => if lkIn l Ls = true then (forL tg m ds e1).unlk l else .no
  | .ex c d e1 => .ex c d e1
  | .no => .no
theorem SO.growT (s : SO G F H fp σ e) (h1 : ∀ a o, F a = some o → F' a = some o) (h2 : ∀ a o, H a = some o → H' a = some o) (h4 : ∀ a o, F' a = some o → F a = some o ∨ H a = none) : Tr F H (own fp) F' H' (own fp) :=
  ⟨h1, fun b o _ z => h2 b o z, fun b z => .inl z, fun b o z => (h4 b o z).imp id .inr⟩
theorem itok_own {K : PySem.W.Frag} (hK : G.K = K) {A : Addr} {P : List Addr} {vs : List V} {ds : List EV.D} (hA : A ∈ P) (h : H A = some (.lst vs)) (r : ROs G F H [] vs ds) : ItOk G (Itl K A) F P H ds := itok_list hK (fun F' H' h1 hP h2 => SqL.of (hP A hA _ h)) r
theorem si_v (C : Cn X N sc fr) {tg : Expr} {j : Nat} {x : Str} (hx : varB N sc j x = true) : SI X g W tg (.Name x pos) (mItV j) := PI.imp (pi_seq (pv_ok C hx)) fun σ H R ⟨F, fp, e, s, h⟩ => by
  unfold mItV at h
  cases q : e[j]? with
  | none => rw [q] at h; exact h.elim
  | some o =>
    cases o with
    | none => rw [q] at h; exact h.elim
    | some d =>
      rw [q] at h
      obtain ⟨v, hv, r⟩ := s.rep j d q
      refine ⟨v, hv, ?_⟩
      have zz : ∀ d', d' = d → fz d' = true → (∀ ds, itemsD (frz d') = some ds → IOut (gOf X g) W σ F H fp R (.ok ds none e) → ∃ A, v = .ref A ∧ (((∃ xs, SqL X.K H A xs) ∧ R (Itl X.K A) H) ∨ ((∃ xs, SqT X.K H A xs) ∧ R (Itt X.K A) H))) := by
        intro d' e1 hf ds hi h
        subst e1
        rw [r.nil_of_fz hf] at r
        have r := r.frz (F' := F) (H' := H) (fun _ _ z => z) fun a z => nomatch z
        generalize frz d' = dz at hi r
        cases dz with
        | tup ds' =>
          injection hi with hi; subst hi
          obtain ⟨A, vs, rfl, ha, ra⟩ := r.tup_inv
          exact ⟨A, rfl, .inr ⟨⟨vs, SqT.of (s.sub _ _ ha)⟩, h _ F H fp [] s rfl Tr.refl.nil (itok_tup ha ra)⟩⟩
        | lst o ds' =>
          injection hi with hi; subst hi
          obtain ⟨_, A, vs, rfl, ha, ra⟩ := r.lst_inv
          exact ⟨A, rfl, .inl ⟨⟨vs, SqL.of (s.sub _ _ ha)⟩, h _ F H fp [] s rfl Tr.refl.nil (itok_list rfl (fun F' H' h1 _ h2 => SqL.of (h2 _ _ (h1 _ _ ha))) ra)⟩⟩
        | scr ns =>
          injection hi with hi; subst hi
          obtain ⟨A, rfl, ha⟩ := r.scr_inv
          exact ⟨A, rfl, .inl ⟨⟨_, SqL.le ha s.sub⟩, h _ F H fp [] s rfl Tr.refl.nil (itok_list (H := H) rfl (fun F' H' h1 _ h2 => SqL.le ha fun c o z => h2 c o (h1 c o z)) (ints_RO ns))⟩⟩
        | _ => cases hi
      have gen : (∀ ds, d ≠ .lst true ds) → (match itemsD (frz d) with
          | some ds => if fz d = true then RI.ok ds none e else .no
          | none => .no) = mItV j e → ∃ A, v = .ref A ∧ (((∃ xs, SqL X.K H A xs) ∧ R (Itl X.K A) H) ∨ ((∃ xs, SqT X.K H A xs) ∧ R (Itt X.K A) H)) := by
        intro _ he
        have h : IOut (gOf X g) W σ F H fp R (mItV j e) := by
          unfold mItV; rw [q]; exact h
        rw [← he] at h
        cases q2 : itemsD (frz d) with
        | none => rw [q2] at h; exact h.elim
        | some ds =>
          rw [q2] at h
          simp only at h
          by_cases hf : fz d = true
          · rw [if_pos hf] at h
            exact zz d rfl hf ds q2 h
          · rw [if_neg hf] at h; exact h.elim
      cases d with
      | lst o ds =>
        cases o with
        | true =>
          simp only at h
          by_cases hf : fzs ds = true
          · rw [if_pos hf] at h
            obtain ⟨A, vs, fs, rfl, ep, ha, rs⟩ := r.lo_inv
            obtain ⟨v2, hv2, t2⟩ := s.take q
            rw [hv] at hv2
            cases hv2
            have hfs : fs = [] := rs.nil_of_fz hf
            subst hfs
            exact ⟨A, rfl, .inl ⟨⟨vs, SqL.of ha⟩, h _ F H _ (fp j) s.forget ⟨_, hv, t2⟩ (Tr.refl.drop fun c z => own_take c z) (itok_own rfl (by rw [ep]; exact List.mem_cons_self ..) ha rs)⟩⟩
          · rw [if_neg hf] at h; exact h.elim
        | false => exact gen (fun ds' z => by cases z) (by unfold mItV; rw [q])
      | _ => exact gen (fun ds' z => by cases z) (by unfold mItV; rw [q])
theorem ss_for {Ls : List Nat} {tg it : Expr} {t : CT} {r : TG} {mi : MI} (hp : PassesOwn (model X.prog X.w) X.A X.env X.xe) (hc : X.calm = true) (hi : SI X g W tg it mi) (hg : PG X tg r) (hk : GOk (gOf X g) (Ls ++ L) t r) (hb : SSs X g W (Ls ++ L) sts ms)
    (hs : ∀ x, foldedSetIterable it X.env x = pure x) : SS X g W L (.For tg it sts [] pos) (mFor Ls t mi ms) := PS.imp (ps_for hp hc hi hg hb hs) fun D σ H ⟨F, fp, e, s, h⟩ => by
  refine ⟨F, fp, e, s, ?_⟩
  unfold mFor at h
  cases q : mi e with
  | ok ds l e1 =>
    rw [q] at h
    intro J F1 H1 fp1 P s1 lk tr1 ok
    simp only at h
    by_cases hl : lkIn l Ls = true
    rotate_left
    · rw [if_neg hl] at h; exact h.elim
    rw [if_pos hl] at h
    have h := SOut.unlk hl tr1 lk h
    have hP : ∀ a, a ∈ P → ¬ own fp1 a := fun a z => by
      cases l with
      | none =>
        have lk : P = [] := lk
        subst lk; cases z
      | some jd => obtain ⟨v, _, t⟩ := lk; exact t.dj a z
    refine ⟨fun i mm σ' H' => mm + i = ds.length ∧ ∃ F fp e, SO (gOf X g) F H' fp σ' e ∧ Tr F1 H1 (own fp1) F H' (own fp) ∧ SOut (gOf X g) W (Ls ++ L) D σ' F H' fp (forL t ms (ds.drop i) e), ⟨ds.length, rfl, F1, fp1, e1, s1, Tr.refl, h⟩, ?_⟩
    rintro i mm σ2 H2 ⟨hm, F2, fp2, e2, s2, T2, h2⟩
    have pP : ∀ a, a ∈ P → ∀ o, H1 a = some o → H2 a = some o := fun a z o w => T2.fr a o (hP a z) w
    cases qd : ds[i]? with
    | none =>
      have hi : ds.length ≤ i := List.getElem?_eq_none_iff.mp qd
      have he : i = ds.length := by omega
      rw [List.drop_of_length_le hi] at h2
      exact .inl ⟨by rw [he]; exact ok.stop F2 H2 T2.ff pP s2.sub, h2 σ2 F2 H2 fp2 s2 (fun _ _ => rfl) Tr.refl⟩
    | some d =>
      obtain ⟨hi, hd⟩ := List.getElem?_eq_some_iff.mp qd
      obtain ⟨g1, g2⟩ := ok.go F2 H2 i d T2.ff pP s2.sub qd
      have ed : ds.drop i = d :: ds.drop (i + 1) := by rw [List.drop_eq_getElem_cons hi, hd]
      rw [ed] at h2
      unfold forL at h2
      refine .inr ⟨g1, fun σ' H' => ∃ F fp e, SO (gOf X g) F H' fp σ' e ∧ Tr F1 H1 (own fp1) F H' (own fp) ∧ SOut (gOf X g) W (Ls ++ L) D σ' F H' fp (forL t ms (ds.drop (i + 1)) e), fun σ' H' z => ⟨mm - 1, by omega, by omega, z⟩, fun x H3 y => ?_⟩
      obtain ⟨F3, k1, k2, k3, k4, rx⟩ := g2 x H3 y
      have s3 := s2.grow k1 k2 k3 k4
      have tr3 := s2.growT k1 k2 k4
      cases q1 : put t d e2 with
      | none => rw [q1] at h2; exact h2.elim
      | some e3 =>
        rw [q1] at h2
        simp only at h2
        refine hk s3 (TO.z rx) q1 fun σ4 fp4 s4 l4 o4 => ⟨F3, fp4, e3, s4, ?_⟩
        have tr4 : Tr F2 H2 (own fp2) F3 H3 (own fp4) := tr3.drop fun c z => (o4 c z).elim id fun z => nomatch z
        cases q2 : ms e3 with
        | nx e4 => rw [q2] at h2; exact fun σ' F' H' fp' s' l' tr => ⟨F', fp', e4, s', T2.trans (tr4.trans tr), SOut.trans h2 (tr4.trans tr) fun j z => (l' j z).trans (l4 j z)⟩
        | ct e4 => rw [q2] at h2; exact fun σ' F' H' fp' s' l' tr => ⟨F', fp', e4, s', T2.trans (tr4.trans tr), SOut.trans h2 (tr4.trans tr) fun j z => (l' j z).trans (l4 j z)⟩
        | bk e4 => rw [q2] at h2; exact fun σ' F' H' fp' s' l' tr => h2 σ' F' H' fp' s' (fun j z => (l' j z).trans (l4 j z)) (tr4.trans tr)
        | rt d e4 => rw [q2] at h2; exact fun v σ' F' H' fp' p s' l' t' tr => h2 v σ' F' H' fp' p s' (fun j z => (l' j z).trans (l4 j z)) t' (tr4.trans tr)
        | ex c d e4 => rw [q2] at h2; exact fun dx v σ' F' H' fp' p s' l' t' tr hx => h2 dx v σ' F' H' fp' p s' (fun j z => (l' j z).trans (l4 j z)) t' (tr4.trans tr) hx
        | no => rw [q2] at h2; exact h2.elim
  | ex c d e1 => rw [q] at h; exact h.x
  | no => rw [q] at h; exact h.elim
end
end EV

/-! EvK: list comprehensions. -/
namespace EV
open PySem PySem.Spec PyProof.Rows L2

def wipeE : List Nat → DEnv → DEnv
  | [], e => e
  | i :: is, e => (wipeE is e).set i none
/-- shared values of the names that a comprehension has for its own come back -/
def backE (e1 : DEnv) : List Nat → DEnv → DEnv
  | [], e => e
  | i :: is, e => match e1[i]? with
    | some (some d) => if fz d = true then (backE e1 is e).set i (some d) else backE e1 is e
    | _ => backE e1 is e
inductive RL where
  | ok (acc : List D) (e : DEnv) | no
/-- the turns of a comprehension -/
def lcL (own : List Nat) (tg : CT) (cond elt : ME) : List D → List D → DEnv → RL
  | [], acc, e => .ok acc e
  | d :: ds, acc, e => match put tg d e with
    | some e1 => match cond e1 with
      | .ok (.bl true) e2 => match elt e2 with
        | .ok y e3 => if acc.length < LIM then lcL own tg cond elt ds (acc ++ [y]) (wipeE own e3) else .no
        | _ => .no
      | .ok (.bl false) e2 => lcL own tg cond elt ds acc (wipeE own e2)
      | _ => .no
    | none => .no
def mLc (own : List Nat) (tg : CT) (mi : MI) (cond elt : ME) : ME := fun e => match mi e with
  | .ok ds l e1 => RE.unlk l (match lcL own tg cond elt ds [] (wipeE own e1) with
    | .ok acc e2 => .ok (.lst true acc) (backE e1 own e2)
    | .no => .no)
  | .ex c d e1 => .ex c d e1
  | .no => .no
def mTrue : ME := fun e => .ok (.bl true) e
abbrev W0 : WX := fun _ _ _ _ => False
section
variable {X : Cx} {N : List Str} {sc : Scope} {fr : List Str} {g : GF} {G : GI} {W : WX} {L : List Nat} {a b c : Expr} {es : List Expr} {pos p2 p3 p4 : Pos} {m n t : ME} {F H F1 H1 F' H' : Hp} {fp fp1 fp' : Nat → List Addr} {σ σ1 : L2.St} {e e' : DEnv}
theorem SO.unslot {i : Nat} (s : SO G F H fp σ e) (h : ∀ d, e[i]? ≠ some (some d)) : SO G F H fp (σ.set i none) e where
  sub := s.sub
  rep := fun j d hj => by
    obtain ⟨v, hv, r⟩ := s.rep j d hj
    refine ⟨v, ?_, r⟩
    rw [List.getElem?_set_ne]
    · exact hv
    · intro z; subst z; exact h d hj
  nd := s.nd
  dj := s.dj
  sep := s.sep
  th := s.th
  len := by rw [List.length_set]; exact s.len
theorem set_none {i : Nat} {e : DEnv} : ∀ d, (e.set i none)[i]? ≠ some (some d) := fun d h => by
  by_cases hi : i < e.length
  · rw [List.getElem?_set_self hi] at h; cases h
  · rw [List.getElem?_eq_none (by simpa using hi)] at h; cases h
theorem SO.wipe (s : SO G F H fp σ e) : ∀ own : List Nat, SO G F H (fun j => if j ∈ own then [] else fp j) (wipe σ own) (wipeE own e)
  | [] => by
    have q : (fun j => if j ∈ ([] : List Nat) then [] else fp j) = fp := funext fun j => if_neg (by simp)
    rw [q]; exact s
  | i :: is => by
    have s1 := ((SO.wipe s is).forget (i := i)).unslot set_none
    have q : (fun j => if j = i then [] else (fun j => if j ∈ is then [] else fp j) j) = fun j => if j ∈ i :: is then [] else fp j := funext fun j => by
      by_cases h1 : j = i
      · simp [h1]
      · simp [h1]
    rw [q] at s1
    exact s1
theorem own_wipe {own' : List Nat} : ∀ a, own (fun j => if j ∈ own' then [] else fp j) a → own fp a := fun a ⟨j, h⟩ => by
  dsimp only at h
  split at h
  · cases h
  · exact ⟨j, h⟩
theorem SO.putZ {i : Nat} {v : V} {d : D} (s : SO G F H fp σ e) (hv : σ[i]? = some (some v)) (r : RO G F H [] v d) : SO G F H (fun j => if j = i then [] else fp j) σ (e.set i (some d)) where
  sub := s.sub
  rep := fun j x hx => by
    by_cases hj : j = i
    · subst hj
      by_cases hl : j < e.length
      · rw [List.getElem?_set_self hl] at hx
        cases hx
        exact ⟨v, hv, by rw [if_pos rfl]; exact r⟩
      · rw [List.getElem?_eq_none (by simpa using hl)] at hx; cases hx
    · rw [List.getElem?_set_ne (Ne.symm hj)] at hx
      obtain ⟨w, h1, r1⟩ := s.rep j x hx
      exact ⟨w, h1, by rw [if_neg hj]; exact r1⟩
  nd := fun j => by
    split
    · exact List.nodup_nil
    · exact s.nd j
  dj := fun j k a h1 h2 => by
    split at h1
    · cases h1
    · split at h2
      · cases h2
      · exact s.dj j k a h1 h2
  sep := fun j a z => by
    split at z
    · cases z
    · exact s.sep j a z
  th := fun j a z => by
    split at z
    · cases z
    · exact s.th j a z
  len := by rw [List.length_set]; exact s.len
theorem SO.back {F0 H0 : Hp} {fp0 : Nat → List Addr} {e1 : DEnv} (s1 : SO G F0 H0 fp0 σ e1) (hF : ∀ a o, F0 a = some o → F a = some o) (s : SO G F H fp σ e) : ∀ own' : List Nat, ∃ fp', SO G F H fp' σ (backE e1 own' e) ∧ ∀ a, own fp' a → own fp a
  | [] => ⟨fp, s, fun _ z => z⟩
  | i :: is => by
    obtain ⟨fp', s2, o2⟩ := SO.back s1 hF s is
    unfold backE
    cases q : e1[i]? with
    | none => exact ⟨fp', s2, o2⟩
    | some o =>
      cases o with
      | none => exact ⟨fp', s2, o2⟩
      | some d =>
        simp only
        split
        · rename_i hd
          obtain ⟨v, hv, r⟩ := s1.rep i d q
          rw [r.nil_of_fz hd] at r
          exact ⟨_, s2.putZ hv (r.monoZ hF), fun a ⟨j, z⟩ => o2 a (by
            dsimp only at z
            split at z
            · cases z
            · exact ⟨j, z⟩)⟩
        · exact ⟨fp', s2, o2⟩
/-- the state of the block is a state of the def -/
theorem SO.unwipe {own' : List Nat} (s : SO G F H fp (L2.wipe σ own') e) (hl : ∀ i, i ∈ own' → ∀ d, e[i]? ≠ some (some d)) : SO G F H fp σ e where
  sub := s.sub
  rep := fun j d hj => by
    obtain ⟨v, hv, r⟩ := s.rep j d hj
    have hn : j ∉ own' := fun z => hl j z d hj
    rw [wipe_out hn] at hv
    exact ⟨v, hv, r⟩
  nd := s.nd
  dj := s.dj
  sep := s.sep
  th := s.th
  len := by rw [← s.len, wipe_length]
theorem wipeE_no : ∀ (own' : List Nat) (e : DEnv) (i : Nat), i ∈ own' → ∀ d, (wipeE own' e)[i]? ≠ some (some d)
  | j :: is, e, i, h, d => by
    unfold wipeE
    by_cases hj : i = j
    · subst hj; exact set_none d
    · rw [List.getElem?_set_ne (Ne.symm hj)]
      exact wipeE_no is e i ((List.mem_cons.mp h).resolve_left hj) d
mutual
theorem put_len : ∀ (t : CT) (d : D) (e e' : DEnv), put t d e = some e' → e'.length = e.length
  | .v i, d, e, e', h => by
    injection h with h; subst h
    rw [List.length_set]
  | .t ts, d, e, e', h => by
    cases d with
    | tup ds => exact puts_len ts ds e e' h
    | _ => cases h
theorem puts_len : ∀ (ts : List CT) (ds : List D) (e e' : DEnv), puts ts ds e = some e' → e'.length = e.length
  | [], [], e, e', h => by injection h with h; rw [h]
  | [], _ :: _, e, e', h => by cases h
  | _ :: _, [], e, e', h => by cases h
  | t :: ts, d :: ds, e, e', h => by
    have h : ((put t d e).bind fun e1 => puts ts ds e1) = some e' := h
    cases q : put t d e with
    | none => rw [q] at h; cases h
    | some e1 =>
      rw [q] at h
      exact (puts_len ts ds e1 e' h).trans (put_len t d e e1 q)
end
theorem wipe_eq {own' : List Nat} {σ2 : L2.St} (hl : σ2.length = σ.length) (h : ∀ j, j < σ.length → j ∉ own' → σ2[j]? = (L2.wipe σ own')[j]?) : L2.wipe σ2 own' = L2.wipe σ own' := by
  refine List.ext_getElem? fun j => ?_
  by_cases hj : j ∈ own'
  · have none_at : ∀ (s : L2.St) (vs : List Nat), j ∈ vs → j < s.length → (L2.wipe s vs)[j]? = some none := by
      intro s vs
      induction vs with
      | nil => intro h; cases h
      | cons v vs ih =>
        intro hv hjl
        unfold L2.wipe
        by_cases e : j = v
        · subst e
          rw [List.getElem?_set_self (by rw [wipe_length]; exact hjl)]
        · rw [List.getElem?_set_ne (Ne.symm e)]
          exact ih ((List.mem_cons.mp hv).resolve_left e) hjl
    by_cases hjl : j < σ.length
    · rw [none_at σ2 own' hj (by rw [hl]; exact hjl), none_at σ own' hj hjl]
    · rw [List.getElem?_eq_none (by rw [wipe_length]; omega), List.getElem?_eq_none (by rw [wipe_length]; omega)]
  · rw [wipe_out hj]
    by_cases hjl : j < σ.length
    · exact h j hjl hj
    · rw [List.getElem?_eq_none (by omega), List.getElem?_eq_none (by rw [wipe_length]; omega)]
/-- what the rest of a comprehension asks -/
def COut (G : GI) (σ : L2.St) (F H : Hp) (fp : Nat → List Addr) (p : List Addr) (own' : List Nat) (D : Addr) (Q : VK) : RL → Prop
  | .ok acc e' => ∀ F' H' fp' p', SO G F' H' fp' σ e' → (∀ i, i ∈ own' → ∀ d, e'[i]? ≠ some (some d)) → TO G F' H' fp' p' (.ref D) (.lst true acc) → Tr F H (fun a => own fp a ∨ a ∈ p) F' H' (fun a => own fp' a ∨ a ∈ p') → Q (.ref D) H'
  | .no => False
theorem COut.trans {G : GI} {σ : L2.St} {F H F1 H1 : Hp} {fp fp1 : Nat → List Addr} {p p1 : List Addr} {own' : List Nat} {D : Addr} {Q : VK} {r : RL} (h : COut G σ F H fp p own' D Q r) (t : Tr F H (fun a => own fp a ∨ a ∈ p) F1 H1 (fun a => own fp1 a ∨ a ∈ p1)) : COut G σ F1 H1 fp1 p1 own' D Q r := by
  cases r with
  | ok acc e' => exact fun F' H' fp' p' s l t' tr => h F' H' fp' p' s l t' (t.trans tr)
  | no => exact h
theorem pts_true (h : PTs X [] tYes) : PTs X [] (RdT (gOf X g) W0 mTrue) := ⟨fun pins s σ H Q I ⟨F, fp, e, so, hw⟩ => h.run pins s σ H Q I (hw F H fp so Tr.refl)⟩
theorem PTs.of {ifs : List Expr} {t : TT} (h : PTs X ifs t) : PTs X ifs t := h
/-- y behind the list -/
theorem TO.snoc {Da : Addr} {acc : List D} {y : D} {v : V} {p q : List Addr} (t1 : TO G F H fp p (.ref Da) (.lst true acc)) (t2 : TO G F H fp q v y) (hpq : ∀ a, a ∈ p → a ∈ q → False) (s : SO G F H fp σ e) :
    ∃ vs, H Da = some (.lst vs) ∧ vs.length = acc.length ∧ ∃ p', SO G F (upd H Da (.lst (vs ++ [v]))) fp σ e ∧ TO G F (upd H Da (.lst (vs ++ [v]))) fp p' (.ref Da) (.lst true (acc ++ [y])) ∧ Tr F H (fun a => (own fp a ∨ a ∈ p) ∨ a ∈ q) F (upd H Da (.lst (vs ++ [v]))) (fun a => own fp a ∨ a ∈ p') := by
  obtain ⟨a0, vs, fs, ea, ep, ha, rs⟩ := t1.r.lo_inv
  cases ea
  subst ep
  obtain ⟨n1, n2⟩ := List.nodup_cons.mp t1.nd
  have na : ∀ c, c ∈ fs ++ q → c ≠ Da := fun c z w => by
    subst w
    rcases List.mem_append.mp z with z | z
    · exact n1 z
    · exact hpq c (List.mem_cons_self ..) z
  have noD : ¬ own fp Da := t1.dj Da (List.mem_cons_self ..)
  have FD : F Da = none := t1.sep Da (List.mem_cons_self ..)
  refine ⟨vs, ha, rs.length, Da :: (fs ++ q), ?_, ⟨.lo upd_same ((rs.append (ROs.one t2.r)).mono (fun _ _ z => z) fun c z o w => by rw [upd_ne (na c z)]; exact w), ?_, fun c z => ?_, fun c z => ?_⟩, ?_⟩
  · exact {
      sub := fun b o z => by
        rw [upd_ne]
        · exact s.sub b o z
        · intro w; subst w; rw [FD] at z; cases z
      rep := fun j d hj => by
        obtain ⟨w, hw, r⟩ := s.rep j d hj
        exact ⟨w, hw, r.mono (fun _ _ z => z) fun b z o u => by
          rw [upd_ne]
          · exact u
          · intro w; subst w; exact noD ⟨j, z⟩⟩
      nd := s.nd
      dj := s.dj
      sep := s.sep
      th := fun j b z => by
        obtain ⟨o, ho⟩ := s.th j b z
        refine ⟨o, ?_⟩
        rw [upd_ne]
        · exact ho
        · intro w; subst w; exact noD ⟨j, z⟩
      len := s.len }
  · exact List.nodup_cons.mpr ⟨fun z => na Da z rfl, List.nodup_append.mpr ⟨n2, t2.nd, fun x hx y hy z => hpq x (List.mem_cons_of_mem _ hx) (z ▸ hy)⟩⟩
  · rcases List.mem_cons.mp z with z | z
    · rw [z]; exact FD
    · exact (List.mem_append.mp z).elim (fun z => t1.sep c (List.mem_cons_of_mem _ z)) (t2.sep c)
  · rcases List.mem_cons.mp z with z | z
    · rw [z]; exact noD
    · exact (List.mem_append.mp z).elim (fun z => t1.dj c (List.mem_cons_of_mem _ z)) (t2.dj c)
  · exact ⟨fun _ _ z => z, fun b o n z => by
      rw [upd_ne]
      · exact z
      · intro w; subst w; exact n (.inl (.inr (List.mem_cons_self ..))), fun b z => by
      rcases z with z | z
      · exact .inl (.inl (.inl z))
      · rcases List.mem_cons.mp z with z | z
        · exact .inl (.inl (.inr (by rw [z]; exact List.mem_cons_self ..)))
        · exact (List.mem_append.mp z).elim (fun z => .inl (.inl (.inr (List.mem_cons_of_mem _ z)))) fun z => .inl (.inr z), fun _ _ z => .inl z⟩
theorem mem_disj (n : Nat) (own' : List Nat) : ∀ i, i ∈ (List.range n).filter (fun j => !decide (j ∈ own')) → i ∉ own' := fun i z => by
  have := (List.mem_filter.mp z).2
  simpa using this
theorem in_disj {n j : Nat} {own' : List Nat} (h1 : j < n) (h2 : j ∉ own') : j ∈ (List.range n).filter (fun j => !decide (j ∈ own')) := List.mem_filter.mpr ⟨List.mem_range.mpr h1, by simpa using h2⟩
/-- a step of one's own with a value held -/
theorem Tr.hold {p q : List Addr} (a : Tr F H (own fp) F1 H1 (fun c => own fp1 c ∨ c ∈ q)) : Tr F H (fun c => own fp c ∨ c ∈ p) F1 H1 (fun c => (own fp1 c ∨ c ∈ p) ∨ c ∈ q) :=
  a.weak (fun _ z => .inl z) fun c z => by
    rcases z with (z | z) | z
    · exact .inl (.inl z)
    · exact .inr (.inr z)
    · exact .inl (.inr z)
theorem Tr.hold0 {p : List Addr} (a : Tr F H (own fp) F1 H1 (own fp1)) : Tr F H (fun c => own fp c ∨ c ∈ p) F1 H1 (fun c => own fp1 c ∨ c ∈ p) :=
  a.weak (fun _ z => .inl z) fun c z => by
    rcases z with z | z
    · exact .inl z
    · exact .inr (.inr z)
/-- the block's loop -/
theorem lc_loop {t : CT} {r : TG} {mc me : ME} {own' : List Nat} (hk : ∀ L, (∀ i, i ∈ L → i ∉ own') → GOk G L t r) {σ : L2.St} {D : Addr} {Q : VK} {J : It} {F0 H0 : Hp} {P : List Addr} {O0 : Addr → Prop} {ds : List EV.D} (ok : ItOk G J F0 P H0 ds) (hP : ∀ a, a ∈ P → ¬ O0 a) {F1 H1 : Hp} {fp1 : Nat → List Addr} {p1 : List Addr} {acc1 : List EV.D} {e1 : DEnv}
    (T1 : Tr F0 H0 O0 F1 H1 (fun a => own fp1 a ∨ a ∈ p1)) (s1 : SO G F1 H1 fp1 (L2.wipe σ own') e1) (l1 : ∀ i, i ∈ own' → ∀ d, e1[i]? ≠ some (some d)) (t1 : TO G F1 H1 fp1 p1 (.ref D) (.lst true acc1)) (h1 : COut G (L2.wipe σ own') F1 H1 fp1 p1 own' D Q (lcL own' t mc me ds acc1 e1)) :
    ∃ W : Nat → Nat → Hp → Prop, (∃ m, W 0 m H1) ∧ ∀ i m H, W i m H →
      (J.stop i H ∧ Q (.ref D) H) ∨ (J.go i H ∧ ∃ Nx : Hp → Prop, (∀ H', Nx H' → ∃ m', m' < m ∧ W (i + 1) m' H') ∧ ∀ x H', J.yld i H x H' → r x (L2.wipe σ own') H' fun σ2 H2 => L2.wipe σ2 own' = L2.wipe σ own' ∧ RdT G W0 mc σ2 H2 fun b H3 =>
        if b = true then RdE G W0 me σ2 H3 fun y H4 => ∃ acc, H4 D = some (.lst acc) ∧ acc.length < sizeLine ∧ Nx (upd H4 D (.lst (acc ++ [y]))) else Nx H3) := by
    refine ⟨fun i m H' => m + i = ds.length ∧ ∃ F fp p acc e, SO G F H' fp (L2.wipe σ own') e ∧ (∀ i, i ∈ own' → ∀ d, e[i]? ≠ some (some d)) ∧ TO G F H' fp p (.ref D) (.lst true acc) ∧ Tr F0 H0 O0 F H' (fun a => own fp a ∨ a ∈ p) ∧ COut G (L2.wipe σ own') F H' fp p own' D Q (lcL own' t mc me (ds.drop i) acc e),
      ⟨ds.length, rfl, F1, _, p1, acc1, _, s1, l1, t1, T1, h1⟩, ?_⟩
    rintro i m H2 ⟨hm, F2, fp2, p2, acc, e2, s2, l2, t2, T2, h2⟩
    have pP : ∀ a, a ∈ P → ∀ o, H0 a = some o → H2 a = some o := fun a z o w => T2.fr a o (hP a z) w
    cases qd : ds[i]? with
    | none =>
      have hi : ds.length ≤ i := List.getElem?_eq_none_iff.mp qd
      have he : i = ds.length := by omega
      rw [List.drop_of_length_le hi] at h2
      exact .inl ⟨by rw [he]; exact ok.stop F2 H2 T2.ff pP s2.sub, h2 F2 H2 fp2 p2 s2 l2 t2 Tr.refl⟩
    | some d =>
      obtain ⟨hi, hd⟩ := List.getElem?_eq_some_iff.mp qd
      obtain ⟨g1, g2⟩ := ok.go F2 H2 i d T2.ff pP s2.sub qd
      have ed : ds.drop i = d :: ds.drop (i + 1) := by rw [List.drop_eq_getElem_cons hi, hd]
      rw [ed] at h2
      unfold lcL at h2
      refine .inr ⟨g1, fun H' => ∃ F fp p acc e, SO G F H' fp (L2.wipe σ own') e ∧ (∀ i, i ∈ own' → ∀ d, e[i]? ≠ some (some d)) ∧ TO G F H' fp p (.ref D) (.lst true acc) ∧ Tr F0 H0 O0 F H' (fun a => own fp a ∨ a ∈ p) ∧ COut G (L2.wipe σ own') F H' fp p own' D Q (lcL own' t mc me (ds.drop (i + 1)) acc e), fun H' z => ⟨m - 1, by omega, by omega, z⟩, fun x H3 y => ?_⟩
      obtain ⟨F3, k1, k2, k3, k4, rx⟩ := g2 x H3 y
      have s3 := s2.grow k1 k2 k3 k4
      have tr3 : Tr F2 H2 (own fp2) F3 H3 (own fp2) := s2.growT k1 k2 k4
      cases q1 : put t d e2 with
      | none => rw [q1] at h2; exact h2.elim
      | some e3 =>
        rw [q1] at h2
        simp only at h2
        have hl3 := put_len t d e2 e3 q1
        refine hk ((List.range σ.length).filter fun j => !decide (j ∈ own')) (mem_disj _ own') s3 (TO.z rx) q1 fun σ4 fp4 s4 l4 o4 => ?_
        have ew : L2.wipe σ4 own' = L2.wipe σ own' := wipe_eq (by rw [s4.len, hl3, ← s2.len, wipe_length]) fun j h1 h2 => l4 j (in_disj h1 h2)
        have tr4 : Tr F2 H2 (own fp2) F3 H3 (own fp4) := tr3.drop fun c z => (o4 c z).elim id fun z => nomatch z
        refine ⟨ew, F3, fp4, e3, s4, ?_⟩
        have t4 : TO G F3 H3 fp4 p2 (.ref D) (.lst true acc) := t2.keep tr4 fun _ z => z
        cases q2 : mc e3 with
        | ok dc e4 =>
          rw [q2] at h2
          cases dc with
          | bl b =>
            intro F5 H5 fp5 s5 tr5
            have t5 : TO G F5 H5 fp5 p2 (.ref D) (.lst true acc) := t4.keep tr5 fun _ z => z
            have tr25 := tr4.trans tr5
            cases b with
            | true =>
              rw [if_pos rfl]
              simp only at h2
              refine RdE.iff.mpr ⟨F5, fp5, e4, s5, ?_⟩
              cases q3 : me e4 with
              | ok y5 e5 =>
                rw [q3] at h2
                simp only at h2
                split at h2
                · rename_i hL
                  intro v F6 H6 fp6 p6 s6 t6 tr6
                  have t7 : TO G F6 H6 fp6 p2 (.ref D) (.lst true acc) := t5.keep tr6 fun c z => .inl z
                  obtain ⟨vs, hv1, hv2, p8, s8, t8, tr8⟩ := TO.snoc t7 t6 (t5.apart tr6 fun c z => .inr z) s6
                  refine ⟨vs, hv1, by rw [hv2]; exact LIM_lineS (Nat.le_of_lt hL), F6, _, p8, _, _, ew ▸ s8.wipe own', wipeE_no own' e5, ⟨t8.r, t8.nd, t8.sep, fun c z w => t8.dj c z (own_wipe c w)⟩, T2.trans (((tr25.trans tr6).hold.trans tr8).drop fun c z => z.imp (own_wipe c) id), ?_⟩
                  refine COut.trans h2 (((tr25.trans tr6).hold.trans tr8).drop fun c z => z.imp (own_wipe c) id)
                · exact h2.elim
              | ex c d e5 => rw [q3] at h2; exact h2.elim
              | no => rw [q3] at h2; exact h2.elim
            | false =>
              rw [if_neg Bool.false_ne_true]
              simp only at h2
              refine ⟨F5, _, p2, acc, _, ew ▸ s5.wipe own', wipeE_no own' e4, ⟨t5.r, t5.nd, t5.sep, fun c z w => t5.dj c z (own_wipe c w)⟩, T2.trans (tr25.hold0.drop fun c z => z.imp (own_wipe c) id), ?_⟩
              exact COut.trans h2 (tr25.hold0.drop fun c z => z.imp (own_wipe c) id)
          | _ => exact h2.elim
        | ex c d e4 => rw [q2] at h2; exact h2.elim
        | no => rw [q2] at h2; exact h2.elim
theorem lc_new {own' : List Nat} {σ : L2.St} {D : Addr} (s1 : SO G F1 H1 fp1 σ e) (hD : H1 D = none) : SO G F1 (upd H1 D (.lst [])) (fun j => if j ∈ own' then [] else fp1 j) (L2.wipe σ own') (wipeE own' e) ∧
    TO G F1 (upd H1 D (.lst [])) (fun j => if j ∈ own' then [] else fp1 j) [D] (.ref D) (.lst true []) := ⟨(s1.new (o := .lst []) hD).wipe own', ⟨.lo upd_same .nil, by simp, fun c z => by
      rw [List.mem_singleton.mp z]; exact s1.fnone hD, fun c z w => by
      rw [List.mem_singleton.mp z] at w; exact s1.noown hD (own_wipe _ w)⟩⟩
theorem lc_end {own' : List Nat} {σ : L2.St} {D : Addr} {Q : VK} {rl : RL} (s1 : SO G F1 H1 fp1 σ e) (hD : H1 D = none) (tr1 : Tr F H (own fp) F1 H1 (own fp1)) (h : EOut G W σ F H fp Q (match rl with
      | .ok acc e2 => RE.ok (.lst true acc) (backE e own' e2)
      | .no => .no)) : COut G (L2.wipe σ own') F1 (upd H1 D (.lst [])) (fun j => if j ∈ own' then [] else fp1 j) [D] own' D Q rl := by
  cases rl with
  | no => exact h.elim
  | ok acc e2 =>
    intro F' H' fp' p' s' l' t' tr
    obtain ⟨fp2, s3, o3⟩ := SO.back s1 tr.ff (s'.unwipe l') own'
    refine h (.ref D) F' H' fp2 p' s3 ⟨t'.r, t'.nd, t'.sep, fun c z w => t'.dj c z (o3 c w)⟩ ?_
    refine (tr1.trans ((Tr.new hD).trans (tr.weak (P := fun c => own fp1 c ∨ c = D) (P1 := fun c => own fp' c ∨ c ∈ p') (fun c z => z.imp (own_wipe c) fun z => List.mem_singleton.mp z) fun _ z => .inl z))).drop fun c z => z.imp (o3 c) id
theorem LkOk.no {l : Lk} {P : List Addr} {σ : L2.St} (lk : LkOk G σ F1 H1 fp1 P l) : ∀ a, a ∈ P → ¬ own fp1 a := fun a z => by
  cases l with
  | none =>
    have lk : P = [] := lk
    subst lk; cases z
  | some jd => obtain ⟨v, _, t⟩ := lk; exact t.dj a z
theorem LkOk.th {l : Lk} {P : List Addr} {σ : L2.St} (lk : LkOk G σ F1 H1 fp1 P l) : ∀ a, a ∈ P → ∃ o, H1 a = some o := fun a z => by
  cases l with
  | none =>
    have lk : P = [] := lk
    subst lk; cases z
  | some jd => obtain ⟨v, _, t⟩ := lk; exact t.r.there a z
/-- from the walk's start to the list's -/
theorem Tr.lcNew {own' : List Nat} {D : Addr} (hD : H1 D = none) : Tr F1 H1 (own fp1) F1 (upd H1 D (.lst [])) (fun a => own (fun j => if j ∈ own' then [] else fp1 j) a ∨ a ∈ [D]) :=
  (Tr.new hD).drop fun c z => z.imp (own_wipe c) fun z => List.mem_singleton.mp z
theorem lc_plain {t : CT} {r : TG} {mi : MI} {mc me : ME} {own' : List Nat} (hk : ∀ L, (∀ i, i ∈ L → i ∉ own') → GOk G L t r) {σ : L2.St} {H : Hp} {Q : VK} (h : RdE G W (mLc own' t mi mc me) σ H Q) :
    tLc (RdI G W mi) r (RdT G W0 mc) (RdE G W0 me) own' σ H Q := by
  obtain ⟨F, fp, e, s, h⟩ := RdE.iff.mp h
  refine ⟨F, fp, e, s, ?_⟩
  unfold mLc at h
  cases q : mi e with
  | ok ds l e1 =>
    rw [q] at h
    intro J F1 H1 fp1 P s1 lk tr1 ok D hD
    have h := EOut.unlk tr1 lk h
    obtain ⟨s2, tD⟩ := lc_new (own' := own') s1 hD
    exact lc_loop hk ok lk.no (Tr.lcNew hD) s2 (wipeE_no own' e1) tD (lc_end s1 hD Tr.refl h)
  | ex c d e1 => rw [q] at h; exact h
  | no => rw [q] at h; exact h
/-- two clauses -/
def lcL2 (own' : List Nat) (tg : CT) (mc : ME) (own1 : List Nat) (tg1 : CT) (mi1 : MI) (mc1 me : ME) : List D → List D → DEnv → RL
  | [], acc, e => .ok acc e
  | d :: ds, acc, e => match put tg d e with
    | some e1 => match mc e1 with
      | .ok (.bl true) e2 => match mi1 e2 with
        | .ok ds1 none e3 => match lcL own1 tg1 mc1 me ds1 acc (wipeE own1 e3) with
          | .ok acc1 e4 => lcL2 own' tg mc own1 tg1 mi1 mc1 me ds acc1 (wipeE own' e4)
          | .no => .no
        | _ => .no
      | .ok (.bl false) e2 => lcL2 own' tg mc own1 tg1 mi1 mc1 me ds acc (wipeE own' e2)
      | _ => .no
    | none => .no
def mLc2 (own' : List Nat) (tg : CT) (mi : MI) (mc : ME) (own1 : List Nat) (tg1 : CT) (mi1 : MI) (mc1 me : ME) : ME := fun e => match mi e with
  | .ok ds l e1 => RE.unlk l (match lcL2 own' tg mc own1 tg1 mi1 mc1 me ds [] (wipeE own' e1) with
    | .ok acc e2 => .ok (.lst true acc) (backE e1 own' e2)
    | .no => .no)
  | .ex c d e1 => .ex c d e1
  | .no => .no
theorem lc2_plain {t t1 : CT} {r r1 : TG} {mi mi1 : MI} {mc mc1 me : ME} {own' own1 : List Nat} (hsub : ∀ i, i ∈ own1 → i ∈ own') (hk : ∀ L, (∀ i, i ∈ L → i ∉ own') → GOk G L t r) (hk1 : ∀ L, (∀ i, i ∈ L → i ∉ own1) → GOk G L t1 r1) {σ : L2.St} {H : Hp} {Q : VK} (h : RdE G W (mLc2 own' t mi mc own1 t1 mi1 mc1 me) σ H Q) :
    tLc2 (RdI G W mi) r (RdT G W0 mc) (RdI G W0 mi1) r1 (RdT G W0 mc1) (RdE G W0 me) own' own1 σ H Q := by
  obtain ⟨F, fp, e, s, h⟩ := RdE.iff.mp h
  refine ⟨F, fp, e, s, ?_⟩
  unfold mLc2 at h
  cases q : mi e with
  | ok ds l e1 =>
    rw [q] at h
    intro J F1 H1 fp1 P s1 lk tr1 ok D hD
    have h := EOut.unlk tr1 lk h
    obtain ⟨s2, tD⟩ := lc_new (own' := own') s1 hD
    have c0 := lc_end (own' := own') (D := D) s1 hD Tr.refl h
    refine ⟨fun i m H' => m + i = ds.length ∧ ∃ F fp p acc e, SO G F H' fp (L2.wipe σ own') e ∧ (∀ i, i ∈ own' → ∀ d, e[i]? ≠ some (some d)) ∧ TO G F H' fp p (.ref D) (.lst true acc) ∧ Tr F1 H1 (own fp1) F H' (fun a => own fp a ∨ a ∈ p) ∧ COut G (L2.wipe σ own') F H' fp p own' D Q (lcL2 own' t mc own1 t1 mi1 mc1 me (ds.drop i) acc e),
      ⟨ds.length, rfl, F1, _, [D], [], _, s2, wipeE_no own' e1, tD, Tr.lcNew hD, c0⟩, ?_⟩
    rintro i m H2 ⟨hm, F2, fp2, p2, acc, e2, s2, l2, t2, T2, h2⟩
    have pP : ∀ a, a ∈ P → ∀ o, H1 a = some o → H2 a = some o := fun a z o w => T2.fr a o (lk.no a z) w
    cases qd : ds[i]? with
    | none =>
      have hi : ds.length ≤ i := List.getElem?_eq_none_iff.mp qd
      have he : i = ds.length := by omega
      rw [List.drop_of_length_le hi] at h2
      exact .inl ⟨by rw [he]; exact ok.stop F2 H2 T2.ff pP s2.sub, h2 F2 H2 fp2 p2 s2 l2 t2 Tr.refl⟩
    | some d =>
      obtain ⟨hi, hd⟩ := List.getElem?_eq_some_iff.mp qd
      obtain ⟨g1, g2⟩ := ok.go F2 H2 i d T2.ff pP s2.sub qd
      have ed : ds.drop i = d :: ds.drop (i + 1) := by rw [List.drop_eq_getElem_cons hi, hd]
      rw [ed] at h2
      unfold lcL2 at h2
      refine .inr ⟨g1, fun H' => ∃ F fp p acc e, SO G F H' fp (L2.wipe σ own') e ∧ (∀ i, i ∈ own' → ∀ d, e[i]? ≠ some (some d)) ∧ TO G F H' fp p (.ref D) (.lst true acc) ∧ Tr F1 H1 (own fp1) F H' (fun a => own fp a ∨ a ∈ p) ∧ COut G (L2.wipe σ own') F H' fp p own' D Q (lcL2 own' t mc own1 t1 mi1 mc1 me (ds.drop (i + 1)) acc e), fun H' z => ⟨m - 1, by omega, by omega, z⟩, fun x H3 y => ?_⟩
      obtain ⟨F3, k1, k2, k3, k4, rx⟩ := g2 x H3 y
      have s3 := s2.grow k1 k2 k3 k4
      have tr3 : Tr F2 H2 (own fp2) F3 H3 (own fp2) := s2.growT k1 k2 k4
      cases q1 : put t d e2 with
      | none => rw [q1] at h2; exact h2.elim
      | some e3 =>
        rw [q1] at h2
        simp only at h2
        have hl3 := put_len t d e2 e3 q1
        refine hk ((List.range σ.length).filter fun j => !decide (j ∈ own')) (mem_disj _ own') s3 (TO.z rx) q1 fun σ4 fp4 s4 l4 o4 => ?_
        have el : σ4.length = σ.length := by rw [s4.len, hl3, ← s2.len, wipe_length]
        have ew : L2.wipe σ4 own' = L2.wipe σ own' := wipe_eq el fun j h1 h2 => l4 j (in_disj h1 h2)
        have ew1 : L2.wipe (L2.wipe σ4 own1) own' = L2.wipe σ own' := wipe_eq (by rw [wipe_length, el]) fun j h1 h2 => by
          rw [wipe_out (fun z => h2 (hsub j z))]; exact l4 j (in_disj h1 h2)
        have tr4 : Tr F2 H2 (own fp2) F3 H3 (own fp4) := tr3.drop fun c z => (o4 c z).elim id fun z => nomatch z
        refine ⟨ew, F3, fp4, e3, s4, ?_⟩
        have t4 : TO G F3 H3 fp4 p2 (.ref D) (.lst true acc) := t2.keep tr4 fun _ z => z
        cases q2 : mc e3 with
        | ok dc e4 =>
          rw [q2] at h2
          cases dc with
          | bl b =>
            intro F5 H5 fp5 s5 tr5
            have t5 : TO G F5 H5 fp5 p2 (.ref D) (.lst true acc) := t4.keep tr5 fun _ z => z
            have tr25 := tr4.trans tr5
            cases b with
            | true =>
              rw [if_pos rfl]
              simp only at h2
              refine ⟨F5, fp5, e4, s5, ?_⟩
              cases q3 : mi1 e4 with
              | ok ds1 l1 e5 =>
                cases l1 with
                | some jd => rw [q3] at h2; exact h2.elim
                | none =>
                rw [q3] at h2
                simp only at h2
                intro J1 F6 H6 fp6 P1 s6 lk1 tr6 ok1
                have eP1 : P1 = [] := lk1
                subst eP1
                have tr6 : Tr F5 H5 (own fp5) F6 H6 (own fp6) := tr6.drop fun _ z => .inl z
                have t6 : TO G F6 H6 fp6 p2 (.ref D) (.lst true acc) := t5.keep tr6 fun _ z => z
                have tr26 := tr25.trans tr6
                refine lc_loop (Q := fun _ H' => ∃ F fp p acc e, SO G F H' fp (L2.wipe σ own') e ∧ (∀ i, i ∈ own' → ∀ d, e[i]? ≠ some (some d)) ∧ TO G F H' fp p (.ref D) (.lst true acc) ∧ Tr F1 H1 (own fp1) F H' (fun a => own fp a ∨ a ∈ p) ∧ COut G (L2.wipe σ own') F H' fp p own' D Q (lcL2 own' t mc own1 t1 mi1 mc1 me (ds.drop (i + 1)) acc e)) hk1 ok1 (fun _ z => nomatch z) (O0 := fun a => own fp6 a ∨ a ∈ p2) (Tr.refl.drop fun c z => z.imp (own_wipe c) id) (s6.wipe own1) (wipeE_no own1 e5) ⟨t6.r, t6.nd, t6.sep, fun c z w => t6.dj c z (own_wipe c w)⟩ ?_
                cases q4 : lcL own1 t1 mc1 me ds1 acc (wipeE own1 e5) with
                | no => rw [q4] at h2; exact h2.elim
                | ok acc7 e7 =>
                  rw [q4] at h2
                  simp only at h2
                  intro F7 H7 fp7 p7 s7 l7 t7 tr7
                  refine ⟨F7, _, p7, acc7, _, ew1 ▸ s7.wipe own', wipeE_no own' e7, ⟨t7.r, t7.nd, t7.sep, fun c z w => t7.dj c z (own_wipe c w)⟩, T2.trans ((tr26.hold0.trans (tr7.weak (fun c z => z.imp (own_wipe c) id) fun _ z => .inl z)).drop fun c z => z.imp (own_wipe c) id), ?_⟩
                  exact COut.trans h2 ((tr26.hold0.trans (tr7.weak (fun c z => z.imp (own_wipe c) id) fun _ z => .inl z)).drop fun c z => z.imp (own_wipe c) id)
              | ex c d e5 => rw [q3] at h2; exact h2.elim
              | no => rw [q3] at h2; exact h2.elim
            | false =>
              rw [if_neg Bool.false_ne_true]
              simp only at h2
              refine ⟨F5, _, p2, acc, _, ew ▸ s5.wipe own', wipeE_no own' e4, ⟨t5.r, t5.nd, t5.sep, fun c z w => t5.dj c z (own_wipe c w)⟩, T2.trans (tr25.hold0.drop fun c z => z.imp (own_wipe c) id), ?_⟩
              exact COut.trans h2 (tr25.hold0.drop fun c z => z.imp (own_wipe c) id)
          | _ => exact h2.elim
        | ex c d e4 => rw [q2] at h2; exact h2.elim
        | no => rw [q2] at h2; exact h2.elim
  | ex c d e1 => rw [q] at h; exact h
  | no => rw [q] at h; exact h
theorem se_lc {elt tg iter : Expr} {ifs : List Expr} {scope : Scope} {own' : List (Str × Nat)} {t : CT} {r : TG} {mi : MI} {mc me : ME} (hc : X.calm = true) (hN : X.N.Nodup) (hi : SI X g W tg iter mi) (ok : BlkOk X.N X.env.scope scope own')
    (hg : ∀ (s : Shared) (H : Hp) (C : Addr) (cl : List (Str × Addr)) (fp : List Addr), PG (X.blk s H scope (compEnvC scope cl C X.env) fp) tg r) (hk : ∀ L, (∀ i, i ∈ L → i ∉ own'.map (·.2)) → GOk (gOf X g) L t r)
    (ht : ∀ (s : Shared) (H : Hp) (C : Addr) (cl : List (Str × Addr)) (fp : List Addr), PTs (X.blk s H scope (compEnvC scope cl C X.env) fp) ifs (RdT (gOf X g) W0 mc))
    (he : ∀ (s : Shared) (H : Hp) (C : Addr) (cl : List (Str × Addr)) (fp : List Addr), SE (X.blk s H scope (compEnvC scope cl C X.env) fp) g W0 elt me) (hs : ∀ x, foldedSetIterable iter X.env x = pure x) :
    SE X g W (.ListComp elt [⟨tg, iter, ifs, 0⟩] scope pos) (mLc (own'.map (·.2)) t mi mc me) := PE.imp (pe_lc hc hN hi ok hg ht he hs) fun σ H Q h => lc_plain hk h
theorem ss_setLc {i : Nat} {y : Str} {py spos : Pos} {elt tg iter : Expr} {ifs : List Expr} {scope : Scope} {own' : List (Str × Nat)} {t : CT} {r : TG} {mi : MI} {mc me : ME} (hc : X.calm = true) (hN : X.N.Nodup) (hy : X.N[i]? = some y) (hyl : X.env.scope.names.lookup y = some .local)
    (hsw : swapsWith (.ListComp elt [⟨tg, iter, ifs, 0⟩] scope pos) (some (.Name y py)) spos.line X.env = pure true) (hL : i ∉ L) (hi : SI X g W tg iter mi) (ok : BlkOk X.N X.env.scope scope own')
    (hg : ∀ (s : Shared) (H : Hp) (C : Addr) (cl : List (Str × Addr)) (fp : List Addr), PG (X.blk s H scope (compEnvC scope cl C X.env) fp) tg r) (hk : ∀ L, (∀ i, i ∈ L → i ∉ own'.map (·.2)) → GOk (gOf X g) L t r)
    (ht : ∀ (s : Shared) (H : Hp) (C : Addr) (cl : List (Str × Addr)) (fp : List Addr), PTs (X.blk s H scope (compEnvC scope cl C X.env) fp) ifs (RdT (gOf X g) W0 mc))
    (he : ∀ (s : Shared) (H : Hp) (C : Addr) (cl : List (Str × Addr)) (fp : List Addr), SE (X.blk s H scope (compEnvC scope cl C X.env) fp) g W0 elt me) (hs : ∀ x, foldedSetIterable iter X.env x = pure x) :
    SS X g W L (.Assign [.Name y py] (.ListComp elt [⟨tg, iter, ifs, 0⟩] scope pos) spos) (mAsg (.v i) (mLc (own'.map (·.2)) t mi mc me)) :=
  PS.imp (ps_setLc hc hN hy hyl hsw hi ok hg ht he hs) fun D σ H h => lc_plain hk (RdS.asg (gok_v hL) h)
theorem se_lc2 {elt tg iter tg1 iter1 : Expr} {ifs ifs1 : List Expr} {scope : Scope} {own' : List (Str × Nat)} {own1 : List Nat} {t t1 : CT} {r r1 : TG} {mi mi1 : MI} {mc mc1 me : ME} (hc : X.calm = true) (hN : X.N.Nodup) (hi : SI X g W tg iter mi) (ok : BlkOk X.N X.env.scope scope own') (hsub : ∀ i ∈ own1, i ∈ own'.map (·.2))
    (hg : ∀ (s : Shared) (H : Hp) (C : Addr) (cl : List (Str × Addr)) (fp : List Addr), PG (X.blk s H scope (compEnvC scope cl C X.env) fp) tg r) (hk : ∀ L, (∀ i, i ∈ L → i ∉ own'.map (·.2)) → GOk (gOf X g) L t r)
    (ht : ∀ (s : Shared) (H : Hp) (C : Addr) (cl : List (Str × Addr)) (fp : List Addr), PTs (X.blk s H scope (compEnvC scope cl C X.env) fp) ifs (RdT (gOf X g) W0 mc))
    (he : ∀ (s : Shared) (H : Hp) (C : Addr) (cl : List (Str × Addr)) (fp : List Addr), SE (X.blk s H scope (compEnvC scope cl C X.env) fp) g W0 elt me) (hs : ∀ x, foldedSetIterable iter X.env x = pure x)
    (hi1 : ∀ (s : Shared) (H : Hp) (C : Addr) (cl : List (Str × Addr)) (fp : List Addr), SI (X.blk s H scope (compEnvC scope cl C X.env) fp) g W0 tg1 iter1 mi1)
    (hg1 : ∀ (s : Shared) (H : Hp) (C : Addr) (cl : List (Str × Addr)) (fp : List Addr), PG (X.blk s H scope (compEnvC scope cl C X.env) fp) tg1 r1) (hk1 : ∀ L, (∀ i, i ∈ L → i ∉ own1) → GOk (gOf X g) L t1 r1)
    (ht1 : ∀ (s : Shared) (H : Hp) (C : Addr) (cl : List (Str × Addr)) (fp : List Addr), PTs (X.blk s H scope (compEnvC scope cl C X.env) fp) ifs1 (RdT (gOf X g) W0 mc1))
    (hs1 : ∀ env x, foldedSetIterable iter1 env x = pure x) :
    SE X g W (.ListComp elt [⟨tg, iter, ifs, 0⟩, ⟨tg1, iter1, ifs1, 0⟩] scope pos) (mLc2 (own'.map (·.2)) t mi mc own1 t1 mi1 mc1 me) := PE.imp (pe_lc2 hc hN hi ok hsub hg ht hi1 hg1 ht1 he hs hs1) fun σ H Q h => lc2_plain hsub hk hk1 h
end
end EV

/-! EvL: calls of defs. -/
namespace EV
open PySem PySem.Spec PyProof.Rows L2

def lentV : List Bool → List V → List V
  | true :: m, v :: vs => v :: lentV m vs
  | false :: m, _ :: vs => lentV m vs
  | _, _ => []
/-- what a def promises: its parameters' data, what it gives back of those that are lent -/
def Prom (G : GI) (mask : List Bool) (C : List D → RC) : Sp := fun vs H Q E => vs.length = mask.length ∧ ∃ F p ds, ROs G F H p vs ds ∧ p.Nodup ∧ (∀ a, a ∈ p → F a = none) ∧ (∀ a o, F a = some o → H a = some o) ∧
  match C ds with
  | .ok d fin => ∀ v F' H' q r, RO G F' H' q v d → ROs G F' H' r (lentV mask vs) fin → (q ++ r).Nodup → (∀ a, a ∈ q ++ r → F' a = none) → (∀ a o, F' a = some o → H' a = some o) → Tr F H (· ∈ p) F' H' (· ∈ q ++ r) → Q v H'
  | .ex c d fin => ∀ dx v F' H' q r, RO G F' H' q v d → ROs G F' H' r (lentV mask vs) fin → (q ++ r).Nodup → (∀ a, a ∈ q ++ r → F' a = none) → (∀ a o, F' a = some o → H' a = some o) → Tr F H (· ∈ p) F' H' (· ∈ q ++ r) →
      H' dx = some (.xd [(G.xn c, v)]) → E (.ref (G.ca c)) (some dx) H'
  | .no => False
theorem Prom.len {G : GI} {mask : List Bool} {C : List D → RC} {ps : List Str} (h : mask.length = ps.length) : ∀ vs H Q E, Prom G mask C vs H Q E → vs.length = ps.length := fun vs H Q E z => z.1.trans h
/-- what is passed -/
def effD (e : DEnv) : List PA1 → Option (List D)
  | [] => some []
  | .t d :: r => (effD e r).map (d :: ·)
  | .l j :: r => match e[j]? with
    | some (some d) => (effD e r).map (d :: ·)
    | _ => none
def lents : List PA1 → List Nat
  | [] => []
  | .t _ :: r => lents r
  | .l j :: r => j :: lents r
/-- the slots while their content is lent -/
def minus : List PA1 → DEnv → DEnv
  | [], e => e
  | .t _ :: r, e => minus r e
  | .l j :: r, e => minus r (e.set j none)
/-- given back -/
def bk : List Bool → List PA1 → List D → DEnv → Option DEnv
  | [], [], [], e => some e
  | true :: m, .l j :: as, d :: fin, e => bk m as fin (e.set j (some d))
  | true :: m, .t _ :: as, _ :: fin, e => bk m as fin e
  | false :: m, .t _ :: as, fin, e => bk m as fin e
  | _, _, _, _ => none
/-- f(..) -/
def mCall (C : List D → RC) (mask : List Bool) (dfl : List D) (ms : List Ar) : ME := fun e => match mA ms e with
  | .ok as e1 => match effD e1 as with
    | some ds => if (lents as).Nodup ∧ (as.length + dfl.length = mask.length) then match C (ds ++ dfl) with
      | .ok d fin => match bk mask (as ++ dfl.map .t) fin (minus as e1) with
        | some e2 => .ok d e2
        | none => .no
      | .ex c d fin => match bk mask (as ++ dfl.map .t) fin (minus as e1) with
        | some e2 => .ex c d e2
        | none => .no
      | .no => .no
      else .no
    | none => .no
  | .ex c d e1 => .ex c d e1
  | .no => .no
section
variable {X : Cx} {N : List Str} {sc : Scope} {fr : List Str} {g : GF} {G : GI} {W : WX} {L : List Nat} {a b c : Expr} {es : List Expr} {pos p2 p3 p4 : Pos} {m n t : ME} {F H F1 H1 F' H' : Hp} {fp fp1 fp' : Nat → List Addr} {σ σ1 : L2.St} {e e' : DEnv}
theorem set_self {i : Nat} {v : V} {σ : L2.St} (h : σ[i]? = some (some v)) : σ.set i (some v) = σ := by
  refine List.ext_getElem? fun j => ?_
  by_cases hj : j = i
  · subst hj
    have hl : j < σ.length := (List.getElem?_eq_some_iff.mp h).1
    rw [List.getElem?_set_self hl, h]
  · rw [List.getElem?_set_ne (Ne.symm hj)]
theorem effD_set {j : Nat} {e : DEnv} : ∀ {as : List PA1}, j ∉ lents as → effD (e.set j none) as = effD e as
  | [], _ => rfl
  | .t d :: r, h => by
    show (effD _ r).map _ = (effD e r).map _
    rw [effD_set (as := r) h]
  | .l i :: r, h => by
    have h1 : j ≠ i := fun z => h (z ▸ List.mem_cons_self ..)
    have h2 : j ∉ lents r := fun z => h (List.mem_cons_of_mem _ z)
    unfold effD
    rw [List.getElem?_set_ne h1, effD_set h2]
/-- what lies elsewhere stays -/
theorem SO.frame {O' : Addr → Prop} {p : List Addr} (s : SO G F H fp σ e) (hp : ∀ a, a ∈ p → ¬ own fp a) (t : Tr F H (· ∈ p) F' H' O') (sb : ∀ a o, F' a = some o → H' a = some o) : SO G F' H' fp σ e where
  sub := sb
  rep := fun i d h => by
    obtain ⟨v, q, r⟩ := s.rep i d h
    exact ⟨v, q, r.mono t.ff fun a z o w => t.fr a o (fun u => hp a u ⟨i, z⟩) w⟩
  nd := s.nd
  dj := s.dj
  sep := fun i a z => by
    cases q : F' a with
    | none => rfl
    | some o =>
      rcases t.fz a o q with w | w | w
      · rw [s.sep i a z] at w; cases w
      · exact absurd ⟨i, z⟩ (hp a w)
      · obtain ⟨o, ho⟩ := s.th i a z
        rw [w] at ho; cases ho
  th := fun i a z => by
    obtain ⟨o, ho⟩ := s.th i a z
    exact ⟨o, t.fr a o (fun u => hp a u ⟨i, z⟩) ho⟩
  len := s.len
theorem take_args : ∀ {p : List Addr} {vs : List V} {as : List PA1} {fp : Nat → List Addr} {e : DEnv} {ds : List D}, AR G F H σ p vs as → SO G F H fp σ e → p.Nodup → (∀ a, a ∈ p → F a = none) → (∀ a, a ∈ p → ¬ own fp a) → (lents as).Nodup → effD e as = some ds →
    ∃ q fp0, ROs G F H q vs ds ∧ q.Nodup ∧ (∀ a, a ∈ q → F a = none) ∧ SO G F H fp0 σ (minus as e) ∧ (∀ a, a ∈ q → ¬ own fp0 a) ∧ (∀ a, own fp0 a → own fp a) ∧ ∀ a, a ∈ q → own fp a ∨ a ∈ p
  | _, _, _, fp, e, ds, .nil, s, _, _, _, _, h => by
    injection h with h; subst h
    exact ⟨[], fp, .nil, List.nodup_nil, fun _ z => (nomatch z), s, fun _ z => (nomatch z), fun _ z => z, fun _ z => (nomatch z)⟩
  | _, _, _, fp, e, ds, .t (p := f) (q := p) (d := d) (as := as) r rs, s, nd, sep, dj, hl, h => by
    have h : (effD e as).map (d :: ·) = some ds := h
    obtain ⟨n1, n2, n3⟩ := List.nodup_append.mp nd
    cases q2 : effD e as with
    | none => rw [q2] at h; cases h
    | some ds1 =>
      rw [q2] at h
      injection h with h; subst h
      obtain ⟨q, fp0, h1, h2, h3, h4, h5, h6, h7⟩ := take_args rs s n2 (fun a z => sep a (List.mem_append_right _ z)) (fun a z => dj a (List.mem_append_right _ z)) hl q2
      refine ⟨f ++ q, fp0, .cons r h1, List.nodup_append.mpr ⟨n1, h2, fun x hx y hy z => ?_⟩, fun a z => ?_, h4, fun a z w => ?_, h6, fun a z => ?_⟩
      · subst z
        rcases h7 x hy with w | w
        · exact dj x (List.mem_append_left _ hx) w
        · exact n3 x hx x w rfl
      · exact (List.mem_append.mp z).elim (fun z => sep a (List.mem_append_left _ z)) (h3 a)
      · exact (List.mem_append.mp z).elim (fun z => dj a (List.mem_append_left _ z) (h6 a w)) (fun z => h5 a z w)
      · exact (List.mem_append.mp z).elim (fun z => .inr (List.mem_append_left _ z)) (fun z => (h7 a z).imp id (List.mem_append_right _))
  | _, _, _, fp, e, ds, .l (q := p) (j := j) (as := as) (v := v) hv rs, s, nd, sep, dj, hl, h => by
    obtain ⟨l1, l2⟩ := List.nodup_cons.mp (show (j :: lents as).Nodup from hl)
    unfold effD at h
    cases q1 : e[j]? with
    | none => rw [q1] at h; cases h
    | some o =>
      cases o with
      | none => rw [q1] at h; cases h
      | some d =>
        rw [q1] at h
        simp only at h
        cases q2 : effD e as with
        | none => rw [q2] at h; cases h
        | some ds1 =>
          rw [q2] at h
          injection h with h; subst h
          obtain ⟨v1, hv1, t1⟩ := s.take q1
          rw [hv] at hv1; cases hv1
          obtain ⟨q, fp0, h1, h2, h3, h4, h5, h6, h7⟩ := take_args rs (s.forget (i := j)) nd sep (fun a z w => dj a z (own_take a (.inl w))) l2 ((effD_set l1).trans q2)
          refine ⟨fp j ++ q, fp0, .cons t1.r h1, List.nodup_append.mpr ⟨t1.nd, h2, fun x hx y hy z => ?_⟩, fun a z => ?_, h4, fun a z w => ?_, fun a z => own_take a (.inl (h6 a z)), fun a z => ?_⟩
          · subst z
            rcases h7 x hy with w | w
            · exact t1.dj x hx w
            · exact dj x w ⟨j, hx⟩
          · exact (List.mem_append.mp z).elim (t1.sep a) (h3 a)
          · exact (List.mem_append.mp z).elim (fun z => t1.dj a z (h6 a w)) (fun z => h5 a z w)
          · exact (List.mem_append.mp z).elim (fun z => .inl ⟨j, z⟩) (fun z => (h7 a z).imp (fun z => own_take a (.inl z)) id)
theorem give_back {Fa Ha : Hp} : ∀ {p : List Addr} {vs : List V} {as : List PA1} {mask : List Bool} {fp0 : Nat → List Addr} {e0 e2 : DEnv} {fin : List D} {r : List Addr}, AR G Fa Ha σ p vs as → SO G F H fp0 σ e0 → ROs G F H r (lentV mask vs) fin → r.Nodup → (∀ a, a ∈ r → F a = none) → (∀ a, a ∈ r → ¬ own fp0 a) →
    bk mask as fin e0 = some e2 → ∃ fp2, SO G F H fp2 σ e2 ∧ ∀ a, own fp2 a → own fp0 a ∨ a ∈ r
  | _, _, _, mask, fp0, e0, e2, fin, r, .nil, s, ro, nd, sep, dj, h => by
    cases mask with
    | nil =>
      cases fin with
      | nil => injection h with h; subst h; exact ⟨fp0, s, fun _ z => .inl z⟩
      | cons _ _ => cases h
    | cons m ms => cases m <;> cases h
  | _, _, _, mask, fp0, e0, e2, fin, r, .t (vs := vs) (v := v) (as := as) r1 rs, s, ro, nd, sep, dj, h => by
    cases mask with
    | nil => cases h
    | cons m ms =>
      cases m with
      | false => exact give_back rs s ro nd sep dj h
      | true =>
        cases fin with
        | nil => cases h
        | cons d fin =>
          obtain ⟨v1, ws, f, fs, ev, ep, q1, q2⟩ := ro.invD
          injection ev with e1 e2
          subst e1 e2 ep
          obtain ⟨n1, n2, n3⟩ := List.nodup_append.mp nd
          obtain ⟨fp2, h1, h2⟩ := give_back rs s q2 n2 (fun a z => sep a (List.mem_append_right _ z)) (fun a z => dj a (List.mem_append_right _ z)) h
          exact ⟨fp2, h1, fun a z => (h2 a z).imp id (List.mem_append_right _)⟩
  | _, _, _, mask, fp0, e0, e2, fin, r, .l (vs := vs) (v := v) (as := as) (j := j) hv rs, s, ro, nd, sep, dj, h => by
    cases mask with
    | nil => cases h
    | cons m ms =>
      cases m with
      | false => cases fin <;> cases h
      | true =>
        cases fin with
        | nil => cases h
        | cons d fin =>
          obtain ⟨v1, ws, f, fs, ev, ep, q1, q2⟩ := ro.invD
          injection ev with e1 e2
          subst e1 e2 ep
          obtain ⟨n1, n2, n3⟩ := List.nodup_append.mp nd
          have s1 := s.store (i := j) (p := f) (v := v) (d := d) ⟨q1, n1, fun a z => sep a (List.mem_append_left _ z), fun a z => dj a (List.mem_append_left _ z)⟩
          rw [set_self hv] at s1
          obtain ⟨fp2, h1, h2⟩ := give_back rs s1 q2 n2 (fun a z => sep a (List.mem_append_right _ z)) (fun a z w => by
            rcases own_store a w with w | w
            · exact dj a (List.mem_append_right _ z) w
            · exact n3 a w a z rfl) h
          refine ⟨fp2, h1, fun a z => ?_⟩
          rcases h2 a z with z | z
          · exact (own_store a z).imp id (List.mem_append_left _)
          · exact .inr (List.mem_append_right _ z)
theorem AR.app : ∀ {p : List Addr} {vs : List V} {as : List PA1} {dvs : List V} {dfl : List D}, AR G F H σ p vs as → ROs G F H [] dvs dfl → AR G F H σ p (vs ++ dvs) (as ++ dfl.map .t)
  | _, _, _, dvs, dfl, .nil, r => by
    have go : ∀ {dvs : List V} {dfl : List D}, ROs G F H [] dvs dfl → AR G F H σ [] dvs (dfl.map .t) := by
      intro dvs
      induction dvs with
      | nil => intro dfl r; cases dfl with
        | nil => exact .nil
        | cons d ds => obtain ⟨v, ws, f, fs, e1, _⟩ := r.invD; cases e1
      | cons v vs ih =>
        intro dfl r
        cases dfl with
        | nil => obtain ⟨e1, _⟩ := r.invN; cases e1
        | cons d ds =>
          obtain ⟨r1, r2⟩ := r.unconsZ
          exact AR.t (p := []) (q := []) r1 (ih r2)
    exact go r
  | _, _, _, dvs, dfl, .t r1 rs, r => .t r1 (AR.app rs r)
  | _, _, _, dvs, dfl, .l hv rs, r => .l hv (AR.app rs r)
theorem AR.length : ∀ {p : List Addr} {vs : List V} {as : List PA1}, AR G F H σ p vs as → vs.length = as.length
  | _, _, _, .nil => rfl
  | _, _, _, .t _ rs => congrArg (· + 1) (AR.length rs)
  | _, _, _, .l _ rs => congrArg (· + 1) (AR.length rs)
theorem call_plain {C : List D → RC} {mask : List Bool} {dfl : List D} {dvs : List V} {ms : List Ar} (hz : ∀ F H, ROs G F H [] dvs dfl) {Q : VK} (h : RdE G W (mCall C mask dfl ms) σ H Q) : RdA G W ms σ H (fun vs H1 => Prom G mask C (vs ++ dvs) H1 Q (WE W σ)) := by
  obtain ⟨F, fp, e, s, h⟩ := RdE.iff.mp h
  refine ⟨F, fp, e, s, ?_⟩
  unfold mCall at h
  cases q : mA ms e with
  | ex c d e1 => rw [q] at h; exact h
  | no => rw [q] at h; exact h
  | ok as e1 =>
    rw [q] at h
    simp only at h
    intro vs F1 H1 fp1 p s1 t1 tr1
    cases q2 : effD e1 as with
    | none => rw [q2] at h; exact h.elim
    | some ds =>
      rw [q2] at h
      simp only at h
      split at h
      · rename_i hh
        obtain ⟨hl, hlen⟩ := hh
        obtain ⟨q, fp0, r1, r2, r3, s0, r5, r6, r7⟩ := take_args t1.r s1 t1.nd t1.sep t1.dj hl q2
        have ra : ROs G F1 H1 q (vs ++ dvs) (ds ++ dfl) := by
          have := r1.append (hz F1 H1)
          rwa [List.append_nil] at this
        have rA := t1.r.app (hz F1 H1)
        refine ⟨by rw [List.length_append, t1.r.length, (hz F1 H1).length]; exact hlen, F1, q, ds ++ dfl, ra, r2, r3, s1.sub, ?_⟩
        have fin : ∀ {F' H' : Hp} {qv r : List Addr} {v : V} {d : D} {fin : List D} {e2 : DEnv}, RO G F' H' qv v d → ROs G F' H' r (lentV mask (vs ++ dvs)) fin → (qv ++ r).Nodup → (∀ a, a ∈ qv ++ r → F' a = none) → (∀ a o, F' a = some o → H' a = some o) → Tr F1 H1 (· ∈ q) F' H' (· ∈ qv ++ r) → bk mask (as ++ dfl.map .t) fin (minus as e1) = some e2 →
            ∃ fp2, SO G F' H' fp2 σ e2 ∧ TO G F' H' fp2 qv v d ∧ Tr F H (own fp) F' H' (fun a => own fp2 a ∨ a ∈ qv) := by
          intro F' H' qv r v d fin e2 h1 h2 h3 h4 h5 h6 h7
          have s2 := s0.frame r5 h6 h5
          have nO : ∀ a, a ∈ qv ++ r → ¬ own fp0 a := fun a z w => by
            rcases h6.ow a z with u | u
            · exact r5 a u w
            · obtain ⟨i, w⟩ := w
              obtain ⟨o, ho⟩ := s0.th i a w
              rw [u] at ho; cases ho
          obtain ⟨n1, n2, n3⟩ := List.nodup_append.mp h3
          obtain ⟨fp2, s3, o3⟩ := give_back rA s2 h2 n2 (fun a z => h4 a (List.mem_append_right _ z)) (fun a z => nO a (List.mem_append_right _ z)) h7
          refine ⟨fp2, s3, ⟨h1, n1, fun a z => h4 a (List.mem_append_left _ z), fun a z w => ?_⟩, (tr1.trans (h6.weak (P := fun a => own fp1 a ∨ a ∈ p) (P1 := fun a => own fp0 a ∨ a ∈ qv ++ r) r7 fun a z => z.elim (fun z => .inr (.inl (r6 a z))) .inl)).drop fun a z => ?_⟩
          · rcases o3 a w with w | w
            · exact nO a (List.mem_append_left _ z) w
            · exact n3 a z a w rfl
          · rcases z with z | z
            · exact (o3 a z).imp id (List.mem_append_right _)
            · exact .inr (List.mem_append_left _ z)
        cases q3 : C (ds ++ dfl) with
        | ok d fn =>
          rw [q3] at h
          simp only at h
          cases q4 : bk mask (as ++ dfl.map .t) fn (minus as e1) with
          | none => rw [q4] at h; exact h.elim
          | some e2 =>
            rw [q4] at h
            intro v F' H' qv r h1 h2 h3 h4 h5 h6
            obtain ⟨fp2, s3, t3, tr3⟩ := fin h1 h2 h3 h4 h5 h6 q4
            exact h v F' H' fp2 qv s3 t3 tr3
        | ex c d fn =>
          rw [q3] at h
          simp only at h
          cases q4 : bk mask (as ++ dfl.map .t) fn (minus as e1) with
          | none => rw [q4] at h; exact h.elim
          | some e2 =>
            rw [q4] at h
            intro dx v F' H' qv r h1 h2 h3 h4 h5 h6 hx
            obtain ⟨fp2, s3, t3, tr3⟩ := fin h1 h2 h3 h4 h5 h6 q4
            exact h dx v F' H' fp2 qv s3 t3 tr3 hx
        | no => rw [q3] at h; exact h.elim
      · exact h.elim
theorem se_call {C : List D → RC} {mask : List Bool} {dfl : List D} {dvs : List V} {ds : List Value} {ms : List Ar} {k : Nat} {f : Addr} {fd : FuncData} {ps : List Str} {x : Str} (tk : Takes X W)
    (FO : FnOk X.prog X.w X.K X.mg X.base (L2.CX X.prog X.w) k f fd ps (Prom (gOf X g) mask C)) (hr : Room k X.A) (hg : Gl X x) (hm : X.mg x = some (.ref f)) (hk : PySem.W.keepIn X.K (.ref f) = true) (hb : Binds X.K fd ps ds) (hd : Vals dvs ds)
    (hz : ∀ F H, ROs (gOf X g) F H [] dvs dfl) (ha : SA X g W (a :: es) ms) (hdb : (x == ("__debug__" : Str)) = false) (he : starEach (a :: es) X.env = (false, eval a X.env) :: starEach es X.env) (hpl : (backTo pos (starEach es X.env)).any (·.1) = false) :
    SE X g W (.Call (.Name x p2) (a :: es) [] pos) (mCall C mask dfl ms) := PE.imp (pe_callSD (E := WE W) FO hr hg hm hk hb hd (passAt tk) ha hdb he hpl) fun σ H Q h => call_plain hz h
theorem se_call0 {C : List D → RC} {mask : List Bool} {dfl : List D} {dvs : List V} {ds : List Value} {k : Nat} {f : Addr} {fd : FuncData} {ps : List Str} {x : Str} (tk : Takes X W)
    (FO : FnOk X.prog X.w X.K X.mg X.base (L2.CX X.prog X.w) k f fd ps (Prom (gOf X g) mask C)) (hr : Room k X.A) (hg : Gl X x) (hm : X.mg x = some (.ref f)) (hk : PySem.W.keepIn X.K (.ref f) = true) (hb : Binds X.K fd ps ds) (hd : Vals dvs ds)
    (hz : ∀ F H, ROs (gOf X g) F H [] dvs dfl) (hdb : (x == ("__debug__" : Str)) = false) :
    SE X g W (.Call (.Name x p2) [] [] pos) (mCall C mask dfl []) := by
  refine ⟨fun pins s σ H Q I h => ?_⟩
  refine wpAny_Call_Name_kw (ld_glob I hg hm ?_ hdb)
  refine PySem.W.callWith_K0 I.kIn hk (run_fnSD (us := []) (vs := []) (E := WE W) FO hr hb hd (passAt tk σ) I .nil ?_)
  obtain ⟨F, fp, e, s, h⟩ := call_plain (dvs := dvs) hz h
  exact h [] F H fp [] s ⟨.nil, List.nodup_nil, fun _ z => (nomatch z), fun _ z => (nomatch z)⟩ Tr.refl.nil
end
end EV

/-! EvM: what a def computes, its promise. -/
namespace EV
open PySem PySem.Spec PyProof.Rows L2

def fins : List Bool → DEnv → Option (List D)
  | true :: m, some d :: e => (fins m e).map (d :: ·)
  | true :: _, _ => none
  | false :: m, _ :: e => fins m e
  | false :: m, [] => fins m []
  | [], _ => some []
/-- the places of true -/
def lix : Nat → List Bool → List Nat
  | k, true :: m => k :: lix (k + 1) m
  | k, false :: m => lix (k + 1) m
  | _, [] => []
/-- a def as a plain function: n slots -/
def callF (n : Nat) (mask : List Bool) (m : MS) (ds : List D) : RC :=
  if ds.length = mask.length ∧ mask.length ≤ n then
    match m (ds.map some ++ List.replicate (n - mask.length) none) with
    | .nx e => match fins mask e with
      | some f => .ok .non f
      | none => .no
    | .rt d e => match fins mask e with
      | some f => .ok d f
      | none => .no
    | .ex c d e => match fins mask e with
      | some f => .ex c d f
      | none => .no
    | _ => .no
  else .no
section
variable {X : Cx} {N : List Str} {sc : Scope} {fr : List Str} {g : GF} {G : GI} {W : WX} {L : List Nat} {F H F1 H1 F' H' : Hp} {fp fp1 fp' : Nat → List Addr} {σ σ1 : L2.St} {e e' : DEnv}
theorem ROs.split : ∀ {p : List Addr} {vs : List V} {ds : List D}, ROs G F H p vs ds → ∃ ps : List (List Addr), ps.flatten = p ∧ ∀ (i : Nat) (d : D), ds[i]? = some d → ∃ (v : V) (f : List Addr), vs[i]? = some v ∧ ps[i]? = some f ∧ RO G F H f v d
  | _, _, _, .nil => ⟨[], rfl, fun i d h => by cases h⟩
  | _, _, _, .cons (f := f) r rs => by
    obtain ⟨ps, e, h⟩ := ROs.split rs
    refine ⟨f :: ps, by rw [List.flatten_cons, e], fun i d hi => ?_⟩
    cases i with
    | zero => injection hi with hi; subst hi; exact ⟨_, f, rfl, rfl, r⟩
    | succ i => exact h i d hi
theorem nth_nodup : ∀ {ps : List (List Addr)}, ps.flatten.Nodup → (∀ (i : Nat) (f : List Addr), ps[i]? = some f → f.Nodup) ∧ ∀ (i j : Nat) (f f' : List Addr) (a : Addr), ps[i]? = some f → ps[j]? = some f' → a ∈ f → a ∈ f' → i = j
  | [], _ => ⟨(fun i f h => by cases h), (fun i j f f' a h => by cases h)⟩
  | p :: ps, h => by
    rw [List.flatten_cons] at h
    obtain ⟨n1, n2, n3⟩ := List.nodup_append.mp h
    obtain ⟨h1, h2⟩ := nth_nodup n2
    have mem : ∀ j f a, ps[j]? = some f → a ∈ f → a ∈ ps.flatten := fun j f a hj ha => List.mem_flatten.mpr ⟨f, List.mem_of_getElem? hj, ha⟩
    refine ⟨fun i f hi => ?_, fun i j f f' a hi hj ha hb => ?_⟩
    · cases i with
      | zero => injection hi with hi; subst hi; exact n1
      | succ i => exact h1 i f hi
    · cases i with
      | zero =>
        cases j with
        | zero => rfl
        | succ j =>
          injection hi with hi; subst hi
          exact absurd rfl (n3 a ha a (mem j f' a hj hb))
      | succ i =>
        cases j with
        | zero =>
          injection hj with hj; subst hj
          exact absurd rfl (n3 a hb a (mem i f a hi ha))
        | succ j => rw [h2 i j f f' a hi hj ha hb]
theorem start_SO {p : List Addr} {vs : List V} {ds : List D} (n : Nat) (hn : ds.length ≤ N.length) (hs : ∀ a o, F a = some o → H a = some o) (r : ROs G F H p vs ds) (nd : p.Nodup) (sep : ∀ a, a ∈ p → F a = none) :
    ∃ fp, SO G F H fp (L2.start N vs) (ds.map some ++ List.replicate (N.length - ds.length) none) ∧ ∀ a, own fp a → a ∈ p := by
  obtain ⟨ps, ep, h⟩ := r.split
  subst ep
  obtain ⟨n1, n2⟩ := nth_nodup nd
  have gd : ∀ i a, a ∈ ps.getD i [] → ∃ f, ps[i]? = some f ∧ a ∈ f := fun i a z => by
    rw [List.getD_eq_getElem?_getD] at z
    cases q : ps[i]? with
    | none => rw [q] at z; cases z
    | some f => rw [q] at z; exact ⟨f, rfl, z⟩
  have mem : ∀ i a, a ∈ ps.getD i [] → a ∈ ps.flatten := fun i a z => by
    obtain ⟨f, hf, ha⟩ := gd i a z
    exact List.mem_flatten.mpr ⟨f, List.mem_of_getElem? hf, ha⟩
  refine ⟨fun i => ps.getD i [], ⟨hs, fun i d hi => ?_, fun i => ?_, fun i j a hi hj => ?_, fun i a z => sep a (mem i a z), fun i a z => r.there a (mem i a z), ?_⟩, fun a ⟨i, z⟩ => mem i a z⟩
  · by_cases hl : i < ds.length
    · rw [List.getElem?_append_left (by simpa using hl), List.getElem?_map] at hi
      cases q : ds[i]? with
      | none => rw [q] at hi; cases hi
      | some d' =>
        rw [q] at hi
        injection hi with hi; injection hi with hi; subst hi
        obtain ⟨v, f, h1, h2, h3⟩ := h i d' q
        refine ⟨v, ?_, ?_⟩
        · unfold L2.start
          have hv : i < vs.length := (List.getElem?_eq_some_iff.mp h1).1
          rw [List.getElem?_append_left (by simpa using hv), List.getElem?_map, h1]
          rfl
        · rw [List.getD_eq_getElem?_getD, h2]; exact h3
    · rw [List.getElem?_append_right (by simpa using hl)] at hi
      have := List.mem_of_getElem? hi
      have := List.eq_of_mem_replicate this
      cases this
  · show (ps.getD i []).Nodup
    rw [List.getD_eq_getElem?_getD]
    cases q : ps[i]? with
    | none => exact List.nodup_nil
    | some f => exact n1 i f q
  · obtain ⟨f, h1, h2⟩ := gd i a hi
    obtain ⟨f', h3, h4⟩ := gd j a hj
    exact n2 i j f f' a h1 h3 h2 h4
  · unfold L2.start
    rw [List.length_append, List.length_append, List.length_map, List.length_map, List.length_replicate, List.length_replicate, r.length]
theorem end_fin : ∀ (mask : List Bool) (k : Nat) (vs : List V) (e : DEnv) (fin : List D), vs.length = mask.length → (∀ i d, e[i]? = some (some d) → ∃ v, σ[k + i]? = some (some v) ∧ RO G F H (fp (k + i)) v d) → (∀ i, (fp i).Nodup) → (∀ i j a, a ∈ fp i → a ∈ fp j → i = j) →
    (∀ i, mask[i]? = some true → ∃ v, vs[i]? = some v ∧ σ[k + i]? = some (some v)) → fins mask e = some fin →
    ∃ r, ROs G F H r (lentV mask vs) fin ∧ r.Nodup ∧ ∀ a, a ∈ r → ∃ i, k ≤ i ∧ a ∈ fp i
  | [], k, vs, e, fin, hl, hr, hn, hd, hv, h => by
    cases vs with
    | cons _ _ => cases hl
    | nil =>
      have h : some ([] : List D) = some fin := by
        cases e <;> exact h
      injection h with h; subst h
      exact ⟨[], .nil, List.nodup_nil, fun _ z => (nomatch z)⟩
  | false :: m, k, vs, e, fin, hl, hr, hn, hd, hv, h => by
    cases vs with
    | nil => cases hl
    | cons v vs =>
      have h : fins m e.tail = some fin := by
        cases e <;> exact h
      obtain ⟨r, h1, h2, h3⟩ := end_fin m (k + 1) vs e.tail fin (by simpa using hl) (fun i d hi => by
        have := hr (i + 1) d (by cases e with
          | nil => cases hi
          | cons x e => exact hi)
        rw [show k + 1 + i = k + (i + 1) from by omega]; exact this) hn hd (fun i hi => by
        have := hv (i + 1) hi
        rw [show k + 1 + i = k + (i + 1) from by omega]; exact this) h
      exact ⟨r, h1, h2, fun a z => by obtain ⟨i, q1, q2⟩ := h3 a z; exact ⟨i, by omega, q2⟩⟩
  | true :: m, k, vs, e, fin, hl, hr, hn, hd, hv, h => by
    cases vs with
    | nil => cases hl
    | cons v vs =>
      cases e with
      | nil => cases h
      | cons x e =>
        cases x with
        | none => cases h
        | some d =>
          have h : (fins m e).map (d :: ·) = some fin := h
          cases q : fins m e with
          | none => rw [q] at h; cases h
          | some fn =>
            rw [q] at h
            injection h with h; subst h
            obtain ⟨r, h1, h2, h3⟩ := end_fin m (k + 1) vs e fn (by simpa using hl) (fun i d hi => by
              have := hr (i + 1) d hi
              rw [show k + 1 + i = k + (i + 1) from by omega]; exact this) hn hd (fun i hi => by
              have := hv (i + 1) hi
              rw [show k + 1 + i = k + (i + 1) from by omega]; exact this) q
            obtain ⟨w, hw, rw'⟩ := hr 0 d rfl
            obtain ⟨v1, hv1, hv2⟩ := hv 0 rfl
            injection hv1 with hv1; subst hv1
            rw [hw] at hv2
            cases hv2
            refine ⟨fp (k + 0) ++ r, .cons rw' h1, List.nodup_append.mpr ⟨hn _, h2, fun x hx y hy z => ?_⟩, fun a z => ?_⟩
            · subst z
              obtain ⟨i, q1, q2⟩ := h3 x hy
              have := hd _ _ x hx q2
              omega
            · rcases List.mem_append.mp z with z | z
              · exact ⟨k + 0, by omega, z⟩
              · obtain ⟨i, q1, q2⟩ := h3 a z
                exact ⟨i, by omega, q2⟩
theorem lix_mem : ∀ (mask : List Bool) (k i : Nat), mask[i]? = some true → (k + i) ∈ lix k mask
  | [], k, i, h => by cases h
  | b :: m, k, i, h => by
    cases i with
    | zero =>
      injection h with h; subst h
      exact List.mem_cons_self ..
    | succ i =>
      have := lix_mem m (k + 1) i h
      rw [show k + 1 + i = k + (i + 1) from by omega] at this
      cases b
      · exact this
      · exact List.mem_cons_of_mem _ this
/-- the body's ends are the promise's -/
theorem body_plain {mask : List Bool} {m : MS} {E : XK} {Q : VK} {vs : List V} (hm : mask.length ≤ N.length) (h : Prom G mask (callF N.length mask m) vs H Q E) :
    RdS G (fun cls d _ H => E cls d H) (lix 0 mask) m { nx := fun _ H' => Q .non H', rt := Q } (L2.start N vs) H := by
  obtain ⟨hl, F, p, ds, r, nd, sep, hs, h⟩ := h
  unfold callF at h
  by_cases hh : ds.length = mask.length ∧ mask.length ≤ N.length
  · rw [if_pos hh] at h
    obtain ⟨h1, h2⟩ := hh
    obtain ⟨fp, s, ho⟩ := start_SO (N := N) 0 (by omega) hs r nd sep
    rw [h1] at s
    refine ⟨F, fp, _, s, ?_⟩
    have st : ∀ i v, vs[i]? = some v → (L2.start N vs)[i]? = some (some v) := fun i v hv => by
      unfold L2.start
      have hv' : i < vs.length := (List.getElem?_eq_some_iff.mp hv).1
      rw [List.getElem?_append_left (by simpa using hv'), List.getElem?_map, hv]
      rfl
    have lent : ∀ {σ' : L2.St} {F' H' : Hp} {fp' : Nat → List Addr} {e' : DEnv} {fin : List D}, SO G F' H' fp' σ' e' → (∀ i, i ∈ lix 0 mask → σ'[i]? = (L2.start N vs)[i]?) → fins mask e' = some fin → ∃ r, ROs G F' H' r (lentV mask vs) fin ∧ r.Nodup ∧ ∀ a, a ∈ r → own fp' a := fun s' l' hf => by
      obtain ⟨r, q1, q2, q3⟩ := end_fin mask 0 vs _ _ hl (fun i d hi => by rw [Nat.zero_add]; exact s'.rep i d hi) s'.nd s'.dj (fun i hi => by
        have hi' : i < vs.length := by rw [hl]; exact (List.getElem?_eq_some_iff.mp hi).1
        have z := lix_mem mask 0 i hi
        rw [Nat.zero_add] at z ⊢
        exact ⟨vs[i], List.getElem?_eq_getElem hi', by rw [l' i z]; exact st i _ (List.getElem?_eq_getElem hi')⟩) hf
      exact ⟨r, q1, q2, fun a z => by obtain ⟨i, _, q⟩ := q3 a z; exact ⟨i, q⟩⟩
    have all : ∀ {σ' : L2.St} {F' H' : Hp} {fp' : Nat → List Addr} {e' : DEnv} {q r : List Addr} {v : V} {d : D}, SO G F' H' fp' σ' e' → TO G F' H' fp' q v d → r.Nodup → (∀ a, a ∈ r → own fp' a) → Tr F H (own fp) F' H' (fun a => own fp' a ∨ a ∈ q) →
        (q ++ r).Nodup ∧ (∀ a, a ∈ q ++ r → F' a = none) ∧ Tr F H (· ∈ p) F' H' (· ∈ q ++ r) := fun s' t' n' o' tr => by
      refine ⟨List.nodup_append.mpr ⟨t'.nd, n', fun x hx y hy z => t'.dj x hx (o' x (z ▸ hy))⟩, fun a z => (List.mem_append.mp z).elim (t'.sep a) fun z => by obtain ⟨i, w⟩ := o' a z; exact s'.sep i a w, ?_⟩
      exact tr.weak ho fun c z => (List.mem_append.mp z).elim (fun z => .inl (.inr z)) fun z => .inl (.inl (o' c z))
    cases q1 : m (ds.map some ++ List.replicate (N.length - mask.length) none) with
    | nx e' =>
      rw [q1] at h
      simp only at h
      intro σ' F' H' fp' s' l' tr
      cases q2 : fins mask e' with
      | none => rw [q2] at h; exact h.elim
      | some fin =>
        rw [q2] at h
        obtain ⟨r, r1, r2, r3⟩ := lent s' l' q2
        obtain ⟨a1, a2, a3⟩ := all s' (TO.z .non) r2 r3 tr.nil
        exact h .non F' H' [] r .non r1 a1 a2 s'.sub a3
    | rt d e' =>
      rw [q1] at h
      simp only at h
      intro v σ' F' H' fp' pv s' l' t' tr
      cases q2 : fins mask e' with
      | none => rw [q2] at h; exact h.elim
      | some fin =>
        rw [q2] at h
        obtain ⟨r, r1, r2, r3⟩ := lent s' l' q2
        obtain ⟨a1, a2, a3⟩ := all s' t' r2 r3 tr
        exact h v F' H' pv r t'.r r1 a1 a2 s'.sub a3
    | ex c d e' =>
      rw [q1] at h
      simp only at h
      intro dx v σ' F' H' fp' pv s' l' t' tr hx
      cases q2 : fins mask e' with
      | none => rw [q2] at h; exact h.elim
      | some fin =>
        rw [q2] at h
        obtain ⟨r, r1, r2, r3⟩ := lent s' l' q2
        obtain ⟨a1, a2, a3⟩ := all s' t' r2 r3 tr
        exact h dx v F' H' pv r t'.r r1 a1 a2 s'.sub a3 hx
    | bk e' => rw [q1] at h; exact h.elim
    | ct e' => rw [q1] at h; exact h.elim
    | no => rw [q1] at h; exact h.elim
  · rw [if_neg hh] at h; exact h.elim
end
end EV

/-! EvN: built-ins by name; contexts; the promise of a def from its body. -/
namespace EV
open PySem PySem.Spec PyProof.Rows L2
section
variable {X : Cx} {N : List Str} {sc : Scope} {fr : List Str} {g : GF} {G : GI} {W : WX} {L : List Nat} {a b c : Expr} {es : List Expr} {pos p2 p3 p4 : Pos} {oa ob : Op} {m n t : ME}
theorem se_len (C : Cn X N sc fr) (h1 : ("len" : Str) ∈ fr) (h2 : glB sc "len" = true) (ha : SOp X g W a oa) (hs : starEach [a] X.env = (false, eval a X.env) :: starEach [] X.env) : SE X g W (.Call (.Name "len" p2) [a] [] pos) (mOp1 lenD oa) :=
  se_b1 C (id := "len") (r := fun xs H Q => ∃ x n, xs = [x] ∧ LenV X.K x H n ∧ Q (.int n) H) call_len (by decide +kernel) (by decide) (by decide) (fun F H x d1 d Q s r1 h k => by
    obtain ⟨n, h1, h2⟩ := hr_len s r1 h k
    exact ⟨x, n, rfl, h1, h2⟩) h1 h2 ha hs
theorem se_abs (C : Cn X N sc fr) (h1 : ("abs" : Str) ∈ fr) (h2 : glB sc "abs" = true) (ha : SOp X g W a oa) (hs : starEach [a] X.env = (false, eval a X.env) :: starEach [] X.env) : SE X g W (.Call (.Name "abs" p2) [a] [] pos) (mOp1 absD oa) :=
  se_b1 C (id := "abs") call_abs (by decide +kernel) (by decide) (by decide) (fun F H x d1 d Q s r1 h k => hr_abs s r1 h k) h1 h2 ha hs
theorem se_int1 (C : Cn X N sc fr) (h1 : ("int" : Str) ∈ fr) (h2 : glB sc "int" = true) (ha : SOp X g W a oa) (hs : starEach [a] X.env = (false, eval a X.env) :: starEach [] X.env) : SE X g W (.Call (.Name "int" p2) [a] [] pos) (mOp1 intD oa) :=
  se_t1 C (id := "int") call_int1 (by decide +kernel) (by decide) (by decide) (fun F H x d1 d Q s r1 h k => hr_int s r1 h k) h1 h2 ha hs
theorem se_tuple (C : Cn X N sc fr) (h1 : ("tuple" : Str) ∈ fr) (h2 : glB sc "tuple" = true) (ha : SOp X g W a oa) (hs : starEach [a] X.env = (false, eval a X.env) :: starEach [] X.env) : SE X g W (.Call (.Name "tuple" p2) [a] [] pos) (mOp1 tupleD oa) :=
  se_t1 C (id := "tuple") call_tuple_of (by decide +kernel) (by decide) (by decide) (fun F H x d1 d Q s r1 h k => hr_tuple s r1 h k) h1 h2 ha hs
theorem se_list (C : Cn X N sc fr) (h1 : ("list" : Str) ∈ fr) (h2 : glB sc "list" = true) (ha : SOp X g W a oa) (hs : starEach [a] X.env = (false, eval a X.env) :: starEach [] X.env) : SE X g W (.Call (.Name "list" p2) [a] [] pos) (mOp1 listD oa) :=
  se_t1 C (id := "list") call_list_of (by decide +kernel) (by decide) (by decide) (fun F H x d1 d Q s r1 h k => hr_list s r1 h k) h1 h2 ha hs
theorem se_sum (C : Cn X N sc fr) (h1 : ("sum" : Str) ∈ fr) (h2 : glB sc "sum" = true) (ha : SOp X g W a oa) (hs : starEach [a] X.env = (false, eval a X.env) :: starEach [] X.env) : SE X g W (.Call (.Name "sum" p2) [a] [] pos) (mOp1 sumD oa) :=
  se_b1 C (id := "sum") (cr_sum C.calm) (by decide +kernel) (by decide) (by decide) (fun F H x d1 d Q s r1 h k => hr_sum s r1 h k) h1 h2 ha hs
theorem se_max1 (C : Cn X N sc fr) (h1 : ("max" : Str) ∈ fr) (h2 : glB sc "max" = true) (ha : SOp X g W a oa) (hs : starEach [a] X.env = (false, eval a X.env) :: starEach [] X.env) : SE X g W (.Call (.Name "max" p2) [a] [] pos) (mOp1 max1D oa) :=
  se_b1 C (id := "max") (cr_max C.calm) (by decide +kernel) (by decide) (by decide) (fun F H x d1 d Q s r1 h k => hr_max1 s r1 h k) h1 h2 ha hs
theorem se_min1 (C : Cn X N sc fr) (h1 : ("min" : Str) ∈ fr) (h2 : glB sc "min" = true) (ha : SOp X g W a oa) (hs : starEach [a] X.env = (false, eval a X.env) :: starEach [] X.env) : SE X g W (.Call (.Name "min" p2) [a] [] pos) (mOp1 min1D oa) :=
  se_b1 C (id := "min") (cr_min C.calm) (by decide +kernel) (by decide) (by decide) (fun F H x d1 d Q s r1 h k => hr_min1 s r1 h k) h1 h2 ha hs
theorem se_all (C : Cn X N sc fr) (h1 : ("all" : Str) ∈ fr) (h2 : glB sc "all" = true) (ha : SOp X g W a oa) (hs : starEach [a] X.env = (false, eval a X.env) :: starEach [] X.env) : SE X g W (.Call (.Name "all" p2) [a] [] pos) (mOp1 allD oa) :=
  se_b1 C (id := "all") (cr_all C.calm) (by decide +kernel) (by decide) (by decide) (fun F H x d1 d Q s r1 h k => hr_all s r1 h k) h1 h2 ha hs
theorem se_any (C : Cn X N sc fr) (h1 : ("any" : Str) ∈ fr) (h2 : glB sc "any" = true) (ha : SOp X g W a oa) (hs : starEach [a] X.env = (false, eval a X.env) :: starEach [] X.env) : SE X g W (.Call (.Name "any" p2) [a] [] pos) (mOp1 anyD oa) :=
  se_b1 C (id := "any") (cr_any C.calm) (by decide +kernel) (by decide) (by decide) (fun F H x d1 d Q s r1 h k => hr_any s r1 h k) h1 h2 ha hs
theorem se_max2 (C : Cn X N sc fr) (h1 : ("max" : Str) ∈ fr) (h2 : glB sc "max" = true) (ha : SOp X g W a oa) (hb : SOp X g W b ob) (hs : starEach [a, b] X.env = (false, eval a X.env) :: starEach [b] X.env) (hs2 : starEach [b] X.env = (false, eval b X.env) :: starEach [] X.env) (hpl : (backTo pos (starEach [b] X.env)).any (·.1) = false) :
    SE X g W (.Call (.Name "max" p2) [a, b] [] pos) (mOp2 max2D oa ob) :=
  se_b2 C (id := "max") (call_max2 C.calm) (by decide +kernel) (by decide) (by decide) (fun F H x y d1 d2 d Q s r1 r2 h k => hr_max2 s r1 r2 h k) h1 h2 ha hb hs hs2 hpl
theorem se_min2 (C : Cn X N sc fr) (h1 : ("min" : Str) ∈ fr) (h2 : glB sc "min" = true) (ha : SOp X g W a oa) (hb : SOp X g W b ob) (hs : starEach [a, b] X.env = (false, eval a X.env) :: starEach [b] X.env) (hs2 : starEach [b] X.env = (false, eval b X.env) :: starEach [] X.env) (hpl : (backTo pos (starEach [b] X.env)).any (·.1) = false) :
    SE X g W (.Call (.Name "min" p2) [a, b] [] pos) (mOp2 min2D oa ob) :=
  se_b2 C (id := "min") (call_min2 C.calm) (by decide +kernel) (by decide) (by decide) (fun F H x y d1 d2 d Q s r1 r2 h k => hr_min2 s r1 r2 h k) h1 h2 ha hb hs hs2 hpl
/-- the block of a comprehension -/
theorem Cn.blk (C : Cn X N sc fr) {scope : Scope} (s : Shared) (H : Hp) (A : Addr) (cl : List (Str × Addr)) (fp : List Addr) : Cn (X.blk s H scope (compEnvC scope cl A X.env) fp) N (relS scope sc) fr where
  hN := C.hN
  nd := C.nd
  hsc := by
    show relS scope X.env.scope = _
    rw [C.hsc]
  calm := C.calm
  hu := C.hu
  hfr := C.hfr
theorem takes0 : Takes X W0 := fun u s' x => by
  obtain ⟨a, B, sI, pins, σ, H, cls, d, _, _, _, _, _, _, _, _, w⟩ := x
  exact w.elim
end
section
variable {P : Program} {w : World} {K : PySem.W.Frag} {mg : Str → Option Value} {base : Heap} {x qual : Str} {params : Arguments} {body : List Stmt} {scope : Scope} {dvs : List V} {kws : List (Str × V)} {f : Addr} {fd : FuncData}
theorem fn_ok {N ps fr : List Str} {mask : List Bool} {k : Nat} {m : MS} {g : GF} (Fd : FunD K x qual params body scope dvs kws f fd) (S : FnScope N ps scope) (hm : mask.length = ps.length) (hn : mask.length ≤ N.length) (hfr : ∀ x ∈ fr, mg x = none)
    (hb : ∀ (cdv : Value) (A : Around) (outer : List Env) (s : Shared) (H : Hp) (E : XK), Room k (cxOf (L2.CX P w) P w K mg base N qual scope f cdv A outer s H E).A → Cn (cxOf (L2.CX P w) P w K mg base N qual scope f cdv A outer s H E) N scope fr →
      Takes (cxOf (L2.CX P w) P w K mg base N qual scope f cdv A outer s H E) (fun cls d _ H => E cls d H) → PassesOwn (model P w) (cxOf (L2.CX P w) P w K mg base N qual scope f cdv A outer s H E).A (cxOf (L2.CX P w) P w K mg base N qual scope f cdv A outer s H E).env (cxOf (L2.CX P w) P w K mg base N qual scope f cdv A outer s H E).xe →
      SSs (cxOf (L2.CX P w) P w K mg base N qual scope f cdv A outer s H E) g (fun cls d _ H => E cls d H) (lix 0 mask) body m) :
    FnOk P w K mg base (L2.CX P w) (k + 1) f fd ps (Prom ⟨g, K⟩ mask (callF N.length mask m)) :=
  Fd.ok S (Prom.len hm) fun cdv A outer s H vs Q E room sp =>
    ⟨_, hb cdv A outer s H E room ⟨rfl, S.nd, rfl, rfl, by have := room.un; show (A.deeper _).units + 200 < cLine; omega, hfr⟩ (takes_of rfl rfl rfl rfl) (passes_of rfl), body_plain hn sp⟩
end
end EV

/-! EvO: displays of dicts, zip, index, items of items. -/
namespace EV
open PySem PySem.Spec PyProof.Rows L2
section
variable {X : Cx} {N : List Str} {sc : Scope} {fr : List Str} {g : GF} {G : GI} {W : WX} {L : List Nat} {a b c : Expr} {es : List Expr} {pos p2 p3 p4 p5 : Pos} {oa ob : Op} {m n t : ME} {F H F1 H1 F' H' : Hp} {fp fp1 fp' : Nat → List Addr} {σ σ1 : L2.St} {e e' : DEnv}
/-! ### {}, {key: value} -/
def mDnew (d : D) : ME := fun e => .ok d e
theorem se_dnewK : SE X g W (.Dict [] [] pos) (mDnew (.dk true [])) := PE.imp pe_dnewK fun σ H Q ⟨F, fp, e, s, h⟩ => fun p hp => by
  refine h (.ref p) F _ fp [p] (s.new hp) ⟨.dko upd_same rfl .nil, by simp, fun c z => ?_, fun c z => ?_⟩ ((Tr.new hp).drop fun c z => z.imp id fun z => List.mem_singleton.mp z)
  · rw [List.mem_singleton.mp z]; exact s.fnone hp
  · rw [List.mem_singleton.mp z]; exact s.noown hp
theorem se_dnewT : SE X g W (.Dict [] [] pos) (mDnew (.dt true [])) := PE.imp pe_dnewT fun σ H Q ⟨F, fp, e, s, h⟩ => fun p hp => by
  refine h (.ref p) F _ fp [p] (s.new hp) ⟨.dto upd_same rfl .nil, by simp, fun c z => ?_, fun c z => ?_⟩ ((Tr.new hp).drop fun c z => z.imp id fun z => List.mem_singleton.mp z)
  · rw [List.mem_singleton.mp z]; exact s.fnone hp
  · rw [List.mem_singleton.mp z]; exact s.noown hp
def tDisp1T (tk tv : TE) : TE := fun σ H Q => ∀ p, H p = none → tk σ (upd H p (.dT [])) fun x H1 => tv σ H1 fun y H2 => H2 p = some (.dT []) ∧ ∃ ks b, x = .ref b ∧ H2 b = some (.tup (ks.map kV)) ∧ Q (.ref p) (upd H2 p (.dT [(ks, y)]))
theorem pe_disp1T {k v : Expr} {tk tv : TE} (hu : X.A.units + 1 < cLine) (hk : PE X k tk) (hv : PE X v tv) : PE X (.Dict [some k] [v] pos) (tDisp1T tk tv) := by
  refine ⟨fun pins s σ H Q I q => ?_⟩
  have hn := I.hok.fresh (Nat.le_refl s.heap.objs.size)
  have I1 := I.laid (a := s.heap.objs.size) (o := .dT []) (h' := s.heap.push { cls := .type "dict", data := .dict #[] }) (t' := s.toks) (fun _ _ q => Heap.get?_push_of_some _ q) (Nat.le_refl _) (dt_empty s.heap I.big)
  rw [arm_eval_Dict, zip_pairTrees [some k] [v] X.env pos rfl rfl, dictDisplay_pairs _ (by simp [pairTrees]) (by simp [pairTrees])]
  refine wpAny_bind (wpAny_standAt (wpAny_bind ?_))
  unfold subDict
  refine wpAny_bind (wpAny_alloc ?_)
  refine wpAny_bind (wpAny_holding ?_)
  rw [if_pos (by simp [pairTrees])]
  refine wpAny_bind (evalPairs_cons (thn (hk.run pins _ σ _ _ I1 (q _ hn)) fun u s1 ⟨x, H1, I2, rx, q1⟩ => ?_))
  refine wpAny_bind (thn (hv.run pins _ σ _ _ I2 q1) fun r s2 ⟨y, H2, I3, ry, e2, ks, bb, ex, eb, q2⟩ => ?_)
  subst ex
  cases (show u = Value.ref bb from rx)
  refine wpAny_bind (wpAny_standAt (wpAny_pure (evalPairs_nil ?_)))
  refine wpAny_holding ?_
  rw [List.forIn_cons]
  obtain ⟨z, hd, xs, rel, dd⟩ := dt_of I3.hok e2
  cases rel
  refine wpAny_bind (wpAny_bind (wpAny_bind (wpAny_dictSet_heap (hsz := by simp) (show (tupleKind (mixKind X.prog X.w)).room X.A from Nat.lt_of_succ_lt hu) (key_of I3.hok eb) dd fun h' dd' hs => wpAny_pure ?_)))
  dsimp only
  rw [List.forIn_nil]
  refine wpAny_pure (wpAny_pure (wpAny_pure (wpAny_pure ?_)))
  obtain ⟨o, es, ep, hq, h2, h3, h4, _, h5⟩ := dd'
  refine ⟨.ref s.heap.objs.size, _, d_write (ob := .dT [(ks, y)]) I3 (by rw [e2]; exact True.intro) hs ⟨o, hq⟩ ⟨?_, hd, _, (KT.put .nil ks eb ry).keeps fun c ys ec => ?_, o, es, ep, hq, h2, h3, h4, h5⟩, rfl, q2⟩
  · show 1 ≤ sizeLine
    decide
  · rw [upd_ne (ne_of ec e2 (fun z => nomatch z))]
    exact ec
def mDisp1T (mk mv : ME) : ME := fun e => match mk e with
  | .ok dk e1 => match frz dk with
    | .tup ks => match keysD ks with
      | some key => match mv e1 with
        | .ok dv e2 => .ok (.dt true [(key, frz dv)]) e2
        | .ex c d e2 => .ex c d e2
        | .no => .no
      | none => .no
    | _ => .no
  | .ex c d e1 => .ex c d e1
  | .no => .no
theorem se_disp1T (C : Cn X N sc fr) (ha : SE X g W a m) (hb : SE X g W b n) : SE X g W (.Dict [some a] [b] pos) (mDisp1T m n) := PE.imp (pe_disp1T C.hu1 ha.z hb.z) fun σ H Q h => by
  obtain ⟨F, fp, e, s, h⟩ := RdE.iff.mp h
  intro p hp
  have s0 := s.new (o := .dT []) hp
  refine ⟨F, fp, e, s0, ?_⟩
  unfold mDisp1T at h
  have tr0 : Tr F H (own fp) F (upd H p (.dT [])) (fun c => own fp c ∨ c ∈ [p]) := (Tr.new hp).drop fun c z => z.imp id fun z => List.mem_singleton.mp z
  have t0 : TO (gOf X g) F (upd H p (.dT [])) fp [p] (.ref p) (.dt true []) := ⟨.dto upd_same rfl .nil, by simp, fun c z => by rw [List.mem_singleton.mp z]; exact s.fnone hp, fun c z => by rw [List.mem_singleton.mp z]; exact s.noown hp⟩
  cases q : m e with
  | ex c d e1 =>
    rw [q] at h
    intro dx v F1 H1 fp1 p1 s1 t1 tr1 hx
    exact h dx v F1 H1 fp1 p1 s1 t1 ((tr0.trans (tr1.weak (P := fun c => own fp c ∨ c ∈ [p]) (P1 := fun c => own fp1 c ∨ c ∈ p1) (fun _ z => .inl z) fun c z => .inl z))) hx
  | no => rw [q] at h; exact h
  | ok dk e1 =>
    rw [q] at h
    intro v F1 H1 fp1 s1 r1 tr1
    simp only at h
    generalize frz dk = dz at h r1
    cases dz with
    | tup ks =>
      simp only at h
      obtain ⟨bb, vs, rfl, hb1, rb⟩ := r1.tup_inv
      cases q1 : keysD ks with
      | none => rw [q1] at h; exact h.elim
      | some key =>
        rw [q1] at h
        simp only at h
        have t1 := t0.keep tr1 fun _ z => z
        refine ⟨F1, fp1, e1, s1, ?_⟩
        have tr01 : Tr F H (own fp) F1 H1 (fun c => own fp1 c ∨ c ∈ [p]) := tr0.trans tr1.hold0
        cases q2 : n e1 with
        | ex c d e2 =>
          rw [q2] at h
          intro dx v F2 H2 fp2 p2 s2 t2 tr2 hx
          exact h dx v F2 H2 fp2 p2 s2 t2 (tr01.trans (tr2.weak (P := fun c => own fp1 c ∨ c ∈ [p]) (P1 := fun c => own fp2 c ∨ c ∈ p2) (fun _ z => .inl z) fun c z => .inl z)) hx
        | no => rw [q2] at h; exact h
        | ok dv e2 =>
          rw [q2] at h
          intro y F2 H2 fp2 s2 r2 tr2
          have t2 := t1.keep tr2 fun _ z => z
          obtain ⟨a0, kvs, ea, _, hk, hk2, _⟩ := t2.r.dto_inv
          cases ea
          have ek : kvs = [] := List.map_eq_nil_iff.mp hk2
          subst ek
          have hb2 : H2 bb = some (.tup (key.map kV)) := by
            rw [← keysD_rep rb q1]; exact s2.sub _ _ (tr2.ff _ _ hb1)
          refine ⟨hk, key, bb, rfl, hb2, ?_⟩
          have pnF : F2 p = none := t2.sep p (List.mem_singleton.mpr rfl)
          have pnO : ¬ own fp2 p := t2.dj p (List.mem_singleton.mpr rfl)
          have hH : ∀ b o, b ≠ p → H2 b = some o → upd H2 p (.dT [(key, y)]) b = some o := fun b o z w => by rw [upd_ne z]; exact w
          have s3 : SO (gOf X g) F2 (upd H2 p (.dT [(key, y)])) fp2 σ e2 := s2.frame (p := [p]) (O' := fun c => c ∈ [p]) (fun c z w => pnO (by rwa [List.mem_singleton.mp z] at w)) ⟨fun _ _ z => z, fun b o n z => hH b o (fun u => n (List.mem_singleton.mpr u)) z, fun _ z => .inl z, fun _ _ z => .inl z⟩ fun b o z => hH b o (fun u => by rw [u, pnF] at z; cases z) (s2.sub b o z)
          refine h (.ref p) F2 _ fp2 [p] s3 ⟨.dto upd_same rfl (ROs.consZ (r2.mono (fun _ _ z => z) fun a z => nomatch z) .nil), by simp, fun c z => ?_, fun c z => ?_⟩ ?_
          · rw [List.mem_singleton.mp z]; exact pnF
          · rw [List.mem_singleton.mp z]; exact pnO
          · refine (tr01.trans tr2.hold0).trans ⟨fun _ _ z => z, fun b o n z => hH b o (fun u => n (.inr (List.mem_singleton.mpr u))) z, fun _ z => .inl z, fun _ _ z => .inl z⟩
    | _ => exact h.elim
/-! ### zip of two -/
def zipD : D → D → Option (List D)
  | .tup xs, .tup ys => some (List.zipWith (fun x y => .tup [x, y]) xs ys)
  | .lst _ xs, .lst _ ys => some (List.zipWith (fun x y => .tup [x, y]) xs ys)
  | _, _ => none
def mZip2 (m n : ME) : MI := fun e => match m e with
  | .ok d1 e1 => match n e1 with
    | .ok d2 e2 => match zipD (frz d1) (frz d2) with
      | some ds => .ok ds none e2
      | none => .no
    | .ex c d e2 => .ex c d e2
    | .no => .no
  | .ex c d e1 => .ex c d e1
  | .no => .no
theorem zipW_get {xs ys : List D} {k : Nat} {d : D} (h : (List.zipWith (fun x y => D.tup [x, y]) xs ys)[k]? = some d) : ∃ x y, xs[k]? = some x ∧ ys[k]? = some y ∧ d = .tup [x, y] := by
  rw [List.getElem?_zipWith] at h
  cases h1 : xs[k]? with
  | none => rw [h1] at h; cases h
  | some x =>
    cases h2 : ys[k]? with
    | none => rw [h1, h2] at h; cases h
    | some y =>
      rw [h1, h2] at h
      injection h with h
      exact ⟨x, y, rfl, rfl, h.symm⟩
theorem pair_new {T : Addr} {x y : V} {dx dy : D} (sb : Sb F H) (hT : H T = none) (rx : RO G F H [] x dx) (ry : RO G F H [] y dy) :
    ∃ F', (∀ a o, F a = some o → F' a = some o) ∧ (∀ a o, H a = some o → upd H T (.tup [x, y]) a = some o) ∧ Sb F' (upd H T (.tup [x, y])) ∧ (∀ a o, F' a = some o → F a = some o ∨ H a = none) ∧ RO G F' (upd H T (.tup [x, y])) [] (.ref T) (.tup [dx, dy]) := by
  have fT : F T = none := by
    cases q : F T with
    | none => rfl
    | some o => rw [sb T o q] at hT; cases hT
  refine ⟨upd F T (.tup [x, y]), upd_le fT, upd_le hT, fun b u z => ?_, fun b u z => ?_, .tup upd_same ?_⟩
  · by_cases e : b = T
    · subst e; rw [upd_same] at z ⊢; exact z
    · rw [upd_ne e] at z ⊢; exact sb b u z
  · by_cases e : b = T
    · subst e; exact .inr hT
    · rw [upd_ne e] at z; exact .inl z
  · exact ROs.consZ (rx.mono (upd_le fT) fun a z => nomatch z) (ROs.consZ (ry.mono (upd_le fT) fun a z => nomatch z) .nil)
theorem itok_zipL {K : PySem.W.Frag} {A B : Addr} {P : List Addr} {H0 : Hp} {vs ws : List V} {xs ys : List D} (h1 : F A = some (.lst vs)) (h2 : F B = some (.lst ws)) (r1 : ROs G F H [] vs xs) (r2 : ROs G F H [] ws ys) : ItOk G (Itz K A B) F P H0 (List.zipWith (fun x y => .tup [x, y]) xs ys) where
  go := fun F' H' k d q1 _ q2 q3 => by
    obtain ⟨x, y, e1, e2, rfl⟩ := zipW_get q3
    obtain ⟨u, hu, ru⟩ := r1.get e1
    obtain ⟨w, hw, rw'⟩ := r2.get e2
    refine ⟨⟨vs, ws, u, w, SqL.of (q2 _ _ (q1 _ _ h1)), SqL.of (q2 _ _ (q1 _ _ h2)), hu, hw⟩, fun v H2 yl => ?_⟩
    obtain ⟨T, x', y', rfl, hT, rfl, f1, f2⟩ := yl
    have g1 := f1 vs (SqL.of (q2 _ _ (q1 _ _ h1)))
    have g2 := f2 ws (SqL.of (q2 _ _ (q1 _ _ h2)))
    rw [hu] at g1; rw [hw] at g2
    cases g1; cases g2
    exact pair_new q2 hT (ru.monoZ q1) (rw'.monoZ q1)
  stop := fun F' H' q1 _ q2 => ⟨vs, ws, SqL.of (q2 _ _ (q1 _ _ h1)), SqL.of (q2 _ _ (q1 _ _ h2)), by
    rw [List.length_zipWith, r1.length, r2.length]; omega⟩
theorem itok_zipT {K : PySem.W.Frag} {A B : Addr} {P : List Addr} {H0 : Hp} {vs ws : List V} {xs ys : List D} (h1 : F A = some (.tup vs)) (h2 : F B = some (.tup ws)) (r1 : ROs G F H [] vs xs) (r2 : ROs G F H [] ws ys) : ItOk G (RZ.ItzT K A B) F P H0 (List.zipWith (fun x y => .tup [x, y]) xs ys) where
  go := fun F' H' k d q1 _ q2 q3 => by
    obtain ⟨x, y, e1, e2, rfl⟩ := zipW_get q3
    obtain ⟨u, hu, ru⟩ := r1.get e1
    obtain ⟨w, hw, rw'⟩ := r2.get e2
    refine ⟨⟨vs, ws, u, w, SqT.of (q2 _ _ (q1 _ _ h1)), SqT.of (q2 _ _ (q1 _ _ h2)), hu, hw⟩, fun v H2 yl => ?_⟩
    obtain ⟨T, x', y', rfl, hT, rfl, f1, f2⟩ := yl
    have g1 := f1 vs (SqT.of (q2 _ _ (q1 _ _ h1)))
    have g2 := f2 ws (SqT.of (q2 _ _ (q1 _ _ h2)))
    rw [hu] at g1; rw [hw] at g2
    cases g1; cases g2
    exact pair_new q2 hT (ru.monoZ q1) (rw'.monoZ q1)
  stop := fun F' H' q1 _ q2 => ⟨vs, ws, SqT.of (q2 _ _ (q1 _ _ h1)), SqT.of (q2 _ _ (q1 _ _ h2)), by
    rw [List.length_zipWith, r1.length, r2.length]; omega⟩
theorem si_zip2 {elts : List Expr} {kk : Nat} {tpos : Pos} (C : Cn X N sc fr) (h1 : ("zip" : Str) ∈ fr) (h2 : glB sc "zip" = true) (ha : SE X g W a m) (hb : SE X g W b n) (hs : starEach [a, b] X.env = (false, eval a X.env) :: starEach [b] X.env) (hs2 : starEach [b] X.env = (false, eval b X.env) :: starEach [] X.env) (hpl : (backTo pos (starEach [b] X.env)).any (·.1) = false) :
    SI X g W (.Tuple elts kk tpos) (.Call (.Name "zip" p2) [a, b] [] pos) (mZip2 m n) := PI.imp (RZ.pi_zipA (gl_ok C h2) (C.hfr _ h1) (pa_cons ha.z (pa_cons hb.z pa_nil hs2) hs) hs hpl) fun σ H R ⟨F, fp, e, s, h⟩ => by
  refine ⟨F, fp, e, s, ?_⟩
  unfold mZip2 at h
  cases q : m e with
  | ex c d e1 => rw [q] at h; exact h
  | no => rw [q] at h; exact h
  | ok d1 e1 =>
    rw [q] at h
    intro x F1 H1 fp1 s1 r1 tr1
    refine ⟨F1, fp1, e1, s1, ?_⟩
    simp only at h
    cases q1 : n e1 with
    | ex c d e2 => rw [q1] at h; exact XOut.trans h tr1
    | no => rw [q1] at h; exact h
    | ok d2 e2 =>
      rw [q1] at h
      intro y F2 H2 fp2 s2 r2 tr2
      simp only at h
      have r1 := r1.mono (F' := F2) (H' := H2) tr2.ff fun a z => nomatch z
      generalize frz d1 = z1 at h r1
      generalize frz d2 = z2 at h r2
      cases z1 with
      | tup xs =>
        cases z2 with
        | tup ys =>
          obtain ⟨A, vs, rfl, ha, ra⟩ := r1.tup_inv
          obtain ⟨B, ws, rfl, hb, rb⟩ := r2.tup_inv
          exact ⟨A, B, vs, ws, rfl, .inr ⟨SqT.of (s2.sub _ _ ha), SqT.of (s2.sub _ _ hb), h _ F2 H2 fp2 [] s2 rfl (tr1.trans tr2).nil (itok_zipT ha hb ra rb)⟩⟩
        | _ => exact h.elim
      | lst o xs =>
        cases z2 with
        | lst o2 ys =>
          obtain ⟨_, A, vs, rfl, ha, ra⟩ := r1.lst_inv
          obtain ⟨_, B, ws, rfl, hb, rb⟩ := r2.lst_inv
          exact ⟨A, B, vs, ws, rfl, .inl ⟨SqL.of (s2.sub _ _ ha), SqL.of (s2.sub _ _ hb), h _ F2 H2 fp2 [] s2 rfl (tr1.trans tr2).nil (itok_zipL ha hb ra rb)⟩⟩
        | _ => exact h.elim
      | _ => exact h.elim
/-! ### l.index(x) -/
def indexD : D → D → Option D
  | .lst _ ys, a => if eqOk 60 a && eqOks 59 ys then (ys.findIdx? fun z => eqvD z a).map fun j => .int (j : Nat) else none
  | _, _ => none
def mIdx (k : Nat) (ob : Op) : ME := fun e => match e[k]? with
  | some (some (.lst _ _)) => (ob.run e).bind fun p e1 => (PV.v k).see e1 fun dl e2 => p.see e2 fun d e3 => RE.of (indexD dl d) e3
  | _ => .no
theorem pds_get : ∀ {ds : List D} {k : Nat} {z : PyData}, (pds ds)[k]? = some z → ∃ d, ds[k]? = some d ∧ z = pd d
  | [], _, _, h => by cases h
  | d :: ds, 0, _, h => by injection h with h; exact ⟨d, rfl, h.symm⟩
  | d :: ds, k + 1, _, h => pds_get (ds := ds) (k := k) h
theorem eqOks_get {n : Nat} : ∀ {ds : List D} {k : Nat} {d : D}, eqOks n ds = true → ds[k]? = some d → eqOk n d = true
  | [], _, _, _, h => by cases h
  | d :: ds, k, d', h, hk => by
    have h2 : (eqOk n d && eqOks n ds) = true := by cases n <;> exact h
    rw [Bool.and_eq_true] at h2
    cases k with
    | zero => injection hk with hk; rw [← hk]; exact h2.1
    | succ k => exact eqOks_get h2.2 hk
theorem hr_index {x y : V} {dl d1 d : D} {Q : VK} (s : Sb F H) (r1 : RB G F H x dl) (r2 : RB G F H y d1) (h : indexD dl d1 = some d) (k : KR G F H d Q) : rIndexD G.K x [y] H Q := by
  cases dl <;> first | (cases h; done) | skip
  rename_i o ys
  have h : (if eqOk 60 d1 && eqOks 59 ys then (ys.findIdx? fun z => eqvD z d1).map (fun j => D.int (j : Nat)) else none) = some d := h
  split at h
  · rename_i he
    rw [Bool.and_eq_true] at he
    cases q : ys.findIdx? (fun z => eqvD z d1) with
    | none => rw [q] at h; cases h
    | some j =>
      rw [q] at h
      injection h with h; subst h
      obtain ⟨hj, h1, h2⟩ := List.findIdx?_eq_some_iff_getElem.mp q
      obtain ⟨_, a, vs, rfl, ha, ra⟩ := r1.lst_inv s
      have hl : ∀ {ds : List D}, (pds ds).length = ds.length := by
        intro ds
        induction ds with
        | nil => rfl
        | cons d ds ih => exact congrArg (· + 1) ih
      have gp : ∀ {ds : List D} {k : Nat} {d : D}, ds[k]? = some d → (pds ds)[k]? = some (pd d) := by
        intro ds
        induction ds with
        | nil => intro k d h; cases h
        | cons d ds ih =>
          intro k d' h
          cases k with
          | zero => injection h with h; subst h; rfl
          | succ k => exact ih h
      refine ⟨a, y, pd d1, pds ys, j, pd ys[j], rfl, rfl, dp_ofB (n := 60) (d := .lst o ys) s r1 he.2, dp_ofB s r2 he.1, shaped_of (n := 60) (d := .lst o ys) he.2 (by decide), shaped_of he.1 (by decide), gp (List.getElem?_eq_getElem hj), ?_, fun m z' hm hz => ?_, k.z s (.int _)⟩
      · rw [eqv_of 59 _ d1 60 (eqOks_get he.2 (List.getElem?_eq_getElem hj)) he.1]; exact h1
      · obtain ⟨d', e1, e2⟩ := pds_get hz
        subst e2
        rw [eqv_of 59 d' d1 60 (eqOks_get he.2 e1) he.1]
        have := h2 m hm
        have hm' : m < ys.length := Nat.lt_trans hm hj
        rw [List.getElem?_eq_getElem hm'] at e1
        injection e1 with e1
        subst e1
        simpa using this
  · cases h
theorem RO.lst_any {p : List Addr} {v : V} {o : Bool} {ds : List D} (s : Sb F H) (r : RO G F H p v (.lst o ds)) : ∃ a vs, v = .ref a ∧ H a = some (.lst vs) := by
  cases r with
  | lz e r => exact ⟨_, _, rfl, s _ _ e⟩
  | lo e r => exact ⟨_, _, rfl, e⟩
theorem se_index {k : Nat} {x : Str} (C : Cn X N sc fr) (hx : varB N sc k x = true) (hb : SOp X g W a ob) (hs : starEach [a] X.env = (false, eval a X.env) :: starEach [] X.env) (hl : (p3.endLine == pos.line) = true) :
    SE X g W (.Call (.Attribute (.Name x p2) "index" p3) [a] [] pos) (mIdx k ob) := PE.imp (pe_bm PySem.F.plainAttrs_list PySem.F.slot_list_index PySem.F.type_list_index (mt_indexD C.hu65) (pv_ok C hx) (pa_cons hb pa_nil hs) rfl (fewOk hs) hl hs) fun σ H Q h => by
  obtain ⟨F, fp, e, s, h⟩ := RdE.iff.mp h
  unfold mIdx at h
  cases q : e[k]? with
  | none => rw [q] at h; exact h.elim
  | some o =>
    cases o with
    | none => rw [q] at h; exact h.elim
    | some d0 =>
      cases d0 with
      | lst o xs0 =>
        rw [q] at h
        simp only at h
        obtain ⟨v, hv, r0⟩ := s.rep k _ q
        refine ⟨v, hv, ?_, ?_⟩
        · obtain ⟨a0, vs0, rfl, e0⟩ := r0.lst_any s.sub
          exact .inl ⟨rfl, _, SqL.of e0⟩
        · refine RdO.step ob s ?_
          cases q1 : ob.run e with
          | ok p e1 =>
            rw [q1] at h
            rw [RP.bind_ok] at h
            intro y F1 H1 fp1 s1 tr1 pv
            have ne := EOut.ne h
            obtain ⟨dl, e2, F2, fp2, s2, b2, tr2, kk⟩ := PV.see_ok (p := .v k) s1 hv rfl ne
            rw [← kk] at h
            have ne2 := EOut.ne h
            obtain ⟨d, e3, F3, fp3, s3, b3, tr3, kk3⟩ := PV.see_ok s2 (pv.mono tr2.ff) rfl ne2
            rw [← kk3] at h
            cases q5 : indexD dl d with
            | none => rw [q5] at h; exact h.elim
            | some dr =>
              rw [q5] at h
              have b2 := b2.mono tr3.ff fun _ _ z => z
              have kr := SO.kr (d := dr) s3 (Q := Q) ?_
              · exact hr_index s3.sub b2 b3 q5 kr
              · exact fun v F' H' fp' p s' t' tr => h v F' H' fp' p s' t' ((tr1.trans (tr2.trans tr3)).trans tr)
          | ex c d e1 => rw [q1] at h; exact h
          | no => rw [q1] at h; exact h.elim
      | _ => rw [q] at h; exact h.elim
end
end EV

/-! EvP: items of items of one's own lists; calls by keywords. -/
namespace EV
open PySem PySem.Spec PyProof.Rows L2
inductive IA where
  | s (i : Nat) | c (n : Int)
def ixAt : IA → DEnv → Option Int
  | .s i, e => match e[i]? with
    | some (some (.int n)) => some n
    | _ => none
  | .c n, _ => some n
def RdX : IA → TE
  | .s i => tVar i
  | .c n => tC (.int n)
def mIx2 (k : Nat) (i j : IA) : ME := fun e => match e[k]? with
  | some (some (.lst true rows)) => match ixAt i e with
    | some a => match ixAt j e with
      | some b => match atI rows a with
        | some (.lst true xs) => match atI xs b with
          | some d => if fzs xs = true then .ok d e else .no
          | none => .no
        | _ => .no
      | none => .no
    | none => .no
  | _ => .no
def mSet2 (k : Nat) (i j : IA) (m : ME) : MS := fun e => (m e).toS fun d e1 => match e1[k]? with
  | some (some (.lst true rows)) => match ixAt i e1 with
    | some a => match ixAt j e1 with
      | some b => match ixN rows.length a with
        | some r => match rows[r]? with
          | some (.lst true xs) => match ixN xs.length b with
            | some q => if (fzs xs && fz d) = true then .nx (e1.set k (some (.lst true (rows.set r (.lst true (xs.set q d)))))) else .no
            | none => .no
          | _ => .no
        | none => .no
      | none => .no
    | none => .no
  | _ => .no
section
variable {X : Cx} {N : List Str} {sc : Scope} {fr : List Str} {g : GF} {G : GI} {W : WX} {L : List Nat} {a b c : Expr} {es : List Expr} {pos p2 p3 p4 p5 : Pos} {oa ob : Op} {m n t : ME} {F H F1 H1 F' H' : Hp} {fp fp1 fp' : Nat → List Addr} {σ σ1 : L2.St} {e e' : DEnv} {Dn : Ends}
abbrev SX (X : Cx) (e : Expr) (i : IA) : Prop := PE X e (RdX i)
theorem sx_s (C : Cn X N sc fr) {i : Nat} {x : Str} (h : varB N sc i x = true) : SX X (.Name x pos) (.s i) := pv_ok C h
theorem sx_c {i : Int} {j : Nat} : SX X (.Constant (.int i) j pos) (.c i) := pe_int
theorem RdX.of {ia : IA} {n : Int} {Q : VK} (s : SO G F H fp σ e) (h : ixAt ia e = some n) (q : Q (.int n) H) : RdX ia σ H Q := by
  cases ia with
  | s i =>
    unfold ixAt at h
    simp only at h
    cases q1 : e[i]? with
    | none => rw [q1] at h; cases h
    | some o =>
      cases o with
      | none => rw [q1] at h; cases h
      | some d =>
        cases d <;> (rw [q1] at h; first | cases h; done | skip)
        obtain ⟨v, hv, r⟩ := s.rep i _ q1
        injection h with h; subst h
        exact ⟨v, hv, by rw [r.int_inv]; exact q⟩
  | c i =>
    injection h with h; subst h
    exact q
theorem ROs.own_at : ∀ {fs : List Addr} {vs : List V} {ds : List D} {n : Nat} {xs : List D}, ROs G F H fs vs ds → fs.Nodup → ds[n]? = some (.lst true xs) → fzs xs = true →
    ∃ a ws, vs[n]? = some (.ref a) ∧ a ∈ fs ∧ H a = some (.lst ws) ∧ ROs G F H [] ws xs ∧ ∀ ws' xs', ROs G F H [] ws' xs' → ROs G F (upd H a (.lst ws')) fs vs (ds.set n (.lst true xs'))
  | _, _, [], n, _, _, _, h, _ => by cases h
  | _, _, d :: ds, 0, xs, rs, nd, h, hz => by
    injection h with h; subst h
    obtain ⟨v, ws, f, fs, rfl, rfl, r1, r2⟩ := rs.invD
    obtain ⟨n1, n2, n3⟩ := List.nodup_append.mp nd
    obtain ⟨a, us, f1, rfl, ef, ha, ru⟩ := r1.lo_inv
    subst ef
    have e1 := ru.nil_of_fz hz
    subst e1
    refine ⟨a, us, rfl, List.mem_append_left _ (List.mem_cons_self ..), ha, ru, fun ws' xs' r' => .cons (.lo upd_same (r'.mono (fun _ _ z => z) fun c z => nomatch z)) (r2.mono (fun _ _ z => z) fun c z o w => ?_)⟩
    rw [upd_ne]
    · exact w
    · intro u; subst u; exact n3 c (List.mem_cons_self ..) c z rfl
  | _, _, d :: ds, n + 1, xs, rs, nd, h, hz => by
    obtain ⟨v, ws, f, fs, rfl, rfl, r1, r2⟩ := rs.invD
    obtain ⟨n1, n2, n3⟩ := List.nodup_append.mp nd
    obtain ⟨a, us, h1, h2, h3, h4, h5⟩ := ROs.own_at (n := n) r2 n2 h hz
    refine ⟨a, us, h1, List.mem_append_right _ h2, h3, h4, fun ws' xs' r' => .cons (r1.mono (fun _ _ z => z) fun c z o w => ?_) (h5 ws' xs' r')⟩
    rw [upd_ne]
    · exact w
    · intro u; subst u; exact n3 c z c h2 rfl
theorem atI_some {α : Type} {xs : List α} {i : Int} {d : α} (h : atI xs i = some d) : ∃ r, ixN xs.length i = some r ∧ xs[r]? = some d := by
  unfold atI at h
  cases q : ixN xs.length i with
  | none => rw [q] at h; cases h
  | some r => rw [q] at h; exact ⟨r, rfl, h⟩
theorem atI_of {α : Type} {xs : List α} {i : Int} {d : α} {r : Nat} (h : ixN xs.length i = some r) (h2 : xs[r]? = some d) : atI xs i = some d := by
  unfold atI; rw [h]; exact h2
theorem se_ix2 {k : Nat} {x : Str} {i j : IA} (C : Cn X N sc fr) (hx : varB N sc k x = true) (ha : SX X a i) (hb : SX X b j) (hs1 : PlainIx a) (hs2 : PlainIx b) : SE X g W (.Subscript (.Subscript (.Name x p2) a p3) b pos) (mIx2 k i j) :=
  PE.imp (pe_ix ix_list (pe_ix ix_list (pv_ok C hx) ha hs1) hb hs2) fun σ H Q h => by
  obtain ⟨F, fp, e, s, h⟩ := RdE.iff.mp h
  unfold mIx2 at h
  cases q : e[k]? with
  | none => rw [q] at h; exact h.elim
  | some o =>
    cases o with
    | none => rw [q] at h; exact h.elim
    | some d0 =>
      cases d0 with
      | lst o rows =>
        cases o with
        | false => rw [q] at h; exact h.elim
        | true =>
          rw [q] at h
          simp only at h
          cases q1 : ixAt i e with
          | none => rw [q1] at h; exact h.elim
          | some ai =>
            cases q2 : ixAt j e with
            | none => rw [q1, q2] at h; exact h.elim
            | some bi =>
              rw [q1, q2] at h
              simp only at h
              cases q3 : atI rows ai with
              | none => rw [q3] at h; exact h.elim
              | some dr =>
                cases dr with
                | lst o xs =>
                  cases o with
                  | false => rw [q3] at h; exact h.elim
                  | true =>
                    rw [q3] at h
                    simp only at h
                    cases q4 : atI xs bi with
                    | none => rw [q4] at h; exact h.elim
                    | some d =>
                      rw [q4] at h
                      simp only at h
                      split at h
                      · rename_i hz
                        obtain ⟨v, hv, r⟩ := s.rep k _ q
                        obtain ⟨A, vs, fs, rfl, ep, ha, rs⟩ := r.lo_inv
                        have nd := s.nd k
                        rw [ep] at nd
                        obtain ⟨r1, e1, e2⟩ := atI_some q3
                        obtain ⟨B, ws, g1, g2, g3, g4, _⟩ := rs.own_at (List.nodup_cons.mp nd).2 e2 hz
                        obtain ⟨r2, e3, e4⟩ := atI_some q4
                        obtain ⟨u, hu, ru⟩ := g4.get e4
                        refine ⟨_, hv, RdX.of s q1 ⟨A, vs, ai, .ref B, rfl, rfl, SqL.of ha, atI_of (r := r1) (by rw [rs.length]; exact e1) g1, RdX.of s q2 ⟨B, ws, bi, u, rfl, rfl, SqL.of g3, atI_of (r := r2) (by rw [g4.length]; exact e3) hu, ?_⟩⟩⟩
                        exact h u F H fp [] s (TO.z ru) Tr.refl.nil
                      · exact h.elim
                | _ => rw [q3] at h; exact h.elim
      | _ => rw [q] at h; exact h.elim
theorem ss_sub2 {k : Nat} {x : Str} {i j : IA} (C : Cn X N sc fr) (hx : varB N sc k x = true) (hi : SX X a i) (hj : SX X b j) (hp1 : PlainIx a) (hv : SE X g W c m) (hs : swapsWithSole [.Subscript (.Subscript (.Name x p2) a p3) b p4] c pos.line X.env = pure false) (hw : swappedStores [.Subscript (.Subscript (.Name x p2) a p3) b p4] c X.env = pure none)
    (h1 : (assignEach [.Subscript (.Subscript (.Name x p2) a p3) b p4] X.env).map (·.2) = [assign (.Subscript (.Subscript (.Name x p2) a p3) b p4) X.env])
    (ha : ∀ v, assign (.Subscript (.Subscript (.Name x p2) a p3) b p4) X.env v = (do
      let ov ← holding [v] (eval (.Subscript (.Name x p2) a p3) X.env)
      let iv ← holding [v, ov] (eval b X.env)
      standAt p4
      holding [v, ov, iv] (setItem ov iv v)
      release [v, ov, iv] [])) : SS X g W L (.Assign [.Subscript (.Subscript (.Name x p2) a p3) b p4] c pos) (mSet2 k i j m) :=
  PS.imp (ps_asg hv (pg_sub (pe_ix ix_list (pv_ok C hx) hi hp1) hj set_list ha) hs hw h1) fun D σ H ⟨F, fp, e, s, h⟩ => by
  refine RdE.iff.mpr ⟨F, fp, e, s, ?_⟩
  unfold mSet2 at h
  cases q : m e with
  | ex c d e1 => rw [q] at h; exact h.x
  | no => rw [q] at h; exact h
  | ok d e1 =>
    rw [q] at h
    rw [RE.toS_ok] at h
    intro v F1 H1 fp1 p s1 t1 tr1
    cases q0 : e1[k]? with
    | none => rw [q0] at h; exact h.elim
    | some o =>
      cases o with
      | none => rw [q0] at h; exact h.elim
      | some d0 =>
        cases d0 with
        | lst o rows =>
          cases o with
          | false => rw [q0] at h; exact h.elim
          | true =>
            rw [q0] at h
            simp only at h
            cases q1 : ixAt i e1 with
            | none => rw [q1] at h; exact h.elim
            | some ai =>
              cases q2 : ixAt j e1 with
              | none => rw [q1, q2] at h; exact h.elim
              | some bi =>
                rw [q1, q2] at h
                simp only at h
                cases q3 : ixN rows.length ai with
                | none => rw [q3] at h; exact h.elim
                | some r =>
                  rw [q3] at h
                  simp only at h
                  cases q4 : rows[r]? with
                  | none => rw [q4] at h; exact h.elim
                  | some dr =>
                    cases dr with
                    | lst o xs =>
                      cases o with
                      | false => rw [q4] at h; exact h.elim
                      | true =>
                        rw [q4] at h
                        simp only at h
                        cases q5 : ixN xs.length bi with
                        | none => rw [q5] at h; exact h.elim
                        | some qq =>
                          rw [q5] at h
                          simp only at h
                          split at h
                          · rename_i hz
                            rw [Bool.and_eq_true] at hz
                            obtain ⟨u, hu, ro⟩ := s1.rep k _ q0
                            obtain ⟨A, vs, fs, rfl, ep, ha, rs⟩ := ro.lo_inv
                            have nd := s1.nd k
                            rw [ep] at nd
                            obtain ⟨n1, n2⟩ := List.nodup_cons.mp nd
                            obtain ⟨B, ws, g1, g2, g3, g4, g5⟩ := rs.own_at n2 q4 hz.1
                            have ez : p = [] := t1.r.nil_of_fz hz.2
                            subst ez
                            have hAB : A ≠ B := fun w => n1 (w ▸ g2)
                            have rn : ROs (gOf X g) F1 H1 [] (ws.set qq v) (xs.set qq d) := by
                              obtain ⟨w, w1, w2, w3⟩ := ROs.put t1.r (j := qq) g4 (ixN_seq q5).2.1 List.nodup_nil List.nodup_nil fun c z => nomatch z
                              have : w = [] := List.eq_nil_iff_forall_not_mem.mpr fun c z => (w3 c z).elim (fun z => nomatch z) fun z => nomatch z
                              subst this
                              exact w1
                            refine ⟨_, hu, RdX.of s1 q1 ⟨A, vs, ai, .ref B, rfl, rfl, SqL.of ha, atI_of (r := r) (by rw [rs.length]; exact q3) g1, RdX.of s1 q2 ⟨B, ws, bi, qq, rfl, rfl, g3, by rw [g4.length]; exact q5, ?_⟩⟩⟩
                            have hH : ∀ b o, b ∉ fp1 k → H1 b = some o → upd H1 B (.lst (ws.set qq v)) b = some o := fun b o z w => by
                              rw [upd_ne]
                              · exact w
                              · intro y; subst y; rw [ep] at z; exact z (List.mem_cons_of_mem _ g2)
                            have sub : ∀ c, c ∈ A :: fs → c ∈ fp1 k ∨ c ∈ ([] : List Addr) := fun c z => .inl (by rw [ep]; exact z)
                            have rnew : RO (gOf X g) F1 (upd H1 B (.lst (ws.set qq v))) (A :: fs) (.ref A) (.lst true (rows.set r (.lst true (xs.set qq d)))) := .lo (by rw [upd_ne hAB]; exact ha) (g5 _ _ rn)
                            have s2 := s1.mutate (p := []) q0 hu (fun c z => nomatch z) hH rnew nd sub
                            exact h σ F1 _ _ s2 (fun _ _ => rfl) ((tr1.drop fun c z => z).trans (Tr.mutate (p := []) (O := fun _ => True) hH sub))
                          · exact h.elim
                    | _ => rw [q4] at h; exact h.elim
        | _ => rw [q0] at h; exact h.elim
end
end EV

/-! EvQ: calls by keywords. -/
namespace EV
open PySem PySem.Spec PyProof.Rows L2
inductive KS where
  | a (i : Nat) | d (k : Nat)
/-- the parameters' values: from the written arguments, from the defaults -/
def genL {α : Type} (x0 : α) (dfl : List α) : List KS → List α → List α
  | [], _ => []
  | .a i :: r, us => us.getD i x0 :: genL x0 dfl r us
  | .d k :: r, us => dfl.getD k x0 :: genL x0 dfl r us
inductive RZs where
  | ok (ds : List D) (e : DEnv) | ex (c : Nat) (d : D) (e : DEnv) | no
def mZs : List ME → DEnv → RZs
  | [], e => .ok [] e
  | m :: ms, e => match m e with
    | .ok d e1 => match mZs ms e1 with
      | .ok ds e2 => .ok (frz d :: ds) e2
      | .ex c d e2 => .ex c d e2
      | .no => .no
    | .ex c d e1 => .ex c d e1
    | .no => .no
def mCallK (C : List D → RC) (dfl : List D) (src : List KS) (ms : List ME) : ME := fun e => match mZs ms e with
  | .ok ds e1 => match C (genL .non dfl src ds) with
    | .ok d _ => .ok d e1
    | .ex c d _ => .ex c d e1
    | .no => .no
  | .ex c d e1 => .ex c d e1
  | .no => .no
def tZs (G : GI) (W : WX) : List ME → TA
  | [] => tNil
  | m :: ms => tCons (RdZ G W m) (tZs G W ms)
section
variable {X : Cx} {N : List Str} {sc : Scope} {fr : List Str} {g : GF} {G : GI} {W : WX} {L : List Nat} {a b c : Expr} {es : List Expr} {kws : List Keyword} {pos p2 p3 p4 p5 : Pos} {F H F1 H1 F' H' : Hp} {fp fp1 fp' : Nat → List Addr} {σ σ1 : L2.St} {e e' : DEnv}
theorem Vals.getD' : ∀ {vs : List V} {us : List Value} (i : Nat), Vals vs us → RelV (vs.getD i .non) (us.getD i .none)
  | [], _, i, r => by cases r; exact rfl
  | v :: vs, _, 0, r => by cases r with | cons a b => exact a
  | v :: vs, _, i + 1, r => by cases r with | cons a b => exact Vals.getD' i b
theorem gen_vals {dv vs : List V} {du us : List Value} (hd : Vals dv du) (h : Vals vs us) : ∀ src, Vals (genL .non dv src vs) (genL .none du src us)
  | [] => .nil
  | .a i :: r => .cons (Vals.getD' i h) (gen_vals hd h r)
  | .d i :: r => .cons (Vals.getD' i hd) (gen_vals hd h r)
theorem ROs.getD' : ∀ {vs : List V} {ds : List D} (i : Nat), ROs G F H [] vs ds → RO G F H [] (vs.getD i .non) (ds.getD i .non)
  | [], [], i, _ => by simp; exact .non
  | [], _ :: _, _, r => nomatch r.length
  | _ :: _, [], _, r => nomatch r.length
  | v :: vs, d :: ds, 0, r => r.unconsZ.1
  | v :: vs, d :: ds, i + 1, r => ROs.getD' i r.unconsZ.2
theorem gen_ROs {dv vs : List V} {dd ds : List D} (hd : ROs G F H [] dv dd) (h : ROs G F H [] vs ds) : ∀ src, ROs G F H [] (genL .non dv src vs) (genL .non dd src ds)
  | [] => .nil
  | .a i :: r => ROs.consZ (ROs.getD' i h) (gen_ROs hd h r)
  | .d i :: r => ROs.consZ (ROs.getD' i hd) (gen_ROs hd h r)
theorem genL_length {α : Type} {x0 : α} {dfl us : List α} : ∀ src, (genL x0 dfl src us).length = src.length
  | [] => rfl
  | .a i :: r => congrArg (· + 1) (genL_length r)
  | .d i :: r => congrArg (· + 1) (genL_length r)
abbrev SZs (X : Cx) (g : GF) (W : WX) (es : List Expr) (ms : List ME) : Prop := PA X es (tZs (gOf X g) W ms)
theorem sz_nil : SZs X g W [] [] := pa_nil
theorem sz_cons {m : ME} {ms : List ME} (ha : SE X g W a m) (hr : SZs X g W es ms) (hs : starEach (a :: es) X.env = (false, eval a X.env) :: starEach es X.env) : SZs X g W (a :: es) (m :: ms) := pa_cons ha.z hr hs
abbrev SKs (X : Cx) (g : GF) (W : WX) (kws : List Keyword) (ms : List ME) : Prop := PK X kws (tZs (gOf X g) W ms)
theorem sk_nil : SKs X g W [] [] := pk_nil
theorem sk_cons {nm : Option Str} {m : ME} {ms : List ME} (ha : SE X g W a m) (hr : SKs X g W kws ms) : SKs X g W (⟨nm, a, p2⟩ :: kws) (m :: ms) := pk_cons ha.z hr
/-- the written values, all of them -/
def ZOut (G : GI) (W : WX) (σ : L2.St) (F H : Hp) (fp : Nat → List Addr) (Q : List V → Hp → Prop) : RZs → Prop
  | .ok ds e' => ∀ vs F' H' fp', SO G F' H' fp' σ e' → ROs G F' H' [] vs ds → Tr F H (own fp) F' H' (own fp') → Q vs H'
  | .ex c d e' => XOut G W σ F H fp c d e'
  | .no => False
theorem zs_run : ∀ {ms : List ME} {F H : Hp} {fp : Nat → List Addr} {e : DEnv} {Q : List V → Hp → Prop}, SO G F H fp σ e → ZOut G W σ F H fp Q (mZs ms e) → tZs G W ms σ H Q
  | [], F, H, fp, e, Q, s, h => h [] F H fp s .nil Tr.refl
  | m :: ms, F, H, fp, e, Q, s, h => by
    refine ⟨F, fp, e, s, ?_⟩
    unfold mZs at h
    cases q : m e with
    | ex c d e1 => rw [q] at h; exact h
    | no => rw [q] at h; exact h
    | ok d e1 =>
      rw [q] at h
      intro v F1 H1 fp1 s1 r1 tr1
      simp only at h
      refine zs_run s1 ?_
      cases q1 : mZs ms e1 with
      | ex c d2 e2 => rw [q1] at h; exact XOut.trans h tr1
      | no => rw [q1] at h; exact h
      | ok ds e2 =>
        rw [q1] at h
        exact fun vs F2 H2 fp2 s2 r2 tr2 => h (v :: vs) F2 H2 fp2 s2 (ROs.consZ (r1.mono tr2.ff fun a z => nomatch z) r2) (tr1.trans tr2)
theorem mZs_app : ∀ {ms1 ms2 : List ME} {e : DEnv}, mZs (ms1 ++ ms2) e = match mZs ms1 e with
    | .ok ds e1 => match mZs ms2 e1 with
      | .ok ds2 e2 => .ok (ds ++ ds2) e2
      | .ex c d e2 => .ex c d e2
      | .no => .no
    | .ex c d e1 => .ex c d e1
    | .no => .no
  | [], ms2, e => by
    show mZs ms2 e = match mZs ms2 e with
      | .ok ds2 e2 => RZs.ok ([] ++ ds2) e2
      | .ex c d e2 => .ex c d e2
      | .no => .no
    cases mZs ms2 e <;> rfl
  | m :: ms1, ms2, e => by
    show (match m e with
      | .ok d e1 => match mZs (ms1 ++ ms2) e1 with
        | .ok ds e2 => RZs.ok (frz d :: ds) e2
        | .ex c d e2 => .ex c d e2
        | .no => .no
      | .ex c d e1 => .ex c d e1
      | .no => .no) = match (match m e with
      | .ok d e1 => match mZs ms1 e1 with
        | .ok ds e2 => RZs.ok (frz d :: ds) e2
        | .ex c d e2 => .ex c d e2
        | .no => .no
      | .ex c d e1 => .ex c d e1
      | .no => .no) with
      | .ok ds e1 => match mZs ms2 e1 with
        | .ok ds2 e2 => .ok (ds ++ ds2) e2
        | .ex c d e2 => .ex c d e2
        | .no => .no
      | .ex c d e1 => .ex c d e1
      | .no => .no
    cases m e with
    | ok d e1 =>
      simp only
      rw [mZs_app (ms1 := ms1)]
      cases mZs ms1 e1 with
      | ok ds e2 =>
        simp only
        cases mZs ms2 e2 <;> rfl
      | ex c d e2 => rfl
      | no => rfl
    | ex c d e1 => rfl
    | no => rfl
theorem callK_plain {C : List D → RC} {mask : List Bool} {dfl : List D} {dvs : List V} {src : List KS} {ms1 ms2 : List ME} (hm : src.length = mask.length) (hz : ∀ F H, ROs G F H [] dvs dfl) {Q : VK} (h : RdE G W (mCallK C dfl src (ms1 ++ ms2)) σ H Q) :
    tZs G W ms1 σ H fun vs H1 => tZs G W ms2 σ H1 fun zs H2 => Prom G mask C (genL .non dvs src (vs ++ zs)) H2 Q (WE W σ) := by
  obtain ⟨F, fp, e, s, h⟩ := RdE.iff.mp h
  refine zs_run s ?_
  unfold mCallK at h
  rw [mZs_app] at h
  cases q : mZs ms1 e with
  | ex c d e1 => rw [q] at h; exact h
  | no => rw [q] at h; exact h
  | ok ds e1 =>
    rw [q] at h
    intro vs F1 H1 fp1 s1 r1 tr1
    refine zs_run s1 ?_
    simp only at h
    cases q1 : mZs ms2 e1 with
    | ex c d e2 => rw [q1] at h; exact XOut.trans h tr1
    | no => rw [q1] at h; exact h
    | ok ds2 e2 =>
      rw [q1] at h
      simp only at h
      intro zs F2 H2 fp2 s2 r2 tr2
      have r1 := r1.mono (F' := F2) (H' := H2) tr2.ff fun a z => nomatch z
      have r3 : ROs G F2 H2 [] (vs ++ zs) (ds ++ ds2) := r1.append r2
      have r4 := gen_ROs (hz F2 H2) r3 src
      refine ⟨by rw [genL_length]; exact hm, F2, [], _, r4, List.nodup_nil, (fun a z => nomatch z), s2.sub, ?_⟩
      have fin : ∀ {F' H' : Hp} {qv r : List Addr} {v : V} {d : D}, RO G F' H' qv v d → (qv ++ r).Nodup → (∀ a, a ∈ qv ++ r → F' a = none) → (∀ a o, F' a = some o → H' a = some o) → Tr F2 H2 (· ∈ ([] : List Addr)) F' H' (· ∈ qv ++ r) →
          SO G F' H' fp2 σ e2 ∧ TO G F' H' fp2 qv v d ∧ Tr F H (own fp) F' H' (fun a => own fp2 a ∨ a ∈ qv) := by
        intro F' H' qv r v d h1 h3 h4 h5 h6
        have s3 := s2.frame (p := []) (fun a z => nomatch z) h6 h5
        refine ⟨s3, ⟨h1, (List.nodup_append.mp h3).1, fun a z => h4 a (List.mem_append_left _ z), fun a z w => ?_⟩, ((tr1.trans tr2).trans (h6.weak (P := own fp2) (P1 := fun a => own fp2 a ∨ a ∈ qv) (fun a z => nomatch z) fun a z => z.elim .inr fun z => .inl (List.mem_append_left _ z)))⟩
        rcases h6.ow a (List.mem_append_left _ z) with u | u
        · exact nomatch u
        · obtain ⟨i, w⟩ := w
          obtain ⟨o, ho⟩ := s2.th i a w
          rw [u] at ho; cases ho
      cases q3 : C (genL .non dfl src (ds ++ ds2)) with
      | ok d fn =>
        rw [q3] at h
        intro v F' H' qv r h1 h2 h3 h4 h5 h6
        obtain ⟨s3, t3, tr3⟩ := fin h1 h3 h4 h5 h6
        exact h v F' H' fp2 qv s3 t3 tr3
      | ex c d fn =>
        rw [q3] at h
        intro dx v F' H' qv r h1 h2 h3 h4 h5 h6 hx
        obtain ⟨s3, t3, tr3⟩ := fin h1 h3 h4 h5 h6
        exact h dx v F' H' fp2 qv s3 t3 tr3 hx
      | no => rw [q3] at h; exact h.elim
theorem run_fnKS {pins : List (Addr × Obj)} {s : Shared} {Q : VK} {us ws : List Value} {vs zs : List V} {k n : Nat} {f : Addr} {fd : FuncData} {ps ks : List Str} {sp : Sp} {gW : List Value → List Value → List Value} {gV : List V → List V → List V} {CX : CXT} {E : XK} (FO : FnOk X.prog X.w X.K X.mg X.base CX k f fd ps sp) (hr : Room k X.A) (hb : KBn X.K fd ps n ks gW gV) (hx : PassesAt CX X σ E)
    (I : Inv X pins σ H s) (r : Vals vs us) (rz : Vals zs ws) (l1 : vs.length = n) (l2 : zs.length = ks.length) (h : sp (gV vs zs) H Q E) : wpAny (model X.prog X.w) X.A (call (.ref f) us (ks.zip ws)) (EP X pins σ Q) X.xe s := by
  have r2 := hb.rel r rz
  refine wpAny_call (codeAny_mono (FO.run X.A X.stack s H ⟨us, ks.zip ws⟩ (gW us ws) (gV vs zs) Q E hr I.env0 (hb.to s us ws I.kIn (r.length.symm.trans l1) (rz.length.symm.trans l2)) r2 h) fun r s' hq => ?_)
  cases r with
  | error e => exact hx pins H s e s' I hq
  | ok fl =>
    cases fl with
    | ret u => exact I.after hq
    | next => exact False.elim hq
    | brk => exact False.elim hq
    | cont => exact False.elim hq
theorem tZs_len : ∀ {ms : List ME} {H : Hp} {Q : List V → Hp → Prop}, tZs G W ms σ H Q → tZs G W ms σ H fun vs H1 => vs.length = ms.length ∧ Q vs H1
  | [], H, Q, h => ⟨rfl, h⟩
  | m :: ms, H, Q, h => by
    obtain ⟨F, fp, e, s, h⟩ := h
    refine ⟨F, fp, e, s, ?_⟩
    cases q : m e with
    | ex c d e1 => rw [q] at h; exact h
    | no => rw [q] at h; exact h
    | ok d e1 =>
      rw [q] at h
      exact fun v F1 H1 fp1 s1 r1 tr1 => tZs_imp (fun vs H2 z => ⟨congrArg (· + 1) z.1, z.2⟩) (tZs_len (h v F1 H1 fp1 s1 r1 tr1))
where tZs_imp : ∀ {ms : List ME} {H : Hp} {Q Q' : List V → Hp → Prop}, (∀ vs H1, Q vs H1 → Q' vs H1) → tZs G W ms σ H Q → tZs G W ms σ H Q'
  | [], H, Q, Q', i, h => i _ _ h
  | m :: ms, H, Q, Q', i, h => by
    obtain ⟨F, fp, e, s, h⟩ := h
    refine ⟨F, fp, e, s, ?_⟩
    cases q : m e with
    | ex c d e1 => rw [q] at h; exact h
    | no => rw [q] at h; exact h
    | ok d e1 =>
      rw [q] at h
      exact fun v F1 H1 fp1 s1 r1 tr1 => tZs_imp (fun vs H2 z => i _ _ z) (h v F1 H1 fp1 s1 r1 tr1)
/-- f(k = v, ..) -/
theorem se_callK0 {C : List D → RC} {mask : List Bool} {dfl : List D} {dvs : List V} {dus : List Value} {src : List KS} {ms : List ME} {k : Nat} {f : Addr} {fd : FuncData} {ps ks : List Str} {x : Str} (tk : Takes X W)
    (FO : FnOk X.prog X.w X.K X.mg X.base (L2.CX X.prog X.w) k f fd ps (Prom (gOf X g) mask C)) (hr : Room k X.A) (hg : Gl X x) (hm : X.mg x = some (.ref f)) (hk : PySem.W.keepIn X.K (.ref f) = true)
    (hb : KBn X.K fd ps 0 ks (fun us ws => genL .none dus src (us ++ ws)) fun vs zs => genL .non dvs src (vs ++ zs)) (hz : ∀ F H, ROs (gOf X g) F H [] dvs dfl) (hl : src.length = mask.length) (hn : ms.length = ks.length) (hkw : SKs X g W kws ms)
    (hall : (backToKw pos (keywordEach kws X.env)).all (·.1.isSome) = true) (hks : (backToKw pos (keywordEach kws X.env)).filterMap (·.1) = ks) (hdb : (x == ("__debug__" : Str)) = false)
    (hpl : ((backTo pos (starEach [] X.env)).any (·.1) || (backToKw pos (keywordEach kws X.env)).any (·.1.isNone)) = false) :
    SE X g W (.Call (.Name x p2) [] kws pos) (mCallK C dfl src ms) := by
  refine ⟨fun pins s σ H Q I h => ?_⟩
  have h := callK_plain (ms1 := []) (ms2 := ms) hl hz h
  refine wpAny_Call_Name_kw (ld_glob I hg hm ?_ hdb)
  refine PySem.W.callWith_KW0 (h₀ := X.base) I.ok.mod.kin hk hall ?_ hpl
  refine thn (hkw.run pos pins s σ H _ I (tZs_len h)) fun ws s2 ⟨zs, H2, I2, rz, l2, q2⟩ => ⟨I2.kIn, ?_⟩
  rw [hks]
  exact run_fnKS (us := []) (vs := []) FO hr hb (passAt tk σ) I2 .nil rz rfl (l2.trans hn) q2
/-- f(e, .., k = v, ..) -/
theorem se_callK {C : List D → RC} {mask : List Bool} {dfl : List D} {dvs : List V} {dus : List Value} {src : List KS} {ms1 ms : List ME} {k n : Nat} {f : Addr} {fd : FuncData} {ps ks : List Str} {x : Str} (tk : Takes X W)
    (FO : FnOk X.prog X.w X.K X.mg X.base (L2.CX X.prog X.w) k f fd ps (Prom (gOf X g) mask C)) (hr : Room k X.A) (hg : Gl X x) (hm : X.mg x = some (.ref f)) (hk : PySem.W.keepIn X.K (.ref f) = true)
    (hb : KBn X.K fd ps n ks (fun us ws => genL .none dus src (us ++ ws)) fun vs zs => genL .non dvs src (vs ++ zs)) (hz : ∀ F H, ROs (gOf X g) F H [] dvs dfl) (hl : src.length = mask.length) (hn1 : ms1.length = n) (hn : ms.length = ks.length) (ha : SZs X g W (a :: es) ms1) (hkw : SKs X g W kws ms)
    (hall : (backToKw pos (keywordEach kws X.env)).all (·.1.isSome) = true) (hks : (backToKw pos (keywordEach kws X.env)).filterMap (·.1) = ks) (hdb : (x == ("__debug__" : Str)) = false) (he : starEach (a :: es) X.env = (false, eval a X.env) :: starEach es X.env)
    (hpl : ((backTo pos (starEach (a :: es) X.env)).any (·.1) || (backToKw pos (keywordEach kws X.env)).any (·.1.isNone)) = false) :
    SE X g W (.Call (.Name x p2) (a :: es) kws pos) (mCallK C dfl src (ms1 ++ ms)) := by
  refine ⟨fun pins s σ H Q I h => ?_⟩
  have h := callK_plain (ms1 := ms1) (ms2 := ms) hl hz h
  refine wpAny_Call_Name_kw (ld_glob I hg hm ?_ hdb)
  refine PySem.W.callWith_KW (h₀ := X.base) I.ok.mod.kin hk hall (thn (ha.run pos pins s σ H _ I (tZs_len h)) fun us s1 ⟨vs, H1, I1, r, l1, q⟩ => ?_) hpl he
  refine thn (hkw.run pos pins s1 σ H1 _ I1 (tZs_len q)) fun ws s2 ⟨zs, H2, I2, rz, l2, q2⟩ => ⟨I2.kIn, ?_⟩
  rw [hks]
  exact run_fnKS FO hr hb (passAt tk σ) I2 r rz (l1.trans hn1) (l2.trans hn) q2
end
/-- a def without defaults, called by keywords -/
theorem kbn0 {K : PySem.W.Frag} {x qual : Str} {params : Arguments} {body : List Stmt} {scope : Scope} {kws : List (Str × V)} {f : Addr} {fd : FuncData} {ps ks : List Str} {n : Nat} {src : List KS} (Fd : FunD K x qual params body scope [] kws f fd)
    (h : ∀ (kV doc pm : Value) (an : Option Addr) (cdv ct : Value) (us ws : List Value), us.length = n → ws.length = ks.length → bindArgs (PySem.W.fnOf x qual params body scope .none kV doc pm an cdv ct) ⟨us, ks.zip ws⟩ = pure (ps.zip (genL .none [] src (us ++ ws)))) :
    KBn K fd ps n ks (fun us ws => genL .none [] src (us ++ ws)) fun vs zs => genL .non [] src (vs ++ zs) := by
  obtain ⟨oc, od, dV, kV, doc, pm, an, cdv, ct, osl, rfl, lk, hcd, hD, hK⟩ := Fd.ex
  rcases hD with ⟨_, rfl⟩ | ⟨e, _⟩
  · exact ⟨fun s us ws X l1 l2 => .of_eq (h kV doc pm an cdv ct us ws l1 l2), fun r1 r2 => gen_vals .nil (r1.append r2) src⟩
  · exact absurd rfl e
end EV

/-! EvR: the forms that a printed proof uses. -/
namespace EV
open PySem PySem.Spec PyProof.Rows L2
/-- within a def's body -/
structure Cf (X : Cx) (W : WX) (N : List Str) (sc : Scope) (fr : List Str) : Prop extends Cn X N sc fr where
  fnT : ∀ x, X.fn x = true
  tk : Takes X W
  po : PassesOwn (model X.prog X.w) X.A X.env X.xe
  stk : X.stack = X.env :: X.outer
  frm : X.env.frame = some X.env.locals
def locB (N : List Str) (sc : Scope) (i : Nat) (x : Str) : Bool := decide (N[i]? = some x) && (match sc.names.lookup x with
  | some .local => true
  | some .cell => true
  | _ => false)
def locL (N : List Str) (sc : Scope) (i : Nat) (x : Str) : Bool := decide (N[i]? = some x) && (match sc.names.lookup x with
  | some .local => true
  | _ => false)
def mFz (m : ME) : ME := fun e => match m e with
  | .ok d e1 => .ok (frz d) e1
  | .ex c d e1 => .ex c d e1
  | .no => .no
section
variable {X : Cx} {N : List Str} {sc : Scope} {fr : List Str} {g : GF} {G : GI} {W : WX} {L : List Nat} {a b c : Expr} {es : List Expr} {kws : List Keyword} {pos p2 p3 p4 p5 : Pos} {F H F1 H1 F' H' : Hp} {fp fp1 fp' : Nat → List Addr} {σ σ1 : L2.St} {e e' : DEnv} {m n t : ME} {ms ns : MS}
theorem locB_ok {i : Nat} {x : Str} (C : Cn X N sc fr) (h : locB N sc i x = true) : X.N[i]? = some x ∧ Loc X.env.scope x := by
  unfold locB at h
  rw [Bool.and_eq_true, decide_eq_true_eq] at h
  refine ⟨by rw [C.hN]; exact h.1, ?_⟩
  rw [C.hsc]
  have h2 := h.2
  split at h2
  · rename_i q; exact .inl q
  · rename_i q; exact .inr q
  · cases h2
theorem locL_ok {i : Nat} {x : Str} (C : Cn X N sc fr) (h : locL N sc i x = true) : X.N[i]? = some x ∧ X.env.scope.names.lookup x = some .local := by
  unfold locL at h
  rw [Bool.and_eq_true, decide_eq_true_eq] at h
  refine ⟨by rw [C.hN]; exact h.1, ?_⟩
  rw [C.hsc]
  have h2 := h.2
  split at h2
  · rename_i q; exact q
  · cases h2
theorem Cn.nd' (C : Cn X N sc fr) : X.N.Nodup := by rw [C.hN]; exact C.nd
theorem pg_f (C : Cf X W N sc fr) {i : Nat} {x : Str} (h : locB N sc i x = true) : PG X (.Name x pos) (gName i) := pg_name C.nd' (locB_ok C.toCn h).1 (locB_ok C.toCn h).2 (.inl (C.fnT x))
theorem pg_b (C : Cn X N sc fr) {i : Nat} {x : Str} (h : locL N sc i x = true) : PG X (.Name x pos) (gName i) := pg_name C.nd' (locL_ok C h).1 (.inl (locL_ok C h).2) (.inr (locL_ok C h).2)
theorem pg_bc (C : Cn X N sc fr) {i : Nat} {x : Str} (h : locB N sc i x = true) (hf : X.fn x = true) : PG X (.Name x pos) (gName i) := pg_name C.nd' (locB_ok C h).1 (locB_ok C h).2 (.inl hf)
theorem ss_setC {i : Nat} {x : Str} (C : Cf X W N sc fr) (hi : locB N sc i x = true) (h : SE X g W a m) (hL : i ∉ L) (hs : swapsWith a (some (.Name x p2)) pos.line X.env = pure false) : SS X g W L (.Assign [.Name x p2] a pos) (mAsg (.v i) m) :=
  ss_set C.nd' (locB_ok C.toCn hi).1 (locB_ok C.toCn hi).2 h hL hs (.inl (C.fnT x))
theorem ss_augC {k : Nat} {x : Str} {op : Operator} {f : Int → Int → Int} (C : Cf X W N sc fr) (hi : locB N sc k x = true) (h : SE X g W a m) (ho : PIp X op (ipI f)) (hL : k ∉ L) : SS X g W L (.AugAssign (.Name x p2) op a pos) (mAug k f m) :=
  ss_aug C.nd' (locB_ok C.toCn hi).1 (locB_ok C.toCn hi).2 h ho hL (.inl (C.fnT x))
/-- an environment of that scope -/
def envS (sc : Scope) : Env := { scope := sc, locals := 0, globals := 0, cells := [] }
theorem sw_env {ts : List Expr} {v : Expr} {env : Env} (h : env.scope = sc) : swappedStores ts v env = swappedStores ts v (envS sc) := by
  unfold swappedStores Env.blockKind Env.kindOf
  rw [h]
  rfl
theorem ss_parC {i j : Nat} {x y : Str} {px py pt : Pos} {kt k2 : Nat} {pt2 : Pos} {ms : List Ar} (C : Cf X W N sc fr) (hi : locL N sc i x = true) (hj : locL N sc j y = true) (hij : i ≠ j)
    (ha : SA X g W [a, b] ms) (hw : swappedStores [.Tuple [.Name x px, .Name y py] kt pt] (.Tuple [a, b] k2 pt2) (envS sc) = pure (some [x, y])) (hL : i ∉ L ∧ j ∉ L) : SS X g W L (.Assign [.Tuple [.Name x px, .Name y py] kt pt] (.Tuple [a, b] k2 pt2) pos) (mPar [i, j] ms) :=
  ss_par C.calm C.nd' (locL_ok C.toCn hi).1 (locL_ok C.toCn hj).1 hij (locL_ok C.toCn hi).2 (locL_ok C.toCn hj).2 ha ((sw_env C.hsc).trans hw) hL
theorem ss_par3C {i j l : Nat} {x y z : Str} {px py pz pt : Pos} {kt k2 : Nat} {pt2 : Pos} {ms : List Ar} (C : Cf X W N sc fr) (hi : locL N sc i x = true) (hj : locL N sc j y = true) (hl : locL N sc l z = true) (hij : i ≠ j) (hil : i ≠ l) (hjl : j ≠ l)
    (ha : SA X g W [a, b, c] ms) (hw : swappedStores [.Tuple [.Name x px, .Name y py, .Name z pz] kt pt] (.Tuple [a, b, c] k2 pt2) (envS sc) = pure (some [x, y, z])) (hL : i ∉ L ∧ j ∉ L ∧ l ∉ L) : SS X g W L (.Assign [.Tuple [.Name x px, .Name y py, .Name z pz] kt pt] (.Tuple [a, b, c] k2 pt2) pos) (mPar [i, j, l] ms) :=
  ss_par3 C.calm C.nd' (locL_ok C.toCn hi).1 (locL_ok C.toCn hj).1 (locL_ok C.toCn hl).1 hij hil hjl (locL_ok C.toCn hi).2 (locL_ok C.toCn hj).2 (locL_ok C.toCn hl).2 ha ((sw_env C.hsc).trans hw) hL
theorem ss_asgC {tg : Expr} {t : CT} {r : TG} (C : Cf X W N sc fr) (h : SE X g W a m) (hg : PG X tg r) (hk : GOk (gOf X g) L t r) (hs : swapsWithSole [tg] a pos.line X.env = pure false) (hw : swappedStores [tg] a (envS sc) = pure none)
    (h1 : (assignEach [tg] X.env).map (·.2) = [assign tg X.env]) : SS X g W L (.Assign [tg] a pos) (mAsg t m) := ss_asg h hg hk hs ((sw_env C.hsc).trans hw) h1
theorem se_fz (h : SE X g W a m) : SE X g W a (mFz m) := PE.imp h.z fun σ H Q h => by
  obtain ⟨F, fp, e, s, h⟩ := RdE.iff.mp h
  refine ⟨F, fp, e, s, ?_⟩
  unfold mFz at h
  cases q : m e with
  | ok d e1 =>
    rw [q] at h
    exact fun v F1 H1 fp1 s1 r1 tr1 => h v F1 H1 fp1 [] s1 (TO.z r1) tr1.nil
  | ex c d e1 => rw [q] at h; exact h
  | no => rw [q] at h; exact h
theorem st_bool (h : SW X g W a m) : ST X g W a m := h.pt
theorem lc_swap {elt : Expr} {gs : List Comprehension} {scope : Scope} {py : Pos} {y : Str} {l : Nat} {i : Nat} (C : Cf X W N sc fr) (hk : sc.kind = .function) (hy : locL N sc i y = true) (hl : (py.line == pos.line) = true)
    (ha : (scope.names.any fun (n, k) => n == y && (k == .local || k == .cell)) = false) : swapsWith (.ListComp elt gs scope pos) (some (.Name y py)) l X.env = pure true := sw_true (by rw [C.hsc]; exact hk) (locL_ok C.toCn hy).2 hl ha
theorem ss_setLcC {i : Nat} {y : Str} {py spos : Pos} {elt tg iter : Expr} {ifs : List Expr} {scope : Scope} {own' : List (Str × Nat)} {t : CT} {r : TG} {mi : MI} {mc me : ME} (C : Cf X W N sc fr) (hy : locL N sc i y = true) (hk0 : sc.kind = .function) (hl : (py.line == pos.line) = true)
    (hal : (scope.names.any fun (n, k) => n == y && (k == .local || k == .cell)) = false) (hL : i ∉ L) (hi : SI X g W tg iter mi) (ok : blkC N sc scope own' = true)
    (hg : ∀ (s : Shared) (H : Hp) (A : Addr) (cl : List (Str × Addr)) (fp : List Addr), Cn (X.blk s H scope (compEnvC scope cl A X.env) fp) N (relS scope sc) fr → PG (X.blk s H scope (compEnvC scope cl A X.env) fp) tg r) (hk : ∀ L, (∀ i, i ∈ L → i ∉ own'.map (·.2)) → GOk (gOf X g) L t r)
    (ht : ∀ (s : Shared) (H : Hp) (A : Addr) (cl : List (Str × Addr)) (fp : List Addr), Cn (X.blk s H scope (compEnvC scope cl A X.env) fp) N (relS scope sc) fr → PTs (X.blk s H scope (compEnvC scope cl A X.env) fp) ifs (RdT (gOf X g) W0 mc))
    (he : ∀ (s : Shared) (H : Hp) (A : Addr) (cl : List (Str × Addr)) (fp : List Addr), Cn (X.blk s H scope (compEnvC scope cl A X.env) fp) N (relS scope sc) fr → SE (X.blk s H scope (compEnvC scope cl A X.env) fp) g W0 elt me) (hs : ∀ x, foldedSetIterable iter X.env x = pure x) :
    SS X g W L (.Assign [.Name y py] (.ListComp elt [⟨tg, iter, ifs, 0⟩] scope pos) spos) (mAsg (.v i) (mLc (own'.map (·.2)) t mi mc me)) :=
  ss_setLc C.calm C.nd' (locL_ok C.toCn hy).1 (locL_ok C.toCn hy).2 (lc_swap C hk0 hy hl hal) hL hi (blkOk_by (by rw [C.hN, C.hsc]; exact ok)) (fun s H A cl fp => hg s H A cl fp (C.toCn.blk s H A cl fp)) hk (fun s H A cl fp => ht s H A cl fp (C.toCn.blk s H A cl fp)) (fun s H A cl fp => he s H A cl fp (C.toCn.blk s H A cl fp)) hs
theorem se_lcC {elt tg iter : Expr} {ifs : List Expr} {scope : Scope} {own' : List (Str × Nat)} {t : CT} {r : TG} {mi : MI} {mc me : ME} (C : Cn X N sc fr) (hi : SI X g W tg iter mi) (ok : blkC N sc scope own' = true)
    (hg : ∀ (s : Shared) (H : Hp) (A : Addr) (cl : List (Str × Addr)) (fp : List Addr), Cn (X.blk s H scope (compEnvC scope cl A X.env) fp) N (relS scope sc) fr → PG (X.blk s H scope (compEnvC scope cl A X.env) fp) tg r) (hk : ∀ L, (∀ i, i ∈ L → i ∉ own'.map (·.2)) → GOk (gOf X g) L t r)
    (ht : ∀ (s : Shared) (H : Hp) (A : Addr) (cl : List (Str × Addr)) (fp : List Addr), Cn (X.blk s H scope (compEnvC scope cl A X.env) fp) N (relS scope sc) fr → PTs (X.blk s H scope (compEnvC scope cl A X.env) fp) ifs (RdT (gOf X g) W0 mc))
    (he : ∀ (s : Shared) (H : Hp) (A : Addr) (cl : List (Str × Addr)) (fp : List Addr), Cn (X.blk s H scope (compEnvC scope cl A X.env) fp) N (relS scope sc) fr → SE (X.blk s H scope (compEnvC scope cl A X.env) fp) g W0 elt me) (hs : ∀ x, foldedSetIterable iter X.env x = pure x) :
    SE X g W (.ListComp elt [⟨tg, iter, ifs, 0⟩] scope pos) (mLc (own'.map (·.2)) t mi mc me) :=
  se_lc C.calm C.nd' hi (blkOk_by (by rw [C.hN, C.hsc]; exact ok)) (fun s H A cl fp => hg s H A cl fp (C.blk s H A cl fp)) hk (fun s H A cl fp => ht s H A cl fp (C.blk s H A cl fp)) (fun s H A cl fp => he s H A cl fp (C.blk s H A cl fp)) hs
theorem se_lc2C {elt tg iter tg1 iter1 : Expr} {ifs ifs1 : List Expr} {scope : Scope} {own' : List (Str × Nat)} {own1 : List Nat} {t t1 : CT} {r r1 : TG} {mi mi1 : MI} {mc mc1 me : ME} (C : Cn X N sc fr) (hi : SI X g W tg iter mi) (ok : blkC N sc scope own' = true) (hsub : ∀ i ∈ own1, i ∈ own'.map (·.2))
    (hg : ∀ (s : Shared) (H : Hp) (A : Addr) (cl : List (Str × Addr)) (fp : List Addr), Cn (X.blk s H scope (compEnvC scope cl A X.env) fp) N (relS scope sc) fr → PG (X.blk s H scope (compEnvC scope cl A X.env) fp) tg r) (hk : ∀ L, (∀ i, i ∈ L → i ∉ own'.map (·.2)) → GOk (gOf X g) L t r)
    (ht : ∀ (s : Shared) (H : Hp) (A : Addr) (cl : List (Str × Addr)) (fp : List Addr), Cn (X.blk s H scope (compEnvC scope cl A X.env) fp) N (relS scope sc) fr → PTs (X.blk s H scope (compEnvC scope cl A X.env) fp) ifs (RdT (gOf X g) W0 mc))
    (he : ∀ (s : Shared) (H : Hp) (A : Addr) (cl : List (Str × Addr)) (fp : List Addr), Cn (X.blk s H scope (compEnvC scope cl A X.env) fp) N (relS scope sc) fr → SE (X.blk s H scope (compEnvC scope cl A X.env) fp) g W0 elt me) (hs : ∀ x, foldedSetIterable iter X.env x = pure x)
    (hi1 : ∀ (s : Shared) (H : Hp) (A : Addr) (cl : List (Str × Addr)) (fp : List Addr), Cn (X.blk s H scope (compEnvC scope cl A X.env) fp) N (relS scope sc) fr → SI (X.blk s H scope (compEnvC scope cl A X.env) fp) g W0 tg1 iter1 mi1)
    (hg1 : ∀ (s : Shared) (H : Hp) (A : Addr) (cl : List (Str × Addr)) (fp : List Addr), Cn (X.blk s H scope (compEnvC scope cl A X.env) fp) N (relS scope sc) fr → PG (X.blk s H scope (compEnvC scope cl A X.env) fp) tg1 r1) (hk1 : ∀ L, (∀ i, i ∈ L → i ∉ own1) → GOk (gOf X g) L t1 r1)
    (ht1 : ∀ (s : Shared) (H : Hp) (A : Addr) (cl : List (Str × Addr)) (fp : List Addr), Cn (X.blk s H scope (compEnvC scope cl A X.env) fp) N (relS scope sc) fr → PTs (X.blk s H scope (compEnvC scope cl A X.env) fp) ifs1 (RdT (gOf X g) W0 mc1))
    (hs1 : ∀ env x, foldedSetIterable iter1 env x = pure x) :
    SE X g W (.ListComp elt [⟨tg, iter, ifs, 0⟩, ⟨tg1, iter1, ifs1, 0⟩] scope pos) (mLc2 (own'.map (·.2)) t mi mc own1 t1 mi1 mc1 me) :=
  se_lc2 C.calm C.nd' hi (blkOk_by (by rw [C.hN, C.hsc]; exact ok)) hsub (fun s H A cl fp => hg s H A cl fp (C.blk s H A cl fp)) hk (fun s H A cl fp => ht s H A cl fp (C.blk s H A cl fp)) (fun s H A cl fp => he s H A cl fp (C.blk s H A cl fp)) hs (fun s H A cl fp => hi1 s H A cl fp (C.blk s H A cl fp)) (fun s H A cl fp => hg1 s H A cl fp (C.blk s H A cl fp)) hk1 (fun s H A cl fp => ht1 s H A cl fp (C.blk s H A cl fp)) hs1
/-- targets by their shape -/
theorem gok_vb {i : Nat} {own' : List Nat} (h : decide (i ∈ own') = true) : ∀ L, (∀ j, j ∈ L → j ∉ own') → GOk G L (.v i) (gName i) := fun L hL => gok_v fun z => hL i z (of_decide_eq_true h)
end
/-- nothing is promised -/
theorem fn_no {P : Program} {w : World} {K : PySem.W.Frag} {mg : Str → Option Value} {base : Heap} {CX : CXT} {k : Nat} {f : Addr} {fd : FuncData} {ps : List Str} {G : GI} {mask : List Bool} (h : mask.length = ps.length) : FnOk P w K mg base CX k f fd ps (Prom G mask fun _ => .no) :=
  ⟨Prom.len h, fun _ _ _ _ _ _ _ _ _ _ _ _ _ ⟨_, _, _, _, _, _, _, _, z⟩ => z.elim⟩
section
variable {P : Program} {w : World} {K : PySem.W.Frag} {mg : Str → Option Value} {base : Heap} {x qual : Str} {params : Arguments} {body : List Stmt} {scope : Scope} {dvs : List V} {kws : List (Str × V)} {f : Addr} {fd : FuncData}
theorem fn_okC {N ps fr : List Str} {mask : List Bool} {k : Nat} {m : MS} {g : GF} (Fd : FunD K x qual params body scope dvs kws f fd) (S : FnScope N ps scope) (hm : mask.length = ps.length) (hn : mask.length ≤ N.length) (hfr : ∀ x ∈ fr, mg x = none)
    (hb : ∀ (X : Cx) (W : WX), X.prog = P → X.w = w → X.K = K → X.mg = mg → X.base = base → Room k X.A → Cf X W N scope fr → SSs X g W (lix 0 mask) body m) :
    FnOk P w K mg base (L2.CX P w) (k + 1) f fd ps (Prom ⟨g, K⟩ mask (callF N.length mask m)) :=
  fn_ok Fd S hm hn hfr fun cdv A outer s H E hr hc ht hp => hb _ _ rfl rfl rfl rfl rfl hr ⟨hc, fun _ => rfl, ht, hp, rfl, rfl⟩
theorem weakCX {C1 C2 : CXT} {k : Nat} {ps : List Str} {sp : Sp} (h : ∀ o H s E u s', C1 o H s E u s' → C2 o H s E u s') (Fo : FnOk P w K mg base C1 k f fd ps sp) : FnOk P w K mg base C2 k f fd ps sp :=
  ⟨Fo.len, fun A outer s H args us vs Q E hr he hb hv hs => codeAny_mono (Fo.run A outer s H args us vs Q E hr he hb hv hs) fun r s' hq => by
    cases r with
    | error e => exact h _ _ _ _ _ _ hq
    | ok fl => cases fl <;> exact hq⟩
end
end EV

/-! EvS: comparisons as tests. -/
namespace EV
open PySem PySem.Spec PyProof.Rows L2
section
variable {X : Cx} {N : List Str} {sc : Scope} {fr : List Str} {g : GF} {G : GI} {W : WX} {L : List Nat} {a b c : Expr} {es : List Expr} {pos p2 p3 p4 : Pos} {oa ob : Op} {m n t : ME} {σ : L2.St} {H : Hp}
theorem RdT.toE {Q : Bool → Hp → Prop} (h : RdT G W m σ H Q) : RdE G W m σ H fun x H1 => ∃ k, x = .bl k ∧ Q k H1 := by
  obtain ⟨F, fp, e, s, h⟩ := h
  refine RdE.iff.mpr ⟨F, fp, e, s, ?_⟩
  cases q : m e with
  | ok d e1 =>
    rw [q] at h
    cases d with
    | bl b =>
      intro v F' H' fp' p s' t' tr
      refine ⟨b, t'.r.bl_inv, h F' H' fp' s' (tr.drop fun _ z => .inl z)⟩
    | _ => exact h.elim
  | ex c d e1 => rw [q] at h; exact h
  | no => rw [q] at h; exact h
theorem stc {e : Expr} {t : TE} (h : PT X e (tTest t)) (i : ∀ σ H Q, RdE (gOf X g) W m σ H Q → t σ H Q) : ST X g W e m := PT.imp h fun σ H Q hq => i σ H _ (RdT.toE hq)
theorem st_lt (ha : SOp X g W a oa) (hb : SOp X g W b ob) : ST X g W (.Compare a [.Lt] [b] pos) (mOp2 (cmpD fun i j => decide (i < j)) oa ob) := stc (pt_cmpR op_lt ha hb (nomark _)) fun _ _ _ h => rd_op2 (fun _ _ _ _ _ _ _ _ s r1 r2 h k => hr_cmp s r1 r2 h k) h
theorem st_le (ha : SOp X g W a oa) (hb : SOp X g W b ob) : ST X g W (.Compare a [.LtE] [b] pos) (mOp2 (cmpD fun i j => decide (i ≤ j)) oa ob) := stc (pt_cmpR op_le ha hb (nomark _)) fun _ _ _ h => rd_op2 (fun _ _ _ _ _ _ _ _ s r1 r2 h k => hr_cmp s r1 r2 h k) h
theorem st_gt (ha : SOp X g W a oa) (hb : SOp X g W b ob) : ST X g W (.Compare a [.Gt] [b] pos) (mOp2 (cmpD fun i j => decide (j < i)) oa ob) := stc (pt_cmpR op_gt ha hb (nomark _)) fun _ _ _ h => rd_op2 (fun _ _ _ _ _ _ _ _ s r1 r2 h k => hr_cmp s r1 r2 h k) h
theorem st_ge (ha : SOp X g W a oa) (hb : SOp X g W b ob) : ST X g W (.Compare a [.GtE] [b] pos) (mOp2 (cmpD fun i j => decide (j ≤ i)) oa ob) := stc (pt_cmpR op_ge ha hb (nomark _)) fun _ _ _ h => rd_op2 (fun _ _ _ _ _ _ _ _ s r1 r2 h k => hr_cmp s r1 r2 h k) h
theorem st_eq (C : Cn X N sc fr) (ha : SOp X g W a oa) (hb : SOp X g W b ob) : ST X g W (.Compare a [.Eq] [b] pos) (mOp2 eqD oa ob) := stc (pt_cmpR (op_eqD C.hu64) ha hb (nomark _)) fun _ _ _ h => rd_op2 (fun _ _ _ _ _ _ _ _ s r1 r2 h k => hr_eq s r1 r2 h k) h
theorem st_ne (C : Cn X N sc fr) (ha : SOp X g W a oa) (hb : SOp X g W b ob) : ST X g W (.Compare a [.NotEq] [b] pos) (mOp2 neD oa ob) := stc (pt_cmpR (op_neD C.hu64) ha hb (nomark _)) fun _ _ _ h => rd_op2 (fun _ _ _ _ _ _ _ _ s r1 r2 h k => hr_ne s r1 r2 h k) h
theorem st_isN (ha : SOp X g W a oa) {j : Nat} : ST X g W (.Compare a [.Is] [.Constant .none j p2] pos) (mOp1 (fun d => some (.bl (isN d))) oa) := stc (pt_cmp (pc_isN ha) rfl) fun _ _ _ h => rd_op1 (r := fun x H Q => Q (.bl (decide (x = .non))) H) (fun _ _ _ _ _ _ s r1 h k => hr_isN s r1 h k) h
theorem st_notN (ha : SOp X g W a oa) {j : Nat} : ST X g W (.Compare a [.IsNot] [.Constant .none j p2] pos) (mOp1 (fun d => some (.bl (!isN d))) oa) := stc (pt_cmp (pc_notN ha) rfl) fun _ _ _ h => rd_op1 (r := fun x H Q => Q (.bl (!decide (x = .non))) H) (fun _ _ _ _ _ _ s r1 h k => hr_notN s r1 h k) h
theorem st_isB {k : Bool} (ha : SOp X g W a oa) {j : Nat} : ST X g W (.Compare a [.Is] [.Constant (.bool k) j p2] pos) (mOp1 (fun d => some (.bl (isB k d))) oa) := stc (pt_cmpR (op_isC (b := k)) ha pe_bl (nomark _)) fun _ _ _ h =>
  rd_op1 (r := fun x H Q => V.bl k = V.bl k ∧ Q (.bl (decide (x = .bl k))) H) (fun _ _ _ _ _ _ s r1 h kk => ⟨rfl, by injection h with h; subst h; rw [isB_rep r1]; exact kk.z s (.bl _)⟩) h
theorem st_notB {k : Bool} (ha : SOp X g W a oa) {j : Nat} : ST X g W (.Compare a [.IsNot] [.Constant (.bool k) j p2] pos) (mOp1 (fun d => some (.bl (!isB k d))) oa) := stc (pt_cmpR (op_isnotC (b := k)) ha pe_bl (nomark _)) fun _ _ _ h =>
  rd_op1 (r := fun x H Q => V.bl k = V.bl k ∧ Q (.bl (!decide (x = .bl k))) H) (fun _ _ _ _ _ _ s r1 h kk => ⟨rfl, by injection h with h; subst h; rw [isB_rep r1]; exact kk.z s (.bl _)⟩) h
theorem st_in (C : Cn X N sc fr) (ha : SOp X g W a oa) (hb : SOp X g W b ob) (hm : behindInMarks .In b = false) : ST X g W (.Compare a [.In] [b] pos) (mOp2 inB oa ob) :=
  stc (pt_cmpR ((op_inD C.hu65).or (op_in_seq.or (op_inDk C.hu1))) ha hb hm) fun _ _ _ h => rd_op2 (r := fun x y H Q => rInD X.K x y H Q ∨ rIn X.K false x y H Q ∨ ∃ a o, y = V.ref a ∧ DGet H a x o ∧ Q (V.bl o.isSome) H) (fun _ _ _ _ _ _ _ _ s r1 r2 h k => by
    obtain ⟨n, q, rfl⟩ := inB_some h
    have z := k.z s (.bl n)
    rcases hr_in s r1 r2 q with ⟨d, ds, h1, h2, h3, h4, h5⟩ | ⟨p, xs, h1, h2, h3, h4, h5⟩ | ⟨a, o, h1, h2, h3⟩
    · exact .inl ⟨d, ds, h1, h2, h3, h4, by rw [h5]; exact z⟩
    · exact .inr (.inl ⟨p, xs, h1, h2, h3, h4, by first | (rw [if_neg Bool.false_ne_true, h5]; exact z) | (rw [if_pos rfl, h5]; exact z)⟩)
    · exact .inr (.inr ⟨a, o, h1, h2, by rw [h3]; exact z⟩)) h
theorem st_notin (C : Cn X N sc fr) (ha : SOp X g W a oa) (hb : SOp X g W b ob) (hm : behindInMarks .NotIn b = false) : ST X g W (.Compare a [.NotIn] [b] pos) (mOp2 notinB oa ob) :=
  stc (pt_cmpR ((op_notInD C.hu65).or (op_notIn_seq.or (op_notinDk C.hu1))) ha hb hm) fun _ _ _ h => rd_op2 (r := fun x y H Q => rNotInD X.K x y H Q ∨ rIn X.K true x y H Q ∨ ∃ a o, y = V.ref a ∧ DGet H a x o ∧ Q (V.bl !o.isSome) H) (fun _ _ _ _ _ _ _ _ s r1 r2 h k => by
    obtain ⟨n, q, rfl⟩ := notinB_some h
    have z := k.z s (.bl !n)
    rcases hr_in s r1 r2 q with ⟨d, ds, h1, h2, h3, h4, h5⟩ | ⟨p, xs, h1, h2, h3, h4, h5⟩ | ⟨a, o, h1, h2, h3⟩
    · exact .inl ⟨d, ds, h1, h2, h3, h4, by rw [h5]; exact z⟩
    · exact .inr (.inl ⟨p, xs, h1, h2, h3, h4, by first | (rw [if_neg Bool.false_ne_true, h5]; exact z) | (rw [if_pos rfl, h5]; exact z)⟩)
    · exact .inr (.inr ⟨a, o, h1, h2, by rw [h3]; exact z⟩)) h
theorem sa_consT {m : ME} {ms : List Ar} (ha : SE X g W a m) (hr : SA X g W es ms) (hs : starEach (a :: es) X.env = (false, eval a X.env) :: starEach es X.env) : SA X g W (a :: es) (.t m :: ms) := sa_cons (m := .t m) ha hr hs
theorem sa_consL {j : Nat} {ms : List Ar} (ha : PE X a (tVar j)) (hr : SA X g W es ms) (hs : starEach (a :: es) X.env = (false, eval a X.env) :: starEach es X.env) : SA X g W (a :: es) (.l j :: ms) := sa_cons (m := .l j) ha hr hs
end
end EV

/-! EvT: the plain functions reckoned out. -/
namespace EV
open PySem PySem.Spec L2
section
variable {m n t : ME} {ms ns : MS} {e e1 : DEnv} {d : D} {oa ob : Op} {i k : Nat}
@[simp] theorem ap_seq : mSeq ms ns e = (ms e).seq ns := rfl
@[simp] theorem ap_expr : mExpr m e = (m e).toS fun _ e1 => .nx e1 := rfl
@[simp] theorem ap_ret : mRet m e = (m e).toS fun d e1 => .rt d e1 := rfl
@[simp] theorem ap_retN : mRetN e = .rt .non e := rfl
@[simp] theorem ap_asg : mAsg (.v i) m e = (m e).toS fun d e1 => .nx (e1.set i (some d)) := rfl
@[simp] theorem ap_asgT {ts : List CT} : mAsg (.t ts) m e = (m e).toS fun d e1 => match put (.t ts) d e1 with
  | some e2 => .nx e2
  | none => .no := rfl
@[simp] theorem ap_ifS : mIfS t ms ns e = match t e with
  | .ok (.bl true) e1 => ms e1
  | .ok (.bl false) e1 => ns e1
  | .ok _ _ => .no
  | .ex c d e1 => .ex c d e1
  | .no => .no := rfl
@[simp] theorem ap_if : mIf t m n e = match t e with
  | .ok (.bl true) e1 => m e1
  | .ok (.bl false) e1 => n e1
  | .ok _ _ => .no
  | .ex c d e1 => .ex c d e1
  | .no => .no := rfl
@[simp] theorem ap_op1 {f : D → Option D} : mOp1 f oa e = (oa.run e).bind fun p e1 => p.see e1 fun d e2 => RE.of (f d) e2 := rfl
@[simp] theorem ap_op2 {f : D → D → Option D} : mOp2 f oa ob e = (oa.run e).bind fun p e1 => (ob.run e1).bind fun q e2 => p.see e2 fun d e3 => q.see e3 fun d2 e4 => RE.of (f d d2) e4 := rfl
@[simp] theorem ap_tru : mTru oa e = (oa.run e).bind fun p e1 => p.see e1 fun d e2 => RE.of ((truD d).map .bl) e2 := rfl
@[simp] theorem ap_c : mC d e = .ok d e := rfl
@[simp] theorem ap_v : mV k e = match e[k]? with
  | some (some d) => if fz d = true then .ok d e else .ok (frz d) (e.set k (some (frz d)))
  | _ => .no := rfl
@[simp] theorem ap_mv : mMv k e = match e[k]? with
  | some (some d) => .ok d (e.set k none)
  | _ => .no := rfl
@[simp] theorem ap_fz : mFz m e = match m e with
  | .ok d e1 => .ok (frz d) e1
  | .ex c d e1 => .ex c d e1
  | .no => .no := rfl
@[simp] theorem ap_runV : (Op.v k).run e = match e[k]? with
  | some (some _) => .ok (.v k) e
  | _ => .no := rfl
@[simp] theorem ap_runE : (Op.e m).run e = match m e with
  | .ok x e1 => .ok (.d (frz x)) e1
  | .ex c x e1 => .ex c x e1
  | .no => .no := rfl
@[simp] theorem ap_seeD {f : D → DEnv → RE} : (PV.d d).see e f = f d e := rfl
@[simp] theorem ap_seeV {f : D → DEnv → RE} : (PV.v k).see e f = match e[k]? with
  | some (some d) => if vwOk d = true then f (vw d) e else f (frz d) (e.set k (some (frz d)))
  | _ => .no := rfl
@[simp] theorem ap_ofS : RE.of (some d) e = .ok d e := rfl
@[simp] theorem ap_ofN : RE.of none e = .no := rfl
@[simp] theorem frz_non : frz .non = .non := rfl
@[simp] theorem frz_bl {b : Bool} : frz (.bl b) = .bl b := rfl
@[simp] theorem frz_int {b : Int} : frz (.int b) = .int b := rfl
@[simp] theorem frz_str {b : Str} : frz (.str b) = .str b := rfl
@[simp] theorem frz_tup {b : List D} : frz (.tup b) = .tup (frzs b) := rfl
@[simp] theorem frz_lst {o : Bool} {b : List D} : frz (.lst o b) = .lst false (frzs b) := rfl
@[simp] theorem frz_scr {b : List Int} : frz (.scr b) = .scr b := rfl
@[simp] theorem frzs_nil : frzs [] = [] := rfl
@[simp] theorem frzs_cons {b : List D} : frzs (d :: b) = frz d :: frzs b := rfl
@[simp] theorem fz_non : fz .non = true := rfl
@[simp] theorem fz_bl {b : Bool} : fz (.bl b) = true := rfl
@[simp] theorem fz_int {b : Int} : fz (.int b) = true := rfl
@[simp] theorem fz_str {b : Str} : fz (.str b) = true := rfl
@[simp] theorem fz_tup {b : List D} : fz (.tup b) = fzs b := rfl
@[simp] theorem fz_lst {o : Bool} {b : List D} : fz (.lst o b) = (!o && fzs b) := by cases o <;> rfl
@[simp] theorem fz_scr {b : List Int} : fz (.scr b) = true := rfl
@[simp] theorem fzs_nil : fzs [] = true := rfl
@[simp] theorem fzs_cons {b : List D} : fzs (d :: b) = (fz d && fzs b) := rfl
@[simp] theorem vw_non : vw .non = .non := rfl
@[simp] theorem vw_bl {b : Bool} : vw (.bl b) = .bl b := rfl
@[simp] theorem vw_int {b : Int} : vw (.int b) = .int b := rfl
@[simp] theorem vw_str {b : Str} : vw (.str b) = .str b := rfl
@[simp] theorem vw_tup {b : List D} : vw (.tup b) = .tup b := rfl
@[simp] theorem vw_lst {o : Bool} {b : List D} : vw (.lst o b) = .lst false b := rfl
@[simp] theorem vw_scr {b : List Int} : vw (.scr b) = .scr b := rfl
@[simp] theorem vw_dk {o : Bool} {b : List (Key × D)} : vw (.dk o b) = .dk false b := rfl
@[simp] theorem vw_dt {o : Bool} {b : List (List Key × D)} : vw (.dt o b) = .dt false b := rfl
@[simp] theorem vwOk_non : vwOk .non = true := rfl
@[simp] theorem vwOk_bl {b : Bool} : vwOk (.bl b) = true := rfl
@[simp] theorem vwOk_int {b : Int} : vwOk (.int b) = true := rfl
@[simp] theorem vwOk_str {b : Str} : vwOk (.str b) = true := rfl
@[simp] theorem vwOk_tup {b : List D} : vwOk (.tup b) = fzs b := rfl
@[simp] theorem vwOk_lst {o : Bool} {b : List D} : vwOk (.lst o b) = fzs b := rfl
@[simp] theorem vwOk_scr {b : List Int} : vwOk (.scr b) = true := rfl
@[simp] theorem vwOk_dk {o : Bool} {b : List (Key × D)} : vwOk (.dk o b) = true := rfl
@[simp] theorem vwOk_dt {o : Bool} {b : List (List Key × D)} : vwOk (.dt o b) = true := rfl
@[simp] theorem ad_int {a b : Int} : addD (.int a) (.int b) = some (.int (a + b)) := rfl
@[simp] theorem sb_int {a b : Int} : subD (.int a) (.int b) = some (.int (a - b)) := rfl
@[simp] theorem cm_int {f : Int → Int → Bool} {a b : Int} : cmpD f (.int a) (.int b) = some (.bl (f a b)) := rfl
theorem md_int {a b : Int} (h : 0 < b) : modD (.int a) (.int b) = some (.int (a % b)) := by
  show (if 0 < b then some (D.int (a % b)) else _) = _
  rw [if_pos h]
@[simp] theorem int_int {a : Int} : intD (.int a) = some (.int a) := rfl
@[simp] theorem abs_int {a : Int} : absD (.int a) = some (.int (if a < 0 then -a else a)) := rfl
@[simp] theorem len_tup {b : List D} : lenD (.tup b) = some (.int b.length) := rfl
@[simp] theorem len_lst {o : Bool} {b : List D} : lenD (.lst o b) = some (.int b.length) := rfl
@[simp] theorem len_scr {b : List Int} : lenD (.scr b) = some (.int b.length) := rfl
@[simp] theorem ix_tup {b : List D} {j : Int} : ixD (.tup b) (.int j) = atI b j := rfl
@[simp] theorem ix_lst {o : Bool} {b : List D} {j : Int} : ixD (.lst o b) (.int j) = atI b j := rfl
@[simp] theorem ix_scr {b : List Int} {j : Int} : ixD (.scr b) (.int j) = (atI b j).map .int := rfl
@[simp] theorem isN_non : isN .non = true := rfl
@[simp] theorem isN_bl {b : Bool} : isN (.bl b) = false := rfl
@[simp] theorem isN_int {b : Int} : isN (.int b) = false := rfl
@[simp] theorem isN_str {b : Str} : isN (.str b) = false := rfl
@[simp] theorem isN_tup {b : List D} : isN (.tup b) = false := rfl
@[simp] theorem isN_lst {o : Bool} {b : List D} : isN (.lst o b) = false := rfl
@[simp] theorem tru_bl {b : Bool} : truD (.bl b) = some b := rfl
@[simp] theorem tup_tup {b : List D} : tupleD (.tup b) = some (.tup b) := rfl
@[simp] theorem lst_tup {b : List D} : listD (.tup b) = some (.lst true b) := rfl
@[simp] theorem mx2_int {a b : Int} : max2D (.int a) (.int b) = some (.int (if b > a then b else a)) := rfl
@[simp] theorem mn2_int {a b : Int} : min2D (.int a) (.int b) = some (.int (if b < a then b else a)) := rfl
theorem mul_int {a b : Int} (h : mulOk a b = true) : mulD (.int a) (.int b) = some (.int (a * b)) := by
  show (if mulOk a b then some (D.int (a * b)) else none) = _
  rw [if_pos h]
theorem mulOk_r {a b : Int} (h : Nat.ble b.natAbs 18446744073709551615 = true) : mulOk a b = true := by
  unfold mulOk
  rw [h]
  simp
theorem mulOk_l {a b : Int} (h : Nat.ble a.natAbs 18446744073709551615 = true) : mulOk a b = true := by
  unfold mulOk
  rw [h]
  rfl
theorem div_int {a b : Int} (h0 : 0 < b) (h : divOk b = true) : fdivD (.int a) (.int b) = some (.int (a / b)) := by
  show (if 0 < b then (if divOk b = true then some (D.int (a / b)) else none) else _) = _
  rw [if_pos h0, if_pos h]
theorem divOk_s {b : Int} (h0 : 0 < b) (h : b < 1073741824) : divOk b = true := by
  unfold divOk
  simp only [Bool.or_eq_true, decide_eq_true_eq]
  left; omega
/-! ### what is written, what is passed -/
@[simp] theorem ap_set : mSet k oa m e = (m e).toS fun d e1 => match e1[k]? with
  | some (some _) => match oa.run e1 with
    | .ok p e2 => match p.see e2 (fun di e3 => match e3[k]? with
      | some (some d0) => match setD d0 di d with
        | some d1 => .ok .non (e3.set k (some d1))
        | none => .no
      | _ => .no) with
      | .ok _ e4 => .nx e4
      | _ => .no
    | .ex c d e2 => .ex c d e2
    | .no => .no
  | _ => .no := rfl
@[simp] theorem ap_app : mApp k m e = match e[k]? with
  | some (some (.lst true _)) => (m e).bind fun d e1 => match e1[k]? with
    | some (some (.lst true xs)) => if xs.length < LIM then .ok .non (e1.set k (some (.lst true (xs ++ [d])))) else .no
    | _ => .no
  | _ => .no := rfl
@[simp] theorem REb_ok {f : D → DEnv → RE} : (RE.ok d e).bind f = f d e := rfl
@[simp] theorem REb_ex {c : Nat} {f : D → DEnv → RE} : (RE.ex c d e).bind f = .ex c d e := rfl
@[simp] theorem REb_no {f : D → DEnv → RE} : RE.no.bind f = .no := rfl
@[simp] theorem mA_nil : mA [] e = .ok [] e := rfl
@[simp] theorem mA_t {r : List Ar} : mA (.t m :: r) e = match m e with
    | .ok d e1 => (mA r e1).cons (.t d)
    | .ex c d e1 => .ex c d e1
    | .no => .no := rfl
@[simp] theorem mA_l {j : Nat} {r : List Ar} : mA (.l j :: r) e = match e[j]? with
    | some (some _) => (mA r e).cons (.l j)
    | _ => .no := rfl
@[simp] theorem RAc_ok {a : PA1} {as : List PA1} : (RA.ok as e).cons a = .ok (a :: as) e := rfl
@[simp] theorem RAf_ok {as : List PA1} {f : List D → DEnv → RE} : (RA.ok as e).fin f = match allT as with
    | some ds => if ds.length ≤ LIM then f ds e else .no
    | none => .no := rfl
@[simp] theorem allT_nil : allT [] = some [] := rfl
@[simp] theorem allT_t {as : List PA1} : allT (.t d :: as) = (allT as).map (d :: ·) := rfl
@[simp] theorem ap_tup {as : List Ar} : mTup as e = (mA as e).fin fun ds e1 => .ok (.tup ds) e1 := rfl
@[simp] theorem ap_lst {as : List Ar} : mLst as e = (mA as e).fin fun ds e1 => .ok (.lst true ds) e1 := rfl
@[simp] theorem effD_nil : effD e [] = some [] := rfl
@[simp] theorem effD_t {as : List PA1} : effD e (.t d :: as) = (effD e as).map (d :: ·) := rfl
@[simp] theorem effD_l {j : Nat} {as : List PA1} : effD e (.l j :: as) = match e[j]? with
  | some (some d) => (effD e as).map (d :: ·)
  | _ => none := rfl
@[simp] theorem lents_nil : lents [] = [] := rfl
@[simp] theorem lents_t {as : List PA1} : lents (.t d :: as) = lents as := rfl
@[simp] theorem lents_l {j : Nat} {as : List PA1} : lents (.l j :: as) = j :: lents as := rfl
@[simp] theorem minus_nil : minus [] e = e := rfl
@[simp] theorem minus_t {as : List PA1} : minus (.t d :: as) e = minus as e := rfl
@[simp] theorem minus_l {j : Nat} {as : List PA1} : minus (.l j :: as) e = minus as (e.set j none) := rfl
@[simp] theorem bk_nil : bk [] [] [] e = some e := rfl
@[simp] theorem bk_l {ma : List Bool} {j : Nat} {as : List PA1} {fn : List D} : bk (true :: ma) (.l j :: as) (d :: fn) e = bk ma as fn (e.set j (some d)) := rfl
@[simp] theorem bk_t {ma : List Bool} {d1 : D} {as : List PA1} {fn : List D} : bk (true :: ma) (.t d1 :: as) (d :: fn) e = bk ma as fn e := rfl
@[simp] theorem bk_f {ma : List Bool} {d1 : D} {as : List PA1} {fn : List D} : bk (false :: ma) (.t d1 :: as) fn e = bk ma as fn e := rfl
@[simp] theorem ap_call {C : List D → RC} {ma : List Bool} {dfl : List D} {as : List Ar} : mCall C ma dfl as e = match mA as e with
  | .ok as e1 => match effD e1 as with
    | some ds => if (lents as).Nodup ∧ (as.length + dfl.length = ma.length) then match C (ds ++ dfl) with
      | .ok d fin => match bk ma (as ++ dfl.map .t) fin (minus as e1) with
        | some e2 => .ok d e2
        | none => .no
      | .ex c d fin => match bk ma (as ++ dfl.map .t) fin (minus as e1) with
        | some e2 => .ex c d e2
        | none => .no
      | .no => .no
      else .no
    | none => .no
  | .ex c d e1 => .ex c d e1
  | .no => .no := rfl
@[simp] theorem fins_nil : fins [] e = some [] := by cases e <;> rfl
@[simp] theorem fins_t {ma : List Bool} : fins (true :: ma) (some d :: e) = (fins ma e).map (d :: ·) := rfl
@[simp] theorem fins_f {ma : List Bool} : fins (false :: ma) e = fins ma e.tail := by cases e <;> rfl
@[simp] theorem ap_par {is : List Nat} {as : List Ar} : mPar is as e = match mA as e with
  | .ok as e1 => match allT as with
    | some ds => match puts (is.map CT.v) ds e1 with
      | some e2 => .nx e2
      | none => .no
    | none => .no
  | .ex c d e1 => .ex c d e1
  | .no => .no := rfl
@[simp] theorem put_v : put (.v i) d e = some (e.set i (some d)) := rfl
@[simp] theorem put_t {ts : List CT} {ds : List D} : put (.t ts) (.tup ds) e = puts ts ds e := rfl
@[simp] theorem puts_nil : puts [] [] e = some e := rfl
@[simp] theorem puts_cons {t : CT} {ts : List CT} {ds : List D} : puts (t :: ts) (d :: ds) e = (put t d e).bind fun e1 => puts ts ds e1 := rfl
@[simp] theorem set_lst {xs : List D} {j : Int} : setD (.lst true xs) (.int j) d = (ixN xs.length j).map fun j => .lst true (xs.set j d) := rfl
theorem callF_ok {N : Nat} {ma : List Bool} {b : MS} {ds : List D} (h : ds.length = ma.length ∧ ma.length ≤ N) : callF N ma b ds = match b (ds.map some ++ List.replicate (N - ma.length) none) with
    | .nx e => match fins ma e with
      | some f => .ok .non f
      | none => .no
    | .rt d e => match fins ma e with
      | some f => .ok d f
      | none => .no
    | .ex c d e => match fins ma e with
      | some f => .ex c d f
      | none => .no
    | _ => .no := by
  unfold callF
  rw [if_pos h]
  try rfl
@[simp] theorem LIM_is : LIM = 1000000 := rfl
@[simp] theorem RS_seq_no {f : DEnv → RS} : RS.no.seq f = .no := rfl
@[simp] theorem ap_for {Ls : List Nat} {tg : CT} {mi : MI} : mFor Ls tg mi ms e = match mi e with
  | .ok ds l e1 => if lkIn l Ls = true then (forL tg ms ds e1).unlk l else .no
  | .ex c d e1 => .ex c d e1
  | .no => .no := rfl
@[simp] theorem ap_while : mWhile t ms e = whileN t ms FUEL e := rfl
@[simp] theorem ap_lc {own : List Nat} {tg : CT} {mi : MI} : mLc own tg mi m n e = match mi e with
  | .ok ds l e1 => RE.unlk l (match lcL own tg m n ds [] (wipeE own e1) with
    | .ok acc e2 => .ok (.lst true acc) (backE e1 own e2)
    | .no => .no)
  | .ex c d e1 => .ex c d e1
  | .no => .no := rfl
@[simp] theorem ap_lc2 {own own1 : List Nat} {tg tg1 : CT} {mi mi1 : MI} : mLc2 own tg mi m own1 tg1 mi1 n t e = match mi e with
  | .ok ds l e1 => RE.unlk l (match lcL2 own tg m own1 tg1 mi1 n t ds [] (wipeE own e1) with
    | .ok acc e2 => .ok (.lst true acc) (backE e1 own e2)
    | .no => .no)
  | .ex c d e1 => .ex c d e1
  | .no => .no := rfl
@[simp] theorem ap_it : mIt m e = match m e with
  | .ok d e1 => match itemsD (frz d) with
    | some ds => .ok ds none e1
    | none => .no
  | .ex c d e1 => .ex c d e1
  | .no => .no := rfl
@[simp] theorem ap_itV : mItV k e = match e[k]? with
  | some (some (.lst true ds)) => if fzs ds = true then .ok ds (some (k, .lst true ds)) (e.set k none) else .no
  | some (some d) => match itemsD (frz d) with
    | some ds => if fz d = true then .ok ds none e else .no
    | none => .no
  | _ => .no := rfl
@[simp] theorem items_tup {ds : List D} : itemsD (.tup ds) = some ds := rfl
@[simp] theorem items_lst {o : Bool} {ds : List D} : itemsD (.lst o ds) = some ds := rfl
@[simp] theorem items_scr {ds : List Int} : itemsD (.scr ds) = some (ds.map .int) := rfl
@[simp] theorem ap_rg1 : mRg1 m e = match m e with
  | .ok (.int j) e1 => if rngOk j = true then .ok (rangeD 0 j) none e1 else .no
  | .ok _ _ => .no
  | .ex c d e1 => .ex c d e1
  | .no => .no := rfl
@[simp] theorem lk_none {Ls : List Nat} : lkIn none Ls = true := rfl
@[simp] theorem lk_some {Ls : List Nat} {j : Nat} : lkIn (some (j, d)) Ls = decide (j ∈ Ls) := rfl
@[simp] theorem RSu_none {r : RS} : r.unlk none = r := by cases r <;> rfl
@[simp] theorem REu_none {r : RE} : r.unlk none = r := by cases r <;> rfl
@[simp] theorem REu_ok {j : Nat} {d1 : D} : (RE.ok d e).unlk (some (j, d1)) = .ok d (e.set j (some d1)) := rfl
@[simp] theorem RSu_nx {j : Nat} {d1 : D} : (RS.nx e).unlk (some (j, d1)) = .nx (e.set j (some d1)) := rfl
@[simp] theorem RSu_rt {j : Nat} {d1 : D} : (RS.rt d e).unlk (some (j, d1)) = .rt d (e.set j (some d1)) := rfl
@[simp] theorem wipe_nil : wipeE [] e = e := rfl
@[simp] theorem wipe_cons {is : List Nat} : wipeE (i :: is) e = (wipeE is e).set i none := rfl
@[simp] theorem back_nil : backE e1 [] e = e := rfl
@[simp] theorem back_cons {is : List Nat} : backE e1 (i :: is) e = match e1[i]? with
    | some (some d) => if fz d = true then (backE e1 is e).set i (some d) else backE e1 is e
    | _ => backE e1 is e := rfl
@[simp] theorem ap_true : mTrue e = .ok (.bl true) e := rfl
@[simp] theorem rg_len {lo hi : Int} : (rangeD lo hi).length = (hi - lo).toNat := by
  unfold rangeD
  rw [List.length_map, List.length_range]
theorem rg_get {lo hi : Int} {k : Nat} {d : D} (h : (rangeD lo hi)[k]? = some d) : d = .int (lo + (k : Nat)) ∧ k < (hi - lo).toNat := by
  unfold rangeD at h
  rw [List.getElem?_map] at h
  by_cases hk : k < (hi - lo).toNat
  · rw [List.getElem?_range hk] at h
    injection h with h
    exact ⟨h.symm, hk⟩
  · rw [List.getElem?_eq_none (by simpa using hk)] at h; cases h
theorem rngOk_s {j : Int} (h1 : -1000000000 < j) (h2 : j < 1000000000) : rngOk j = true := by
  unfold rngOk
  exact Nat.ble_eq_true_of_le (by omega)
@[simp] theorem eq_int {a b : Int} : eqD (.int a) (.int b) = some (.bl (a == b)) := rfl
@[simp] theorem ne_int {a b : Int} : neD (.int a) (.int b) = some (.bl (!(a == b))) := rfl
@[simp] theorem isV_bl {b : Bool} : mAnd.isV (.bl b) = true := rfl
@[simp] theorem isV_non : mAnd.isV .non = true := rfl
@[simp] theorem isV_int {b : Int} : mAnd.isV (.int b) = true := rfl
@[simp] theorem ap_and : mAnd oa n e = match oa.run e with
  | .ok p e1 => p.see e1 fun d e2 => match truD d with
    | some true => n e2
    | some false => if mAnd.isV d = true then .ok d e2 else .no
    | none => .no
  | .ex c d e1 => .ex c d e1
  | .no => .no := rfl
@[simp] theorem ap_or : mOr oa n e = match oa.run e with
  | .ok p e1 => p.see e1 fun d e2 => match truD d with
    | some true => if mAnd.isV d = true then .ok d e2 else .no
    | some false => n e2
    | none => .no
  | .ex c d e1 => .ex c d e1
  | .no => .no := rfl
@[simp] theorem ap_tnot : mTNot m e = match m e with
  | .ok (.bl b) e1 => .ok (.bl (!b)) e1
  | .ok _ _ => .no
  | .ex c d e1 => .ex c d e1
  | .no => .no := rfl
@[simp] theorem ap_tand : mTAnd m n e = match m e with
  | .ok (.bl true) e1 => n e1
  | .ok (.bl false) e1 => .ok (.bl false) e1
  | .ok _ _ => .no
  | .ex c d e1 => .ex c d e1
  | .no => .no := rfl
@[simp] theorem ap_tor : mTOr m n e = match m e with
  | .ok (.bl true) e1 => .ok (.bl true) e1
  | .ok (.bl false) e1 => n e1
  | .ok _ _ => .no
  | .ex c d e1 => .ex c d e1
  | .no => .no := rfl
@[simp] theorem ap_not : mNot oa e = (oa.run e).bind fun p e1 => p.see e1 fun d e2 => RE.of ((truD d).map fun b => .bl (!b)) e2 := rfl
@[simp] theorem ap_zip2 : mZip2 m n e = match m e with
  | .ok d1 e1 => match n e1 with
    | .ok d2 e2 => match zipD (frz d1) (frz d2) with
      | some ds => .ok ds none e2
      | none => .no
    | .ex c d e2 => .ex c d e2
    | .no => .no
  | .ex c d e1 => .ex c d e1
  | .no => .no := rfl
@[simp] theorem zip_tup {xs ys : List D} : zipD (.tup xs) (.tup ys) = some (List.zipWith (fun x y => .tup [x, y]) xs ys) := rfl
@[simp] theorem is_tup {ds : List D} : isiD .tuple (.tup ds) = some true := rfl
@[simp] theorem is_tup_non : isiD .tuple .non = some false := rfl
@[simp] theorem is_tup_int {a : Int} : isiD .tuple (.int a) = some false := rfl
@[simp] theorem is_tup_bl {a : Bool} : isiD .tuple (.bl a) = some false := rfl
@[simp] theorem is_tup_str {a : Str} : isiD .tuple (.str a) = some false := rfl
@[simp] theorem is_tup_lst {o : Bool} {a : List D} : isiD .tuple (.lst o a) = some false := rfl
@[simp] theorem is_int_int {a : Int} : isiD .int (.int a) = some true := rfl
@[simp] theorem is_int_bl {a : Bool} : isiD .int (.bl a) = some true := rfl
@[simp] theorem is_int_str {a : Str} : isiD .int (.str a) = some false := rfl
@[simp] theorem is_int_non : isiD .int .non = some false := rfl
@[simp] theorem is_bool_int {a : Int} : isiD .bool (.int a) = some false := rfl
@[simp] theorem is_bool_bl {a : Bool} : isiD .bool (.bl a) = some true := rfl
@[simp] theorem is_str_str {a : Str} : isiD .str (.str a) = some true := rfl
@[simp] theorem isB_int {b : Bool} {a : Int} : isB b (.int a) = false := rfl
@[simp] theorem isB_bl {b a : Bool} : isB b (.bl a) = (a == b) := rfl
@[simp] theorem isB_str {b : Bool} {a : Str} : isB b (.str a) = false := rfl
@[simp] theorem isB_non {b : Bool} : isB b .non = false := rfl
/-- plain data of so many levels: tuples, whole numbers, None -/
def plD : Nat → D → Bool
  | _, .non => true
  | _, .int _ => true
  | n + 1, .tup ds => ds.all (plD n)
  | _, _ => false
theorem plD_fz : ∀ (n : Nat) {d : D}, plD n d = true → fz d = true
  | n, .non, _ => rfl
  | n, .int _, _ => rfl
  | 0, .tup ds, h => by simp [plD] at h
  | n + 1, .tup ds, h => by
    have h : ds.all (plD n) = true := h
    show fzs ds = true
    rw [fzs_all, List.all_eq_true]
    exact fun d hd => plD_fz n (List.all_eq_true.mp h d hd)
  | n, .bl _, h => by cases n <;> simp [plD] at h
  | n, .str _, h => by cases n <;> simp [plD] at h
  | n, .lst _ _, h => by cases n <;> simp [plD] at h
  | n, .scr _, h => by cases n <;> simp [plD] at h
  | n, .dk _ _, h => by cases n <;> simp [plD] at h
  | n, .dt _ _, h => by cases n <;> simp [plD] at h
  | n, .fn _, h => by cases n <;> simp [plD] at h
/-! ### loops -/
/-- what one turn asks -/
def stP (N : DEnv → Prop) (R : RS → Prop) : RS → Prop
  | .nx e => N e
  | .ct e => N e
  | .bk e => R (.nx e)
  | .rt d e => R (.rt d e)
  | .ex c d e => R (.ex c d e)
  | .no => False
@[simp] theorem stP_nx {N : DEnv → Prop} {R : RS → Prop} : stP N R (.nx e) = N e := rfl
@[simp] theorem stP_ct {N : DEnv → Prop} {R : RS → Prop} : stP N R (.ct e) = N e := rfl
@[simp] theorem stP_bk {N : DEnv → Prop} {R : RS → Prop} : stP N R (.bk e) = R (.nx e) := rfl
@[simp] theorem stP_rt {N : DEnv → Prop} {R : RS → Prop} : stP N R (.rt d e) = R (.rt d e) := rfl
@[simp] theorem stP_ex {N : DEnv → Prop} {R : RS → Prop} {c : Nat} : stP N R (.ex c d e) = R (.ex c d e) := rfl
@[simp] theorem stP_no {N : DEnv → Prop} {R : RS → Prop} : stP N R .no = False := rfl
def stO (N : DEnv → Prop) : Option DEnv → Prop
  | some e => N e
  | none => False
@[simp] theorem stO_some {N : DEnv → Prop} : stO N (some e) = N e := rfl
@[simp] theorem stO_none {N : DEnv → Prop} : stO N none = False := rfl
def stE (N : D → DEnv → Prop) : RE → Prop
  | .ok d e => N d e
  | _ => False
@[simp] theorem stE_ok {N : D → DEnv → Prop} : stE N (.ok d e) = N d e := rfl
@[simp] theorem stE_no {N : D → DEnv → Prop} : stE N .no = False := rfl
def stB (N : Bool → DEnv → Prop) : RE → Prop
  | .ok (.bl b) e => N b e
  | _ => False
@[simp] theorem stB_ok {N : Bool → DEnv → Prop} {b : Bool} : stB N (.ok (.bl b) e) = N b e := rfl
@[simp] theorem stB_no {N : Bool → DEnv → Prop} : stB N .no = False := rfl
theorem forL_rule {tg : CT} {m : MS} (R : RS → Prop) : ∀ {ds : List D} (I : Nat → DEnv → Prop) {e : DEnv}, I 0 e →
    (∀ k d e, ds[k]? = some d → I k e → stO (fun e1 => stP (I (k + 1)) R (m e1)) (put tg d e)) →
    (∀ e, I ds.length e → R (.nx e)) → R (forL tg m ds e)
  | [], I, e, h0, _, hd => hd e h0
  | d :: ds, I, e, h0, hs, hd => by
    have h := hs 0 d e rfl h0
    unfold forL
    cases q : put tg d e with
    | none => rw [q] at h; exact h.elim
    | some e1 =>
      rw [q] at h
      have h : stP (I (0 + 1)) R (m e1) := h
      have rest : ∀ e2, I (0 + 1) e2 → R (forL tg m ds e2) := fun e2 h3 => forL_rule R (fun k => I (k + 1)) h3 (fun k d' e' hk hi => hs (k + 1) d' e' hk hi) fun e' hi => hd e' hi
      simp only
      cases q2 : m e1 <;> rw [q2] at h <;> first | exact rest _ h | exact h | exact h.elim
theorem lcL_rule {own : List Nat} {tg : CT} {cond elt : ME} : ∀ {ds : List D} (I : Nat → List D → DEnv → Prop) {acc : List D} {e : DEnv}, I 0 acc e →
    (∀ k d acc e, ds[k]? = some d → I k acc e → stO (fun e1 => stB (fun b e2 => if b = true then stE (fun y e3 => acc.length < LIM ∧ I (k + 1) (acc ++ [y]) (wipeE own e3)) (elt e2) else I (k + 1) acc (wipeE own e2)) (cond e1)) (put tg d e)) →
    ∃ acc' e', lcL own tg cond elt ds acc e = .ok acc' e' ∧ I ds.length acc' e'
  | [], I, acc, e, h0, _ => ⟨acc, e, rfl, h0⟩
  | d :: ds, I, acc, e, h0, hs => by
    have h := hs 0 d acc e rfl h0
    unfold lcL
    cases q : put tg d e with
    | none => rw [q] at h; exact h.elim
    | some e1 =>
      rw [q] at h
      rw [stO_some] at h
      simp only
      cases q2 : cond e1 with
      | ok dc e2 =>
        rw [q2] at h
        cases dc with
        | bl b =>
          rw [stB_ok] at h
          cases b with
          | true =>
            rw [if_pos rfl] at h
            simp only
            cases q3 : elt e2 with
            | ok y e3 =>
              rw [q3, stE_ok] at h
              simp only
              rw [if_pos h.1]
              exact lcL_rule (fun k => I (k + 1)) h.2 fun k d' acc' e' hk hi => hs (k + 1) d' acc' e' hk hi
            | ex c d e3 => rw [q3] at h; exact h.elim
            | no => rw [q3] at h; exact h.elim
          | false =>
            rw [if_neg Bool.false_ne_true] at h
            exact lcL_rule (fun k => I (k + 1)) h fun k d' acc' e' hk hi => hs (k + 1) d' acc' e' hk hi
        | _ => exact h.elim
      | ex c d e2 => rw [q2] at h; exact h.elim
      | no => rw [q2] at h; exact h.elim
theorem whileN_rule {t : ME} {m : MS} (R : RS → Prop) (I : Nat → DEnv → Prop)
    (hs : ∀ μ e, I μ e → stB (fun b e1 => if b = true then stP (fun e2 => ∃ μ', μ' < μ ∧ I μ' e2) R (m e1) else R (.nx e1)) (t e)) :
    ∀ (n μ : Nat) (e : DEnv), I μ e → μ < n → R (whileN t m n e)
  | 0, _, _, _, h => absurd h (Nat.not_lt_zero _)
  | n + 1, μ, e, hi, hn => by
    have h := hs μ e hi
    unfold whileN
    cases q : t e with
    | ok dc e1 =>
      rw [q] at h
      cases dc with
      | bl b =>
        rw [stB_ok] at h
        cases b with
        | true =>
          rw [if_pos rfl] at h
          simp only
          have rest : ∀ e2, (∃ μ', μ' < μ ∧ I μ' e2) → R (whileN t m n e2) := fun e2 ⟨μ', h3, h4⟩ => whileN_rule R I hs n μ' e2 h4 (by omega)
          cases q2 : m e1 <;> rw [q2] at h <;> first | exact rest _ h | exact h | exact h.elim
        | false => exact h
      | _ => exact h.elim
    | ex c d e1 => rw [q] at h; exact h.elim
    | no => rw [q] at h; exact h.elim
theorem env4 {e : DEnv} (h : e.length = 4) : ∃ a b c d, e = [a, b, c, d] := by
  match e, h with
  | [a, b, c, d], _ => exact ⟨a, b, c, d, rfl⟩
end
end EV

/-! EvU: an own exception whose __init__ says super().__init__(text) and self.f = x: made by C(x). -/
namespace EV
open PySem PySem.Spec PyProof.Rows L2 PySem.W

/-- the body of such an __init__ -/
def supBody (ms pf fl : Str) (pa pb pc pd pe pg ph pi pj pk : Pos) (tn : Nat) : List Stmt :=
  [.Expr (.Call (.Attribute (.Call (.Name "super" pa) [] [] pb) "__init__" pc) [.Constant (.str ms) tn pd] [] pe) pg,
   .Assign [.Attribute (.Name "self" ph) fl pi] (.Name pf pj) pk]
/-- its scope -/
abbrev supScope (pf : Str) : Scope := { kind := .function, names := [("self", .local), (pf, .local), ("__class__", .free), ("super", .globalImplicit)], isGenerator := false, isCoroutine := false, more := [] }
section
open PySem.Calls PySem.HandSPX
variable {prog : Program} {w : World} {A : Around} {E : Value → Shared → Prop} {h : Heap} {g : Array GenState} {d : Drawn} {t : Nat} {os : OsState}
variable {nm q : Str} {C N : Addr} {bs bm : List Value} {hdct : Bool} {sn : List Str} {sub : List Value} {ab : Bool} {col : Option Bool} {dd : Option Addr} {k0 k1 k2 k3 k5 : Option Value}
theorem call_mw {u e t0 : Addr} {rest : List Value} {Q : Value → Shared → Prop}
    (hC : h.get? C = some (excClassObj nm q C N bs bm hdct sn sub ab col dd k0 k1 k2 k3 k5 "ValueError.__new__")) (he : h.get? e = some (HandSPX.excO C t0)) (hu : h.get? u = some (kxs_mw "ValueError.__init__" e)) (hrest : rest.length ≤ sizeLine)
    (hq : ∀ h' t1, (∀ b o, b ≠ e → h.get? b = some o → h'.get? b = some o) → h'.get? e = some (HandSPX.excO C t1) → Q .none ⟨h', g, d, t, os⟩) :
    wpAny (model prog w) A (call (.ref u) rest) Q E ⟨h, g, d, t, os⟩ := by
  refine wpAny_call (codeAny_of_tree ?_)
  show wpAny _ A.in1 (callAny (.ref u) ⟨rest, []⟩) _ _ _
  simp only [callAny]
  refine wpAny_bind (wpAny_load hu ?_)
  simp only [kxs_mw, show (Value.type "method-wrapper" == Value.type "method" || Value.type "method-wrapper" == Value.type "builtin_function_or_method" || Value.type "method-wrapper" == Value.type "method-wrapper") = true by decide, if_true]
  refine W.KFB.if_so (by decide) ?_
  refine wpAny_bind (ESX.check_bound F.excBase_ValueError hC he rfl ?_)
  refine wpAny_bind (wpAny_pure (wpAny_pure ?_))
  refine ⟨Code.quiet_builtin _ (by decide +kernel), codeAny_builtin F.excBase_ValueError.initEntry ?_⟩
  rw [Around.under_plainId F.excBase_ValueError.init.plain _]
  wp_walk
  refine hq _ h.objs.size (fun b o hb ho => ?_) ?_
  · rw [Heap.get?_update_other _ _ (Ne.symm hb)]
    exact Heap.get?_push_of_some _ ho
  · rw [Heap.get?_update_self _ (Heap.get?_push_of_some _ he) rfl]
    rfl
end
section
open PySem.Calls
variable {prog : Program} {w : World} {A : Around} {R : Result → Shared → Prop} {K : Frag} {mg mb : Str → Option Value} {h : Heap} {g : Array GenState} {d : Drawn} {t : Nat} {os : OsState}
theorem init_sup {x C fI cc cda t0 : Addr} {v : Value} {ms pf fl qual file : Str} {pa pb pc pd pe pg ph pi pj pk : Pos} {tn : Nat} {params : Arguments} {dV kV doc pm ct oc ccl cl : Value} {an od cdd cld : Option Addr} {osl ccs csl : Array (Option Value)} {vs : Array Value} {tf : Tok} {ar : Arg} {cdD : ClassData}
    (room : A.depth < recursionLimit) (XK : K.In h) (hg : h.Ns mainGlobals mg) (hms : mg "super" = none) (hb : h.Ns builtinsNs mb) (hbb : ∀ x : Str, x ≠ "__name__" → mb x = bootBuiltins x) (hlim : h.NoLimit)
    (hx : h.get? x = some (HandSPX.excO C t0)) (hnK : K.lookup x = none) (T : OexC K C)
    (hf : K.lookup fI = some ⟨oc, od, .func (ksFn "__init__" qual params (supBody ms pf fl pa pb pc pd pe pg ph pi pj pk tn) (supScope pf) dV kV doc pm an (.ref cda) ct cc), osl⟩) (hcd : codeIn K (.ref cda) qual = true)
    (hcode : K.lookup cda = some ⟨ccl, cdd, .fields vs, ccs⟩) (hvs : vs[2]? = some (.str file tf)) (hfile : ((prog.main.file : Str) == file) = true) (hcell : K.lookup cc = some ⟨cl, cld, .cell (some (.ref C)), csl⟩)
    (hD : clsIn K C = some cdD) (hsub : mroIn K C (.ref C) = some true) (hp : (params.posonlyargs ++ params.args).head? = some ar) (har : ar.arg = "self") (hpf : (pf == ("self" : Str)) = false)
    (hbind : ∀ s : Shared, BindsTo s (ksFn "__init__" qual params (supBody ms pf fl pa pb pc pd pe pg ph pi pj pk tn) (supScope pf) dV kV doc pm an (.ref cda) ct cc) ⟨[.ref x, v], []⟩ [("self", .ref x), (pf, v)])
    (hks : (supScope pf).names.lookup ("super" : Str) = some .globalImplicit) (hkc : (supScope pf).names.lookup ("__class__" : Str) = some .free) (hkp : (supScope pf).names.lookup pf = some .local)
    (htop : (prog.main.scope.names.lookup ("super" : Str)).isSome = false) (ho : nsIn K cStatics "thirdparty.any" = some none) (hm : ks_superIn K C C "__init__" = some (some (.builtin "ValueError.__init__")))
    (hB : subIn K (.ref C) (.type "ValueError") = some true) (hei : excInitIn K C PySem.HandSPX.veTail "ValueError.__new__" = true) (hno : findIn K (.ref C) fl = some none) (hpd : (pf == ("__debug__" : Str)) = false) (hline : (pc.endLine == pe.line) = true)
    (hq : ∀ h' t1 dx tk', (∀ b o, b ≠ x → h.get? b = some o → h'.get? b = some o) → h.objs.size ≤ dx → dx ≠ x → h'.get? x = some { cls := .ref C, dict := some dx, data := .fields #[.ref t1, .none, .none, .none, .bool false, .none] } →
      h'.Ns1 dx (fun y => if y = fl then some v else none) → R (.ok (.ret .none)) ⟨h', g, d, tk', os⟩) :
    codeAny (model prog w) A (.call (.ref fI) ⟨[.ref x, v], []⟩) R ⟨h, g, d, t, os⟩ := by
  obtain ⟨oD, hD1, hD2⟩ : ∃ oD, h.get? C = some oD ∧ oD.data = .cls cdD := by
    unfold clsIn at hD
    split at hD
    · rename_i c d cd' sl ho
      cases hD
      exact ⟨_, XK _ _ ho, rfl⟩
    · cases hD
  refine ks_codeAny_call_defAt room (XK _ _ hf) rfl hlim (codeRec_of XK hcd) rfl (hbind _) (by simp [supScope]) (fun y hy => ?_) (fun h₁ hns hk₁ => ?_) 
  · simp only [List.mem_cons, List.not_mem_nil, or_false] at hy
    rcases hy with rfl | rfl
    · exact rfl
    · exact hkp
  have X1 : K.In h₁ := XK.keeps hk₁
  show _root_.PySem.wpAt (model prog w) (A.deeper (ksEnv qual (supScope pf) h.objs.size fI (.ref cda) cc)) (.func _ (ksEnv qual (supScope pf) h.objs.size fI (.ref cda) cc)) (execs (supBody ms pf fl pa pb pc pd pe pg ph pi pj pk tn) (ksEnv qual (supScope pf) h.objs.size fI (.ref cda) cc)) _ _ _
  generalize hAA : A.deeper (ksEnv qual (supScope pf) h.objs.size fI (.ref cda) cc) = AA
  have he : eval (.Call (.Attribute (.Call (.Name "super" pa) [] [] pb) "__init__" pc) [.Constant (.str ms) tn pd] [] pe) (ksEnv qual (supScope pf) h.objs.size fI (.ref cda) cc) = (do
      let ov ← attributeBase (.Call (.Name "super" pa) [] [] pb) "__init__" (ksEnv qual (supScope pf) h.objs.size fI (.ref cda) cc) (eval (.Call (.Name "super" pa) [] [] pb) (ksEnv qual (supScope pf) h.objs.size fI (.ref cda) cc))
      standAt pc.atName
      let (f, first) ← holding [ov] (getMethod ov "__init__" (pure false))
      callWith pe f first (backTo pe (starEach [.Constant (.str ms) tn pd] (ksEnv qual (supScope pf) h.objs.size fI (.ref cda) cc))) []) := by
    rw [arm_eval_Call]
    congr 1; funext ov; congr 1; funext _
    have hpos : methodCallPos true (.Call (.Name "super" pa) [] [] pb) (ksEnv qual (supScope pf) h.objs.size fI (.ref cda) cc) pc pe = pure pe := by unfold methodCallPos; simp [hline]
    unfold methodCall
    show (holding [ov] (calleeOf true _ _ ov "__init__") >>= fun p => methodCallPos true _ _ pc pe >>= fun cp => callWith cp p.1 p.2 _ _) = _
    rw [hpos]
    rfl
  refine ks_wpAt_execs_cons (ks_wpAt_Expr_any (ks_wpAt_MethodCall (he := he) (ks_wpAt_super_base (env := ksEnv qual (supScope pf) h.objs.size fI (.ref cda) cc) hks hkc rfl rfl (X1 _ _ hf) rfl hp rfl (X1 _ _ hcode) rfl hvs hfile htop ?_)))
  · refine ks_loadName_global rfl hks (loadGlobal_builtin (env := ksEnv qual (supScope pf) h.objs.size fI (.ref cda) cc) (hg.keeps hk₁) hms (hb.keeps hk₁) ((hbb _ (by decide +kernel)).trans (by rfl)) ⟨rfl, ?_⟩)
    refine wpAny_loadName_free rfl hkc rfl ⟨_, X1 _ _ hcell, rfl⟩ ?_
    rw [har]
    refine wpAny_loadName_local (v := .ref x) rfl rfl hns ?_ ?_
    · show List.lookup ("self" : Str) [(pf, v), (("self" : Str), .ref x)] = _
      rw [List.lookup_cons, (show (("self" : Str) == pf) = false from by rw [BEq.comm]; exact hpf)]
      rfl
    refine ks_wpAny_isType_cls (hk₁ _ _ hD1) hD2 ⟨rfl, ?_⟩
    have hx1 := hk₁ _ _ hx
    refine ks_wpAny_call_super (hk₁ _ _ hD1) hD2 hx1 rfl (fun c e => by cases e) (looks_mroIn X1 hsub) (fun h₂ e₂ k₂ => ?_)
    have X2 : K.In h₂ := X1.keeps k₂
    have hx2 := k₂ _ _ hx1
    have IA : InstAt h₂ x (HandSPX.excO C t0) C none := ⟨hx2, rfl, rfl, trivial⟩
    have nxC : x ≠ C := fun e => by
      rw [e, hD1] at hx
      cases hx
      cases hD2
    refine kxs_getMethod kxs_ValueError e₂ (looks_opaque X2 ho) (l₀ := cdD.mro) (fun A Q E s k q => wpAny_bind ((looks_clsIn X2 hD) A _ E s k (wpAny_pure q))) rfl X2 ?_ (IA.type.andThen (looks_subIn X2 hB)) nxC rfl ?_
    · unfold ks_superIn at hm
      rw [hD] at hm
      exact hm
    have k3 : ∀ b o, h₂.get? b = some o → (h₂.push (kxs_mw "ValueError.__init__" x)).get? b = some o := fun b o e => Heap.get?_push_of_some _ e
    have hu : (h₂.push (kxs_mw "ValueError.__init__" x)).get? h₂.objs.size = some (kxs_mw "ValueError.__init__" x) := Heap.get?_push_at rfl rfl
    refine kxs_callWith (i := "ValueError.__init__") (x := x) rfl (evalArgs_plain (spliced_more (Constant_str (spliced_none ⟨hu, ?_⟩))))
    obtain ⟨nm, q, N, bs, bm, sn, sub, ab, col, dd, k0, k1, k2, k3', k5, hC, hbm⟩ := T.cls
    refine call_mw (k3 _ _ (X2 _ _ hC)) (k3 _ _ hx2) hu (by rw [sizeLine_eq]; show (1 : Nat) ≤ _; decide) (fun h₃ t1 e₃ hx3 => ?_)
    have X3 : K.In h₃ := fun b o e => e₃ b o (fun z => by
      rw [z, hnK] at e
      cases e) (k3 _ _ (X2 _ _ e))
    have xL : h.objs.size ≠ x := fun z => by
      have := Heap.lt_size hx
      rw [← z] at this
      exact absurd this (Nat.lt_irrefl _)
    have ns3 : h₃.Ns h.objs.size (fun y => List.lookup y ([((("self" : Str)), Value.ref x), (pf, v)] : List (Str × Value)).reverse) := ((hns.keeps k₂).keeps k3).at fun o e => e₃ _ o xL e
    have hcl2 : cdD = { name := nm, bases := bs, mro := .ref C :: bm, ns := N, qualname := q, hasDict := true, slotNames := sn, subclasses := sub, abstract := ab, collection := col, hasDel := false } := by
      have e : clsIn K C = some { name := nm, bases := bs, mro := .ref C :: bm, ns := N, qualname := q, hasDict := true, slotNames := sn, subclasses := sub, abstract := ab, collection := col, hasDel := false } := by unfold clsIn; rw [hC] <;> rfl
      rw [hD] at e
      exact Option.some.inj e
    have hsz : h.objs.size ≤ h₃.objs.size := by
      obtain ⟨oL, es, ep, hL, _⟩ := id ns3
      exact Nat.le_of_lt (Heap.lt_size hL)
    have kk : ∀ b o, b ≠ x → h.get? b = some o → h₃.get? b = some o := fun b o hb e => e₃ b o hb (k3 _ _ (k₂ _ _ (hk₁ _ _ e)))
    show _root_.PySem.wpAt _ _ _ (execs _ _) _ _ _
    refine ks_wpAt_execs_cons (ks_wpAt_Assign_Attr (wpAt_of_wpAny (wpAny_Name (wpAny_loadName_local (v := v) rfl hkp ns3 ?_ ?_) hpd)) rfl)
    · show List.lookup pf [(pf, v), (("self" : Str), .ref x)] = _
      rw [List.lookup_cons, beq_self_eq_true]
    refine wpAny_Name (wpAny_loadName_local (v := .ref x) rfl rfl ns3 ?_ ?_) rfl
    · show List.lookup ("self" : Str) [(pf, v), (("self" : Str), .ref x)] = _
      rw [List.lookup_cons, (show (("self" : Str) == pf) = false from by rw [BEq.comm]; exact hpf)]
      rfl
    refine set_plain X3 (ox := HandSPX.excO C t1) (od := none) ⟨hx3, rfl, rfl, trivial⟩ T.sa ?_
    refine HandSPX.exc_osa X3 hx3 hD ?_ ?_ hno (fun h₄ tk' dx k4 dn dne hx4 hn4 => ?_)
    · rw [hcl2]; exact hbm
    · rw [hcl2]
    refine wpAt_of_wpAny (wpAny_pure ?_)
    refine hq h₄ t1 dx tk' (fun b o hb e => k4 b o hb (kk b o hb e)) (Nat.le_trans hsz dn) dne hx4 hn4
end
end EV

/-! EvV: such a class, its exceptions made. -/
namespace EV
open PySem PySem.Spec PyProof.Rows L2 PySem.W

/-- what the written part says of the class at C: C(v) makes an exception whose field fl is v -/
structure SupC (prog : Program) (w : World) (K : Frag) (C : Addr) (fl : Str) : Prop where
  oex : OexC K C
  ini : ∃ fI, findIn K (.ref C) "__init__" = some (some (.ref fI)) ∧ typeIn K (.ref fI) = some (.type "function") ∧
    ∀ {A : Around} {R : Result → Shared → Prop} {mg mb : Str → Option Value} {h : Heap} {g : Array GenState} {d : Drawn} {t : Nat} {os : OsState} {x t0 : Addr} {v : Value},
      A.depth < recursionLimit → K.In h → h.Ns mainGlobals mg → mg "super" = none → h.Ns builtinsNs mb → (∀ x : Str, x ≠ "__name__" → mb x = bootBuiltins x) → h.NoLimit → h.get? x = some (HandSPX.excO C t0) → K.lookup x = none →
      (∀ h' t1 dx tk', (∀ b o, b ≠ x → h.get? b = some o → h'.get? b = some o) → h.objs.size ≤ dx → dx ≠ x → h'.get? x = some { cls := .ref C, dict := some dx, data := .fields #[.ref t1, .none, .none, .none, .bool false, .none] } →
        h'.Ns1 dx (fun y => if y = fl then some v else none) → R (.ok (.ret .none)) ⟨h', g, d, tk', os⟩) →
      codeAny (model prog w) A (.call (.ref fI) ⟨[.ref x, v], []⟩) R ⟨h, g, d, t, os⟩
def tMkS (C : Addr) (fl : Str) (te : TE) : L2.St → Hp → XK → Prop := fun σ H Q => te σ H fun v H1 => ∀ d, H1 d = none → Q (.ref C) (some d) (upd H1 d (.xd [(fl, v)]))
section
variable {X : Cx} {x fl : Str} {C : Addr} {e : Expr} {te : TE} {p pos : Pos} {k : Nat}
theorem pmk_sup (S : SupC X.prog X.w X.K C fl) (hr : Room (k + 1) X.A) (hg : Gl X x) (hm : X.mg x = some (.ref C)) (hms : X.mg "super" = none) (he1 : PE X e te)
    (hdb : (x == ("__debug__" : Str)) = false := by decide) (he : starEach [e] X.env = (false, eval e X.env) :: starEach [] X.env := by rfl) (hpl : (backTo pos (starEach [] X.env)).any (·.1) = false := by rfl) :
    PMk X (.Call (.Name x p) [e] [] pos) (tMkS C fl te) := by
  intro pins s σ H Q I h
  have T := S.oex
  obtain ⟨fI, iC, tI, run⟩ := S.ini
  obtain ⟨nm, q, N, bs, bm, sn, sub, ab, col, dd, k0, k1, k2, k3, k5, hC, hbm⟩ := T.cls
  refine wpAny_Call_Name_kw (ld_glob I hg hm ?_ hdb)
  have ha := pa_cons (X := X) he1 pa_nil he
  have h' : tCons te tNil σ H (fun vs H1 => match vs with | [y] => ∀ d, H1 d = none → Q (.ref C) (some d) (upd H1 d (.xd [(fl, y)])) | _ => False) := h
  refine PySem.W.callWith_K (h₀ := X.base) I.ok.mod.kin T.kC (thn (ha.run pos pins s σ H _ I h') fun us s1 ⟨vs, H1, I1, r1, q1⟩ => ⟨I1.kIn, ?_⟩) he hpl
  obtain ⟨y, ev⟩ : ∃ y, vs = [y] := by
    match vs, q1 with
    | [y], _ => exact ⟨y, rfl⟩
  subst ev
  cases r1 with
  | @cons _ u0 _ ur ra rw' =>
  cases rw'
  show wpAny _ _ (call (.ref C) [u0]) _ _ _
  obtain ⟨hp, g, dr, tk, os⟩ := s1
  have hsz : hp.objs.size ≤ hp.objs.size + 1 := Nat.le_succ _
  have kk : ∀ b o, hp.get? b = some o → ((hp.push (PySem.W.kdv_tup [u0])).push (PySem.HandSPX.excO C hp.objs.size)).get? b = some o := fun b o e => Heap.get?_push_of_some _ (Heap.get?_push_of_some _ e)
  have hget : ((hp.push (PySem.W.kdv_tup [u0])).push (PySem.HandSPX.excO C hp.objs.size)).get? (hp.objs.size + 1) = some (PySem.HandSPX.excO C hp.objs.size) := by heap_get
  have I2 : Inv X pins σ (upd H1 (hp.objs.size + 1) (exo (hp.objs.size + 1) C none)) ⟨(hp.push (PySem.W.kdv_tup [u0])).push (PySem.HandSPX.excO C hp.objs.size), g, dr, tk, os⟩ :=
    I1.laid (t' := tk) (a := hp.objs.size + 1) (o := exo (hp.objs.size + 1) C none) (h' := (hp.push (PySem.W.kdv_tup [u0])).push (PySem.HandSPX.excO C hp.objs.size)) kk hsz (exo_ok hget)
  obtain ⟨mb, hb1, hb2⟩ := I.mod.blt
  have bk2 := I2.bk
  refine wpAny_call (PySem.HandSPX.call_own F.excBase_ValueError (fun Y => PySem.HandSPX.refsVE_contains Y bm hbm) (I1.kIn _ _ hC) (PySem.W.looks_findIn I1.kIn iC) (fun self => PySem.W.bind_fn I1.kIn self tI) (by rw [sizeLine_eq]; show (1 : Nat) ≤ _; decide)
    (run ?_ I2.kIn (I.mod.glob.keeps bk2) hms (hb1.keeps bk2) hb2 (I.mod.nolimit.keeps bk2) hget ?_ fun h' t1 dx tk' kx dn dne hx hns => ⟨rfl, mk_end (raises_own T.exC T.tyC) I1 hsz kk (H2 := upd (upd (upd H1 (hp.objs.size + 1) (exo (hp.objs.size + 1) C none)) dx (exd dx [(fl, y)])) (hp.objs.size + 1) (exo (hp.objs.size + 1) C (some dx))) (d := dx) (fs := [(fl, y)]) ?_ ?_ rfl I1.bare ?_ ?_ ?_ ?_⟩))
  · have := (hr.make C [u0] []).dp
    omega
  · cases z : X.K.lookup (hp.objs.size + 1) with
    | none => rfl
    | some o =>
      have := Heap.lt_size (I1.kIn _ _ z)
      exact absurd this (by show ¬ (hp.objs.size + 1 < hp.objs.size); omega)
  all_goals try have na : hp.objs.size ≤ hp.objs.size + 1 := Nat.le_succ _
  all_goals generalize hP : (hp.push (PySem.W.kdv_tup [u0])).push (PySem.HandSPX.excO C hp.objs.size) = P at *
  all_goals generalize hA : hp.objs.size + 1 = a at *
  · have e : (upd H1 a (exo a C none)) a = some (exo a C none) := upd_same
    have hnd : (upd H1 a (exo a C none)) dx = none := I2.hok.fresh dn
    have nd : ∀ {b : Addr} {o : Obj}, P.get? b = some o → b ≠ dx := fun {b o} q => Nat.ne_of_lt (Nat.lt_of_lt_of_le (Heap.lt_size q) dn)
    have nA : ∀ {b : Addr}, (upd H1 a (exo a C none)) b = none → b ≠ a := fun {b} n z => by
      rw [z, e] at n
      cases n
    exact {
      keep := fun b o q n _ _ => kx b o (nA n) q
      slot := fun b o q n _ _ => ⟨o.slots, kx b o (nA n) q⟩
      free := fun b o q n _ => by rw [upd_ne (nA n), upd_ne (nd q)]; exact n
      there := fun b o q _ => by
        by_cases hb : b = a
        · exact ⟨_, by rw [hb]; exact hx⟩
        · exact ⟨o, kx b o hb q⟩
      tups := fun b xs q => by rw [upd_ne (at_ne e q exo_tup), upd_ne (ne_of_none q hnd)]; exact q
      frzs := fun b o v q => by rw [upd_ne (at_ne e q exo_frz), upd_ne (ne_of_none q hnd)]; exact q
      tbls := fun b ps q => ⟨#[], by rw [upd_ne (at_ne e q exo_tbl), upd_ne (ne_of_none q hnd), q]; simp⟩ }
  · have e : (upd H1 a (exo a C none)) a = some (exo a C none) := upd_same
    have hnd : (upd H1 a (exo a C none)) dx = none := I2.hok.fresh dn
    intro b o q
    by_cases hb : b = a
    · subst hb
      rw [upd_same] at q
      cases q
      exact exo_ok hx
    · rw [upd_ne hb] at q
      by_cases hd : b = dx
      · subst hd
        rw [upd_same] at q
        cases q
        exact exd_ok hns (relO_put (fs := []) ra fun g => True.intro)
      · rw [upd_ne hd] at q
        exact (I2.hok b o q).stay (fun c v hc z => kx c v (by
            rcases hc with hc | hc
            · rw [hc]
              exact hb
            · exact at_ne e hc exo_own) z)
          (fun c hc => by rw [upd_ne (at_ne e hc exo_own), upd_ne (ne_of_none hc hnd)]; exact hc) (fun c xs hc => by rw [upd_ne (at_ne e hc exo_tup), upd_ne (ne_of_none hc hnd)]; exact hc)
  · exact upd_same
  · rw [upd_ne dne, upd_same]
  · have hnd : (upd H1 a (exo a C none)) dx = none := I2.hok.fresh dn
    rw [upd_ne dne] at hnd
    exact hnd
  · have hnd : (upd H1 a (exo a C none)) dx = none := I2.hok.fresh dn
    rw [upd_ne dne] at hnd
    have hna : H1 a = none := I1.hok.fresh hsz
    have := q1 dx hnd
    refine Eq.mp (congrArg (Q (.ref C) (some dx)) ?_) this
    funext b
    by_cases hd : b = dx
    · rw [hd, upd_same, upd_same]
    · rw [upd_ne hd, upd_ne hd]
      by_cases hb : b = a
      · rw [hb, del_same, hna]
      · rw [del_ne hb, upd_ne hb, upd_ne hd, upd_ne hb]
end
end EV

/-! EvW: raise C(x), try .. except C. -/
namespace EV
open PySem PySem.Spec PyProof.Rows L2

/-- a class of exceptions by number: what the written part says -/
structure ExK (prog : Program) (w : World) (K : PySem.W.Frag) (mg : Str → Option Value) (g : GF) (c : Nat) (x : Str) : Prop where
  sup : SupC prog w K (g.ca c) (g.xn c)
  mg : mg x = some (.ref (g.ca c))
  xf : XfC K (g.ca c)
  no : PySem.W.findIn K (.ref (g.ca c)) (g.xn c) = some none
section
variable {X : Cx} {N : List Str} {sc : Scope} {fr : List Str} {g : GF} {W : WX} {L : List Nat} {a : Expr} {body : List Stmt} {pos p2 p3 p4 : Pos} {m : ME} {mb : MS} {F H F1 H1 F' H' : Hp} {fp fp1 fp' : Nat → List Addr} {σ σ1 : L2.St} {e e' : DEnv}
theorem Cf.toTry (C : Cf X W N sc fr) {pn : List (Addr × Obj)} {xe : Value → Shared → Prop} {W' : WX} (tk : Takes (X.tr pn xe) W') (po : PassesOwn (model X.prog X.w) X.A X.env xe) : Cf (X.tr pn xe) W' N sc fr where
  hN := C.hN
  nd := C.nd
  hsc := C.hsc
  calm := C.calm
  hu := C.hu
  hfr := C.hfr
  fnT := C.fnT
  tk := tk
  po := po
  stk := C.stk
  frm := C.frm
def mRaise (c : Nat) (m : ME) : MS := fun e => match m e with
  | .ok d e1 => .ex c d e1
  | .ex c d e1 => .ex c d e1
  | .no => .no
theorem ss_raise {c : Nat} {x : Str} {k : Nat} (C : Cf X W N sc fr) (T : ExK X.prog X.w X.K X.mg g c x) (hs : X.mg "super" = none) (R : Room (k + 1) X.A) (hg : glB sc x = true) (h : SE X g W a m)
    (hdb : (x == ("__debug__" : Str)) = false) (he : starEach [a] X.env = (false, eval a X.env) :: starEach [] X.env) : SS X g W L (.Raise (some (.Call (.Name x p2) [a] [] p3)) none pos) (mRaise c m) :=
  PS.imp (ps_raise C.calm C.tk (pmk_sup T.sup R (gl_ok C.toCn hg) T.mg hs h hdb he rfl)) fun D σ H ⟨F, fp, e, s, h⟩ => by
    refine RdE.iff.mpr ⟨F, fp, e, s, ?_⟩
    unfold mRaise at h
    cases q : m e with
    | ok d e1 =>
      rw [q] at h
      intro v F' H' fp' p s' t' tr dx hd
      refine h dx v σ F' _ fp' p (s'.new hd) (fun _ _ => rfl) ⟨t'.r.mono (fun _ _ z => z) fun c hc o z => upd_le hd c o z, t'.nd, t'.sep, t'.dj⟩ ?_ upd_same
      exact (tr.trans (Tr.new hd)).drop fun c z => .inl z
    | ex c d e1 => rw [q] at h; exact h.x
    | no => rw [q] at h; exact h
def noEx : RS → RS
  | .ex _ _ _ => .no
  | r => r
/-- try: body; except C: suite -/
def mTryO (cg : Nat → Option Bool) (mb ms : MS) : MS := fun e => match mb e with
  | .ex c d e1 => match cg c with
    | some true => noEx (ms e1)
    | some false => .ex c d e1
    | none => .no
  | r => r
theorem ss_tryO {cc : Nat} {x : Str} {b₀ : Stmt} {suite : List Stmt} {ms : MS} {cg : Nat → Option Bool} (C : Cf X W N sc fr) (hg : glB sc x = true) (hm : X.mg x = some (.ref (g.ca cc))) (hdb : (x == ("__debug__" : Str)) = false)
    (hc : ∀ c b, cg c = some b → PySem.W.exmOne X.K (.ref (g.ca c)) (.ref (g.ca cc)) = some b)
    (hb : ∀ (pn : List (Addr × Obj)) (xe : Value → Shared → Prop) (W' : WX), Cf (X.tr pn xe) W' N sc fr → SSs (X.tr pn xe) g W' L body mb)
    (hs : ∀ (a : Addr) (pn : List (Addr × Obj)), SSs (X.suite a pn) g W0 L (b₀ :: suite) ms) :
    SS X g W L (.Try body [.ExceptHandler (some (.Name x p2)) none (b₀ :: suite) p3] [] [] pos) (mTryO cg mb ms) :=
  PS.imp (ps_try_only (tb := fun W' => RdS (gOf X g) W' L mb) (ts := fun _ _ _ => RdS (gOf X g) W0 L ms) C.stk C.frm ⟨gl_ok C.toCn hg, hdb, .inl hm⟩ C.tk (fun W' pn xe tk po => hb pn xe W' (C.toTry tk po)) (fun a oe cls d pn _ _ => hs a _)) fun D σ H ⟨F, fp, e, s, h⟩ => by
    refine ⟨F, fp, e, s, ?_⟩
    unfold mTryO at h
    cases q : mb e with
    | nx e1 => rw [q] at h; exact h
    | rt d e1 => rw [q] at h; exact h
    | bk e1 => rw [q] at h; exact h
    | ct e1 => rw [q] at h; exact h
    | no => rw [q] at h; exact h
    | ex c d e1 =>
      rw [q] at h
      simp only at h
      intro dx v σ' F' H' fp' p s' l' t' tr hx
      cases q2 : cg c with
      | none => rw [q2] at h; exact h.elim
      | some b =>
        rw [q2] at h
        refine ⟨b, hc c b q2, fun hb _ _ => ?_, fun hb => ?_⟩
        · subst hb
          refine ⟨F', fp', e1, s', ?_⟩
          have h2 := SOut.trans h (tr.drop fun c z => .inl z) l'
          cases q3 : ms e1 with
          | nx e2 => rw [q3] at h2; exact h2
          | rt d e2 => rw [q3] at h2; exact h2
          | bk e2 => rw [q3] at h2; exact h2
          | ct e2 => rw [q3] at h2; exact h2
          | no => rw [q3] at h2; exact h2
          | ex c d e2 => rw [q3] at h2; exact h2.elim
        · subst hb
          exact h dx v σ' F' H' fp' p s' l' t' tr hx
/-- try: body; except C as n: return ('s', n.f) -/
def mTryR (i : Nat) (cg : Nat → Option Bool) (s : Str) (mb : MS) : MS := fun e => match mb e with
  | .ex c d e1 => match cg c with
    | some true => if fz d = true ∧ i < e1.length then .rt (.tup [.str s, d]) (e1.set i none) else .no
    | some false => .ex c d e1
    | none => .no
  | r => r
theorem ss_tryR {cc i : Nat} {x n fl sr : Str} {cg : Nat → Option Bool} {p5 p6 p7 p8 p9 : Pos} {kt jt : Nat} (C : Cf X W N sc fr) (hg : glB sc x = true) (hm : X.mg x = some (.ref (g.ca cc))) (hdb : (x == ("__debug__" : Str)) = false)
    (hn : locL N sc i n = true) (hL : i ∉ L) (hnd : (n == ("__debug__" : Str)) = false) (hnc : (n == ("__classdict__" : Str)) = false)
    (hc : ∀ c b, cg c = some b → PySem.W.exmOne X.K (.ref (g.ca c)) (.ref (g.ca cc)) = some b)
    (hx : ∀ c, cg c = some true → XfC X.K (g.ca c) ∧ PySem.W.findIn X.K (.ref (g.ca c)) fl = some none ∧ g.xn c = fl)
    (hb : ∀ (pn : List (Addr × Obj)) (xe : Value → Shared → Prop) (W' : WX), Cf (X.tr pn xe) W' N sc fr → SSs (X.tr pn xe) g W' L body mb)
    (hab : attributeBase (.Name n p8) fl X.env (eval (.Name n p8) X.env) = eval (.Name n p8) X.env)
    (hse : starEach [.Constant (.str sr) jt p6, .Attribute (.Name n p8) fl p7] X.env = (false, eval (.Constant (.str sr) jt p6) X.env) :: starEach [.Attribute (.Name n p8) fl p7] X.env)
    (hse2 : starEach [.Attribute (.Name n p8) fl p7] X.env = (false, eval (.Attribute (.Name n p8) fl p7) X.env) :: starEach [] X.env) :
    SS X g W L (.Try body [.ExceptHandler (some (.Name x p2)) (some n) [.Return (some (.Tuple [.Constant (.str sr) jt p6, .Attribute (.Name n p8) fl p7] kt p5)) p9] p3] [] [] pos) (mTryR i cg sr mb) := by
  have hl : X.N[i]? = some n ∧ X.env.kindOf n = some .local := locL_ok C.toCn hn
  refine PS.imp (ps_try_as (i := i) (tb := fun W' => RdS (gOf X g) W' L mb) (ts := fun a cls d => fun D σ H => ∃ c : Nat, cg c = some true ∧ cls = .ref (g.ca c) ∧ tSeq (tRet (tTup (tCons (tC (.str sr)) (tCons (tXf a cls d (g.ca c) fl (tVar i)) tNil)))) tNext D σ H)
    C.stk C.frm C.nd' hl.1 hl.2 ⟨gl_ok C.toCn hg, hdb, .inl hm⟩ C.tk (fun W' pn xe tk po => hb pn xe W' (C.toTry tk po)) (fun a oe cls d pn hz hf => ⟨fun pins s σ H D I ⟨c, hcg, ec, h⟩ => ?_⟩)) fun D σ H ⟨F, fp, e, s, h⟩ => ?_
  · obtain ⟨x1, x2, x3⟩ := hx c hcg
    exact (pss_cons (ps_ret (pe_tup (pa_cons pe_str (pa_cons (pe_xf x1 x2 hz hf (pe_var hl.1 (.inl hl.2) hnd hnc) hab) pa_nil hse2) hse))) pss_nil).run pins s σ H D I h
  · refine ⟨F, fp, e, s, ?_⟩
    unfold mTryR at h
    cases q : mb e with
    | nx e1 => rw [q] at h; exact h
    | rt d e1 => rw [q] at h; exact h
    | bk e1 => rw [q] at h; exact h
    | ct e1 => rw [q] at h; exact h
    | no => rw [q] at h; exact h
    | ex c d e1 =>
      rw [q] at h
      simp only at h
      intro dx v σ' F' H' fp' p s' l' t' tr hx2
      cases q2 : cg c with
      | none => rw [q2] at h; exact h.elim
      | some b =>
        rw [q2] at h
        refine ⟨b, hc c b q2, fun hb a ha => ?_, fun hb => ?_⟩
        · subst hb
          simp only at h
          split at h
          · rename_i hz
            obtain ⟨hz, hi0⟩ := hz
            obtain ⟨x1, x2, x3⟩ := hx c q2
            have hi : i < σ'.length := by
              rw [s'.len]; exact hi0
            refine ⟨c, q2, rfl, ?_⟩
            refine ⟨.ref a, List.getElem?_set_self hi, rfl, rfl, dx, [(g.xn c, v)], v, rfl, hx2, ?_, by rw [sizeLine_eq]; show (2 : Nat) ≤ _; decide, fun p' hp' => ?_⟩
            · rw [x3, List.lookup_cons, beq_self_eq_true]
            have s2 := (s'.forget (i := i)).newF (o := .tup [.str sr, v]) hp'
            have hp0 : p = [] := t'.r.nil_of_fz hz
            subst hp0
            have rd : RO (gOf X g) (upd F' p' (.tup [.str sr, v])) (upd H' p' (.tup [.str sr, v])) [] v d := t'.r.monoZ (upd_le (s'.fnone hp'))
            refine h (.ref p') σ' _ _ _ [] s2 l' (TO.z (.tup upd_same (ROs.consZ (.str sr) (ROs.consZ rd .nil)))) ?_
            refine (tr.trans (Tr.newF s'.sub hp')).weak (fun _ z => z) fun c z => ?_
            rcases z with z | z
            · exact .inl (.inl (own_take c (.inl z)))
            · cases z
          · exact h.elim
        · subst hb
          exact h dx v σ' F' H' fp' p s' l' t' tr hx2
end
end EV

/-! EvX: the head's facts of own exception classes. -/
namespace EV
open PySem PySem.Spec PyProof.Rows L2 PySem.W He

/-- an own exception class: its name, its __init__'s qualified name, parameters, body; its field, the parameter that fills it -/
structure ClD where
  x : Str
  qual : Str
  fl : Str
  pf : Str
  params : Arguments
  body : List Stmt
abbrev ClV : Type := Option (Str × Str × Arguments × FuncBody × Scope × Addr × List Str × Addr)
def clW (K : Frag) (x : Str) : ClV := match K.lookup (ma K (ga K x) "__init__") with
  | some ⟨_, _, .func fd, _⟩ => some (fd.name, fd.qualname, fd.params, fd.body, fd.scope, fd.globals, fd.closure.map (·.1), fd.builtins)
  | _ => none
def ClD.val (c : ClD) : ClV := some ("__init__", c.qual, c.params, .stmts c.body, supScope c.pf, mainGlobals, ["__class__"], builtinsNs)
def oexB (K : Frag) (C : Addr) : Bool := match K.lookup C with
  | some ⟨.type "type", _, .cls cd, sl⟩ => (match cd.mro, sl.toList with
    | .ref C' :: bm, [_, _, _, _, some (.builtin n), _] => C' == C && n == "ValueError.__new__" && !cd.hasDel && cd.hasDict && HandSPX.refsVE bm
    | _, _ => false)
  | _ => false
def eqA (a b : Option Value) : Bool := decide (a = b)
/-- what __init__'s function leans on -/
def iniB (file : Str) (K : Frag) (C : Addr) (c : ClD) : Bool := match K.lookup (ma K C "__init__") with
  | some ⟨_, _, .func fd, _⟩ => (match fd.code, fd.closure, fd.defaults with
    | .ref cda, [(_, cc)], .none => codeIn K (.ref cda) c.qual && (match K.lookup cda with
      | some ⟨_, _, .fields vs, _⟩ => (match (vs[2]? : Option Value) with
        | some (Value.str fi _) => file == fi
        | _ => false)
      | _ => false) && (match K.lookup cc with
      | some ⟨_, _, .cell (some (.ref C')), _⟩ => C' == C
      | _ => false)
    | _, _, _ => false)
  | _ => false
def excB (K : Frag) (D : Addr) : Bool := eqO (findIn K (.ref D) "__class__") (some (some (.builtin "object.__class__"))) && (eqO (specialIn K (.builtin "object.__class__") "__get__") (some (some (.builtin "getset_descriptor.__get__"))) &&
  (decide (takesIn K (.builtin "object.__class__") = some true) && decide (mroIn K D (.type "object") = some true)))
def clB (file : Str) (K : Frag) (c : ClD) : Bool :=
  oexB K (ga K c.x) && (eqO (findIn K (.ref (ga K c.x)) "__setattr__") (some (some (.builtin "object.__setattr__"))) && (decide (subIn K (.ref (ga K c.x)) (.type "BaseException") = some true) && (decide (typeIn K (.ref (ga K c.x)) = some (.type "type")) && (keepIn K (.ref (ga K c.x)) &&
  (eqO (findIn K (.ref (ga K c.x)) "__init__") (some (some (.ref (ma K (ga K c.x) "__init__")))) && (decide (typeIn K (.ref (ma K (ga K c.x) "__init__")) = some (.type "function")) && (iniB file K (ga K c.x) c &&
  (decide (mroIn K (ga K c.x) (.ref (ga K c.x)) = some true) && (eqO (nsIn K cStatics "thirdparty.any") (some none) && (eqO (ks_superIn K (ga K c.x) (ga K c.x) "__init__") (some (some (.builtin "ValueError.__init__"))) &&
  (decide (subIn K (.ref (ga K c.x)) (.type "ValueError") = some true) && (excInitIn K (ga K c.x) HandSPX.veTail "ValueError.__new__" && (eqO (findIn K (.ref (ga K c.x)) c.fl) (some none) && (xfB K (ga K c.x) && excB K (ga K c.x)))))))))))))))
theorem oexB_ok {K : Frag} {C : Addr} (q : oexB K C = true) : ∃ nm q N bs bm sn sub ab col dd k0 k1 k2 k3 k5, K.lookup C = some (excClassObj nm q C N bs bm true sn sub ab col dd k0 k1 k2 k3 k5 "ValueError.__new__") ∧ HandSPX.refsVE bm = true := by
  unfold oexB at q
  split at q
  · rename_i dd cd sl ho
    split at q
    · rename_i C' bm k0 k1 k2 k3 n k5 hm hs
      simp only [Bool.and_eq_true, beq_iff_eq, Bool.not_eq_true'] at q
      obtain ⟨⟨⟨⟨rfl, rfl⟩, hdel⟩, hh⟩, ht⟩ := q
      obtain ⟨nm, bs, mro, ns, qn, hd, sn, sub, ab, col, del⟩ := cd
      dsimp only at hm hdel hh
      subst hm hdel hh
      have hsl : sl = #[k0, k1, k2, k3, some (.builtin "ValueError.__new__"), k5] := by
        obtain ⟨l⟩ := sl
        simp only at hs
        rw [hs]
      subst hsl
      exact ⟨nm, qn, ns, bs, bm, sn, sub, ab, col, dd, k0, k1, k2, k3, k5, ho, ht⟩
    · cases q
  · cases q
theorem exc_of {file : Str} {K : Frag} {c : ClD} (hb : clB file K c = true) : ExcC K (ga K c.x) := by
  obtain ⟨_, hb⟩ := ba hb
  obtain ⟨_, hb⟩ := ba hb
  obtain ⟨_, hb⟩ := ba hb
  obtain ⟨_, hb⟩ := ba hb
  obtain ⟨_, hb⟩ := ba hb
  obtain ⟨_, hb⟩ := ba hb
  obtain ⟨_, hb⟩ := ba hb
  obtain ⟨_, hb⟩ := ba hb
  obtain ⟨_, hb⟩ := ba hb
  obtain ⟨_, hb⟩ := ba hb
  obtain ⟨_, hb⟩ := ba hb
  obtain ⟨_, hb⟩ := ba hb
  obtain ⟨_, hb⟩ := ba hb
  obtain ⟨_, hb⟩ := ba hb
  obtain ⟨b15, b16⟩ := ba hb
  have T := xfB_ok b15
  obtain ⟨e1, b16⟩ := ba b16
  obtain ⟨e2, b16⟩ := ba b16
  obtain ⟨e3, e4⟩ := ba b16
  exact ⟨T.ga, T.gg, T.exC, T.hdC, eqO_ok e1, eqO_ok e2, of_decide_eq_true e3, of_decide_eq_true e4⟩
/-- a class statement's one method -/
def clFn : Stmt → Arguments × List Stmt
  | .ClassDef _ _ _ (.FunctionDef _ a b _ _ _ _ _ _ _ :: _) _ _ _ _ _ _ _ => (a, b)
  | _ => default
/-- what the text says of the class -/
def SupOk (c : ClD) : Prop := ∃ (ms : Str) (pa pb pc pd pe pg ph pi pj pk : Pos) (tn : Nat) (ar : Arg), c.body = supBody ms c.pf c.fl pa pb pc pd pe pg ph pi pj pk tn ∧ (pc.endLine == pe.line) = true ∧
  (c.params.posonlyargs ++ c.params.args).head? = some ar ∧ ar.arg = "self" ∧ (c.pf == ("self" : Str)) = false ∧ (c.pf == ("__debug__" : Str)) = false ∧
  ((supScope c.pf).names.lookup ("super" : Str) = some .globalImplicit) ∧ ((supScope c.pf).names.lookup ("__class__" : Str) = some .free) ∧ ((supScope c.pf).names.lookup c.pf = some .local) ∧
  ∀ (kV doc pm ct cdv : Value) (an : Option Addr) (cc x : Addr) (v : Value), bindArgs (ksFn "__init__" c.qual c.params c.body (supScope c.pf) .none kV doc pm an cdv ct cc) ⟨[.ref x, v], []⟩ = pure [((("self" : Str)), Value.ref x), (c.pf, v)]
theorem cl_ok {prog : Program} {w : World} {K : Frag} {mg : Str → Option Value} {g : GF} {n : Nat} {c : ClD} (hS : SupOk c) (hv : clW K c.x = c.val) (hb : clB prog.main.file K c = true) (htop : (prog.main.scope.names.lookup ("super" : Str)).isSome = false)
    (hm : mg c.x = some (.ref (ga K c.x))) (hg : g.ca n = ga K c.x) (hx : g.xn n = c.fl) : ExK prog w K mg g n c.x := by
  obtain ⟨b1, hb⟩ := ba hb
  obtain ⟨b2, hb⟩ := ba hb
  obtain ⟨b3, hb⟩ := ba hb
  obtain ⟨b4, hb⟩ := ba hb
  obtain ⟨b5, hb⟩ := ba hb
  obtain ⟨b6, hb⟩ := ba hb
  obtain ⟨b7, hb⟩ := ba hb
  obtain ⟨b8, hb⟩ := ba hb
  obtain ⟨b9, hb⟩ := ba hb
  obtain ⟨b10, hb⟩ := ba hb
  obtain ⟨b11, hb⟩ := ba hb
  obtain ⟨b12, hb⟩ := ba hb
  obtain ⟨b13, hb⟩ := ba hb
  obtain ⟨b14, hb⟩ := ba hb
  obtain ⟨b15, b16⟩ := ba hb
  have oe : OexC K (ga K c.x) := ⟨oexB_ok b1, eqO_ok b2, of_decide_eq_true b3, of_decide_eq_true b4, b5⟩
  refine ⟨?_, by rw [hg]; exact hm, by rw [hg]; exact xfB_ok b15, by rw [hg, hx]; exact eqO_ok b14⟩
  rw [hg, hx]
  refine ⟨oe, ma K (ga K c.x) "__init__", eqO_ok b6, of_decide_eq_true b7, ?_⟩
  intro A R mgg mb h gg d t os x t0 v room XK hgl hms hbn hbb hlim hxx hnK hq
  obtain ⟨ms, pa, pb, pc, pd, pe, pg, ph, pi, pj, pk, tn, ar, s1, s2, s3, s4, s5, s6, s7, s8, s9, s10⟩ := hS
  unfold clW at hv
  unfold iniB at b8
  cases q : K.lookup (ma K (ga K c.x) "__init__") with
  | none => rw [q] at hv; cases hv
  | some o =>
    obtain ⟨oc, od, dt, osl⟩ := o
    rw [q] at hv b8
    cases dt with
    | func fd =>
      obtain ⟨n1, n2, n3, n4, n5, n6, n7, n8, n9, n10, n11, n12, n13, n14, n15⟩ := fd
      have e2 : (some (n1, n2, n3, n4, n5, n6, n7.map (·.1), n15) : ClV) = (some ((("__init__" : Str)), c.qual, c.params, FuncBody.stmts c.body, supScope c.pf, mainGlobals, ([("__class__" : Str)] : List Str), builtinsNs) : ClV) := hv
      simp only [Option.some.injEq, Prod.mk.injEq] at e2
      obtain ⟨h1, h2, h3, h4, h5, h6, h7, h8⟩ := e2
      subst h1 h2 h3 h4 h5 h6 h8
      simp only at b8
      split at b8
      · rename_i cda nm cc
        simp only [List.map_cons, List.map_nil, List.cons.injEq, and_true] at h7
        subst h7
        obtain ⟨b8, c3⟩ := ba b8
        obtain ⟨c1, c2⟩ := ba b8
        cases q2 : K.lookup cda with
        | none => rw [q2] at c2; cases c2
        | some oc2 =>
          obtain ⟨ccl, cdd, cdt, ccs⟩ := oc2
          rw [q2] at c2
          cases cdt with
          | fields vs =>
            simp only at c2
            cases q3 : vs[2]? with
            | none => rw [q3] at c2; cases c2
            | some vv =>
              rw [q3] at c2
              cases vv with
              | str fi tf =>
                cases q4 : K.lookup cc with
                | none => rw [q4] at c3; cases c3
                | some oc3 =>
                  obtain ⟨cl3, cd3, ct3, cs3⟩ := oc3
                  rw [q4] at c3
                  cases ct3 with
                  | cell cv =>
                    cases cv with
                    | none => cases c3
                    | some cv =>
                      cases cv with
                      | ref C' =>
                        have e3 : C' = ga K c.x := by simpa using c3
                        subst e3
                        obtain ⟨nm, q9, N, bs, bm, sn, sub, ab, col, dd, k0, k1, k2, k3, k5, hC, hbm⟩ := oe.cls
                        have hD : clsIn K (ga K c.x) = some { name := nm, bases := bs, mro := .ref (ga K c.x) :: bm, ns := N, qualname := q9, hasDict := true, slotNames := sn, subclasses := sub, abstract := ab, collection := col, hasDel := false } := by unfold clsIn; rw [hC] <;> rfl
                        rw [s1] at q s10
                        exact init_sup room XK hgl hms hbn hbb hlim hxx hnK oe q c1 q2 q3 c2 q4 hD (of_decide_eq_true b9) s3 s4 s5 (fun s => .of_eq (s10 _ _ _ _ _ _ _ _ _)) s7 s8 s9 htop (eqO_ok b10) (eqO_ok b11) (of_decide_eq_true b12) b13 (eqO_ok b14) s6 s2 hq
                      | _ => cases c3
                  | _ => cases c3
              | _ => cases c2
          | _ => cases c2
      · cases b8
    | _ => cases b8

/-! ### the Hook -/
abbrev AlC : Type := AlD × Bool × List ClV
def kxB (K : Frag) (q : Str × Str × Bool) : Bool := decide (kitOne K (.ref (ga K q.1)) (.ref (ga K q.2.1)) = some q.2.2)
def obsC (file : Str) (fa : List Fa) (fn : List DefD) (cs : List ClD) (kx : List (Str × Str × Bool)) (K : Frag) : AlC := (obsD fa fn K, cs.all (fun c => clB file K c) && kx.all (fun q => kxB K q), cs.map fun c => clW K c.x)
def valC (fn : List DefD) (cs : List ClD) : AlC := (valD fn, true, cs.map ClD.val)
def SaysC (file : Str) (fa : List Fa) (fn : List DefD) (cs : List ClD) (kx : List (Str × Str × Bool)) (K : Frag) : Prop := obsC file fa fn cs kx K = valC fn cs
def obsCG (file : Str) (n : Nat) (fa : List Fa) (fn : List DefD) (cs : List ClD) (kx : List (Str × Str × Bool)) (g : Addr → Option Obj) : AlC := obsC file fa fn cs kx (frG g (cStatics :: asD g n))
def hookC (file : Str) (n : Nat) (fa : List Fa) (fn : List DefD) (cs : List ClD) (kx : List (Str × Str × Bool)) : PySem.W.Hook where
  α := AlC
  obs := fun s => obsCG file n fa fn cs kx s.heap.get?
  val := fun _ => valC fn cs
  says := fun _ h => ∃ K : PySem.W.Frag, K.In h ∧ SaysC file fa fn cs kx K
  of := fun _ _ e => ⟨_, frG_in, e⟩
  keeps := fun _ _ _ ⟨K, hK, c⟩ k => ⟨K, PySem.W.Frag.In.keeps hK k, c⟩
theorem obsCG_eq {file : Str} {n : Nat} {fa : List Fa} {fn : List DefD} {cs : List ClD} {kx : List (Str × Str × Bool)} {g : Addr → Option Obj} {s : Shared} (h : ∀ a, g a = s.heap.get? a) : obsCG file n fa fn cs kx g = (hookC file n fa fn cs kx).obs s := by
  have e : g = s.heap.get? := funext h
  rw [e] <;> rfl
section
variable {file : Str} {fa : List Fa} {fn : List DefD} {cs : List ClD} {kx : List (Str × Str × Bool)} {K : Frag}
theorem SaysC.d (c : SaysC file fa fn cs kx K) : SaysD fa fn K := congrArg (fun z : AlC => z.1) c
theorem SaysC.cl (c : SaysC file fa fn cs kx K) (i : Nat) {d : ClD} (h : cs[i]? = some d := by rfl) : clW K d.x = d.val ∧ clB file K d = true := by
  have c2 : ((cs.all fun c => clB file K c) && kx.all (fun q => kxB K q)) = true := congrArg (fun z : AlC => z.2.1) c
  have e : cs.map (fun d => clW K d.x) = cs.map ClD.val := congrArg (fun z : AlC => z.2.2) c
  have e2 : (cs.map fun d => clW K d.x)[i]? = (cs.map ClD.val)[i]? := by rw [e]
  rw [List.getElem?_map, List.getElem?_map, h] at e2
  exact ⟨Option.some.inj e2, List.all_eq_true.mp (ba c2).1 d (List.mem_of_getElem? h)⟩
theorem SaysC.kit (c : SaysC file fa fn cs kx K) (i : Nat) {q : Str × Str × Bool} (h : kx[i]? = some q := by rfl) : kitOne K (.ref (ga K q.1)) (.ref (ga K q.2.1)) = some q.2.2 := by
  have c2 : ((cs.all fun c => clB file K c) && kx.all (fun q => kxB K q)) = true := congrArg (fun z : AlC => z.2.1) c
  exact of_decide_eq_true (List.all_eq_true.mp (ba c2).2 q (List.mem_of_getElem? h))
end
end EV

/-! EvY: enumerate of lists and of tuples. -/
namespace EV
open PySem PySem.Spec PyProof.Rows L2

theorem enumT_new (c : Addr) (us : Array Value) : Meets (Builtin.«enumerate.__new__» ⟨[.type "enumerate", .ref c], []⟩) (fun _ R s => s.heap.IsTuple c us ∧
    R (.ok (.ret (.ref (s.heap.push { cls := .type "tuple_iterator", data := .fields #[.ref c, .int 0 0] }).objs.size)))
      { s with heap := (s.heap.push { cls := .type "tuple_iterator", data := .fields #[.ref c, .int 0 0] }).push { cls := .type "enumerate", data := .fields #[.none, .bool false, .ref s.heap.objs.size, rawInt 0, .none, .none] } }) :=
  .of_wp fun prog w A R s hR => by
    obtain ⟨hh, gs, dr, tt, oo⟩ := s; obtain ⟨hT, hR⟩ := hR
    have hsb := sub_enumerate
    have tT : Heap.IsTuple (Shared.heap ⟨hh, gs, dr, tt, oo⟩) c us := hT
    wp_walk
    refine wpAny_stack_any fun stk => wpAny_pure ?_
    split
    · rename_i cc _ _ _ _ _
      cases (cc == Value.type "enumerate") <;> (wp_walk using wpAny_pyIter_tuple tT; exact ⟨_, rfl, hR⟩)
    · wp_walk using wpAny_pyIter_tuple tT
      exact ⟨_, rfl, hR⟩
section
variable {prog : Program} {w : World} {A : Around} {E : Value → Shared → Prop} {s : Shared}
theorem enumT_call {c : Addr} {us : Array Value} {Q : Value → Shared → Prop} (tT : s.heap.IsTuple c us)
    (k : ∀ h', IsEnum h' (s.heap.objs.size + 1) s.heap.objs.size 0 .none → h'.IsTupleIter s.heap.objs.size c 0 → (∀ b o, s.heap.get? b = some o → h'.get? b = some o) → Q (.ref (s.heap.objs.size + 1)) { s with heap := h' }) :
    wpAny (model prog w) A (call (.type "enumerate") [.ref c]) Q E s := by
  refine callType_new F.called_enumerate (by decide) (F.typeCall_enumerate_1 _) (F.newCall_enumerate_1 _) (fun obj => F.args_object_init_2 obj _) F.entry_enumerate_new (enumT_new c us) ⟨tT, ?_⟩
  generalize e1 : s.heap.push { cls := .type "tuple_iterator", data := .fields #[.ref c, .int 0 0] } = P1
  have z1 : P1.objs.size = s.heap.objs.size + 1 := by rw [← e1]; exact Heap.size_push ..
  have g1 : P1.get? s.heap.objs.size = some { cls := .type "tuple_iterator", data := .fields #[.ref c, .int 0 0] } := by rw [← e1]; exact Heap.get?_push_size _ rfl
  have k1 : ∀ b o, s.heap.get? b = some o → P1.get? b = some o := fun b o q => by rw [← e1]; exact Heap.get?_push_of_some _ q
  have ie : IsEnum (P1.push { cls := .type "enumerate", data := .fields #[.none, .bool false, .ref s.heap.objs.size, rawInt 0, .none, .none] }) P1.objs.size s.heap.objs.size 0 .none := Heap.get?_push_size P1 rfl
  rw [z1] at ie
  show _ ∧ _
  rw [z1]
  exact ⟨⟨_, ie, rfl⟩, k _ ie ⟨_, Heap.get?_push_of_some _ g1, rfl, rfl⟩ fun b o q => Heap.get?_push_of_some _ (k1 b o q)⟩
end
/-- the tuple at a, each item in a new pair with its number -/
def ItN (K : PySem.W.Frag) (a : Addr) : It :=
  ⟨fun i H => ∃ (xs : List V) (x : V), SqT K H a xs ∧ xs[i]? = some x, fun i H v H' => ∃ T x, v = .ref T ∧ H T = none ∧ H' = upd H T (.tup [.int (i : Nat), x]) ∧ ∀ xs, SqT K H a xs → xs[i]? = some x,
    fun i H => ∃ xs : List V, SqT K H a xs ∧ xs.length = i⟩
theorem turn_enumT {P : Program} {w : World} {K : PySem.W.Frag} {elts : List Expr} {kk : Nat} {tpos : Pos} {a e it : Addr} (hae : a ≠ e) (hai : a ≠ it) :
    Turn P w K (.Tuple elts kk tpos) (ItN K a) [e, it] e (fun i h => (∃ old, IsEnum h e it ((i : Nat) : Int) old) ∧ h.IsTupleIter it a i ∧ e ≠ it) where
  mem := List.mem_cons_self ..
  obj := fun i h st b hb => by
    obtain ⟨⟨old, he⟩, ⟨o, ho, hc, hd⟩, _⟩ := st
    simp only [List.mem_cons, List.not_mem_nil, or_false] at hb
    rcases hb with rfl | rfl
    · exact ⟨_, he, fun v q => nomatch q⟩
    · exact ⟨o, ho, fun v q => by rw [hd] at q; cases q⟩
  keep := fun i h h' st k => by
    obtain ⟨⟨old, he⟩, hi, hne⟩ := st
    exact ⟨⟨old, k e (by simp) _ he⟩, hi.at fun o q => k it (by simp) o q, hne⟩
  item := by
    intro X hP hw hK hc i pins s σ H E I hf st hg
    subst hP hw hK
    obtain ⟨⟨old, he⟩, hit, hne⟩ := st
    obtain ⟨xs, x, hq, hx⟩ := hg
    obtain ⟨its, rv, p, hz⟩ := I.tuple hq
    obtain ⟨u, hu, ru⟩ := rv.get hx
    have tT : s.heap.IsTuple a its.toArray := p
    have hel : e < s.heap.objs.size := Heap.lt_size he
    have hil : it < s.heap.objs.size := by obtain ⟨_, q, _⟩ := hit; exact Heap.lt_size q
    have hlt : i < its.toArray.size := by
      have := (List.getElem?_eq_some_iff.mp hu).1
      simpa using this
    refine wpAny_pyNext_enum_itemD (Draws.tuple (prog := X.prog) (w := X.w) (A := X.A.in1) (I.ok.hd hc) it a hai its.toArray) he ⟨hit, tT⟩ hlt hne (by simp [hne, Ne.symm hae]) fun x' h' tk hx' ho st' hT hsz hk => ?_
    have ex : x' = u := by
      have h2 : its.toArray[i]? = some x' := hx'
      simp only [List.getElem?_toArray] at h2
      rw [hu] at h2
      exact (Option.some.inj h2).symm
    subst ex
    refine ⟨_, rfl, wpAny_letOwnedTupleGo_enum (s := { s with heap := h', toks := tk + 1 }) ho fun h'' he' sb => ?_⟩
    have hT2 : h''.get? s.heap.objs.size = some { cls := .type "tuple", data := .seq #[.int i tk, x'] } := (sb.2 _ (Nat.ne_of_gt hel)).trans hT
    have new : ObjOk X.prog X.w (upd H s.heap.objs.size (.tup [.int (i : Nat), x])) h'' s.heap.objs.size (.tup [.int (i : Nat), x]) := by
      refine ⟨by show (2 : Nat) ≤ _; rw [sizeLine_eq]; decide, [.int i tk, x'], .cons ⟨_, rfl⟩ (.cons ru .nil), ?_⟩
      exact ⟨_, hT2, rfl, _, rfl⟩
    have kb : ∀ b o, b ∉ [e, it] → s.heap.get? b = some o → h''.get? b = some o := fun b o hb q => by
      have b1 : b ≠ e := fun z => hb (by simp [z])
      have b2 : b ≠ it := fun z => hb (by simp [z])
      exact (sb.2 b b1).trans (hk b o b1 b2 q)
    have I1 : Inv X pins σ (upd H s.heap.objs.size (.tup [.int (i : Nat), x])) { s with heap := h'', toks := tk + 1 } := I.turnedNew (ch := [e, it]) kb hf (Nat.le_refl _) new
    refine ⟨.ref s.heap.objs.size, _, I1, rfl, ⟨_, x, rfl, I.hok.fresh (Nat.le_refl _), rfl, fun ys hy => ?_⟩, ⟨⟨x', ?_⟩, ?_, hne⟩, fun b hb => ?_⟩
    · rw [I.tuple_inj hy hq]; exact hx
    · rw [show ((i + 1 : Nat) : Int) = (i : Int) + 1 from by omega]; exact he'
    · exact st'.1.at fun o q => (sb.2 it (Ne.symm hne)).trans q
    · have hb' : b ≠ s.heap.objs.size := by
        simp only [List.mem_cons, List.not_mem_nil, or_false] at hb
        rcases hb with rfl | rfl
        · exact Nat.ne_of_lt hel
        · exact Nat.ne_of_lt hil
      rw [upd_ne hb']
      exact (hf b hb).1
  done := by
    intro X hP hw hK hc i pins s σ H E I hf st hg
    subst hP hw hK
    obtain ⟨⟨old, he⟩, hit, hne⟩ := st
    obtain ⟨xs, hq, hx⟩ := hg
    obtain ⟨its, rv, p, hz⟩ := I.tuple hq
    have tT : s.heap.IsTuple a its.toArray := p
    have hn : its.toArray.size = i := by
      have := rv.length
      simp only [List.size_toArray]
      omega
    subst hn
    obtain ⟨f0, f1, f2, f3, f4, f5⟩ := hf it (by simp)
    exact wpAny_pyNext_enum_endD (Draws.tuple (prog := X.prog) (w := X.w) (A := X.A.in1) (I.ok.hd hc) it a hai its.toArray) he ⟨hit, tT⟩ fun h' eb => ⟨rfl, I.turned (t' := s.toks) (fun b o hb q => eb b o hb q) f0 f1 f3 f4 f5⟩
  self := fun A i s Q E st h => by
    obtain ⟨⟨_, he⟩, _⟩ := st
    exact wpAny_pyIter_enum he h
/-- enumerate(x): x a list or a tuple -/
def iEnumA (K : PySem.W.Frag) (ta : TA) : TI := fun σ H R => ta σ H fun vs H1 => ∃ a xs, vs = [.ref a] ∧ ((SqL K H1 a xs ∧ R (Ite K a) H1) ∨ (SqT K H1 a xs ∧ R (ItN K a) H1))
theorem pi_enumA {X : Cx} {e : Expr} {ta : TA} {p pos tpos : Pos} {elts : List Expr} {kk : Nat} (hg : Gl X "enumerate") (hm : X.mg "enumerate" = none) (ha : PA X [e] ta) (hs : starEach [e] X.env = [(false, eval e X.env)]) :
    PI X (.Tuple elts kk tpos) (.Call (.Name "enumerate" p) [e] [] pos) (iEnumA X.K ta) := by
  refine ⟨fun pins s σ H R I h => ?_⟩
  refine Call_ (ld_blt I hg hm boot_enumerate (PyProof.Rows.callWith_type1 (thn (ha.run pos pins s σ H _ I h) fun us s1 ⟨vs, H1, I1, r1, a, xs, ex, q1⟩ => ?_) hs rfl))
  subst ex
  cases r1 with
  | cons r rr =>
    cases rr
    cases r
    have fresh : ∀ b, b ∈ [s1.heap.objs.size + 1, s1.heap.objs.size] → FpOk X pins H1 b := fun b hb => by
      simp only [List.mem_cons, List.not_mem_nil, or_false] at hb
      have hle : s1.heap.objs.size ≤ b := by rcases hb with rfl | rfl <;> omega
      exact I1.fpOk hle (I1.hok.fresh hle)
    rcases q1 with ⟨hq, q⟩ | ⟨hq, q⟩
    · obtain ⟨its, rv, pl, _⟩ := I1.list hq
      refine call_enumerate_list pl.isList fun h' he hit _ hk => wpAny_pyIter_enum he ?_
      exact ⟨_, _, _, _, H1, rfl, I1.kept (t' := s1.toks) hk, turn_enum a (s1.heap.objs.size + 1) s1.heap.objs.size, ⟨⟨.none, he⟩, hit, Nat.succ_ne_self _⟩, fresh, q⟩
    · obtain ⟨its, rv, pt, _⟩ := I1.tuple hq
      have tT : s1.heap.IsTuple a its.toArray := pt
      have lt : a < s1.heap.objs.size := by obtain ⟨o, ho, _⟩ := tT; exact Heap.lt_size ho
      refine enumT_call tT fun h' he hit hk => wpAny_pyIter_enum he ?_
      exact ⟨_, _, _, _, H1, rfl, I1.kept (t' := s1.toks) hk, turn_enumT (e := s1.heap.objs.size + 1) (it := s1.heap.objs.size) (Nat.ne_of_lt (Nat.lt_succ_of_lt lt)) (Nat.ne_of_lt lt), ⟨⟨.none, he⟩, hit, Nat.succ_ne_self _⟩, fresh, q⟩
section
variable {X : Cx} {N : List Str} {sc : Scope} {fr : List Str} {g : GF} {G : GI} {W : WX} {a : Expr} {pos p2 : Pos} {m : ME} {F H F1 H1 F' H' : Hp} {fp fp1 fp' : Nat → List Addr} {σ σ1 : L2.St} {e e' : DEnv}
def numD (k : Nat) : List D → List D
  | [] => []
  | d :: ds => .tup [.int (k : Nat), d] :: numD (k + 1) ds
def enumD : D → Option (List D)
  | .tup xs => some (numD 0 xs)
  | .lst _ xs => some (numD 0 xs)
  | _ => none
theorem numD_len : ∀ {k : Nat} {xs : List D}, (numD k xs).length = xs.length
  | _, [] => rfl
  | k, _ :: xs => congrArg (· + 1) (numD_len (k := k + 1) (xs := xs))
theorem numD_get : ∀ {xs : List D} {n k : Nat} {d : D}, (numD n xs)[k]? = some d → ∃ x, xs[k]? = some x ∧ d = .tup [.int ((n + k : Nat) : Nat), x]
  | [], _, _, _, h => by cases h
  | x :: xs, n, 0, d, h => by
    injection h with h
    exact ⟨x, rfl, h.symm⟩
  | x :: xs, n, k + 1, d, h => by
    obtain ⟨y, h1, h2⟩ := numD_get (xs := xs) (n := n + 1) (k := k) h
    exact ⟨y, h1, by rw [h2, show n + 1 + k = n + (k + 1) from by omega]⟩
def mEnum (m : ME) : MI := fun e => match m e with
  | .ok d e1 => match enumD (frz d) with
    | some ds => .ok ds none e1
    | none => .no
  | .ex c d e1 => .ex c d e1
  | .no => .no
theorem itok_enumL {K : PySem.W.Frag} {A : Addr} {P : List Addr} {H0 : Hp} {vs : List V} {xs : List D} (h1 : F A = some (.lst vs)) (r1 : ROs G F H [] vs xs) : ItOk G (Ite K A) F P H0 (numD 0 xs) where
  go := fun F' H' k d q1 _ q2 q3 => by
    obtain ⟨x, e1, rfl⟩ := numD_get q3
    obtain ⟨u, hu, ru⟩ := r1.get e1
    refine ⟨⟨vs, u, SqL.of (q2 _ _ (q1 _ _ h1)), hu⟩, fun v H2 yl => ?_⟩
    obtain ⟨T, x', rfl, hT, rfl, f1⟩ := yl
    have g1 := f1 vs (SqL.of (q2 _ _ (q1 _ _ h1)))
    rw [hu] at g1
    cases g1
    rw [Nat.zero_add]
    exact pair_new q2 hT (.int _) (ru.monoZ q1)
  stop := fun F' H' q1 _ q2 => ⟨vs, SqL.of (q2 _ _ (q1 _ _ h1)), by rw [numD_len, r1.length]; exact Nat.le_refl _⟩
theorem itok_enumT {K : PySem.W.Frag} {A : Addr} {P : List Addr} {H0 : Hp} {vs : List V} {xs : List D} (h1 : F A = some (.tup vs)) (r1 : ROs G F H [] vs xs) : ItOk G (ItN K A) F P H0 (numD 0 xs) where
  go := fun F' H' k d q1 _ q2 q3 => by
    obtain ⟨x, e1, rfl⟩ := numD_get q3
    obtain ⟨u, hu, ru⟩ := r1.get e1
    refine ⟨⟨vs, u, SqT.of (q2 _ _ (q1 _ _ h1)), hu⟩, fun v H2 yl => ?_⟩
    obtain ⟨T, x', rfl, hT, rfl, f1⟩ := yl
    have g1 := f1 vs (SqT.of (q2 _ _ (q1 _ _ h1)))
    rw [hu] at g1
    cases g1
    rw [Nat.zero_add]
    exact pair_new q2 hT (.int _) (ru.monoZ q1)
  stop := fun F' H' q1 _ q2 => ⟨vs, SqT.of (q2 _ _ (q1 _ _ h1)), by rw [numD_len, r1.length]⟩
theorem si_enum {elts : List Expr} {kk : Nat} {tpos : Pos} (C : Cn X N sc fr) (h1 : ("enumerate" : Str) ∈ fr) (h2 : glB sc "enumerate" = true) (ha : SE X g W a m) (hs : starEach [a] X.env = (false, eval a X.env) :: starEach [] X.env) (hs2 : starEach [a] X.env = [(false, eval a X.env)]) :
    SI X g W (.Tuple elts kk tpos) (.Call (.Name "enumerate" p2) [a] [] pos) (mEnum m) := PI.imp (pi_enumA (gl_ok C h2) (C.hfr _ h1) (pa_cons ha.z pa_nil hs) hs2) fun σ H R ⟨F, fp, e, s, h⟩ => by
  refine ⟨F, fp, e, s, ?_⟩
  unfold mEnum at h
  cases q : m e with
  | ex c d e1 => rw [q] at h; exact h
  | no => rw [q] at h; exact h
  | ok d1 e1 =>
    rw [q] at h
    intro x F1 H1 fp1 s1 r1 tr1
    simp only at h
    generalize frz d1 = z1 at h r1
    cases z1 with
    | tup xs =>
      obtain ⟨A, vs, rfl, ha, ra⟩ := r1.tup_inv
      exact ⟨A, vs, rfl, .inr ⟨SqT.of (s1.sub _ _ ha), h _ F1 H1 fp1 [] s1 rfl tr1.nil (itok_enumT ha ra)⟩⟩
    | lst o xs =>
      obtain ⟨_, A, vs, rfl, ha, ra⟩ := r1.lst_inv
      exact ⟨A, vs, rfl, .inl ⟨SqL.of (s1.sub _ _ ha), h _ F1 H1 fp1 [] s1 rfl tr1.nil (itok_enumL ha ra)⟩⟩
    | _ => exact h.elim
end
end EV

/-! EvZ: slices; a module's number; defaults. -/
namespace EV
open PySem PySem.Spec PyProof.Rows L2
section
variable {X : Cx} {N : List Str} {sc : Scope} {fr : List Str} {g : GF} {G : GI} {W : WX} {a : Expr} {pos p2 : Pos} {m : ME} {F H F1 H1 F' H' : Hp} {fp fp1 fp' : Nat → List Addr} {σ σ1 : L2.St} {e e' : DEnv}
theorem ROs.dropZ : ∀ {vs : List V} {ds : List D} (n : Nat), ROs G F H [] vs ds → ROs G F H [] (vs.drop n) (ds.drop n)
  | _, _, 0, r => r
  | [], ds, n + 1, r => by
    have := r.length
    cases ds with
    | nil => exact .nil
    | cons _ _ => cases this
  | v :: vs, ds, n + 1, r => by
    cases ds with
    | nil => have := r.length; cases this
    | cons d ds =>
      obtain ⟨r1, r2⟩ := r.unconsZ
      exact ROs.dropZ n r2
theorem ROs.takeZ : ∀ {vs : List V} {ds : List D} (n : Nat), ROs G F H [] vs ds → ROs G F H [] (vs.take n) (ds.take n)
  | _, _, 0, r => by rw [List.take_zero, List.take_zero]; exact .nil
  | [], ds, n + 1, r => by
    have := r.length
    cases ds with
    | nil => exact .nil
    | cons _ _ => cases this
  | v :: vs, ds, n + 1, r => by
    cases ds with
    | nil => have := r.length; cases this
    | cons d ds =>
      obtain ⟨r1, r2⟩ := r.unconsZ
      exact ROs.consZ r1 (ROs.takeZ n r2)
def cutD (xs : List D) (l u : Option Int) : List D := (xs.drop (HT.sIx xs.length 0 l)).take (HT.sIx xs.length xs.length u - HT.sIx xs.length 0 l)
def sliceD : D → Option Int → Option Int → Option D
  | .tup xs, l, u => some (.tup (cutD xs l u))
  | .lst _ xs, l, u => some (.lst true (cutD xs l u))
  | _, _, _ => none
def partR : Option ME → DEnv → (Option Int → DEnv → RE) → RE
  | none, e, k => k none e
  | some m, e, k => match m e with
    | .ok (.int i) e1 => k (some i) e1
    | .ok _ _ => .no
    | .ex c d e1 => .ex c d e1
    | .no => .no
def mSl (m : ME) (lo hi : Option ME) : ME := fun e => match m e with
  | .ok d e1 => partR lo e1 fun l e2 => partR hi e2 fun u e3 => RE.of (sliceD (frz d) l u) e3
  | .ex c d e1 => .ex c d e1
  | .no => .no
def POk (X : Cx) (g : GF) (W : WX) (eo : Option Expr) : Option ME → Prop
  | none => eo = none
  | some m => ∃ e, eo = some e ∧ SE X g W e m
theorem po_n : POk X g W none none := rfl
theorem po_s (h : SE X g W a m) : POk X g W (some a) (some m) := ⟨a, rfl, h⟩
def tPo (G : GI) (W : WX) : Option ME → L2.TO
  | none => tNoPart
  | some m => tPart (RdE G W m)
theorem POk.po {eo : Option Expr} : ∀ {mo : Option ME}, POk X g W eo mo → PO X eo (tPo (gOf X g) W mo)
  | none, h => by rw [show eo = none from h]; exact po_none
  | some m, ⟨e, he, h⟩ => by rw [he]; exact po_some h
theorem part_ok {mo : Option ME} {k : Option Int → DEnv → RE} {Q : Option Int → Hp → Prop} {Q2 : VK} (s : SO G F H fp σ e) (h : EOut G W σ F H fp Q2 (partR mo e k))
    (hk : ∀ l e1 F1 H1 fp1, SO G F1 H1 fp1 σ e1 → Tr F H (own fp) F1 H1 (own fp1) → EOut G W σ F1 H1 fp1 Q2 (k l e1) → Q l H1) : tPo G W mo σ H Q := by
  cases mo with
  | none => exact hk none e F H fp s Tr.refl h
  | some m =>
    show RdE G W m σ H fun x H1 => ∃ i, x = .int i ∧ Q (some i) H1
    refine RdE.iff.mpr ⟨F, fp, e, s, ?_⟩
    have h : EOut G W σ F H fp Q2 (match m e with
      | .ok (.int i) e1 => k (some i) e1
      | .ok _ _ => .no
      | .ex c d e1 => .ex c d e1
      | .no => .no) := h
    cases q : m e with
    | ex c d e1 => rw [q] at h; exact h
    | no => rw [q] at h; exact h
    | ok d e1 =>
      rw [q] at h
      cases d with
      | int i =>
        intro v F1 H1 fp1 p s1 t1 tr1
        have hp : p = [] := t1.r.nil_of_fz rfl
        subst hp
        have ev : v = .int i := by
          cases t1.r
          rfl
        have tr2 := tr1.drop (P1 := own fp1) fun c z => .inl z
        exact ⟨i, ev, hk _ e1 F1 H1 fp1 s1 tr2 (EOut.trans h tr2)⟩
      | _ => exact h.elim
theorem se_slice {lo hi : Option Expr} {ml mh : Option ME} (ha : SE X g W a m) (hl : POk X g W lo ml) (hh : POk X g W hi mh) : SE X g W (.Subscript a (.Slice lo hi none p2) pos) (mSl m ml mh) :=
  PE.imp (pe_slice (SlR.or sl_tupA sl_list) ha.z hl.po hh.po) fun σ H Q h => by
    obtain ⟨F, fp, e, s, h⟩ := RdE.iff.mp h
    refine ⟨F, fp, e, s, ?_⟩
    unfold mSl at h
    cases q : m e with
    | ex c d e1 => rw [q] at h; exact h
    | no => rw [q] at h; exact h
    | ok d e1 =>
      rw [q] at h
      intro x F1 H1 fp1 s1 r1 tr1
      simp only at h
      have h1 := EOut.trans h tr1
      refine part_ok s1 h1 fun l e2 F2 H2 fp2 s2 tr2 h2 => part_ok s2 h2 fun u e3 F3 H3 fp3 s3 tr3 h3 => ?_
      have r3 := (r1.mono (F' := F2) (H' := H2) tr2.ff fun a z => nomatch z).mono (F' := F3) (H' := H3) tr3.ff fun a z => nomatch z
      generalize frz d = z at h3 r3
      cases z with
      | tup xs =>
        obtain ⟨A, vs, rfl, hA, rA⟩ := r3.tup_inv
        refine .inl ⟨A, vs, rfl, SqT.of (s3.sub _ _ hA), fun hf => ?_, fun _ p hp => ?_⟩
        · have hl := rA.length
          rw [hl] at hf
          have ec : cutD xs l u = xs := by
            unfold cutD
            rw [hf.1, hf.2]
            simp
          have h3 : EOut (gOf X g) W σ F3 H3 fp3 Q (.ok (.tup (cutD xs l u)) e3) := h3
          rw [ec] at h3
          exact h3 _ F3 H3 fp3 [] s3 (TO.z (.tup hA rA)) Tr.refl.nil
        · have h3 : EOut (gOf X g) W σ F3 H3 fp3 Q (.ok (.tup (cutD xs l u)) e3) := h3
          have rc := (rA.dropZ (HT.sIx xs.length 0 l)).takeZ (HT.sIx xs.length xs.length u - HT.sIx xs.length 0 l)
          have rc2 : ROs (gOf X g) F3 H3 [] (cutV vs l u) (cutD xs l u) := by
            unfold cutV cutD
            rw [rA.length]
            exact rc
          exact h3 _ _ _ fp3 [] (s3.newF hp) (TO.z (.tup upd_same (rc2.monoZ (upd_le (s3.fnone hp))))) (Tr.newF s3.sub hp).nil
      | lst o xs =>
        obtain ⟨_, A, vs, rfl, hA, rA⟩ := r3.lst_inv
        refine .inr ⟨A, vs, rfl, SqL.of (s3.sub _ _ hA), fun p hp => ?_⟩
        have h3 : EOut (gOf X g) W σ F3 H3 fp3 Q (.ok (.lst true (cutD xs l u)) e3) := h3
        have rc := (rA.dropZ (HT.sIx xs.length 0 l)).takeZ (HT.sIx xs.length xs.length u - HT.sIx xs.length 0 l)
        have rc2 : ROs (gOf X g) F3 H3 [] (cutV vs l u) (cutD xs l u) := by
          unfold cutV cutD
          rw [rA.length]
          exact rc
        refine h3 _ _ _ fp3 [p] (s3.new (o := .lst _) hp) ⟨.lo upd_same (rc2.mono (fun _ _ z => z) fun a z => nomatch z), by simp, fun c z => ?_, fun c z => ?_⟩ ((Tr.new hp).drop fun c z => ?_)
        · rw [List.mem_singleton.mp z]; exact s3.fnone hp
        · rw [List.mem_singleton.mp z]; exact s3.noown hp
        · exact z.imp id fun w => List.mem_singleton.mp w
      | _ => exact h3.elim
/-- a module's number -/
theorem se_gint {i : Int} {x : Str} (C : Cn X N sc fr) (hg : glB sc x = true) (hm : ∃ t, X.mg x = some (.int i t)) (hdb : (x == ("__debug__" : Str)) = false) : SE X g W (.Name x pos) (mC (.int i)) := by
  obtain ⟨t, hm⟩ := hm
  exact PE.imp (pe_glob (v := .int i) (gl_ok C hg) hm ⟨t, rfl⟩ hdb) fun _ _ _ h => RdE.const (fun _ _ => .int i) h
/-- f(e, ..), the last parameters by their defaults -/
theorem se_callD {C : List D → RC} {mask : List Bool} {dfl : List D} {dvs : List V} {ms : List Ar} {es : List Expr} {k : Nat} {f : Addr} {fd : FuncData} {ps : List Str} {x : Str} (tk : Takes X W)
    (FO : FnOk X.prog X.w X.K X.mg X.base (L2.CX X.prog X.w) k f fd ps (Prom (gOf X g) mask C)) (hr : Room k X.A) (hg : Gl X x) (hm : X.mg x = some (.ref f)) (hk : PySem.W.keepIn X.K (.ref f) = true) (hb : ∃ ds, Vals dvs ds ∧ Binds X.K fd ps ds)
    (hz : ∀ F H, ROs (gOf X g) F H [] dvs dfl) (ha : SA X g W (a :: es) ms) (hdb : (x == ("__debug__" : Str)) = false) (he : starEach (a :: es) X.env = (false, eval a X.env) :: starEach es X.env) (hpl : (backTo pos (starEach es X.env)).any (·.1) = false) :
    SE X g W (.Call (.Name x p2) (a :: es) [] pos) (mCall C mask dfl ms) := by
  obtain ⟨ds, hd, hb⟩ := hb
  exact se_call tk FO hr hg hm hk hb hd hz ha hdb he hpl
end
end EV

/-! EvAA: an except suite that looks at its exception: isinstance(e, C), e.f. -/
namespace EV
open PySem PySem.Spec PyProof.Rows L2
/-- the suite's name stands for the exception, its dict holds f's value -/
def BF (g : GF) (i : Nat) (a : Addr) (c : Nat) (dd : Addr) (σ : L2.St) (H : Hp) : Prop := σ[i]? = some (some (.ref a)) ∧ ∃ v, H dd = some (.xd [(g.xn c, v)])
section
variable {X : Cx} {N : List Str} {sc : Scope} {fr : List Str} {g : GF} {W : WX} {L : List Nat} {body : List Stmt} {pos p2 p3 p4 : Pos} {mb : MS} {F H F1 H1 F' H' : Hp} {fp fp1 fp' : Nat → List Addr} {σ σ1 : L2.St} {e e' : DEnv}
  {a dd : Addr} {oe : Obj} {pn : List (Addr × Obj)} {c i : Nat} {n x : Str} {b b' : Bool} {ea eb : Expr} {es : List Expr}
theorem call_isX (C : ExcC X.K (g.ca c)) (hz : Zc (.ref (g.ca c)) (some dd) oe) (hf : ∃ vs, oe.data = .fields vs) :
    CallR (X.suite a ((a, oe) :: pn)) (.builtin "isinstance") (fun xs H Q => ∃ (t : Addr) (b : Bool) (fs : List (Str × V)), xs = [.ref a, .ref t] ∧ H dd = some (.xd fs) ∧ PySem.W.kitOne X.K (.ref (g.ca c)) (.ref t) = some b ∧ Q (.bl b) H) := by
  intro pins s σ H xs us Q I r h
  obtain ⟨t, b, fs, rfl, hd, e, q⟩ := h
  cases r with
  | cons rx rr =>
    cases rr with
    | cons rt rr =>
      cases rr
      cases rx
      cases rt
      obtain ⟨hget, _⟩ := I.pin (a, oe) (List.mem_append.mpr (.inl List.mem_cons_self))
      obtain ⟨vs, hv⟩ := hf
      obtain ⟨mA, hns, _⟩ := I.hok dd _ hd
      obtain ⟨od, _, _, ho, _⟩ := hns
      have J : PySem.W.InstAt s.heap a oe (g.ca c) (some od) := ⟨hget, hz.1, by unfold PySem.W.notCls; rw [hv] <;> rfl, by rw [hz.2]; exact ho⟩
      have hcl : (PySem.W.clsIn X.K (g.ca c)).isSome = true := by
        obtain ⟨cd, hc, _⟩ := PySem.W.any_some C.hd
        rw [hc]; rfl
      exact PySem.W.kia_one (PySem.W.kitx_exc hcl C.hg C.hk C.hs C.ha C.hn C.ht C.hm) I.kIn J e (fun z => nomatch z) fun tk => ⟨.bl b, H, I.kept (t' := tk) fun _ _ z => z, rfl, q⟩
/-- a test of the suite whose truth is known -/
def GT (X : Cx) (g : GF) (i : Nat) (a : Addr) (c : Nat) (dd : Addr) (e : Expr) (b : Bool) : Prop := PT X e (fun σ H Q => BF g i a c dd σ H ∧ Q b H)
def GW (X : Cx) (g : GF) (i : Nat) (a : Addr) (c : Nat) (dd : Addr) (e : Expr) (b : Bool) : Prop := PW X e (fun σ H Q => BF g i a c dd σ H ∧ Q b H)
theorem gt_is {cc : Nat} (C : ExcC X.K (g.ca c)) (hz : Zc (.ref (g.ca c)) (some dd) oe) (hf : ∃ vs, oe.data = .fields vs) (h1 : Gl X "isinstance") (h2 : X.mg "isinstance" = none) (hg : Gl X x) (hm : X.mg x = some (.ref (g.ca cc)))
    (hN : X.N[i]? = some n) (hv : Vis X.env.scope n) (hnd : (n == ("__debug__" : Str)) = false) (hnc : (n == ("__classdict__" : Str)) = false) (hk : PySem.W.kitOne X.K (.ref (g.ca c)) (.ref (g.ca cc)) = some b) (hxd : (x == ("__debug__" : Str)) = false)
    (he : starEach [.Name n p2, .Name x p3] X.env = (false, eval (.Name n p2) X.env) :: starEach [.Name x p3] X.env) (he2 : starEach [.Name x p3] X.env = (false, eval (.Name x p3) X.env) :: starEach [] X.env) (hpl : (backTo pos (starEach [.Name x p3] X.env)).any (·.1) = false)
    (ht : ∀ whole, isTrue (.Call (.Name "isinstance" p4) [.Name n p2, .Name x p3] [] pos) X.env whole = (do let v ← whole; standAt (Expr.Call (.Name "isinstance" p4) [.Name n p2, .Name x p3] [] pos).pos; holding [v] (truthy v))) :
    GT (X.suite a ((a, oe) :: pn)) g i a c dd (.Call (.Name "isinstance" p4) [.Name n p2, .Name x p3] [] pos) b := by
  have p1 := pe_callB (call_isX (g := g) (pn := pn) (a := a) C hz hf) (x := "isinstance") (p := p4) (pos := pos) h1 h2 (by decide +kernel) (pa_cons (pe_var hN hv hnd hnc) (pa_cons (pe_glob (v := .ref (g.ca cc)) hg hm rfl hxd) pa_nil he2) he) (by decide) (by decide) he hpl
  refine PT.imp (pt_truth p1 ht) fun σ H Q h => ?_
  obtain ⟨⟨h3, v, h4⟩, h5⟩ := h
  exact ⟨.ref a, h3, g.ca cc, b, _, rfl, h4, hk, b, rfl, h5⟩
theorem gt_not (h : GT X g i a c dd ea b) : GT X g i a c dd (.UnaryOp .Not ea pos) (!b) := PT.imp (pt_not h) fun σ H Q z => z
theorem gw_or1 (h : GT X g i a c dd ea b) : GW X g i a c dd (.BoolOp .Or [ea] pos) b := pw_or1 h
theorem gw_or (h : GT X g i a c dd ea b) (h2 : GW X g i a c dd (.BoolOp .Or (eb :: es) pos) b') : GW X g i a c dd (.BoolOp .Or (ea :: eb :: es) pos) (b || b') := PW.imp (pw_or h h2) fun σ H Q z => by
  cases b with
  | true => exact ⟨z.1, z.2⟩
  | false => exact ⟨z.1, z⟩
theorem gt_bool (h : GW X g i a c dd ea b) : GT X g i a c dd ea b := h.pt
/-- a guard that lets through -/
theorem g_if {t : TS} {st : List Stmt} (h : GT X g i a c dd ea b) (hb : b = false) (hs : PSs X st t) : PS X (.If ea st [] pos) (fun D σ H => BF g i a c dd σ H ∧ D.nx σ H) := by
  subst hb
  exact PS.imp (ps_if h hs pss_nil) fun D σ H z => z
theorem g_cons {t : TS} {st : Stmt} {rest : List Stmt} (h : PS X st (fun D σ H => BF g i a c dd σ H ∧ D.nx σ H)) (hr : PSs X rest (fun D σ H => BF g i a c dd σ H ∧ t D σ H)) : PSs X (st :: rest) (fun D σ H => BF g i a c dd σ H ∧ t D σ H) :=
  PSs.imp (pss_cons h hr) fun D σ H z => ⟨z.1, z⟩
/-- what the last row of the suite wishes -/
def tTell (g : GF) (c : Nat) (dd : Addr) (sr : Str) : TS := fun D σ H => ∀ v, H dd = some (.xd [(g.xn c, v)]) → ∀ p, H p = none → D.rt (.ref p) (upd H p (.tup [.str sr, v]))
theorem g_tell {fl sr : Str} {p5 p6 p7 p8 p9 : Pos} {kt jt : Nat} (T : XfC X.K (g.ca c)) (no : PySem.W.findIn X.K (.ref (g.ca c)) fl = some none) (hfl : g.xn c = fl) (hz : Zc (.ref (g.ca c)) (some dd) oe) (hf : ∃ vs, oe.data = .fields vs)
    (hN : X.N[i]? = some n) (hv : Vis X.env.scope n) (hnd : (n == ("__debug__" : Str)) = false) (hnc : (n == ("__classdict__" : Str)) = false)
    (hab : attributeBase (.Name n p8) fl X.env (eval (.Name n p8) X.env) = eval (.Name n p8) X.env)
    (hse : starEach [.Constant (.str sr) jt p6, .Attribute (.Name n p8) fl p7] X.env = (false, eval (.Constant (.str sr) jt p6) X.env) :: starEach [.Attribute (.Name n p8) fl p7] X.env)
    (hse2 : starEach [.Attribute (.Name n p8) fl p7] X.env = (false, eval (.Attribute (.Name n p8) fl p7) X.env) :: starEach [] X.env) :
    PSs (X.suite a ((a, oe) :: pn)) [.Return (some (.Tuple [.Constant (.str sr) jt p6, .Attribute (.Name n p8) fl p7] kt p5)) p9] (fun D σ H => BF g i a c dd σ H ∧ tTell g c dd sr D σ H) := by
  subst hfl
  refine PSs.imp (pss_cons (ps_ret (pe_tup (pa_cons pe_str (pa_cons (pe_xf T no hz hf (pe_var hN hv hnd hnc) hab) pa_nil hse2) hse))) pss_nil) fun D σ H h => ?_
  obtain ⟨⟨h3, v, h4⟩, h5⟩ := h
  refine ⟨.ref a, h3, rfl, rfl, dd, [(g.xn c, v)], v, rfl, h4, ?_, by rw [sizeLine_eq]; show (2 : Nat) ≤ _; decide, fun p' hp' => h5 v h4 p' hp'⟩
  rw [List.lookup_cons, beq_self_eq_true]
/-- try: body; except C as n: guards, then return ('s', n.f) -/
def mTryS (i : Nat) (cg : Nat → Option Bool) (al : Nat → Bool) (s : Str) (mb : MS) : MS := fun e => match mb e with
  | .ex c d e1 => match cg c with
    | some true => if fz d = true ∧ i < e1.length ∧ al c = true then .rt (.tup [.str s, d]) (e1.set i none) else .no
    | some false => .ex c d e1
    | none => .no
  | r => r
theorem ss_tryS {cc : Nat} {sr : Str} {cg : Nat → Option Bool} {al : Nat → Bool} {b₀ : Stmt} {suite : List Stmt} (C : Cf X W N sc fr) (hg : glB sc x = true) (hm : X.mg x = some (.ref (g.ca cc))) (hdb : (x == ("__debug__" : Str)) = false)
    (hn : locL N sc i n = true) (hL : i ∉ L)
    (hc : ∀ c b, cg c = some b → PySem.W.exmOne X.K (.ref (g.ca c)) (.ref (g.ca cc)) = some b)
    (hb : ∀ (pn : List (Addr × Obj)) (xe : Value → Shared → Prop) (W' : WX), Cf (X.tr pn xe) W' N sc fr → SSs (X.tr pn xe) g W' L body mb)
    (hs : ∀ (c : Nat) (a dd : Addr) (oe : Obj) (pn : List (Addr × Obj)), cg c = some true → al c = true → Zc (.ref (g.ca c)) (some dd) oe → (∃ vs, oe.data = .fields vs) → PSs (X.suite a ((a, oe) :: pn)) (b₀ :: suite) (fun D σ H => BF g i a c dd σ H ∧ tTell g c dd sr D σ H)) :
    SS X g W L (.Try body [.ExceptHandler (some (.Name x p2)) (some n) (b₀ :: suite) p3] [] [] pos) (mTryS i cg al sr mb) := by
  have hl : X.N[i]? = some n ∧ X.env.kindOf n = some .local := locL_ok C.toCn hn
  refine PS.imp (ps_try_as (i := i) (tb := fun W' => RdS (gOf X g) W' L mb) (ts := fun a cls d => fun D σ H => ∃ (c : Nat) (dd : Addr), cg c = some true ∧ al c = true ∧ cls = .ref (g.ca c) ∧ d = some dd ∧ BF g i a c dd σ H ∧ tTell g c dd sr D σ H)
    C.stk C.frm C.nd' hl.1 hl.2 ⟨gl_ok C.toCn hg, hdb, .inl hm⟩ C.tk (fun W' pn xe tk po => hb pn xe W' (C.toTry tk po)) (fun a oe cls d pn hz hf => ⟨fun pins s σ H D I ⟨c, dd, hcg, hal, ec, ed, h⟩ => ?_⟩)) fun D σ H ⟨F, fp, e, s, h⟩ => ?_
  · subst ec ed
    exact (hs c a dd oe pn hcg hal hz hf).run pins s σ H D I h
  · refine ⟨F, fp, e, s, ?_⟩
    unfold mTryS at h
    cases q : mb e with
    | nx e1 => rw [q] at h; exact h
    | rt d e1 => rw [q] at h; exact h
    | bk e1 => rw [q] at h; exact h
    | ct e1 => rw [q] at h; exact h
    | no => rw [q] at h; exact h
    | ex c d e1 =>
      rw [q] at h
      simp only at h
      intro dx v σ' F' H' fp' p s' l' t' tr hx2
      cases q2 : cg c with
      | none => rw [q2] at h; exact h.elim
      | some b =>
        rw [q2] at h
        refine ⟨b, hc c b q2, fun hb a ha => ?_, fun hb => ?_⟩
        · subst hb
          simp only at h
          split at h
          · rename_i hz
            obtain ⟨hz, hi0, hal⟩ := hz
            have hi : i < σ'.length := by rw [s'.len]; exact hi0
            refine ⟨c, dx, q2, hal, rfl, rfl, ⟨List.getElem?_set_self hi, v, hx2⟩, fun v2 hv2 p' hp' => ?_⟩
            have ev : v2 = v := by
              have hx3 := hx2
              rw [hv2] at hx3
              simpa using hx3
            subst ev
            have s2 := (s'.forget (i := i)).newF (o := .tup [.str sr, v2]) hp'
            have hp0 : p = [] := t'.r.nil_of_fz hz
            subst hp0
            have rd : RO (gOf X g) (upd F' p' (.tup [.str sr, v2])) (upd H' p' (.tup [.str sr, v2])) [] v2 d := t'.r.monoZ (upd_le (s'.fnone hp'))
            refine h (.ref p') σ' _ _ _ [] s2 l' (TO.z (.tup upd_same (ROs.consZ (.str sr) (ROs.consZ rd .nil)))) ?_
            refine (tr.trans (Tr.newF s'.sub hp')).weak (fun _ z => z) fun c z => ?_
            rcases z with z | z
            · exact .inl (.inl (own_take c (.inl z)))
            · cases z
          · exact h.elim
        · subst hb
          exact h dx v σ' F' H' fp' p s' l' t' tr hx2
theorem atL0 {st : List Stmt} {m : MS} (h : SSs X g W [] st m) : SSs X g W [] st m := h
end
end EV

/-! EvBB: the plain functions reckoned out, more of them. -/
namespace EV
open PySem PySem.Spec L2
section
variable {m n t : ME} {ms ns : MS} {e e1 : DEnv} {d : D} {oa ob : Op} {i k : Nat}
@[simp] theorem ap_raise {c : Nat} : mRaise c m e = (m e).toS fun d e1 => .ex c d e1 := by
  unfold mRaise RE.toS
  cases m e <;> rfl
@[simp] theorem ap_tryO {cg : Nat → Option Bool} : mTryO cg ms ns e = match ms e with
  | .ex c d e1 => match cg c with
    | some true => noEx (ns e1)
    | some false => .ex c d e1
    | none => .no
  | r => r := rfl
@[simp] theorem ap_tryS {cg : Nat → Option Bool} {al : Nat → Bool} {s : Str} : mTryS i cg al s ms e = match ms e with
  | .ex c d e1 => match cg c with
    | some true => if fz d = true ∧ i < e1.length ∧ al c = true then .rt (.tup [.str s, d]) (e1.set i none) else .no
    | some false => .ex c d e1
    | none => .no
  | r => r := rfl
@[simp] theorem noEx_nx : noEx (.nx e) = .nx e := rfl
@[simp] theorem noEx_rt : noEx (.rt d e) = .rt d e := rfl
@[simp] theorem noEx_no : noEx .no = .no := rfl
@[simp] theorem ap_enum : mEnum m e = match m e with
  | .ok d e1 => match enumD (frz d) with
    | some ds => .ok ds none e1
    | none => .no
  | .ex c d e1 => .ex c d e1
  | .no => .no := rfl
@[simp] theorem en_tup {xs : List D} : enumD (.tup xs) = some (numD 0 xs) := rfl
@[simp] theorem en_lst {o : Bool} {xs : List D} : enumD (.lst o xs) = some (numD 0 xs) := rfl
@[simp] theorem ap_sl {ml mh : Option ME} : mSl m ml mh e = match m e with
  | .ok d e1 => partR ml e1 fun l e2 => partR mh e2 fun u e3 => RE.of (sliceD (frz d) l u) e3
  | .ex c d e1 => .ex c d e1
  | .no => .no := rfl
@[simp] theorem part_n {f : Option Int → DEnv → RE} : partR none e f = f none e := rfl
@[simp] theorem part_s {f : Option Int → DEnv → RE} : partR (some m) e f = match m e with
    | .ok (.int i) e1 => f (some i) e1
    | .ok _ _ => .no
    | .ex c d e1 => .ex c d e1
    | .no => .no := by
  unfold partR
  rfl
@[simp] theorem sl_tupD {xs : List D} {l u : Option Int} : sliceD (.tup xs) l u = some (.tup (cutD xs l u)) := rfl
@[simp] theorem sl_lstD {o : Bool} {xs : List D} {l u : Option Int} : sliceD (.lst o xs) l u = some (.lst true (cutD xs l u)) := rfl
theorem cut_to {xs : List D} {k : Nat} (h : k ≤ xs.length) : cutD xs none (some (k : Nat)) = xs.take k := by
  unfold cutD
  rw [HT.sIx_none, HT.sIx_nat, List.drop_zero, Nat.min_eq_left h, Nat.sub_zero]
theorem cut_from {xs : List D} {k : Nat} (h : k ≤ xs.length) : cutD xs (some (k : Nat)) none = xs.drop k := by
  unfold cutD
  rw [HT.sIx_none, HT.sIx_nat, Nat.min_eq_left h]
  exact List.take_of_length_le (by rw [List.length_drop]; exact Nat.le_refl _)
theorem numD_nth {xs : List D} {k : Nat} {d : D} (h : (numD 0 xs)[k]? = some d) : ∃ x, xs[k]? = some x ∧ d = .tup [.int (k : Nat), x] := by
  obtain ⟨x, h1, h2⟩ := numD_get h
  exact ⟨x, h1, by rw [h2, Nat.zero_add]⟩
@[simp] theorem is_int_tup {a : List D} : isiD .int (.tup a) = some false := rfl
@[simp] theorem is_int_lst {o : Bool} {a : List D} : isiD .int (.lst o a) = some false := rfl
@[simp] theorem is_bool_non : isiD .bool .non = some false := rfl
@[simp] theorem is_bool_str {a : Str} : isiD .bool (.str a) = some false := rfl
@[simp] theorem is_bool_tup {a : List D} : isiD .bool (.tup a) = some false := rfl
@[simp] theorem is_bool_lst {o : Bool} {a : List D} : isiD .bool (.lst o a) = some false := rfl
@[simp] theorem is_str_non : isiD .str .non = some false := rfl
@[simp] theorem is_str_int {a : Int} : isiD .str (.int a) = some false := rfl
@[simp] theorem is_str_bl {a : Bool} : isiD .str (.bl a) = some false := rfl
@[simp] theorem is_str_tup {a : List D} : isiD .str (.tup a) = some false := rfl
@[simp] theorem is_str_lst {o : Bool} {a : List D} : isiD .str (.lst o a) = some false := rfl
@[simp] theorem mZs_nil {e : DEnv} : mZs [] e = .ok [] e := rfl
@[simp] theorem mZs_cons {m : ME} {ms : List ME} {e : DEnv} : mZs (m :: ms) e = match m e with
    | .ok d e1 => match mZs ms e1 with
      | .ok ds e2 => .ok (frz d :: ds) e2
      | .ex c d e2 => .ex c d e2
      | .no => .no
    | .ex c d e1 => .ex c d e1
    | .no => .no := rfl
@[simp] theorem ap_callK {C : List D → RC} {dfl : List D} {src : List KS} {ms : List ME} {e : DEnv} : mCallK C dfl src ms e = match mZs ms e with
  | .ok ds e1 => match C (genL .non dfl src ds) with
    | .ok d _ => .ok d e1
    | .ex c d _ => .ex c d e1
    | .no => .no
  | .ex c d e1 => .ex c d e1
  | .no => .no := rfl
@[simp] theorem RA_cons_ex {a : PA1} {c : Nat} {d : D} {e : DEnv} : RA.cons a (.ex c d e) = .ex c d e := rfl
@[simp] theorem RA_cons_no {a : PA1} : RA.cons a .no = .no := rfl
@[simp] theorem RA_fin_ex {c : Nat} {d : D} {e : DEnv} {k : List D → DEnv → RE} : RA.fin (.ex c d e) k = .ex c d e := rfl
@[simp] theorem RA_fin_no {k : List D → DEnv → RE} : RA.fin .no k = .no := rfl
@[simp] theorem ad_lst {o o2 : Bool} {xs ys : List D} : addD (.lst o xs) (.lst o2 ys) = if xs.length + ys.length ≤ LIM then some (.lst true (xs ++ ys)) else none := rfl
@[simp] theorem ad_tup {xs ys : List D} : addD (.tup xs) (.tup ys) = if xs.length + ys.length ≤ LIM then some (.tup (xs ++ ys)) else none := rfl
/-- data that isinstance answers -/
def okV : D → Bool
  | .non => true
  | .bl _ => true
  | .int _ => true
  | .str _ => true
  | .tup _ => true
  | .lst _ _ => true
  | _ => false
end
end EV

/-! EvCC: sum, max, min of tuples too. -/
namespace EV
open PySem PySem.Spec PyProof.Rows L2
section
variable {prog : Program} {w : World} {A : Around} {E : Value → Shared → Prop} {s : Shared} {l : Addr} {its : List Value} {ns : List Int} {Q : Value → Shared → Prop}
theorem iterT {xs : Array (Int × Tok)} {Q : Value → Shared → Prop} (hl : s.heap.IsTuple l (intItems xs))
    (h : ∀ s₂ : Shared, s₂ = { s with heap := s.heap.push { cls := .type "tuple_iterator", data := .fields #[.ref l, .int 0 0] } } → (s₂.heap.IsTupleIter s.heap.objs.size l 0 ∧ s₂.heap.IsTuple l (intItems xs)) → (∀ b ∈ [s.heap.objs.size, l], b < s₂.heap.objs.size) → l ≠ s.heap.objs.size → Q (.ref s.heap.objs.size) s₂) :
    wpAny (model prog w) A (pyIter (.ref l)) Q E s := by
  refine wpAny_pyIter_tuple hl (h _ rfl ⟨⟨_, Heap.get?_push_size _ rfl, rfl, rfl⟩, Heap.IsTuple.push hl _⟩ ?_ ?_)
  · have lt : l < s.heap.objs.size := by obtain ⟨o, ho, _⟩ := hl; exact Heap.lt_size ho
    intro b hb
    have hz : (s.heap.push { cls := .type "tuple_iterator", data := .fields #[.ref l, .int 0 0] }).objs.size = s.heap.objs.size + 1 := Heap.size_push ..
    show b < (s.heap.push { cls := .type "tuple_iterator", data := .fields #[.ref l, .int 0 0] }).objs.size
    rw [hz]
    simp only [List.mem_cons, List.not_mem_nil, or_false] at hb
    rcases hb with rfl | rfl
    · exact Nat.lt_succ_self _
    · exact Nat.lt_succ_of_lt lt
  · obtain ⟨o, ho, _⟩ := hl
    exact Nat.ne_of_lt (Heap.lt_size ho)
theorem oldT {h h' : Heap} {o : Obj} {I : Addr} (hI : I = h.objs.size) (hk : ∀ b u, b ∉ [I] → (h.push o).get? b = some u → h'.get? b = some u) : ∀ b u, h.get? b = some u → h'.get? b = some u := fun b u e =>
  hk b u (by rw [hI]; simpa using Nat.ne_of_lt (Heap.lt_size e)) (Heap.get?_push_of_some _ e)
theorem sumT_raw (hh : A.handled = none) (hl : s.heap.IsTuple l its.toArray) (hi : IntsAre its ns)
    (h : ∀ h' tk t', (∀ b o, s.heap.get? b = some o → h'.get? b = some o) → Q (.int ns.sum t') { s with heap := h', toks := tk }) : wpAny (model prog w) A (call (.builtin "sum") [.ref l]) Q E s := by
  obtain ⟨xs, e⟩ := hi.allInts.items
  have hn : numsOf (intItems xs).toList = ns := by rw [← e]; exact hi.numsOf
  rw [nums_intItems] at hn
  rw [e] at hl
  refine call_sum_walkG (iterT hl fun s₂ e2 st hfp hlI => ?_)
  subst e2
  refine ⟨_, _, _, _, _, _, numAt xs, rfl, Walks.tuple (A := A.in1) hh _ l hlI (intItems xs), st, hfp, (fun _ _ => intItems_at), fun h' tk t' hk => ?_⟩
  have z := h h' tk t' (oldT rfl hk)
  rw [preSum_eq, List.take_of_length_le (by simp [intItems]), hn]
  exact z
theorem maxT_raw (hh : A.handled = none) (hl : s.heap.IsTuple l its.toArray) (hi : IntsAre its ns) (hne : 0 < ns.length)
    (h : ∀ h' tk M t', (∀ b o, s.heap.get? b = some o → h'.get? b = some o) → M ∈ ns → (∀ a, a ∈ ns → a ≤ M) → Q (.int M t') { s with heap := h', toks := tk }) : wpAny (model prog w) A (call (.builtin "max") [.ref l]) Q E s := by
  obtain ⟨xs, e⟩ := hi.allInts.items
  have hn : numsOf (intItems xs).toList = ns := by rw [← e]; exact hi.numsOf
  rw [nums_intItems] at hn
  subst hn
  rw [e] at hl
  have hsz : 0 < xs.size := by simpa using hne
  refine call_max_walk (iterT hl fun s₂ e2 st hfp hlI => ?_)
  subst e2
  refine ⟨_, _, _, _, _, _, _, rfl, Walks.tuple (A := A.in1) hh _ l hlI (intItems xs), st, hfp, by simpa [intItems] using hsz, CmpOf.ints_gt (numAt xs) (fun _ _ => intItems_at), fun v h' tk hP hk => ?_⟩
  have hv : (intItems xs)[argBest (fun i j => decide (numAt xs i > numAt xs j)) (xs.size - 1)]? = some v := by simpa [intItems] using hP
  obtain ⟨t, rfl⟩ := intItems_at hv
  obtain ⟨h1, h2⟩ := argBest_gt (numAt xs) (xs.size - 1)
  refine h h' tk _ t (oldT rfl hk) ?_ fun a ha => ?_
  · rw [numAt_eq]; exact PySem.getD_mem (by rw [List.length_map, Array.length_toList]; omega)
  · obtain ⟨j, hj, rfl⟩ := mem_getD ha
    rw [List.length_map, Array.length_toList] at hj
    rw [← numAt_eq]; exact h2 j (by omega)
theorem minT_raw (hh : A.handled = none) (hl : s.heap.IsTuple l its.toArray) (hi : IntsAre its ns) (hne : 0 < ns.length)
    (h : ∀ h' tk M t', (∀ b o, s.heap.get? b = some o → h'.get? b = some o) → M ∈ ns → (∀ a, a ∈ ns → M ≤ a) → Q (.int M t') { s with heap := h', toks := tk }) : wpAny (model prog w) A (call (.builtin "min") [.ref l]) Q E s := by
  obtain ⟨xs, e⟩ := hi.allInts.items
  have hn : numsOf (intItems xs).toList = ns := by rw [← e]; exact hi.numsOf
  rw [nums_intItems] at hn
  subst hn
  rw [e] at hl
  have hsz : 0 < xs.size := by simpa using hne
  refine call_min_walk (iterT hl fun s₂ e2 st hfp hlI => ?_)
  subst e2
  refine ⟨_, _, _, _, _, _, _, rfl, Walks.tuple (A := A.in1) hh _ l hlI (intItems xs), st, hfp, by simpa [intItems] using hsz, CmpOf.ints_lt (numAt xs) (fun _ _ => intItems_at), fun v h' tk hP hk => ?_⟩
  have hv : (intItems xs)[argBest (fun i j => decide (numAt xs i < numAt xs j)) (xs.size - 1)]? = some v := by simpa [intItems] using hP
  obtain ⟨t, rfl⟩ := intItems_at hv
  obtain ⟨h1, h2⟩ := argBest_lt (numAt xs) (xs.size - 1)
  refine h h' tk _ t (oldT rfl hk) ?_ fun a ha => ?_
  · rw [numAt_eq]; exact PySem.getD_mem (by rw [List.length_map, Array.length_toList]; omega)
  · obtain ⟨j, hj, rfl⟩ := mem_getD ha
    rw [List.length_map, Array.length_toList] at hj
    rw [← numAt_eq]; exact h2 j (by omega)
end
section
variable {X : Cx} {N : List Str} {sc : Scope} {fr : List Str} {g : GF} {G : GI} {W : WX} {a : Expr} {pos p2 : Pos} {oa : Op} {F H : Hp} {x : V} {d d1 : D} {Q : VK}
def rSumA (K : PySem.W.Frag) : List V → Hp → VK → Prop := fun vs H Q => ∃ (a : Addr) (ns : List Int), vs = [V.ref a] ∧ (SqL K H a (ns.map V.int) ∨ SqT K H a (ns.map V.int)) ∧ Q (.int ns.sum) H
def rMaxA (K : PySem.W.Frag) : List V → Hp → VK → Prop := fun vs H Q => ∃ (a : Addr) (ns : List Int), vs = [V.ref a] ∧ (SqL K H a (ns.map V.int) ∨ SqT K H a (ns.map V.int)) ∧ 0 < ns.length ∧ ∀ m, m ∈ ns → (∀ y, y ∈ ns → y ≤ m) → Q (.int m) H
def rMinA (K : PySem.W.Frag) : List V → Hp → VK → Prop := fun vs H Q => ∃ (a : Addr) (ns : List Int), vs = [V.ref a] ∧ (SqL K H a (ns.map V.int) ∨ SqT K H a (ns.map V.int)) ∧ 0 < ns.length ∧ ∀ m, m ∈ ns → (∀ y, y ∈ ns → m ≤ y) → Q (.int m) H
theorem cr_sumA (hc : X.calm = true) : CallR X (.builtin "sum") (rSumA X.K) := by
  intro pins s σ H vs us Q I r h
  obtain ⟨a, ns, rfl, hs | hs, q⟩ := h
  · exact cr_sum hc pins s σ H _ us Q I r ⟨a, ns, rfl, hs, q⟩
  · obtain ⟨its, rv, hl, _⟩ := I.tuple hs
    rw [Vals.ref1 r]
    exact sumT_raw (I.ok.hd hc) (show s.heap.IsTuple a its.toArray from hl) rv.ints fun h' tk t' hk => ⟨.int _, H, I.kept hk, ⟨_, rfl⟩, q⟩
theorem cr_maxA (hc : X.calm = true) : CallR X (.builtin "max") (rMaxA X.K) := by
  intro pins s σ H vs us Q I r h
  obtain ⟨a, ns, rfl, hs | hs, hne, q⟩ := h
  · exact cr_max hc pins s σ H _ us Q I r ⟨a, ns, rfl, hs, hne, q⟩
  · obtain ⟨its, rv, hl, _⟩ := I.tuple hs
    rw [Vals.ref1 r]
    exact maxT_raw (I.ok.hd hc) (show s.heap.IsTuple a its.toArray from hl) rv.ints hne fun h' tk m t' hk h1 h2 => ⟨.int _, H, I.kept hk, ⟨_, rfl⟩, q m h1 h2⟩
theorem cr_minA (hc : X.calm = true) : CallR X (.builtin "min") (rMinA X.K) := by
  intro pins s σ H vs us Q I r h
  obtain ⟨a, ns, rfl, hs | hs, hne, q⟩ := h
  · exact cr_min hc pins s σ H _ us Q I r ⟨a, ns, rfl, hs, hne, q⟩
  · obtain ⟨its, rv, hl, _⟩ := I.tuple hs
    rw [Vals.ref1 r]
    exact minT_raw (I.ok.hd hc) (show s.heap.IsTuple a its.toArray from hl) rv.ints hne fun h' tk m t' hk h1 h2 => ⟨.int _, H, I.kept hk, ⟨_, rfl⟩, q m h1 h2⟩
def seqI : D → Option (List Int)
  | .lst _ xs => intsD xs
  | .tup xs => intsD xs
  | _ => none
def sumA (d : D) : Option D := (seqI d).map fun ns => .int ns.sum
def max1A (d : D) : Option D := (seqI d).bind fun ns => if 0 < ns.length then some (.int (maxL ns)) else none
def min1A (d : D) : Option D := (seqI d).bind fun ns => if 0 < ns.length then some (.int (minL ns)) else none
theorem seqI_rep {G : GI} {ns : List Int} (s : Sb F H) (r1 : RB G F H x d1) (h : seqI d1 = some ns) : ∃ a, x = .ref a ∧ (SqL G.K H a (ns.map V.int) ∨ SqT G.K H a (ns.map V.int)) := by
  cases d1 with
  | lst o xs =>
    obtain ⟨_, a, vs, rfl, ha, ra⟩ := r1.lst_inv s
    rw [ints_rep ra h] at ha
    exact ⟨a, rfl, .inl (SqL.of ha)⟩
  | tup xs =>
    obtain ⟨a, vs, rfl, ha, ra⟩ := r1.tup_inv
    rw [ints_rep ra h] at ha
    exact ⟨a, rfl, .inr (SqT.of (s _ _ ha))⟩
  | _ => cases h
theorem hr_sumA {G : GI} (s : Sb F H) (r1 : RB G F H x d1) (h : sumA d1 = some d) (k : KR G F H d Q) : rSumA G.K [x] H Q := by
  unfold sumA at h
  cases q : seqI d1 with
  | none => rw [q] at h; cases h
  | some ns =>
    rw [q] at h
    injection h with h; subst h
    obtain ⟨a, rfl, ha⟩ := seqI_rep s r1 q
    exact ⟨a, ns, rfl, ha, k.z s (.int _)⟩
theorem hr_max1A {G : GI} (s : Sb F H) (r1 : RB G F H x d1) (h : max1A d1 = some d) (k : KR G F H d Q) : rMaxA G.K [x] H Q := by
  unfold max1A at h
  cases q : seqI d1 with
  | none => rw [q] at h; cases h
  | some ns =>
    rw [q] at h
    have h : (if 0 < ns.length then some (D.int (maxL ns)) else none) = some d := h
    split at h
    · rename_i hl
      injection h with h; subst h
      obtain ⟨a, rfl, ha⟩ := seqI_rep s r1 q
      refine ⟨a, ns, rfl, ha, hl, fun m h1 h2 => ?_⟩
      obtain ⟨h3, h4⟩ := maxL_ok ns hl
      have e : m = maxL ns := Int.le_antisymm (h4 m h1) (h2 _ h3)
      rw [e]
      exact k.z s (.int _)
    · cases h
theorem hr_min1A {G : GI} (s : Sb F H) (r1 : RB G F H x d1) (h : min1A d1 = some d) (k : KR G F H d Q) : rMinA G.K [x] H Q := by
  unfold min1A at h
  cases q : seqI d1 with
  | none => rw [q] at h; cases h
  | some ns =>
    rw [q] at h
    have h : (if 0 < ns.length then some (D.int (minL ns)) else none) = some d := h
    split at h
    · rename_i hl
      injection h with h; subst h
      obtain ⟨a, rfl, ha⟩ := seqI_rep s r1 q
      refine ⟨a, ns, rfl, ha, hl, fun m h1 h2 => ?_⟩
      obtain ⟨h3, h4⟩ := minL_ok ns hl
      have e : m = minL ns := Int.le_antisymm (h2 _ h3) (h4 m h1)
      rw [e]
      exact k.z s (.int _)
    · cases h
theorem se_sumA (C : Cn X N sc fr) (h1 : ("sum" : Str) ∈ fr) (h2 : glB sc "sum" = true) (ha : SOp X g W a oa) (hs : starEach [a] X.env = (false, eval a X.env) :: starEach [] X.env) : SE X g W (.Call (.Name "sum" p2) [a] [] pos) (mOp1 sumA oa) :=
  se_b1 C (id := "sum") (cr_sumA C.calm) (by decide +kernel) (by decide) (by decide) (fun F H x d1 d Q s r1 h k => hr_sumA s r1 h k) h1 h2 ha hs
theorem se_max1A (C : Cn X N sc fr) (h1 : ("max" : Str) ∈ fr) (h2 : glB sc "max" = true) (ha : SOp X g W a oa) (hs : starEach [a] X.env = (false, eval a X.env) :: starEach [] X.env) : SE X g W (.Call (.Name "max" p2) [a] [] pos) (mOp1 max1A oa) :=
  se_b1 C (id := "max") (cr_maxA C.calm) (by decide +kernel) (by decide) (by decide) (fun F H x d1 d Q s r1 h k => hr_max1A s r1 h k) h1 h2 ha hs
theorem se_min1A (C : Cn X N sc fr) (h1 : ("min" : Str) ∈ fr) (h2 : glB sc "min" = true) (ha : SOp X g W a oa) (hs : starEach [a] X.env = (false, eval a X.env) :: starEach [] X.env) : SE X g W (.Call (.Name "min" p2) [a] [] pos) (mOp1 min1A oa) :=
  se_b1 C (id := "min") (cr_minA C.calm) (by decide +kernel) (by decide) (by decide) (fun F H x d1 d Q s r1 h k => hr_min1A s r1 h k) h1 h2 ha hs
end
end EV

/-! EvDD: zip of three, each a list or a tuple. -/
namespace EV
open PySem PySem.Spec PyProof.Rows L2
open PySem.Sem (wp)
theorem typeCall_zip_3 (a b c : Value) : checkTypeCall "zip" ⟨[a, b, c], []⟩ = pure () := by kernel_rfl
theorem newCall_zip_3 (a b c : Value) : checkBuiltinCall "zip.__new__" ⟨[.type "zip", a, b, c], []⟩ = pure () := by kernel_rfl
theorem args_object_init_4 (a b c d : Value) : argsOk "object.__init__" ⟨[a, b, c, d], []⟩ := by
  unfold argsOk; rw [signature?_of (id := "object.__init__") (n := ['_', '_', 't', 'i', 'n', 'i', '_', '_']) (o := ['t', 'c', 'e', 'j', 'b', 'o']) (by kernel_rfl) PySem.F.owner_object]; kernel_rfl
/-- an iterator over a list (true) or a tuple -/
def It2 (c : Bool) (h : Heap) (i l : Addr) (k : Nat) : Prop := match c with
  | true => h.IsListIter i l k
  | false => h.IsTupleIter i l k
def Sq2 (c : Bool) (h : Heap) (l : Addr) (xs : Array Value) : Prop := match c with
  | true => h.IsList l xs
  | false => h.IsTuple l xs
def itO (c : Bool) (l : Addr) : Obj := match c with
  | true => { cls := .type "list_iterator", data := .fields #[.ref l, .int 0 0] }
  | false => { cls := .type "tuple_iterator", data := .fields #[.ref l, .int 0 0] }
theorem itO_fr {c : Bool} {l : Addr} : (itO c l).isFreed = false := by cases c <;> rfl
theorem It2.extBut {c : Bool} {h h' : Heap} {a b l : Addr} {i : Nat} (x : It2 c h a l i) (hs : Heap.ExtBut b h h') (hab : a ≠ b) : It2 c h' a l i := by
  cases c
  · exact Heap.IsTupleIter.extBut x hs hab
  · exact Heap.IsListIter.extBut x hs hab
theorem It2.at {c : Bool} {h h' : Heap} {a l : Addr} {i : Nat} (x : It2 c h a l i) (e : ∀ o, h.get? a = some o → h'.get? a = some o) : It2 c h' a l i := by
  cases c
  · exact Heap.IsTupleIter.at x e
  · exact Heap.IsListIter.at x e
theorem It2.obj {c : Bool} {h : Heap} {a l : Addr} {i : Nat} (x : It2 c h a l i) : ∃ o, h.get? a = some o ∧ o.data = .fields #[.ref l, rawInt i] := by
  cases c
  · obtain ⟨o, e, _, d⟩ := x; exact ⟨o, e, d⟩
  · obtain ⟨o, e, _, d⟩ := x; exact ⟨o, e, d⟩
theorem Sq2.extBut {c : Bool} {h h' : Heap} {a b : Addr} {xs : Array Value} (x : Sq2 c h a xs) (hs : Heap.ExtBut b h h') (hab : a ≠ b) : Sq2 c h' a xs := by
  cases c
  · exact Heap.IsTuple.extBut x hs hab
  · exact Heap.IsList.extBut x hs hab
theorem Sq2.push {c : Bool} {h : Heap} {a : Addr} {xs : Array Value} (x : Sq2 c h a xs) (o : Obj) : Sq2 c (h.push o) a xs := by
  cases c
  · exact Heap.IsTuple.push x o
  · exact Heap.IsList.push x o
theorem Sq2.lt {c : Bool} {h : Heap} {a : Addr} {xs : Array Value} (x : Sq2 c h a xs) : a < h.objs.size := by
  cases c
  · obtain ⟨o, e, _⟩ := x; exact Heap.lt_size e
  · obtain ⟨o, e, _⟩ := x; exact Heap.lt_size e
theorem It2.new {c : Bool} {h : Heap} {a l : Addr} (e : h.get? a = some (itO c l)) : It2 c h a l 0 := by
  cases c
  · exact ⟨_, e, rfl, rfl⟩
  · exact ⟨_, e, rfl, rfl⟩
section
variable {prog : Program} {w : World} {A : Around} {E : Value → Shared → Prop} {s : Shared}
theorem next_any_item {c : Bool} {it l : Addr} {i : Nat} {items : Array Value} {x : Value} {Q : Value → Shared → Prop} (hit : It2 c s.heap it l i)
    (hl : Sq2 c s.heap l items) (hx : items[i]? = some x)
    (hQ : ∀ h', It2 c h' it l (i + 1) → Heap.SameBut it s.heap h' → Q x { s with heap := h' }) :
    wpAny (model prog w) A (Builtin.SmallTypes.nextOf (.ref it)) Q E s := by
  cases c
  · exact RZ.nextOf_tuple_item hit hl hx hQ
  · exact wpAny_nextOf_list_item hit hl hx hQ
theorem next_any_end {c : Bool} {it l : Addr} {i : Nat} {items : Array Value} {Q : Value → Shared → Prop} (hh : A.handled = none)
    (hit : It2 c s.heap it l i) (hl : Sq2 c s.heap l items) (hx : items[i]? = none)
    (hE : ∀ h' e, Heap.ExtBut it s.heap h' → (∃ o, h'.get? e = some o ∧ o.cls = .type "StopIteration") → E (.ref e) { s with heap := h' }) :
    wpAny (model prog w) A (Builtin.SmallTypes.nextOf (.ref it)) Q E s := by
  cases c
  · exact RZ.nextOf_tuple_end hh hit hl hx hE
  · exact wpAny_nextOf_list_end hh hit hl hx hE
theorem pyIter_any {c : Bool} {l : Addr} {items : Array Value} {Q : Value → Shared → Prop} (hl : Sq2 c s.heap l items)
    (hQ : Q (.ref s.heap.objs.size) { s with heap := s.heap.push (itO c l) }) :
    wpAny (model prog w) A (pyIter (.ref l)) Q E s := by
  cases c
  · exact wpAny_pyIter_tuple hl hQ
  · exact wpAny_pyIter_list hl hQ
end
abbrev IsTri (h : Heap) (T : Addr) (a b c : Value) : Prop := h.get? T = some { cls := .type "tuple", data := .seq #[a, b, c] }
structure Apart3 (z TI TO i1 i2 i3 l1 l2 l3 : Addr) : Prop where
  TIz : TI ≠ z
  TOz : TO ≠ z
  i1z : i1 ≠ z
  i2z : i2 ≠ z
  i3z : i3 ≠ z
  TITO : TI ≠ TO
  TIi1 : TI ≠ i1
  TIi2 : TI ≠ i2
  TIi3 : TI ≠ i3
  TOi1 : TO ≠ i1
  TOi2 : TO ≠ i2
  TOi3 : TO ≠ i3
  i12 : i1 ≠ i2
  i13 : i1 ≠ i3
  i23 : i2 ≠ i3
  l1z : l1 ≠ z
  l1TO : l1 ≠ TO
  l1i1 : l1 ≠ i1
  l1i2 : l1 ≠ i2
  l1i3 : l1 ≠ i3
  l2z : l2 ≠ z
  l2TO : l2 ≠ TO
  l2i1 : l2 ≠ i1
  l2i2 : l2 ≠ i2
  l2i3 : l2 ≠ i3
  l3z : l3 ≠ z
  l3TO : l3 ≠ TO
  l3i1 : l3 ≠ i1
  l3i2 : l3 ≠ i2
  l3i3 : l3 ≠ i3
theorem neNat {a b : Nat} (h : a ≠ b) : a ≠ b := h
theorem apart3_new (I l1 l2 l3 : Nat) (h1 : l1 < I) (h2 : l2 < I) (h3 : l3 < I) : Apart3 (I + 5) (I + 3) (I + 4) I (I + 1) (I + 2) l1 l2 l3 := by
  constructor <;> (refine neNat ?_; omega)
section
variable {prog : Program} {w : World} {A : Around} {E : Value → Shared → Prop} {s : Shared}
theorem wpAny_updateSeq_tri {T : Addr} {a b c x : Value} {k : Nat} {Q : Unit → Shared → Prop} (hT : IsTri s.heap T a b c)
    (h : ∀ h', h'.get? T = some { cls := .type "tuple", data := .seq ((#[a, b, c] : Array Value).setIfInBounds k x) } → Heap.SameBut T s.heap h' → Q () { s with heap := h' }) :
    wpAny (model prog w) A (updateSeq T (·.setIfInBounds k x)) Q E s := by
  refine wpAny_updateSeq hT rfl (h _ ?_ (Heap.SameBut.update ..))
  rw [Heap.get?_update_self _ hT rfl]
  simp [Obj.mapSeq]
theorem zip3_next_item {c1 c2 c3 : Bool} {z TI TO i1 i2 i3 l1 l2 l3 : Addr} {k1 k2 k3 : Nat} {xs ys zs : Array Value} {x y v a b c : Value} {Q : Value → Shared → Prop} (D : Apart3 z TI TO i1 i2 i3 l1 l2 l3)
    (hz : IsZip s.heap z TI TO .none) (hTI : IsTri s.heap TI (.ref i1) (.ref i2) (.ref i3)) (hTO : IsTri s.heap TO a b c)
    (h1 : It2 c1 s.heap i1 l1 k1) (h2 : It2 c2 s.heap i2 l2 k2) (h3 : It2 c3 s.heap i3 l3 k3) (hl1 : Sq2 c1 s.heap l1 xs) (hl2 : Sq2 c2 s.heap l2 ys) (hl3 : Sq2 c3 s.heap l3 zs) (hx : xs[k1]? = some x) (hy : ys[k2]? = some y) (hv : zs[k3]? = some v)
    (hQ : ∀ h', IsZip h' z TI TO (rawInt s.heap.objs.size) → IsTri h' TO x y v → It2 c1 h' i1 l1 (k1 + 1) → It2 c2 h' i2 l2 (k2 + 1) → It2 c3 h' i3 l3 (k3 + 1) → IsTri h' s.heap.objs.size x y v → h'.objs.size = s.heap.objs.size + 1 →
      (∀ c o, c ≠ z → c ≠ TO → c ≠ i1 → c ≠ i2 → c ≠ i3 → s.heap.get? c = some o → h'.get? c = some o) → Q (.ref s.heap.objs.size) { s with heap := h' }) :
    wpAny (model prog w) A (Builtin.«zip.__next__» ⟨[.ref z], []⟩) (fun fin s' => ∃ v, fin = .done (.ret v) ∧ Q v s') E s := by
  show wpAny _ _ (field (.ref z) 2 >>= _) _ _ _
  refine wpAny_bind (wpAny_field hz rfl (x := .bool false) rfl ?_)
  show wpAny _ _ (field (.ref z) 3 >>= _) _ _ _
  refine wpAny_bind (wpAny_field hz rfl (x := .ref TI) rfl ?_)
  refine wpAny_bind (wpAny_seqItems hTI rfl ?_)
  show wpAny _ _ (Builtin.SmallTypes.ownedTupleIsFree (.ref z) >>= _) _ _ _
  refine wpAny_bind ?_
  unfold Builtin.SmallTypes.ownedTupleIsFree
  refine wpAny_bind (wpAny_field hz rfl (x := .none) rfl (wpAny_pure ?_))
  simp only [if_true]
  refine wpAny_bind (wpAny_rule ?_)
  refine wpAny_bind (wpAny_field hz rfl (x := .ref TO) rfl ?_)
  refine wpAny_bind (wpAny_setField_rec hz (by simp) fun h₁ hz₁ hs₁ => ?_)
  replace hz₁ : IsZip h₁ z TI TO .ellipsis := hz₁
  refine wpAny_bind ?_
  simp only [List.zipIdx_cons, List.zipIdx_nil, List.forIn_cons, List.forIn_nil]

  refine wpAny_bind (wpAny_bind (wpAny_onRaise ?_))
  show wpAny _ _ (Builtin.SmallTypes.nextOf (.ref i1) >>= _) _ _ _
  refine wpAny_bind (next_any_item (h1.extBut hs₁.extBut D.i1z) (hl1.extBut hs₁.extBut D.l1z) hx fun h₂ h1₂ hs₂ => wpAny_pure ?_)
  have hTO₂ : IsTri h₂ TO a b c := hs₂.extBut _ _ D.TOi1 (hs₁.extBut _ _ D.TOz hTO)
  refine wpAny_bind (wpAny_seqItems hTO₂ rfl ?_)
  refine wpAny_bind (wpAny_updateSeq_tri hTO₂ fun h₃ hTO₃ hs₃ => ?_)
  replace hTO₃ : IsTri h₃ TO x b c := hTO₃
  refine wpAny_bind (wpAny_letGo (wpAny_pure ?_))

  refine wpAny_bind (wpAny_bind (wpAny_onRaise ?_))
  show wpAny _ _ (Builtin.SmallTypes.nextOf (.ref i2) >>= _) _ _ _
  refine wpAny_bind (next_any_item (((h2.extBut hs₁.extBut D.i2z).extBut hs₂.extBut D.i12.symm).extBut hs₃.extBut D.TOi2.symm)
    (((hl2.extBut hs₁.extBut D.l2z).extBut hs₂.extBut D.l2i1).extBut hs₃.extBut D.l2TO) hy fun h₄ h2₄ hs₄ => wpAny_pure ?_)
  have hTO₄ : IsTri h₄ TO x b c := hs₄.extBut _ _ D.TOi2 hTO₃
  refine wpAny_bind (wpAny_seqItems hTO₄ rfl ?_)
  refine wpAny_bind (wpAny_updateSeq_tri hTO₄ fun h₅ hTO₅ hs₅ => ?_)
  replace hTO₅ : IsTri h₅ TO x y c := hTO₅
  refine wpAny_bind (wpAny_letGo (wpAny_pure ?_))

  refine wpAny_bind (wpAny_bind (wpAny_onRaise ?_))
  show wpAny _ _ (Builtin.SmallTypes.nextOf (.ref i3) >>= _) _ _ _
  refine wpAny_bind (next_any_item (((((h3.extBut hs₁.extBut D.i3z).extBut hs₂.extBut D.i13.symm).extBut hs₃.extBut D.TOi3.symm).extBut hs₄.extBut D.i23.symm).extBut hs₅.extBut D.TOi3.symm)
    (((((hl3.extBut hs₁.extBut D.l3z).extBut hs₂.extBut D.l3i1).extBut hs₃.extBut D.l3TO).extBut hs₄.extBut D.l3i2).extBut hs₅.extBut D.l3TO) hv fun h₆ h3₆ hs₆ => wpAny_pure ?_)
  have hTO₆ : IsTri h₆ TO x y c := hs₆.extBut _ _ D.TOi3 hTO₅
  refine wpAny_bind (wpAny_seqItems hTO₆ rfl ?_)
  refine wpAny_bind (wpAny_updateSeq_tri hTO₆ fun h₇ hTO₇ hs₇ => ?_)
  replace hTO₇ : IsTri h₇ TO x y v := hTO₇
  refine wpAny_bind (wpAny_letGo (wpAny_pure (wpAny_pure ?_)))

  refine wpAny_bind (wpAny_seqItems hTO₇ rfl ?_)
  refine wpAny_bind (wpAny_newTuple ?_)
  have hsz : h₇.objs.size = s.heap.objs.size := by rw [hs₇.1, hs₆.1, hs₅.1, hs₄.1, hs₃.1, hs₂.1, hs₁.1]
  have hz₇ : IsZip h₇ z TI TO .ellipsis := hs₇.extBut _ _ D.TOz.symm (hs₆.extBut _ _ D.i3z.symm (hs₅.extBut _ _ D.TOz.symm (hs₄.extBut _ _ D.i2z.symm (hs₃.extBut _ _ D.TOz.symm (hs₂.extBut _ _ D.i1z.symm hz₁)))))
  have hk₇ : ∀ c o, c ≠ z → c ≠ TO → c ≠ i1 → c ≠ i2 → c ≠ i3 → s.heap.get? c = some o → h₇.get? c = some o := fun c o n1 n2 n3 n4 n5 e =>
    hs₇.extBut _ _ n2 (hs₆.extBut _ _ n5 (hs₅.extBut _ _ n2 (hs₄.extBut _ _ n4 (hs₃.extBut _ _ n2 (hs₂.extBut _ _ n3 (hs₁.extBut _ _ n1 e))))))
  have h1₇ : It2 c1 h₇ i1 l1 (k1 + 1) := ((((h1₂.extBut hs₃.extBut D.TOi1.symm).extBut hs₄.extBut D.i12).extBut hs₅.extBut D.TOi1.symm).extBut hs₆.extBut D.i13).extBut hs₇.extBut D.TOi1.symm
  have h2₇ : It2 c2 h₇ i2 l2 (k2 + 1) := ((h2₄.extBut hs₅.extBut D.TOi2.symm).extBut hs₆.extBut D.i23).extBut hs₇.extBut D.TOi2.symm
  have h3₇ : It2 c3 h₇ i3 l3 (k3 + 1) := h3₆.extBut hs₇.extBut D.TOi3.symm
  have hzlt : z < h₇.objs.size := Heap.lt_size hz₇
  show wpAny _ _ (Builtin.SmallTypes.ownedTupleHandOut (.ref z) (.ref h₇.objs.size) >>= _) _ _ _
  refine wpAny_bind ?_
  unfold Builtin.SmallTypes.ownedTupleHandOut
  have hz₈ : IsZip (h₇.push { cls := .type "tuple", data := .seq #[x, y, v] }) z TI TO .ellipsis := Heap.get?_push_of_some _ hz₇
  refine wpAny_bind (wpAny_setField_rec hz₈ (by simp) fun h₉ hz₉ hs₉ => ?_)
  replace hz₉ : IsZip h₉ z TI TO (rawInt h₇.objs.size) := hz₉
  refine wpAny_setField_rec hz₉ (by simp) fun ha hza hsa => ?_
  replace hza : IsZip ha z TI TO (rawInt h₇.objs.size) := hza
  have up : ∀ c o, c ≠ z → h₇.get? c = some o → ha.get? c = some o := fun c o n1 e => hsa.extBut _ _ n1 (hs₉.extBut _ _ n1 (Heap.get?_push_of_some _ e))
  have hTa : IsTri ha h₇.objs.size x y v := hsa.extBut _ _ (Nat.ne_of_gt hzlt) (hs₉.extBut _ _ (Nat.ne_of_gt hzlt) (Heap.get?_push_size _ rfl))
  have hza8 : ha.objs.size = h₇.objs.size + 1 := by rw [hsa.1, hs₉.1, Heap.size_push]
  rw [hsz] at hza hTa hza8
  refine wpAny_pure ⟨_, rfl, ?_⟩
  show Q (.ref h₇.objs.size) _
  rw [hsz]
  exact hQ ha hza (up _ _ D.TOz hTO₇) (h1₇.at fun o e => up _ o D.i1z e) (h2₇.at fun o e => up _ o D.i2z e) (h3₇.at fun o e => up _ o D.i3z e) hTa hza8 fun c o n1 n2 n3 n4 n5 e => up c o n1 (hk₇ c o n1 n2 n3 n4 n5 e)
theorem zip3_next_end {c1 c2 c3 : Bool} {z TI TO i1 i2 i3 l1 l2 l3 : Addr} {k1 k2 k3 : Nat} {xs ys zs : Array Value} {a b c : Value} {Q : Fin → Shared → Prop} (hh : A.handled = none) (D : Apart3 z TI TO i1 i2 i3 l1 l2 l3)
    (hz : IsZip s.heap z TI TO .none) (hTI : IsTri s.heap TI (.ref i1) (.ref i2) (.ref i3)) (hTO : IsTri s.heap TO a b c)
    (h1 : It2 c1 s.heap i1 l1 k1) (h2 : It2 c2 s.heap i2 l2 k2) (h3 : It2 c3 s.heap i3 l3 k3) (hl1 : Sq2 c1 s.heap l1 xs) (hl2 : Sq2 c2 s.heap l2 ys) (hl3 : Sq2 c3 s.heap l3 zs) (hend : xs[k1]? = none ∨ ys[k2]? = none ∨ zs[k3]? = none)
    (hE : ∀ h' e, (∀ c o, c ≠ z → c ≠ TO → c ≠ i1 → c ≠ i2 → c ≠ i3 → s.heap.get? c = some o → h'.get? c = some o) → (∃ o, h'.get? e = some o ∧ o.cls = .type "StopIteration") → E (.ref e) { s with heap := h' }) :
    wpAny (model prog w) A (Builtin.«zip.__next__» ⟨[.ref z], []⟩) Q E s := by
  show wpAny _ _ (field (.ref z) 2 >>= _) _ _ _
  refine wpAny_bind (wpAny_field hz rfl (x := .bool false) rfl ?_)
  show wpAny _ _ (field (.ref z) 3 >>= _) _ _ _
  refine wpAny_bind (wpAny_field hz rfl (x := .ref TI) rfl ?_)
  refine wpAny_bind (wpAny_seqItems hTI rfl ?_)
  show wpAny _ _ (Builtin.SmallTypes.ownedTupleIsFree (.ref z) >>= _) _ _ _
  refine wpAny_bind ?_
  unfold Builtin.SmallTypes.ownedTupleIsFree
  refine wpAny_bind (wpAny_field hz rfl (x := .none) rfl (wpAny_pure ?_))
  simp only [if_true]
  refine wpAny_bind (wpAny_rule ?_)
  refine wpAny_bind (wpAny_field hz rfl (x := .ref TO) rfl ?_)
  refine wpAny_bind (wpAny_setField_rec hz (by simp) fun h₁ hz₁ hs₁ => ?_)
  replace hz₁ : IsZip h₁ z TI TO .ellipsis := hz₁
  refine wpAny_bind ?_
  simp only [List.zipIdx_cons, List.zipIdx_nil, List.forIn_cons, List.forIn_nil]
  refine wpAny_bind (wpAny_bind (wpAny_onRaise ?_))
  show wpAny _ _ (Builtin.SmallTypes.nextOf (.ref i1) >>= _) _ _ _
  cases hx : xs[k1]? with
  | none =>
    refine wpAny_bind (next_any_end hh (h1.extBut hs₁.extBut D.i1z) (hl1.extBut hs₁.extBut D.l1z) hx fun h₂ e hs₂ he => ?_)
    obtain ⟨oe, hoe, hce⟩ := he
    have hz₂ : IsZip h₂ z TI TO .ellipsis := hs₂ _ _ D.i1z.symm hz₁
    have hez : e ≠ z := fun x => by subst x; rw [hz₂] at hoe; cases hoe; simp at hce
    refine wpAny_setField_rec hz₂ (by simp) fun h₃ _ hs₃ => hE h₃ e (fun c o n1 _ n3 _ _ x => hs₃.extBut _ _ n1 (hs₂ _ _ n3 (hs₁.extBut _ _ n1 x))) ⟨oe, hs₃.extBut _ _ hez hoe, hce⟩
  | some x =>
    refine wpAny_bind (next_any_item (h1.extBut hs₁.extBut D.i1z) (hl1.extBut hs₁.extBut D.l1z) hx fun h₂ h1₂ hs₂ => wpAny_pure ?_)
    have hTO₂ : IsTri h₂ TO a b c := hs₂.extBut _ _ D.TOi1 (hs₁.extBut _ _ D.TOz hTO)
    refine wpAny_bind (wpAny_seqItems hTO₂ rfl ?_)
    refine wpAny_bind (wpAny_updateSeq_tri hTO₂ fun h₃ hTO₃ hs₃ => ?_)
    replace hTO₃ : IsTri h₃ TO x b c := hTO₃
    refine wpAny_bind (wpAny_letGo (wpAny_pure ?_))
    refine wpAny_bind (wpAny_bind (wpAny_onRaise ?_))
    show wpAny _ _ (Builtin.SmallTypes.nextOf (.ref i2) >>= _) _ _ _
    cases hy : ys[k2]? with
    | none =>
      refine wpAny_bind (next_any_end hh (((h2.extBut hs₁.extBut D.i2z).extBut hs₂.extBut D.i12.symm).extBut hs₃.extBut D.TOi2.symm)
        (((hl2.extBut hs₁.extBut D.l2z).extBut hs₂.extBut D.l2i1).extBut hs₃.extBut D.l2TO) hy fun h₄ e hs₄ he => ?_)
      obtain ⟨oe, hoe, hce⟩ := he
      have hz₄ : IsZip h₄ z TI TO .ellipsis := hs₄ _ _ D.i2z.symm (hs₃.extBut _ _ D.TOz.symm (hs₂.extBut _ _ D.i1z.symm hz₁))
      have hez : e ≠ z := fun x => by subst x; rw [hz₄] at hoe; cases hoe; simp at hce
      refine wpAny_setField_rec hz₄ (by simp) fun h₅ _ hs₅ => hE h₅ e (fun c o n1 n2 n3 n4 _ x => hs₅.extBut _ _ n1 (hs₄ _ _ n4 (hs₃.extBut _ _ n2 (hs₂.extBut _ _ n3 (hs₁.extBut _ _ n1 x))))) ⟨oe, hs₅.extBut _ _ hez hoe, hce⟩
    | some y =>
      have hv : zs[k3]? = none := by
        rcases hend with h | h | h
        · rw [hx] at h; cases h
        · rw [hy] at h; cases h
        · exact h
      refine wpAny_bind (next_any_item (((h2.extBut hs₁.extBut D.i2z).extBut hs₂.extBut D.i12.symm).extBut hs₃.extBut D.TOi2.symm)
        (((hl2.extBut hs₁.extBut D.l2z).extBut hs₂.extBut D.l2i1).extBut hs₃.extBut D.l2TO) hy fun h₄ h2₄ hs₄ => wpAny_pure ?_)
      have hTO₄ : IsTri h₄ TO x b c := hs₄.extBut _ _ D.TOi2 hTO₃
      refine wpAny_bind (wpAny_seqItems hTO₄ rfl ?_)
      refine wpAny_bind (wpAny_updateSeq_tri hTO₄ fun h₅ hTO₅ hs₅ => ?_)
      refine wpAny_bind (wpAny_letGo (wpAny_pure ?_))
      refine wpAny_bind (wpAny_bind (wpAny_onRaise ?_))
      show wpAny _ _ (Builtin.SmallTypes.nextOf (.ref i3) >>= _) _ _ _
      refine wpAny_bind (next_any_end hh (((((h3.extBut hs₁.extBut D.i3z).extBut hs₂.extBut D.i13.symm).extBut hs₃.extBut D.TOi3.symm).extBut hs₄.extBut D.i23.symm).extBut hs₅.extBut D.TOi3.symm)
        (((((hl3.extBut hs₁.extBut D.l3z).extBut hs₂.extBut D.l3i1).extBut hs₃.extBut D.l3TO).extBut hs₄.extBut D.l3i2).extBut hs₅.extBut D.l3TO) hv fun h₆ e hs₆ he => ?_)
      obtain ⟨oe, hoe, hce⟩ := he
      have hz₆ : IsZip h₆ z TI TO .ellipsis := hs₆ _ _ D.i3z.symm (hs₅.extBut _ _ D.TOz.symm (hs₄.extBut _ _ D.i2z.symm (hs₃.extBut _ _ D.TOz.symm (hs₂.extBut _ _ D.i1z.symm hz₁))))
      have hez : e ≠ z := fun x => by subst x; rw [hz₆] at hoe; cases hoe; simp at hce
      refine wpAny_setField_rec hz₆ (by simp) fun h₇ _ hs₇ => hE h₇ e (fun c o n1 n2 n3 n4 n5 x => hs₇.extBut _ _ n1 (hs₆ _ _ n5 (hs₅.extBut _ _ n2 (hs₄.extBut _ _ n4 (hs₃.extBut _ _ n2 (hs₂.extBut _ _ n3 (hs₁.extBut _ _ n1 x))))))) ⟨oe, hs₇.extBut _ _ hez hoe, hce⟩
theorem pyNext_zip3_item {c1 c2 c3 : Bool} {z TI TO i1 i2 i3 l1 l2 l3 : Addr} {k1 k2 k3 : Nat} {xs ys zs : Array Value} {x y v a b c : Value} {Q : Option Value → Shared → Prop} (D : Apart3 z TI TO i1 i2 i3 l1 l2 l3)
    (hz : IsZip s.heap z TI TO .none) (hTI : IsTri s.heap TI (.ref i1) (.ref i2) (.ref i3)) (hTO : IsTri s.heap TO a b c)
    (h1 : It2 c1 s.heap i1 l1 k1) (h2 : It2 c2 s.heap i2 l2 k2) (h3 : It2 c3 s.heap i3 l3 k3) (hl1 : Sq2 c1 s.heap l1 xs) (hl2 : Sq2 c2 s.heap l2 ys) (hl3 : Sq2 c3 s.heap l3 zs) (hx : xs[k1]? = some x) (hy : ys[k2]? = some y) (hv : zs[k3]? = some v)
    (hQ : ∀ h', IsZip h' z TI TO (rawInt s.heap.objs.size) → IsTri h' TO x y v → It2 c1 h' i1 l1 (k1 + 1) → It2 c2 h' i2 l2 (k2 + 1) → It2 c3 h' i3 l3 (k3 + 1) → IsTri h' s.heap.objs.size x y v → h'.objs.size = s.heap.objs.size + 1 →
      (∀ c o, c ≠ z → c ≠ TO → c ≠ i1 → c ≠ i2 → c ≠ i3 → s.heap.get? c = some o → h'.get? c = some o) → Q (some (.ref s.heap.objs.size)) { s with heap := h' }) :
    wpAny (model prog w) A (pyNext (.ref z)) Q E s := by
  have hT : s.TypeIs (.ref z) "zip" := ⟨_, hz, rfl⟩
  unfold pyNext
  exact wpAny_bind (wpAny_attempt (wpAny_callSpecial?_slot (name := Str.ofString "__next__") hT PySem.F.slot_zip_next
    (wpAny_call_entry PySem.F.slot_zip_next hT PySem.F.entry_zip_next
      (zip3_next_item D hz hTI hTO h1 h2 h3 hl1 hl2 hl3 hx hy hv fun h' a1 a2 a3 a4 a5 a6 a7 a8 => wpAny_pure (hQ h' a1 a2 a3 a4 a5 a6 a7 a8)) (PySem.F.args_zip_next_1 _))))
theorem pyNext_zip3_end {c1 c2 c3 : Bool} {z TI TO i1 i2 i3 l1 l2 l3 : Addr} {k1 k2 k3 : Nat} {xs ys zs : Array Value} {a b c : Value} {Q : Option Value → Shared → Prop} (hh : A.handled = none) (D : Apart3 z TI TO i1 i2 i3 l1 l2 l3)
    (hz : IsZip s.heap z TI TO .none) (hTI : IsTri s.heap TI (.ref i1) (.ref i2) (.ref i3)) (hTO : IsTri s.heap TO a b c)
    (h1 : It2 c1 s.heap i1 l1 k1) (h2 : It2 c2 s.heap i2 l2 k2) (h3 : It2 c3 s.heap i3 l3 k3) (hl1 : Sq2 c1 s.heap l1 xs) (hl2 : Sq2 c2 s.heap l2 ys) (hl3 : Sq2 c3 s.heap l3 zs) (hend : xs[k1]? = none ∨ ys[k2]? = none ∨ zs[k3]? = none)
    (hQ : ∀ h', (∀ c o, c ≠ z → c ≠ TO → c ≠ i1 → c ≠ i2 → c ≠ i3 → s.heap.get? c = some o → h'.get? c = some o) → Q none { s with heap := h' }) : wpAny (model prog w) A (pyNext (.ref z)) Q E s := by
  have hT : s.TypeIs (.ref z) "zip" := ⟨_, hz, rfl⟩
  unfold pyNext
  refine wpAny_bind (wpAny_attempt (wpAny_callSpecial?_slot (name := Str.ofString "__next__") hT PySem.F.slot_zip_next
    (wpAny_call_entry PySem.F.slot_zip_next hT PySem.F.entry_zip_next (zip3_next_end hh D hz hTI hTO h1 h2 h3 hl1 hl2 hl3 hend fun h' e hk he => ?_) (PySem.F.args_zip_next_1 _))))
  obtain ⟨o, ho, hc⟩ := he
  refine wpAny_bind (wpAny_isInstance (T := "StopIteration") (b := true) ⟨o, ho, hc⟩ isSubtype_stop ?_)
  exact wpAny_pure (hQ _ hk)
end
abbrev z3H1 (c1 : Bool) (h : Heap) (l1 : Addr) : Heap := h.push (itO c1 l1)
abbrev z3H2 (c1 c2 : Bool) (h : Heap) (l1 l2 : Addr) : Heap := (z3H1 c1 h l1).push (itO c2 l2)
abbrev z3H3 (c1 c2 c3 : Bool) (h : Heap) (l1 l2 l3 : Addr) : Heap := (z3H2 c1 c2 h l1 l2).push (itO c3 l3)
abbrev z3H4 (c1 c2 c3 : Bool) (h : Heap) (l1 l2 l3 : Addr) : Heap := (z3H3 c1 c2 c3 h l1 l2 l3).push { cls := .type "tuple", data := .seq #[.ref h.objs.size, .ref (z3H1 c1 h l1).objs.size, .ref (z3H2 c1 c2 h l1 l2).objs.size] }
abbrev z3H5 (c1 c2 c3 : Bool) (h : Heap) (l1 l2 l3 : Addr) : Heap := (z3H4 c1 c2 c3 h l1 l2 l3).push { cls := .type "tuple", data := .seq #[.none, .none, .none] }
abbrev z3H6 (c1 c2 c3 : Bool) (h : Heap) (l1 l2 l3 : Addr) : Heap := (z3H5 c1 c2 c3 h l1 l2 l3).push { cls := .type "zip", data := .fields #[.none, .bool false, .bool false, .ref (z3H3 c1 c2 c3 h l1 l2 l3).objs.size, .ref (z3H4 c1 c2 c3 h l1 l2 l3).objs.size] }
theorem meets_zip3_new (c1 c2 c3 : Bool) (l1 l2 l3 : Addr) (xs ys zs : Array Value) :
    Meets (Builtin.«zip.__new__» ⟨[.type "zip", .ref l1, .ref l2, .ref l3], []⟩) (fun _ R s => Sq2 c1 s.heap l1 xs ∧ Sq2 c2 s.heap l2 ys ∧ Sq2 c3 s.heap l3 zs ∧
      R (.ok (.ret (.ref (z3H5 c1 c2 c3 s.heap l1 l2 l3).objs.size))) { s with heap := z3H6 c1 c2 c3 s.heap l1 l2 l3 }) :=
  .of_wp fun prog w A R s h => by
    obtain ⟨hp, g, d, tk, os⟩ := s; obtain ⟨hl1, hl2, hl3, h⟩ := h
    have hsub := sub_zip
    have hL1 : Sq2 c1 (Shared.heap ⟨hp, g, d, tk, os⟩) l1 xs := hl1
    have hL2 : Sq2 c2 (Shared.heap ⟨z3H1 c1 hp l1, g, d, tk, os⟩) l2 ys := Sq2.push hl2 _
    have hL3 : Sq2 c3 (Shared.heap ⟨z3H2 c1 c2 hp l1 l2, g, d, tk, os⟩) l3 zs := Sq2.push (Sq2.push hl3 _) _
    wp_walk using pyIter_any hL1, pyIter_any hL2, pyIter_any hL3
    exact ⟨_, rfl, h⟩
section
variable {prog : Program} {w : World} {A : Around} {E : Value → Shared → Prop} {s : Shared}
theorem call_zip3 {c1 c2 c3 : Bool} {l1 l2 l3 : Addr} {xs ys zs : Array Value} {Q : Value → Shared → Prop} (hl1 : Sq2 c1 s.heap l1 xs) (hl2 : Sq2 c2 s.heap l2 ys) (hl3 : Sq2 c3 s.heap l3 zs)
    (h : ∀ h', IsZip h' (s.heap.objs.size + 5) (s.heap.objs.size + 3) (s.heap.objs.size + 4) .none → IsTri h' (s.heap.objs.size + 3) (.ref s.heap.objs.size) (.ref (s.heap.objs.size + 1)) (.ref (s.heap.objs.size + 2)) →
      IsTri h' (s.heap.objs.size + 4) .none .none .none → It2 c1 h' s.heap.objs.size l1 0 → It2 c2 h' (s.heap.objs.size + 1) l2 0 → It2 c3 h' (s.heap.objs.size + 2) l3 0 → h'.objs.size = s.heap.objs.size + 6 →
      (∀ c o, s.heap.get? c = some o → h'.get? c = some o) → Q (.ref (s.heap.objs.size + 5)) { s with heap := h' }) :
    wpAny (model prog w) A (call (.type "zip") [.ref l1, .ref l2, .ref l3]) Q E s := by
  refine callType_new PySem.F.called_zip (by decide) (typeCall_zip_3 _ _ _) (newCall_zip_3 _ _ _) (fun obj => args_object_init_4 obj _ _ _) PySem.F.entry_zip_new
    (meets_zip3_new c1 c2 c3 l1 l2 l3 xs ys zs) ⟨hl1, hl2, hl3, ?_⟩
  have z1 : (z3H1 c1 s.heap l1).objs.size = s.heap.objs.size + 1 := Heap.size_push ..
  have z2 : (z3H2 c1 c2 s.heap l1 l2).objs.size = s.heap.objs.size + 2 := by rw [Heap.size_push, z1]
  have z3 : (z3H3 c1 c2 c3 s.heap l1 l2 l3).objs.size = s.heap.objs.size + 3 := by rw [Heap.size_push, z2]
  have z4 : (z3H4 c1 c2 c3 s.heap l1 l2 l3).objs.size = s.heap.objs.size + 4 := by rw [Heap.size_push, z3]
  have z5 : (z3H5 c1 c2 c3 s.heap l1 l2 l3).objs.size = s.heap.objs.size + 5 := by rw [Heap.size_push, z4]
  have z6 : (z3H6 c1 c2 c3 s.heap l1 l2 l3).objs.size = s.heap.objs.size + 6 := by rw [Heap.size_push, z5]
  have g6 : (z3H6 c1 c2 c3 s.heap l1 l2 l3).get? (z3H5 c1 c2 c3 s.heap l1 l2 l3).objs.size = some _ := Heap.get?_push_size _ rfl
  have g5 : (z3H6 c1 c2 c3 s.heap l1 l2 l3).get? (z3H4 c1 c2 c3 s.heap l1 l2 l3).objs.size = some _ := Heap.get?_push_of_some _ (Heap.get?_push_size _ rfl)
  have g4 : (z3H6 c1 c2 c3 s.heap l1 l2 l3).get? (z3H3 c1 c2 c3 s.heap l1 l2 l3).objs.size = some _ := Heap.get?_push_of_some _ (Heap.get?_push_of_some _ (Heap.get?_push_size _ rfl))
  have g3 : (z3H6 c1 c2 c3 s.heap l1 l2 l3).get? (z3H2 c1 c2 s.heap l1 l2).objs.size = some _ := Heap.get?_push_of_some _ (Heap.get?_push_of_some _ (Heap.get?_push_of_some _ (Heap.get?_push_size _ itO_fr)))
  have g2 : (z3H6 c1 c2 c3 s.heap l1 l2 l3).get? (z3H1 c1 s.heap l1).objs.size = some _ := Heap.get?_push_of_some _ (Heap.get?_push_of_some _ (Heap.get?_push_of_some _ (Heap.get?_push_of_some _ (Heap.get?_push_size _ itO_fr))))
  have g1 : (z3H6 c1 c2 c3 s.heap l1 l2 l3).get? s.heap.objs.size = some _ := Heap.get?_push_of_some _ (Heap.get?_push_of_some _ (Heap.get?_push_of_some _ (Heap.get?_push_of_some _ (Heap.get?_push_of_some _ (Heap.get?_push_size _ itO_fr)))))
  show _ ∧ _
  rw [z3, z4, z5] at g6
  rw [z1, z2, z3] at g4
  rw [z4] at g5
  rw [z2] at g3
  rw [z1] at g2
  rw [z5]
  exact ⟨⟨_, g6, rfl⟩, h _ g6 g4 g5 (It2.new g1) (It2.new g2) (It2.new g3) z6 fun c o x =>
    Heap.get?_push_of_some _ (Heap.get?_push_of_some _ (Heap.get?_push_of_some _ (Heap.get?_push_of_some _ (Heap.get?_push_of_some _ (Heap.get?_push_of_some _ x)))))⟩
end
end EV

/-! EvEE: loops over zip of three. -/
namespace EV
open PySem PySem.Spec PyProof.Rows L2
/-- a list (true) or a tuple of the model's heap -/
def SqA (c : Bool) (K : PySem.W.Frag) (H : Hp) (a : Addr) (xs : List V) : Prop := match c with
  | true => SqL K H a xs
  | false => SqT K H a xs
theorem inv_sq {X : Cx} {pins : List (Addr × Obj)} {σ : L2.St} {H : Hp} {s : Shared} {c : Bool} {a : Addr} {xs : List V} (I : Inv X pins σ H s) (h : SqA c X.K H a xs) : ∃ its, Vals xs its ∧ Sq2 c s.heap a its.toArray := by
  cases c
  · obtain ⟨its, rv, p, _⟩ := I.tuple h; exact ⟨its, rv, p⟩
  · obtain ⟨its, rv, p, _⟩ := I.list h; exact ⟨its, rv, p.isList⟩
theorem sq_inj {X : Cx} {pins : List (Addr × Obj)} {σ : L2.St} {H : Hp} {s : Shared} {c : Bool} {a : Addr} {xs ys : List V} (I : Inv X pins σ H s) (h : SqA c X.K H a xs) (h2 : SqA c X.K H a ys) : xs = ys := by
  cases c
  · exact I.tuple_inj h h2
  · exact I.list_inj h h2
/-- three tuples as they stand at each turn, the items in new triples -/
def Itz3 (c1 c2 c3 : Bool) (K : PySem.W.Frag) (a b c : Addr) : It :=
  ⟨fun i H => ∃ (xs ys zs : List V) (x y z : V), SqA c1 K H a xs ∧ SqA c2 K H b ys ∧ SqA c3 K H c zs ∧ xs[i]? = some x ∧ ys[i]? = some y ∧ zs[i]? = some z,
    fun i H v H' => ∃ T x y z, v = .ref T ∧ H T = none ∧ H' = upd H T (.tup [x, y, z]) ∧ (∀ xs, SqA c1 K H a xs → xs[i]? = some x) ∧ (∀ ys, SqA c2 K H b ys → ys[i]? = some y) ∧ ∀ zs, SqA c3 K H c zs → zs[i]? = some z,
    fun i H => ∃ xs ys zs : List V, SqA c1 K H a xs ∧ SqA c2 K H b ys ∧ SqA c3 K H c zs ∧ (xs.length ≤ i ∨ ys.length ≤ i ∨ zs.length ≤ i)⟩
theorem turn_zip3 {c1 c2 c3 : Bool} {P : Program} {w : World} {K : PySem.W.Frag} {elts : List Expr} {kk : Nat} {tpos : Pos} {a b c z TI TO i1 i2 i3 : Addr} (D : Apart3 z TI TO i1 i2 i3 a b c) :
    Turn P w K (.Tuple elts kk tpos) (Itz3 c1 c2 c3 K a b c) [z, TI, TO, i1, i2, i3] z (fun i h => IsZip h z TI TO .none ∧ IsTri h TI (.ref i1) (.ref i2) (.ref i3) ∧ (∃ x y v, IsTri h TO x y v) ∧ It2 c1 h i1 a i ∧ It2 c2 h i2 b i ∧ It2 c3 h i3 c i) where
  mem := by simp
  obj := fun i h st q hc => by
    obtain ⟨hz, hTI, ⟨x, y, v, hTO⟩, hi1, hi2, hi3⟩ := st
    obtain ⟨o1, e1, d1⟩ := hi1.obj
    obtain ⟨o2, e2, d2⟩ := hi2.obj
    obtain ⟨o3, e3, d3⟩ := hi3.obj
    have e' : q = z ∨ q = TI ∨ q = TO ∨ q = i1 ∨ q = i2 ∨ q = i3 := by simpa using hc
    rcases e' with q | q | q | q | q | q
    · rw [q]; exact ⟨_, hz, fun v q => nomatch q⟩
    · rw [q]; exact ⟨_, hTI, fun v q => nomatch q⟩
    · rw [q]; exact ⟨_, hTO, fun v q => nomatch q⟩
    · rw [q]; exact ⟨o1, e1, fun v q => by rw [d1] at q; cases q⟩
    · rw [q]; exact ⟨o2, e2, fun v q => by rw [d2] at q; cases q⟩
    · rw [q]; exact ⟨o3, e3, fun v q => by rw [d3] at q; cases q⟩
  keep := fun i h h' st k => by
    obtain ⟨hz, hTI, ⟨x, y, v, hTO⟩, h1, h2, h3⟩ := st
    exact ⟨k z (by simp) _ hz, k TI (by simp) _ hTI, ⟨x, y, v, k TO (by simp) _ hTO⟩, h1.at fun o q => k i1 (by simp) o q, h2.at fun o q => k i2 (by simp) o q, h3.at fun o q => k i3 (by simp) o q⟩
  item := by
    intro X hP hw hK hc i pins s σ H E I hf st hg
    subst hP hw hK
    obtain ⟨hz, hTI, ⟨x0, y0, v0, hTO⟩, h1, h2, h3⟩ := st
    obtain ⟨xs, ys, zs, x, y, v, hqx, hqy, hqv, hx, hy, hv⟩ := hg
    obtain ⟨its, rv, p⟩ := inv_sq I hqx
    obtain ⟨its2, rv2, p2⟩ := inv_sq I hqy
    obtain ⟨its3, rv3, p3⟩ := inv_sq I hqv
    obtain ⟨u, hu, ru⟩ := rv.get hx
    obtain ⟨u2, hu2, ru2⟩ := rv2.get hy
    obtain ⟨u3, hu3, ru3⟩ := rv3.get hv
    have hzl : z < s.heap.objs.size := Heap.lt_size hz
    refine pyNext_zip3_item D hz hTI hTO h1 h2 h3 p p2 p3 (x := u) (y := u2) (v := u3) (by simpa using hu) (by simpa using hu2) (by simpa using hu3) fun h' z' TO' h1' h2' h3' hT hsz hk => ?_
    refine ⟨_, rfl, wpAny_letOwnedTupleGo_zip (s := { s with heap := h' }) z' fun h'' z'' sb => ?_⟩
    have hT2 : h''.get? s.heap.objs.size = some { cls := .type "tuple", data := .seq #[u, u2, u3] } := (sb.2 _ (Nat.ne_of_gt hzl)).trans hT
    have new : ObjOk X.prog X.w (upd H s.heap.objs.size (.tup [x, y, v])) h'' s.heap.objs.size (.tup [x, y, v]) :=
      ⟨by show 3 ≤ sizeLine; decide, [u, u2, u3], .cons ru (.cons ru2 (.cons ru3 .nil)), ⟨_, hT2, rfl, _, rfl⟩⟩
    have I1 : Inv X pins σ (upd H s.heap.objs.size (.tup [x, y, v])) { s with heap := h'' } :=
      I.turnedNew (t' := s.toks) (ch := [z, TI, TO, i1, i2, i3]) (fun c o hb q => (sb.2 c (fun q' => hb (by simp [q']))).trans (hk c o (fun q' => hb (by simp [q'])) (fun q' => hb (by simp [q'])) (fun q' => hb (by simp [q'])) (fun q' => hb (by simp [q'])) (fun q' => hb (by simp [q'])) q)) hf (Nat.le_refl _) new
    refine ⟨.ref s.heap.objs.size, _, I1, rfl, ⟨_, x, y, v, rfl, I.hok.fresh (Nat.le_refl _), rfl, fun l hl => by rw [sq_inj I hl hqx]; exact hx, fun l hl => by rw [sq_inj I hl hqy]; exact hy, fun l hl => by rw [sq_inj I hl hqv]; exact hv⟩, ⟨z'', ?_, ⟨u, u2, u3, ?_⟩, ?_, ?_, ?_⟩, fun c hcm => ?_⟩
    · exact (sb.2 _ D.TIz).trans (hk _ _ D.TIz D.TITO D.TIi1 D.TIi2 D.TIi3 hTI)
    · exact (sb.2 _ D.TOz).trans TO'
    · exact h1'.at fun o q => (sb.2 _ D.i1z).trans q
    · exact h2'.at fun o q => (sb.2 _ D.i2z).trans q
    · exact h3'.at fun o q => (sb.2 _ D.i3z).trans q
    · have hlt : c < s.heap.objs.size := by
        have e' : c = z ∨ c = TI ∨ c = TO ∨ c = i1 ∨ c = i2 ∨ c = i3 := by simpa using hcm
        rcases e' with q | q | q | q | q | q
        · rw [q]; exact hzl
        · rw [q]; exact Heap.lt_size hTI
        · rw [q]; exact Heap.lt_size hTO
        · rw [q]; obtain ⟨_, e1, _⟩ := h1.obj; exact Heap.lt_size e1
        · rw [q]; obtain ⟨_, e2, _⟩ := h2.obj; exact Heap.lt_size e2
        · rw [q]; obtain ⟨_, e3, _⟩ := h3.obj; exact Heap.lt_size e3
      rw [upd_ne (Nat.ne_of_lt hlt)]
      exact (hf c hcm).1
  done := by
    intro X hP hw hK hc i pins s σ H E I hf st hg
    subst hP hw hK
    obtain ⟨hz, hTI, ⟨x0, y0, v0, hTO⟩, h1, h2, h3⟩ := st
    obtain ⟨xs, ys, zs, hqx, hqy, hqv, hend⟩ := hg
    obtain ⟨its, rv, p⟩ := inv_sq I hqx
    obtain ⟨its2, rv2, p2⟩ := inv_sq I hqy
    obtain ⟨its3, rv3, p3⟩ := inv_sq I hqv
    have l1 := rv.length
    have l2 := rv2.length
    have l3 := rv3.length
    have he : its.toArray[i]? = none ∨ its2.toArray[i]? = none ∨ its3.toArray[i]? = none := by
      rcases hend with q | q | q
      · exact .inl (by simp; omega)
      · exact .inr (.inl (by simp; omega))
      · exact .inr (.inr (by simp; omega))
    exact pyNext_zip3_end (I.ok.hd hc) D hz hTI hTO h1 h2 h3 p p2 p3 he fun h' hk => ⟨rfl, I.turnedL (t' := s.toks) (ch := [z, TI, TO, i1, i2, i3]) (fun c o hb q =>
      hk c o (fun q' => hb (by simp [q'])) (fun q' => hb (by simp [q'])) (fun q' => hb (by simp [q'])) (fun q' => hb (by simp [q'])) (fun q' => hb (by simp [q'])) q) hf⟩
  self := fun A i s Q E st h => wpAny_pyIter_zip st.1 h
def iZip3 (K : PySem.W.Frag) (ta : TA) : TI := fun σ H R => ta σ H fun vs H1 => ∃ (c1 c2 c3 : Bool) (a b c : Addr) (xs ys zs : List V), vs = [.ref a, .ref b, .ref c] ∧ SqA c1 K H1 a xs ∧ SqA c2 K H1 b ys ∧ SqA c3 K H1 c zs ∧ R (Itz3 c1 c2 c3 K a b c) H1
theorem pi_zip3 {X : Cx} {e e2 e3 : Expr} {ta : TA} {p pos tpos : Pos} {elts : List Expr} {kk : Nat} (hg : Gl X "zip") (hm : X.mg "zip" = none) (ha : PA X [e, e2, e3] ta)
    (hs : starEach [e, e2, e3] X.env = (false, eval e X.env) :: starEach [e2, e3] X.env := by rfl) (hpl : (backTo pos (starEach [e2, e3] X.env)).any (·.1) = false := by rfl) :
    PI X (.Tuple elts kk tpos) (.Call (.Name "zip" p) [e, e2, e3] [] pos) (iZip3 X.K ta) := by
  refine ⟨fun pins s σ H R I h => ?_⟩
  refine Call_ (ld_blt I hg hm PyProof.Rows.boot_zip (PyProof.Rows.callWith_type1 (thn (ha.run pos pins s σ H _ I h) fun us s1 ⟨vs, H1, I1, r1, q1⟩ => ?_) hs hpl))
  obtain ⟨c1, c2, c3, a, b, c, xs, ys, zs, ex, hqx, hqy, hqz, q⟩ := q1
  subst ex
  cases r1 with
  | cons r rr =>
    cases rr with
    | cons r' rr =>
      cases rr with
      | cons r'' rr =>
        cases rr
        cases r
        cases r'
        cases r''
        have fresh6 : ∀ c, c ∈ [s1.heap.objs.size + 5, s1.heap.objs.size + 3, s1.heap.objs.size + 4, s1.heap.objs.size, s1.heap.objs.size + 1, s1.heap.objs.size + 2] → FpOk X pins H1 c := fun c hcm => by
          have e' : c = s1.heap.objs.size + 5 ∨ c = s1.heap.objs.size + 3 ∨ c = s1.heap.objs.size + 4 ∨ c = s1.heap.objs.size ∨ c = s1.heap.objs.size + 1 ∨ c = s1.heap.objs.size + 2 := by simpa using hcm
          have hle : s1.heap.objs.size ≤ c := by
            rcases e' with z | z | z | z | z | z
            · rw [z]; exact Nat.le_add_right _ _
            · rw [z]; exact Nat.le_add_right _ _
            · rw [z]; exact Nat.le_add_right _ _
            · rw [z]; exact Nat.le_refl _
            · rw [z]; exact Nat.le_add_right _ _
            · rw [z]; exact Nat.le_add_right _ _
          exact I1.fpOk hle (I1.hok.fresh hle)
        obtain ⟨its, rv, p1⟩ := inv_sq I1 hqx
        obtain ⟨its2, rv2, p2⟩ := inv_sq I1 hqy
        obtain ⟨its3, rv3, p3⟩ := inv_sq I1 hqz
        refine call_zip3 p1 p2 p3 fun h' hz hTI hTO h1 h2 h3 hsz hk => wpAny_pyIter_zip hz ?_
        have I2 : Inv X pins σ H1 { s1 with heap := h' } := I1.kept (t' := s1.toks) hk
        exact ⟨s1.heap.objs.size + 5, [s1.heap.objs.size + 5, s1.heap.objs.size + 3, s1.heap.objs.size + 4, s1.heap.objs.size, s1.heap.objs.size + 1, s1.heap.objs.size + 2], _, _, H1, rfl, I2, turn_zip3 (apart3_new s1.heap.objs.size a b c p1.lt p2.lt p3.lt), ⟨hz, hTI, ⟨_, _, _, hTO⟩, h1, h2, h3⟩, fresh6, q⟩
section
variable {X : Cx} {N : List Str} {sc : Scope} {fr : List Str} {g : GF} {G : GI} {W : WX} {L : List Nat} {a b c : Expr} {pos p2 : Pos} {m n o : ME} {F H : Hp}
def zip3L : List D → List D → List D → List D
  | x :: xs, y :: ys, z :: zs => .tup [x, y, z] :: zip3L xs ys zs
  | _, _, _ => []
def sqD : D → Option (Bool × List D)
  | .tup xs => some (false, xs)
  | .lst _ xs => some (true, xs)
  | _ => none
def zip3D (a b c : D) : Option (List D) := match sqD a, sqD b, sqD c with
  | some (_, xs), some (_, ys), some (_, zs) => some (zip3L xs ys zs)
  | _, _, _ => none
theorem sqD_inv {x : V} {d : D} {c : Bool} {xs : List D} (r : RO G F H [] x d) (h : sqD d = some (c, xs)) : ∃ A vs, x = .ref A ∧ F A = some (if c = true then .lst vs else .tup vs) ∧ ROs G F H [] vs xs := by
  cases d with
  | tup ys =>
    injection h with h; injection h with h1 h2; subst h1 h2
    obtain ⟨A, vs, rfl, ha, ra⟩ := r.tup_inv
    exact ⟨A, vs, rfl, ha, ra⟩
  | lst o ys =>
    injection h with h; injection h with h1 h2; subst h1 h2
    obtain ⟨_, A, vs, rfl, ha, ra⟩ := r.lst_inv
    exact ⟨A, vs, rfl, ha, ra⟩
  | _ => cases h
theorem sqA_of {c : Bool} {K : PySem.W.Frag} {A : Addr} {vs : List V} (h : H A = some (if c = true then .lst vs else .tup vs)) : SqA c K H A vs := by
  cases c
  · exact SqT.of h
  · exact SqL.of h
def mZip3 (m n o : ME) : MI := fun e => match m e with
  | .ok d1 e1 => match n e1 with
    | .ok d2 e2 => match o e2 with
      | .ok d3 e3 => match zip3D (frz d1) (frz d2) (frz d3) with
        | some ds => .ok ds none e3
        | none => .no
      | .ex c d e3 => .ex c d e3
      | .no => .no
    | .ex c d e2 => .ex c d e2
    | .no => .no
  | .ex c d e1 => .ex c d e1
  | .no => .no
theorem zip3_get : ∀ {xs ys zs : List D} {k : Nat} {d : D}, (zip3L xs ys zs)[k]? = some d → ∃ x y z, xs[k]? = some x ∧ ys[k]? = some y ∧ zs[k]? = some z ∧ d = .tup [x, y, z]
  | x :: xs, y :: ys, z :: zs, 0, d, h => by injection h with h; exact ⟨x, y, z, rfl, rfl, rfl, h.symm⟩
  | x :: xs, y :: ys, z :: zs, k + 1, d, h => zip3_get (xs := xs) (ys := ys) (zs := zs) (k := k) h
  | [], _, _, _, _, h => by simp [zip3L] at h
  | _ :: _, [], _, _, _, h => by simp [zip3L] at h
  | _ :: _, _ :: _, [], _, _, h => by simp [zip3L] at h
theorem zip3_end : ∀ (xs ys zs : List D), xs.length ≤ (zip3L xs ys zs).length ∨ ys.length ≤ (zip3L xs ys zs).length ∨ zs.length ≤ (zip3L xs ys zs).length
  | x :: xs, y :: ys, z :: zs => by
    have := zip3_end xs ys zs
    simp only [zip3L, List.length_cons]
    omega
  | [], _, _ => .inl (by simp)
  | _ :: _, [], _ => .inr (.inl (by simp))
  | _ :: _, _ :: _, [] => .inr (.inr (by simp))
theorem tri_new {T : Addr} {x y z : V} {dx dy dz : D} (sb : Sb F H) (hT : H T = none) (rx : RO G F H [] x dx) (ry : RO G F H [] y dy) (rz : RO G F H [] z dz) :
    ∃ F', (∀ a o, F a = some o → F' a = some o) ∧ (∀ a o, H a = some o → upd H T (.tup [x, y, z]) a = some o) ∧ Sb F' (upd H T (.tup [x, y, z])) ∧ (∀ a o, F' a = some o → F a = some o ∨ H a = none) ∧ RO G F' (upd H T (.tup [x, y, z])) [] (.ref T) (.tup [dx, dy, dz]) := by
  have fT : F T = none := by
    cases q : F T with
    | none => rfl
    | some o => rw [sb T o q] at hT; cases hT
  refine ⟨upd F T (.tup [x, y, z]), upd_le fT, upd_le hT, fun b u z => ?_, fun b u z => ?_, .tup upd_same ?_⟩
  · by_cases e : b = T
    · subst e; rw [upd_same] at z ⊢; exact z
    · rw [upd_ne e] at z ⊢; exact sb b u z
  · by_cases e : b = T
    · subst e; exact .inr hT
    · rw [upd_ne e] at z; exact .inl z
  · exact ROs.consZ (rx.mono (upd_le fT) fun a z => nomatch z) (ROs.consZ (ry.mono (upd_le fT) fun a z => nomatch z) (ROs.consZ (rz.mono (upd_le fT) fun a z => nomatch z) .nil))
theorem itok_zip3 {c1 c2 c3 : Bool} {K : PySem.W.Frag} {A B C : Addr} {P : List Addr} {H0 : Hp} {vs ws us : List V} {xs ys zs : List D} (h1 : F A = some (if c1 = true then .lst vs else .tup vs)) (h2 : F B = some (if c2 = true then .lst ws else .tup ws)) (h3 : F C = some (if c3 = true then .lst us else .tup us)) (r1 : ROs G F H [] vs xs) (r2 : ROs G F H [] ws ys) (r3 : ROs G F H [] us zs) : ItOk G (Itz3 c1 c2 c3 K A B C) F P H0 (zip3L xs ys zs) where
  go := fun F' H' k d q1 _ q2 q3 => by
    obtain ⟨x, y, z, e1, e2, e3, rfl⟩ := zip3_get q3
    obtain ⟨u, hu, ru⟩ := r1.get e1
    obtain ⟨w, hw, rw'⟩ := r2.get e2
    obtain ⟨v, hv, rv⟩ := r3.get e3
    refine ⟨⟨vs, ws, us, u, w, v, sqA_of (q2 _ _ (q1 _ _ h1)), sqA_of (q2 _ _ (q1 _ _ h2)), sqA_of (q2 _ _ (q1 _ _ h3)), hu, hw, hv⟩, fun v' H2 yl => ?_⟩
    obtain ⟨T, x', y', z', rfl, hT, rfl, f1, f2, f3⟩ := yl
    have g1 := f1 vs (sqA_of (q2 _ _ (q1 _ _ h1)))
    have g2 := f2 ws (sqA_of (q2 _ _ (q1 _ _ h2)))
    have g3 := f3 us (sqA_of (q2 _ _ (q1 _ _ h3)))
    rw [hu] at g1; rw [hw] at g2; rw [hv] at g3
    cases g1; cases g2; cases g3
    exact tri_new q2 hT (ru.monoZ q1) (rw'.monoZ q1) (rv.monoZ q1)
  stop := fun F' H' q1 _ q2 => ⟨vs, ws, us, sqA_of (q2 _ _ (q1 _ _ h1)), sqA_of (q2 _ _ (q1 _ _ h2)), sqA_of (q2 _ _ (q1 _ _ h3)), by
    rw [r1.length, r2.length, r3.length]; exact zip3_end xs ys zs⟩
theorem si_zip3 {elts : List Expr} {kk : Nat} {tpos : Pos} (C : Cn X N sc fr) (h1 : ("zip" : Str) ∈ fr) (h2 : glB sc "zip" = true) (ha : SE X g W a m) (hb : SE X g W b n) (hc : SE X g W c o) (hs : starEach [a, b, c] X.env = (false, eval a X.env) :: starEach [b, c] X.env) (hs2 : starEach [b, c] X.env = (false, eval b X.env) :: starEach [c] X.env) (hs3 : starEach [c] X.env = (false, eval c X.env) :: starEach [] X.env) (hpl : (backTo pos (starEach [b, c] X.env)).any (·.1) = false) :
    SI X g W (.Tuple elts kk tpos) (.Call (.Name "zip" p2) [a, b, c] [] pos) (mZip3 m n o) := PI.imp (pi_zip3 (gl_ok C h2) (C.hfr _ h1) (pa_cons ha.z (pa_cons hb.z (pa_cons hc.z pa_nil hs3) hs2) hs) hs hpl) fun σ H R ⟨F, fp, e, s, h⟩ => by
  refine ⟨F, fp, e, s, ?_⟩
  unfold mZip3 at h
  cases q : m e with
  | ex c d e1 => rw [q] at h; exact h
  | no => rw [q] at h; exact h
  | ok d1 e1 =>
    rw [q] at h
    intro x F1 H1 fp1 s1 r1 tr1
    refine ⟨F1, fp1, e1, s1, ?_⟩
    simp only at h
    cases q1 : n e1 with
    | ex c d e2 => rw [q1] at h; exact XOut.trans h tr1
    | no => rw [q1] at h; exact h
    | ok d2 e2 =>
      rw [q1] at h
      intro y F2 H2 fp2 s2 r2 tr2
      refine ⟨F2, fp2, e2, s2, ?_⟩
      simp only at h
      cases q2 : o e2 with
      | ex c d e3 => rw [q2] at h; exact XOut.trans h (tr1.trans tr2)
      | no => rw [q2] at h; exact h
      | ok d3 e3 =>
        rw [q2] at h
        intro z F3 H3 fp3 s3 r3 tr3
        simp only at h
        have r1 := (r1.mono (F' := F2) (H' := H2) tr2.ff fun a z => nomatch z).mono (F' := F3) (H' := H3) tr3.ff fun a z => nomatch z
        have r2 := r2.mono (F' := F3) (H' := H3) tr3.ff fun a z => nomatch z
        generalize frz d1 = z1 at h r1
        generalize frz d2 = z2 at h r2
        generalize frz d3 = z3 at h r3
        unfold zip3D at h
        cases w1 : sqD z1 with
        | none => rw [w1] at h; exact h.elim
        | some p1 =>
          cases w2 : sqD z2 with
          | none => rw [w1, w2] at h; exact h.elim
          | some p2 =>
            cases w3 : sqD z3 with
            | none => rw [w1, w2, w3] at h; exact h.elim
            | some p3 =>
              obtain ⟨c1, xs⟩ := p1
              obtain ⟨c2, ys⟩ := p2
              obtain ⟨c3, zs⟩ := p3
              rw [w1, w2, w3] at h
              obtain ⟨A, vs, rfl, ha, ra⟩ := sqD_inv r1 w1
              obtain ⟨B, ws, rfl, hb, rb⟩ := sqD_inv r2 w2
              obtain ⟨C', us, rfl, hc, rc⟩ := sqD_inv r3 w3
              exact ⟨c1, c2, c3, A, B, C', vs, ws, us, rfl, sqA_of (s3.sub _ _ ha), sqA_of (s3.sub _ _ hb), sqA_of (s3.sub _ _ hc), h _ F3 H3 fp3 [] s3 rfl ((tr1.trans tr2).trans tr3).nil (itok_zip3 ha hb hc ra rb rc)⟩
@[simp] theorem ap_zip3 {e : DEnv} : mZip3 m n o e = match m e with
  | .ok d1 e1 => match n e1 with
    | .ok d2 e2 => match o e2 with
      | .ok d3 e3 => match zip3D (frz d1) (frz d2) (frz d3) with
        | some ds => .ok ds none e3
        | none => .no
      | .ex c d e3 => .ex c d e3
      | .no => .no
    | .ex c d e2 => .ex c d e2
    | .no => .no
  | .ex c d e1 => .ex c d e1
  | .no => .no := rfl
@[simp] theorem z3_eq {a b c : D} : zip3D a b c = match sqD a, sqD b, sqD c with
  | some (_, xs), some (_, ys), some (_, zs) => some (zip3L xs ys zs)
  | _, _, _ => none := rfl
@[simp] theorem sq_tup {xs : List D} : sqD (.tup xs) = some (false, xs) := rfl
@[simp] theorem sq_lst {o : Bool} {xs : List D} : sqD (.lst o xs) = some (true, xs) := rfl
end
end EV

/-! EvFF: sorted of whole numbers, {key: value}, a < b < c, more than one except clause. -/
namespace EV
open PySem PySem.Spec PyProof.Rows L2
/-! ### sorted -/
def insI (i : Int) : List Int → List Int
  | [] => [i]
  | j :: r => if i ≤ j then i :: j :: r else j :: insI i r
def sortI : List Int → List Int
  | [] => []
  | i :: r => insI i (sortI r)
theorem insI_perm (i : Int) : ∀ r, (insI i r).Perm (i :: r)
  | [] => List.Perm.refl _
  | j :: r => by
    unfold insI
    split
    · exact List.Perm.refl _
    · exact ((insI_perm i r).cons j).trans (List.Perm.swap i j r)
theorem sortI_perm : ∀ r, (sortI r).Perm r
  | [] => List.Perm.refl _
  | i :: r => (insI_perm i (sortI r)).trans ((sortI_perm r).cons i)
theorem insI_srt (i : Int) : ∀ r : List Int, r.Pairwise (· ≤ ·) → (insI i r).Pairwise (· ≤ ·)
  | [], _ => by simp [insI]
  | j :: r, h => by
    unfold insI
    obtain ⟨h1, h2⟩ := List.pairwise_cons.mp h
    split
    · rename_i hij
      refine List.pairwise_cons.mpr ⟨fun x hx => ?_, h⟩
      rcases List.mem_cons.mp hx with rfl | hx
      · exact hij
      · exact Int.le_trans hij (h1 x hx)
    · rename_i hij
      refine List.pairwise_cons.mpr ⟨fun x hx => ?_, insI_srt i r h2⟩
      rcases List.mem_cons.mp ((insI_perm i r).mem_iff.mp hx) with rfl | hx
      · omega
      · exact h1 x hx
theorem sortI_srt : ∀ r : List Int, (sortI r).Pairwise (· ≤ ·)
  | [] => List.Pairwise.nil
  | i :: r => insI_srt i _ (sortI_srt r)
theorem srt_uniq : ∀ {a b : List Int}, a.Perm b → a.Pairwise (· ≤ ·) → b.Pairwise (· ≤ ·) → a = b
  | [], b, p, _, _ => by simpa using p.symm
  | x :: a, [], p, _, _ => by simpa using p
  | x :: a, y :: b, p, ha, hb => by
    obtain ⟨a1, a2⟩ := List.pairwise_cons.mp ha
    obtain ⟨b1, b2⟩ := List.pairwise_cons.mp hb
    have h1 : x ≤ y := by
      rcases List.mem_cons.mp (p.mem_iff.mpr (List.mem_cons_self .. : y ∈ y :: b)) with e | h
      · omega
      · exact a1 y h
    have h2 : y ≤ x := by
      rcases List.mem_cons.mp (p.mem_iff.mp (List.mem_cons_self .. : x ∈ x :: a)) with e | h
      · omega
      · exact b1 x h
    have e : x = y := Int.le_antisymm h1 h2
    subst e
    rw [srt_uniq ((List.perm_cons x).mp p) a2 b2]
def sortD : D → Option D
  | .lst _ xs => (intsD xs).map fun ns => .lst true ((sortI ns).map D.int)
  | _ => none
section
variable {X : Cx} {N : List Str} {sc : Scope} {fr : List Str} {g : GF} {G : GI} {W : WX} {L : List Nat} {a b c : Expr} {es : List Expr} {pos p2 p3 p4 : Pos} {oa ob : Op} {m n o t : ME} {F H F1 H1 F' H' : Hp} {fp fp1 fp' : Nat → List Addr} {σ σ1 : L2.St} {e e' : DEnv}
theorem hr_sort {x : V} {d1 d : D} {Q : VK} (s : Sb F H) (r1 : RB G F H x d1) (h : sortD d1 = some d) (k : KR G F H d Q) : L2.rSortedI G.K [x] H Q := by
  cases d1 <;> first | (cases h; done) | skip
  rename_i o xs
  have h : ((intsD xs).map fun ns => D.lst true ((sortI ns).map D.int)) = some d := h
  cases q : intsD xs with
  | none => rw [q] at h; cases h
  | some ns =>
    rw [q] at h
    injection h with h; subst h
    obtain ⟨_, a, vs, rfl, ha, ra⟩ := r1.lst_inv s
    rw [ints_rep ra q] at ha
    refine ⟨a, ns, rfl, SqL.of ha, fun ns' p hp hs hn => ?_⟩
    rw [srt_uniq (hp.trans (sortI_perm ns).symm) hs (sortI_srt ns)]
    exact k.lst s (ints_RO _) hn
theorem se_sorted (C : Cn X N sc fr) (h1 : ("sorted" : Str) ∈ fr) (h2 : glB sc "sorted" = true) (ha : SOp X g W a oa) (hs : starEach [a] X.env = (false, eval a X.env) :: starEach [] X.env) : SE X g W (.Call (.Name "sorted" p2) [a] [] pos) (mOp1 sortD oa) :=
  se_b1 C (id := "sorted") L2.cr_sortedI (by decide +kernel) (by decide) (by decide) (fun F H x d1 d Q s r1 h k => hr_sort s r1 h k) h1 h2 ha hs
/-! ### {k: v} -/
def mDisp1K (mk mv : ME) : ME := fun e => match mk e with
  | .ok dk e1 => match keyD (frz dk) with
    | some key => match mv e1 with
      | .ok dv e2 => .ok (.dk true [(key, frz dv)]) e2
      | .ex c d e2 => .ex c d e2
      | .no => .no
    | none => .no
  | .ex c d e1 => .ex c d e1
  | .no => .no
theorem se_disp1K (C : Cn X N sc fr) (ha : SE X g W a m) (hb : SE X g W b n) : SE X g W (.Dict [some a] [b] pos) (mDisp1K m n) := PE.imp (pe_disp (pps_cons ha.z hb.z pps_nil) rfl rfl (by simp) (by show 1 ≤ 15; decide)) fun σ H Q h => by
  obtain ⟨F, fp, e, s, h⟩ := RdE.iff.mp h
  intro p hp
  have s0 := s.new (o := .dK []) hp
  refine ⟨F, fp, e, s0, ?_⟩
  unfold mDisp1K at h
  have tr0 : Tr F H (own fp) F (upd H p (.dK [])) (fun c => own fp c ∨ c ∈ [p]) := (Tr.new hp).drop fun c z => z.imp id fun z => List.mem_singleton.mp z
  have t0 : TO (gOf X g) F (upd H p (.dK [])) fp [p] (.ref p) (.dk true []) := ⟨.dko upd_same rfl .nil, by simp, fun c z => by rw [List.mem_singleton.mp z]; exact s.fnone hp, fun c z => by rw [List.mem_singleton.mp z]; exact s.noown hp⟩
  cases q : m e with
  | ex c d e1 =>
    rw [q] at h
    intro dx v F1 H1 fp1 p1 s1 t1 tr1 hx
    exact h dx v F1 H1 fp1 p1 s1 t1 ((tr0.trans (tr1.weak (P := fun c => own fp c ∨ c ∈ [p]) (P1 := fun c => own fp1 c ∨ c ∈ p1) (fun _ z => .inl z) fun c z => .inl z))) hx
  | no => rw [q] at h; exact h
  | ok dk e1 =>
    rw [q] at h
    intro v F1 H1 fp1 s1 r1 tr1
    simp only at h
    cases q1 : keyD (frz dk) with
    | none => rw [q1] at h; exact h.elim
    | some key =>
      rw [q1] at h
      simp only at h
      have t1 := t0.keep tr1 fun _ z => z
      refine ⟨F1, fp1, e1, s1, ?_⟩
      have tr01 : Tr F H (own fp) F1 H1 (fun c => own fp1 c ∨ c ∈ [p]) := tr0.trans tr1.hold0
      cases q2 : n e1 with
      | ex c d e2 =>
        rw [q2] at h
        intro dx v F2 H2 fp2 p2 s2 t2 tr2 hx
        exact h dx v F2 H2 fp2 p2 s2 t2 (tr01.trans (tr2.weak (P := fun c => own fp1 c ∨ c ∈ [p]) (P1 := fun c => own fp2 c ∨ c ∈ p2) (fun _ z => .inl z) fun c z => .inl z)) hx
      | no => rw [q2] at h; exact h
      | ok dv e2 =>
        rw [q2] at h
        intro y F2 H2 fp2 s2 r2 tr2
        have t2 := t1.keep tr2 fun _ z => z
        obtain ⟨a0, kvs, ea, _, hk, hk2, _⟩ := t2.r.dko_inv
        cases ea
        have ek : kvs = [] := List.map_eq_nil_iff.mp hk2
        subst ek
        refine ⟨hk, [(key, y)], by rw [keyD_rep (.z r1) q1]; rfl, by show 1 ≤ 15; decide, ?_⟩
        have pnF : F2 p = none := t2.sep p (List.mem_singleton.mpr rfl)
        have pnO : ¬ own fp2 p := t2.dj p (List.mem_singleton.mpr rfl)
        have em : mergeK [] [(key, y)] = [(key, y)] := rfl
        rw [em]
        have hH : ∀ b o, b ≠ p → H2 b = some o → upd H2 p (.dK [(key, y)]) b = some o := fun b o z w => by rw [upd_ne z]; exact w
        have s3 : SO (gOf X g) F2 (upd H2 p (.dK [(key, y)])) fp2 σ e2 := s2.frame (p := [p]) (O' := fun c => c ∈ [p]) (fun c z w => pnO (by rwa [List.mem_singleton.mp z] at w)) ⟨fun _ _ z => z, fun b o n z => hH b o (fun u => n (List.mem_singleton.mpr u)) z, fun _ z => .inl z, fun _ _ z => .inl z⟩ fun b o z => hH b o (fun u => by rw [u, pnF] at z; cases z) (s2.sub b o z)
        refine h (.ref p) F2 _ fp2 [p] s3 ⟨.dko upd_same rfl (ROs.consZ (r2.mono (fun _ _ z => z) fun a z => nomatch z) .nil), by simp, fun c z => ?_, fun c z => ?_⟩ ?_
        · rw [List.mem_singleton.mp z]; exact pnF
        · rw [List.mem_singleton.mp z]; exact pnO
        · refine (tr01.trans tr2.hold0).trans ⟨fun _ _ z => z, fun b o n z => hH b o (fun u => n (.inr (List.mem_singleton.mpr u))) z, fun _ z => .inl z, fun _ _ z => .inl z⟩
/-! ### a < b < c -/
def mChn (f f' : Int → Int → Bool) (m n o : ME) : ME := fun e => match m e with
  | .ok (.int i) e1 => match n e1 with
    | .ok (.int j) e2 => if f i j = true then match o e2 with
        | .ok (.int k) e3 => .ok (.bl (f' j k)) e3
        | .ex c d e3 => .ex c d e3
        | _ => .no
      else .ok (.bl false) e2
    | .ex c d e2 => .ex c d e2
    | _ => .no
  | .ex c d e1 => .ex c d e1
  | _ => .no
theorem rd_chn {f f' : Int → Int → Bool} {Q : VK} (h : RdE G W (mChn f f' m n o) σ H Q) :
    tChain (rI0 fun i j => .bl (f i j)) (rI0 fun i j => .bl (f' i j)) (RdZ G W m) (RdZ G W n) (RdZ G W o) σ H Q := by
  obtain ⟨F, fp, e, s, h⟩ := RdE.iff.mp h
  refine ⟨F, fp, e, s, ?_⟩
  unfold mChn at h
  cases q : m e with
  | no => rw [q] at h; exact h.elim
  | ex c d e1 => rw [q] at h; exact h
  | ok d1 e1 =>
    rw [q] at h
    intro x F1 H1 fp1 s1 r1 tr1
    cases d1 with
    | int i =>
      simp only at h
      refine ⟨F1, fp1, e1, s1, ?_⟩
      cases q1 : n e1 with
      | no => rw [q1] at h; exact h.elim
      | ex c d e2 => rw [q1] at h; exact XOut.trans h tr1
      | ok d2 e2 =>
        rw [q1] at h
        intro y F2 H2 fp2 s2 r2 tr2
        cases d2 with
        | int j =>
          simp only at h
          have ex : x = .int i := (RB.z r1).int_inv
          have ey : y = .int j := (RB.z r2).int_inv
          refine ⟨i, j, ex, ey, f i j, rfl, ?_⟩
          cases hf : f i j with
          | false =>
            rw [hf] at h
            simp only [Bool.false_eq_true, if_false] at h ⊢
            exact h _ F2 H2 fp2 [] s2 (TO.z (.bl false)) (tr1.trans tr2).nil
          | true =>
            rw [hf] at h
            simp only [if_true] at h ⊢
            refine ⟨F2, fp2, e2, s2, ?_⟩
            cases q2 : o e2 with
            | no => rw [q2] at h; exact h.elim
            | ex c d e3 => rw [q2] at h; exact XOut.trans h (tr1.trans tr2)
            | ok d3 e3 =>
              rw [q2] at h
              intro z F3 H3 fp3 s3 r3 tr3
              cases d3 with
              | int k =>
                simp only at h
                have ez : z = .int k := (RB.z r3).int_inv
                exact ⟨j, k, ey, ez, h _ F3 H3 fp3 [] s3 (TO.z (.bl (f' j k))) ((tr1.trans tr2).trans tr3).nil⟩
              | _ => exact h.elim
        | _ => exact h.elim
    | _ => exact h.elim
theorem st_chn {op op' : CmpOp} {f f' : Int → Int → Bool} (ho : OpR X (compareOp op) (rI0 fun i j => .bl (f i j))) (ho' : OpR X (compareOp op') (rI0 fun i j => .bl (f' i j))) (ha : SE X g W a m) (hb : SE X g W b n) (hc : SE X g W c o)
    (hm : lastMarks [op, op'] [b, c] = false) : ST X g W (.Compare a [op, op'] [b, c] pos) (mChn f f' m n o) := stc (pt_chain ho ho' ha.z hb.z hc.z hm) fun _ _ _ h => rd_chn h
theorem se_chn {op op' : CmpOp} {f f' : Int → Int → Bool} (ho : OpR X (compareOp op) (rI0 fun i j => .bl (f i j))) (ho' : OpR X (compareOp op') (rI0 fun i j => .bl (f' i j))) (ha : SE X g W a m) (hb : SE X g W b n) (hc : SE X g W c o)
    (hm : lastMarks [op, op'] [b, c] = false) : SE X g W (.Compare a [op, op'] [b, c] pos) (mChn f f' m n o) := PE.imp (pe_chain ho ho' ha.z hb.z hc.z hm) fun _ _ _ h => rd_chn h
@[simp] theorem ap_chn {f f' : Int → Int → Bool} : mChn f f' m n o e = match m e with
  | .ok (.int i) e1 => match n e1 with
    | .ok (.int j) e2 => if f i j = true then match o e2 with
        | .ok (.int k) e3 => .ok (.bl (f' j k)) e3
        | .ex c d e3 => .ex c d e3
        | _ => .no
      else .ok (.bl false) e2
    | .ex c d e2 => .ex c d e2
    | _ => .no
  | .ex c d e1 => .ex c d e1
  | _ => .no := rfl
@[simp] theorem ap_disp1K : mDisp1K m n e = match m e with
  | .ok dk e1 => match keyD (frz dk) with
    | some key => match n e1 with
      | .ok dv e2 => .ok (.dk true [(key, frz dv)]) e2
      | .ex c d e2 => .ex c d e2
      | .no => .no
    | none => .no
  | .ex c d e1 => .ex c d e1
  | .no => .no := rfl
end
end EV

/-! EvGG: try with more than one except clause, of which the first takes what comes. -/
namespace EV
open PySem PySem.Spec PyProof.Rows L2
def wAsT (K : PySem.W.Frag) (c : Value) (i : Nat) (ts : Addr → Value → Option Addr → TS) (D : Ends) : WX := fun cls d σ H =>
  PySem.W.exmOne K cls c = some true ∧ ∀ a, H a = none → ts a cls d { nx := fun σ' H' => D.nx (σ'.set i none) H', rt := D.rt, bk := fun σ' H' => D.bk (σ'.set i none) H', ct := fun σ' H' => D.ct (σ'.set i none) H' } (σ.set i (some (.ref a))) H
section
variable {X : Cx} {x n : Str} {c : Value} {i : Nat} {body suite : List Stmt} {b₀ : Stmt} {np pos pos' : Pos} {tb : WX → TS} {ts : Addr → Value → Option Addr → TS} {more : List ExceptHandler}
theorem ps_try_asT (hs : X.stack = X.env :: X.outer) (hf : X.env.frame = some X.env.locals) (hN : X.N.Nodup) (hi : X.N[i]? = some n) (hln : X.env.kindOf n = some .local) (hc : Names X x c)
    (hb : ∀ (W : WX) (pn : List (Addr × Obj)) (xe : Value → Shared → Prop), Takes (X.tr pn xe) W → PassesOwn (model X.prog X.w) X.A X.env xe → PSs (X.tr pn xe) body (tb W))
    (hsu : ∀ (a : Addr) (oe : Obj) (cls : Value) (d : Option Addr) (pn : List (Addr × Obj)), Zc cls d oe → (∃ vs, oe.data = .fields vs) → PSs (X.suite a ((a, oe) :: pn)) (b₀ :: suite) (ts a cls d)) :
    PS X (.Try body (.ExceptHandler (some (.Name x np)) (some n) (b₀ :: suite) pos' :: more) [] [] pos) (fun D σ H => tb (wAsT X.K c i ts D) D σ H) := by
  refine ⟨fun pins s σ H D I h => ?_⟩
  have ok := I.ok
  have hfr : X.A.frames = some (X.env :: X.outer) := by rw [ok.frames, hs]
  have hloc : Loc X.env.scope n := .inl hln
  refine wpAny_Try_except ?_
  refine wpAny_mono ((hb (wAsT X.K c i ts D) (X.pn ++ pins) (fun e s₁ => wpAny (model X.prog X.w) X.A (noteFrame e X.env) (fun _ s₂ => wpAny (model X.prog X.w) X.A (setFlight e none) (fun _ s₃ =>
    wpAny (model X.prog X.w) X.A (handleBy e X.env (.ExceptHandler (some (.Name x np)) (some n) (b₀ :: suite) pos' :: more)) (SP X pins D) X.xe s₃) X.xe s₂) X.xe s₁) (fun u s' xx => ?_) PassesOwn.looking).run [] s σ H D (I.toTry _) h) (fun f s1 hsp => ?_) (fun e s1 he => he)
  · -- the catch
    obtain ⟨a, B, sI, pins', σ', H', cls, d, rfl, J', nb, up, sky, na, os, ag, hb1, hyes⟩ := xx
    have J : Inv X pins σ' H' sI := J'.ofTry ok
    have sky' : Sky B (X.env :: X.outer) a (Zc cls d) X.env.locals s'.heap := by rw [← hs]; exact sky
    show wpAny (model X.prog X.w) X.A (noteFrame (.ref a) X.env) _ _ _
    refine Sky.land Zc.steady hfr hf sky' fun h3 fl3 up3 => ?_
    have J3 : Inv X pins σ' H' { s' with heap := h3 } := J.landed nb fl3.1 (up.trans up3) os ag
    obtain ⟨oe3, vs3, he3, hz3, hd3⟩ := fl3.there
    have notFr : ∀ {h : Heap} {o : Obj} {vs : Array Value}, h.FunFrames B (X.env :: X.outer) → h.get? a = some o → o.data = .fields vs → a ∉ frs (X.env :: X.outer) := fun {h o vs} ff e dd hm => by
      obtain ⟨_, o', e', hnf⟩ := ff.mem hm
      rw [e] at e'; cases e'
      exact hnf _ dd
    have nfr := notFr fl3.2.2.1 he3 hd3
    have nL : a ≠ X.env.locals := fun z => nfr (List.mem_filterMap.mpr ⟨X.env, List.mem_cons_self, by rw [hf, z]⟩)
    have nF : a ∉ X.fs := fun hm => by
      obtain ⟨e, he, q⟩ := List.mem_filterMap.mp hm
      exact nfr (List.mem_filterMap.mpr ⟨e, List.mem_cons_of_mem _ he, q⟩)
    have S3 := J3.suite he3 hd3 na nL nF
    refine wpAny_handleBy_cons (codeAny_handlers_test ?_) (by intro q; cases q)
    have LT : PySem.W.Looks (model X.prog X.w) h3 (typeOf (.ref a)) cls := fun A Q E s k q => wpAny_typeOf_ref (k _ _ he3) (by rw [hz3.1]; exact q)
    have LM := PySem.W.exm_one (M := model X.prog X.w) (J3.kIn) LT hb1
    have test : ∀ {Q : Value → Shared → Prop} {E : Value → Shared → Prop}, Q c { s' with heap := h3 } → wpAny (model X.prog X.w) (X.A.mark (some (.ref a))) (eval (.Name x np) X.env) Q E { s' with heap := h3 } := fun {Q E} q => by
      obtain ⟨hg, hdbg, hm | ⟨hm, hv, hnn⟩⟩ := hc
      · exact ld_glob (X := X.suite a ((a, oe3) :: (X.pn ++ pins))) S3 hg hm q hdbg
      · exact ld_blt (X := X.suite a ((a, oe3) :: (X.pn ++ pins))) S3 hg hm hv q hnn hdbg
    refine test (LM.here ?_)
    · refine codeAny_handlers_suite_as ?_
      refine HandSPX.lands_againZ fl3 fun h4 fl4 up4 => ?_
      have J4 : Inv X pins σ' H' { s' with heap := h4 } := J.landed nb fl4.1 ((up.trans up3).trans up4) os ag
      obtain ⟨oe4, vs4, he4, hz4, hd4⟩ := fl4.there
      have S4 := J4.suite he4 hd4 na nL nF
      refine store_ok (X := X.suite a ((a, oe4) :: (X.pn ++ pins))) (v := .ref a) S4 hN hi hloc rfl (fun s5 S5 => ?_) (.inr hln)
      refine wpAny_mono ((hsu a oe4 cls d (X.pn ++ pins) hz4 ⟨_, hd4⟩).run [] s5 _ H' _ S5 (hyes a na)) (fun f s6 hsp => ?_) (fun _ _ z => False.elim z)
      have end_ : ∀ {σ6 : L2.St} {H6 : Hp} {Q : Shared → Prop}, Inv (X.suite a ((a, oe4) :: (X.pn ++ pins))) [] σ6 H6 s6 → (∀ s7, Inv X pins (σ6.set i none) H6 s7 → Q s7) →
          wpAny (model X.prog X.w) X.A (do bindName X.env n .none; unbindBehindTheSuite X.env n pos') (fun _ s7 => Q s7) X.xe s6 := fun {σ6 H6 Q} S6 hq => gone_ok (S6.unsuite ok) hN hi hln hq
      cases f with
      | next =>
        obtain ⟨σ6, H6, S6, q6⟩ := hsp
        exact end_ S6 fun s7 J7 => ⟨_, _, J7, q6⟩
      | brk =>
        obtain ⟨σ6, H6, S6, q6⟩ := hsp
        exact end_ S6 fun s7 J7 => ⟨_, _, J7, q6⟩
      | cont =>
        obtain ⟨σ6, H6, S6, q6⟩ := hsp
        exact end_ S6 fun s7 J7 => ⟨_, _, J7, q6⟩
      | ret u =>
        obtain ⟨v6, σ6, H6, S6, r6, q6⟩ := hsp
        exact end_ S6 fun s7 J7 => ⟨_, _, _, J7, r6, q6⟩
  · cases f with
    | next =>
      obtain ⟨σ', H', J', q⟩ := hsp
      exact wpAny_execs_nil ⟨σ', H', J'.ofTry ok, q⟩
    | brk =>
      obtain ⟨σ', H', J', q⟩ := hsp
      exact ⟨σ', H', J'.ofTry ok, q⟩
    | cont =>
      obtain ⟨σ', H', J', q⟩ := hsp
      exact ⟨σ', H', J'.ofTry ok, q⟩
    | ret u =>
      obtain ⟨v, σ', H', J', r, q⟩ := hsp
      exact ⟨v, σ', H', J'.ofTry ok, r, q⟩
end
/-- try: body; except C as n: guards, then return ('s', n.f); more clauses, which nothing reaches -/
def mTryM (i : Nat) (cg : Nat → Option Bool) (al : Nat → Bool) (s : Str) (mb : MS) : MS := fun e => match mb e with
  | .ex c d e1 => match cg c with
    | some true => if fz d = true ∧ i < e1.length ∧ al c = true then .rt (.tup [.str s, d]) (e1.set i none) else .no
    | _ => .no
  | r => r
section
variable {X : Cx} {N : List Str} {sc : Scope} {fr : List Str} {g : GF} {W : WX} {L : List Nat} {body : List Stmt} {pos p2 p3 p4 : Pos} {mb : MS} {F H F1 H1 F' H' : Hp} {fp fp1 fp' : Nat → List Addr} {σ σ1 : L2.St} {e e' : DEnv} {i : Nat} {n x : Str}
theorem ss_tryM {cc : Nat} {sr : Str} {cg : Nat → Option Bool} {al : Nat → Bool} {b₀ : Stmt} {suite : List Stmt} {more : List ExceptHandler} (C : Cf X W N sc fr) (hg : glB sc x = true) (hm : X.mg x = some (.ref (g.ca cc))) (hdb : (x == ("__debug__" : Str)) = false)
    (hn : locL N sc i n = true) (hL : i ∉ L)
    (hc : ∀ c b, cg c = some b → PySem.W.exmOne X.K (.ref (g.ca c)) (.ref (g.ca cc)) = some b)
    (hb : ∀ (pn : List (Addr × Obj)) (xe : Value → Shared → Prop) (W' : WX), Cf (X.tr pn xe) W' N sc fr → SSs (X.tr pn xe) g W' L body mb)
    (hs : ∀ (c : Nat) (a dd : Addr) (oe : Obj) (pn : List (Addr × Obj)), cg c = some true → al c = true → Zc (.ref (g.ca c)) (some dd) oe → (∃ vs, oe.data = .fields vs) → PSs (X.suite a ((a, oe) :: pn)) (b₀ :: suite) (fun D σ H => BF g i a c dd σ H ∧ tTell g c dd sr D σ H)) :
    SS X g W L (.Try body (.ExceptHandler (some (.Name x p2)) (some n) (b₀ :: suite) p3 :: more) [] [] pos) (mTryM i cg al sr mb) := by
  have hl : X.N[i]? = some n ∧ X.env.kindOf n = some .local := locL_ok C.toCn hn
  refine PS.imp (ps_try_asT (i := i) (tb := fun W' => RdS (gOf X g) W' L mb) (ts := fun a cls d => fun D σ H => ∃ (c : Nat) (dd : Addr), cg c = some true ∧ al c = true ∧ cls = .ref (g.ca c) ∧ d = some dd ∧ BF g i a c dd σ H ∧ tTell g c dd sr D σ H)
    C.stk C.frm C.nd' hl.1 hl.2 ⟨gl_ok C.toCn hg, hdb, .inl hm⟩ (fun W' pn xe tk po => hb pn xe W' (C.toTry tk po)) (fun a oe cls d pn hz hf => ⟨fun pins s σ H D I ⟨c, dd, hcg, hal, ec, ed, h⟩ => ?_⟩)) fun D σ H ⟨F, fp, e, s, h⟩ => ?_
  · subst ec ed
    exact (hs c a dd oe pn hcg hal hz hf).run pins s σ H D I h
  · refine ⟨F, fp, e, s, ?_⟩
    unfold mTryM at h
    cases q : mb e with
    | nx e1 => rw [q] at h; exact h
    | rt d e1 => rw [q] at h; exact h
    | bk e1 => rw [q] at h; exact h
    | ct e1 => rw [q] at h; exact h
    | no => rw [q] at h; exact h
    | ex c d e1 =>
      rw [q] at h
      simp only at h
      intro dx v σ' F' H' fp' p s' l' t' tr hx2
      cases q2 : cg c with
      | none => rw [q2] at h; exact h.elim
      | some b =>
        rw [q2] at h
        cases b with
        | false => exact h.elim
        | true =>
          refine ⟨hc c true q2, fun a ha => ?_⟩
          simp only at h
          split at h
          · rename_i hz
            obtain ⟨hz, hi0, hal⟩ := hz
            have hi : i < σ'.length := by rw [s'.len]; exact hi0
            refine ⟨c, dx, q2, hal, rfl, rfl, ⟨List.getElem?_set_self hi, v, hx2⟩, fun v2 hv2 p' hp' => ?_⟩
            have ev : v2 = v := by
              have hx3 := hx2
              rw [hv2] at hx3
              simpa using hx3
            subst ev
            have s2 := (s'.forget (i := i)).newF (o := .tup [.str sr, v2]) hp'
            have hp0 : p = [] := t'.r.nil_of_fz hz
            subst hp0
            have rd : RO (gOf X g) (upd F' p' (.tup [.str sr, v2])) (upd H' p' (.tup [.str sr, v2])) [] v2 d := t'.r.monoZ (upd_le (s'.fnone hp'))
            refine h (.ref p') σ' _ _ _ [] s2 l' (TO.z (.tup upd_same (ROs.consZ (.str sr) (ROs.consZ rd .nil)))) ?_
            refine (tr.trans (Tr.newF s'.sub hp')).weak (fun _ z => z) fun c z => ?_
            rcases z with z | z
            · exact .inl (.inl (own_take c (.inl z)))
            · cases z
          · exact h.elim
@[simp] theorem ap_tryM {cg : Nat → Option Bool} {al : Nat → Bool} {s : Str} {ms : MS} : mTryM i cg al s ms e = match ms e with
  | .ex c d e1 => match cg c with
    | some true => if fz d = true ∧ i < e1.length ∧ al c = true then .rt (.tup [.str s, d]) (e1.set i none) else .no
    | _ => .no
  | r => r := rfl
end
end EV

/-! EvHH: a comprehension is given to a name that an inner one holds in a cell. -/
namespace EV
open PySem PySem.Spec PyProof.Rows L2
section
variable {X : Cx} {N : List Str} {sc : Scope} {fr : List Str} {W : WX}
def cellB (sc : Scope) (x : Str) : Bool := match sc.names.lookup x with
  | some .cell => true
  | _ => false
theorem sw_cell {elt : Expr} {gs : List Comprehension} {scope : Scope} {pos py : Pos} {y : Str} {l : Nat} (C : Cf X W N sc fr) (h : cellB sc y = true) : swapsWith (.ListComp elt gs scope pos) (some (.Name y py)) l X.env = pure false := by
  have h2 : X.env.kindOf y = some .cell := by
    unfold cellB at h
    show X.env.scope.names.lookup y = some .cell
    rw [C.hsc]
    split at h
    · rename_i q; exact q
    · cases h
  show (pure (X.env.blockKind == .function && X.env.kindOf y == some .local && py.line == pos.line && !(scope.names.any fun (n, k) => n == y && (k == .local || k == .cell))) : Sem Bool) = pure false
  rw [h2]
  have : (some NameKind.cell == some NameKind.local) = false := rfl
  rw [this]
  simp
end
end EV

/-! EvII: list(d), d a dict. -/
namespace EV
open PySem PySem.Spec PyProof.Rows L2
def keyK : Key → D
  | .inl i => .int i
  | .inr s => .str s
def listA : D → Option D
  | .dk _ kvs => some (.lst true (kvs.map fun kv => keyK kv.1))
  | d => listD d
section
variable {X : Cx} {N : List Str} {sc : Scope} {fr : List Str} {g : GF} {G : GI} {W : WX} {L : List Nat} {a b c : Expr} {es : List Expr} {pos p2 p3 p4 : Pos} {oa ob : Op} {m n o t : ME} {F H F1 H1 F' H' : Hp} {fp fp1 fp' : Nat → List Addr} {σ σ1 : L2.St} {e e' : DEnv}
theorem keys_RO : ∀ {kvs : List (Key × V)} {kds : List (Key × D)}, kvs.map (·.1) = kds.map (·.1) → ROs G F H [] (kvs.map fun kv => kV kv.1) (kds.map fun kv => keyK kv.1)
  | [], [], _ => .nil
  | (k, v) :: kvs, (k', d) :: kds, h => by
    injection h with h1 h2
    have h1 : k = k' := h1
    subst h1
    refine ROs.consZ ?_ (keys_RO (kvs := kvs) (kds := kds) h2)
    cases k with
    | inl i => exact .int i
    | inr s => exact .str s
  | [], _ :: _, h => by cases h
  | _ :: _, [], h => by cases h
theorem call_listA (hc : X.calm = true) : CallR X (.type "list") (fun xs H Q => (∃ p ys, xs = [.ref p] ∧ (SqL X.K H p ys ∨ SqT X.K H p ys) ∧ ∀ l, H l = none → Q (.ref l) (upd H l (.lst ys))) ∨ rListD xs H Q) := by
  intro pins s σ H xs us Q I r h
  rcases h with h | h
  · exact call_list_of pins s σ H xs us Q I r h
  · exact call_list_dK hc pins s σ H xs us Q I r h
theorem hr_listA {x : V} {d1 d : D} {Q : VK} (s : Sb F H) (r1 : RB G F H x d1) (h : listA d1 = some d) (k : KR G F H d Q) :
    (∃ p ys, [x] = [V.ref p] ∧ (SqL G.K H p ys ∨ SqT G.K H p ys) ∧ ∀ l, H l = none → Q (.ref l) (upd H l (.lst ys))) ∨ rListD [x] H Q := by
  cases d1 with
  | dk o kds =>
    have h : some (D.lst true (kds.map fun kv => keyK kv.1)) = some d := h
    injection h with h
    subst h
    obtain ⟨_, a, kvs, rfl, ha, hk, _⟩ := r1.dk_inv s
    exact .inr ⟨a, kvs, rfl, ha, fun q hq => k.lst s (keys_RO hk) hq⟩
  | _ => exact .inl (hr_list s r1 h k)
theorem se_listA (C : Cn X N sc fr) (h1 : ("list" : Str) ∈ fr) (h2 : glB sc "list" = true) (ha : SOp X g W a oa) (hs : starEach [a] X.env = (false, eval a X.env) :: starEach [] X.env) : SE X g W (.Call (.Name "list" p2) [a] [] pos) (mOp1 listA oa) :=
  se_t1 C (id := "list") (call_listA C.calm) (by decide +kernel) (by decide) (by decide) (fun F H x d1 d Q s r1 h k => hr_listA s r1 h k) h1 h2 ha hs
@[simp] theorem la_tup {xs : List D} : listA (.tup xs) = some (.lst true xs) := rfl
@[simp] theorem la_lst {o : Bool} {xs : List D} : listA (.lst o xs) = some (.lst true xs) := rfl
@[simp] theorem la_dk {o : Bool} {kvs : List (Key × D)} : listA (.dk o kvs) = some (.lst true (kvs.map fun kv => keyK kv.1)) := rfl
end
end EV

/-! EvJJ: zip of two, each a list or a tuple. -/
namespace EV
open PySem PySem.Spec PyProof.Rows L2
open PySem.Sem (wp)
section
variable {prog : Program} {w : World} {A : Around} {E : Value → Shared → Prop} {s : Shared}
theorem zipM_next_item {c1 c2 : Bool} {z TI TO i1 i2 l1 l2 : Addr} {k1 k2 : Nat} {xs ys : Array Value} {x y a b : Value} {Q : Value → Shared → Prop} (D : ZipApart z TI TO i1 i2 l1 l2)
    (hz : IsZip s.heap z TI TO .none) (hTI : IsPair s.heap TI (.ref i1) (.ref i2)) (hTO : IsPair s.heap TO a b)
    (h1 : It2 c1 s.heap i1 l1 k1) (h2 : It2 c2 s.heap i2 l2 k2) (hl1 : Sq2 c1 s.heap l1 xs) (hl2 : Sq2 c2 s.heap l2 ys) (hx : xs[k1]? = some x) (hy : ys[k2]? = some y)
    (hQ : ∀ h', IsZip h' z TI TO (rawInt s.heap.objs.size) → IsPair h' TO x y → It2 c1 h' i1 l1 (k1 + 1) → It2 c2 h' i2 l2 (k2 + 1) → IsPair h' s.heap.objs.size x y → h'.objs.size = s.heap.objs.size + 1 →
      (∀ c o, c ≠ z → c ≠ TO → c ≠ i1 → c ≠ i2 → s.heap.get? c = some o → h'.get? c = some o) → Q (.ref s.heap.objs.size) { s with heap := h' }) :
    wpAny (model prog w) A (Builtin.«zip.__next__» ⟨[.ref z], []⟩) (fun fin s' => ∃ v, fin = .done (.ret v) ∧ Q v s') E s := by
  show wpAny _ _ (field (.ref z) 2 >>= _) _ _ _
  refine wpAny_bind (wpAny_field hz rfl (x := .bool false) rfl ?_)
  show wpAny _ _ (field (.ref z) 3 >>= _) _ _ _
  refine wpAny_bind (wpAny_field hz rfl (x := .ref TI) rfl ?_)
  refine wpAny_bind (wpAny_seqItems hTI rfl ?_)
  show wpAny _ _ (Builtin.SmallTypes.ownedTupleIsFree (.ref z) >>= _) _ _ _
  refine wpAny_bind ?_
  unfold Builtin.SmallTypes.ownedTupleIsFree
  refine wpAny_bind (wpAny_field hz rfl (x := .none) rfl (wpAny_pure ?_))
  simp only [if_true]
  refine wpAny_bind (wpAny_rule ?_)
  refine wpAny_bind (wpAny_field hz rfl (x := .ref TO) rfl ?_)
  refine wpAny_bind (wpAny_setField_rec hz (by simp) fun h₁ hz₁ hs₁ => ?_)
  replace hz₁ : IsZip h₁ z TI TO .ellipsis := hz₁
  refine wpAny_bind ?_
  simp only [List.zipIdx_cons, List.zipIdx_nil, List.forIn_cons, List.forIn_nil]

  refine wpAny_bind (wpAny_bind (wpAny_onRaise ?_))
  show wpAny _ _ (Builtin.SmallTypes.nextOf (.ref i1) >>= _) _ _ _
  refine wpAny_bind (next_any_item (h1.extBut hs₁.extBut D.i1z) (hl1.extBut hs₁.extBut D.l1z) hx fun h₂ h1₂ hs₂ => wpAny_pure ?_)
  have hTO₂ : IsPair h₂ TO a b := hs₂.extBut _ _ D.TOi1 (hs₁.extBut _ _ D.TOz hTO)
  refine wpAny_bind (wpAny_seqItems hTO₂ rfl ?_)
  refine wpAny_bind (wpAny_updateSeq_pair hTO₂ fun h₃ hTO₃ hs₃ => ?_)
  replace hTO₃ : IsPair h₃ TO x b := hTO₃
  refine wpAny_bind (wpAny_letGo (wpAny_pure ?_))

  refine wpAny_bind (wpAny_bind (wpAny_onRaise ?_))
  show wpAny _ _ (Builtin.SmallTypes.nextOf (.ref i2) >>= _) _ _ _
  refine wpAny_bind (next_any_item (((h2.extBut hs₁.extBut D.i2z).extBut hs₂.extBut D.i12.symm).extBut hs₃.extBut D.TOi2.symm)
    (((hl2.extBut hs₁.extBut D.l2z).extBut hs₂.extBut D.l2i1).extBut hs₃.extBut D.l2TO) hy fun h₄ h2₄ hs₄ => wpAny_pure ?_)
  have hTO₄ : IsPair h₄ TO x b := hs₄.extBut _ _ D.TOi2 hTO₃
  refine wpAny_bind (wpAny_seqItems hTO₄ rfl ?_)
  refine wpAny_bind (wpAny_updateSeq_pair hTO₄ fun h₅ hTO₅ hs₅ => ?_)
  replace hTO₅ : IsPair h₅ TO x y := hTO₅
  refine wpAny_bind (wpAny_letGo (wpAny_pure (wpAny_pure ?_)))

  refine wpAny_bind (wpAny_seqItems hTO₅ rfl ?_)
  refine wpAny_bind (wpAny_newTuple ?_)
  have hsz : h₅.objs.size = s.heap.objs.size := by rw [hs₅.1, hs₄.1, hs₃.1, hs₂.1, hs₁.1]
  have hz₅ : IsZip h₅ z TI TO .ellipsis := hs₅.extBut _ _ D.TOz.symm (hs₄.extBut _ _ D.i2z.symm (hs₃.extBut _ _ D.TOz.symm (hs₂.extBut _ _ D.i1z.symm hz₁)))
  have hk₅ : ∀ c o, c ≠ z → c ≠ TO → c ≠ i1 → c ≠ i2 → s.heap.get? c = some o → h₅.get? c = some o := fun c o n1 n2 n3 n4 e =>
    hs₅.extBut _ _ n2 (hs₄.extBut _ _ n4 (hs₃.extBut _ _ n2 (hs₂.extBut _ _ n3 (hs₁.extBut _ _ n1 e))))
  have h1₅ : It2 c1 h₅ i1 l1 (k1 + 1) := ((h1₂.extBut hs₃.extBut D.TOi1.symm).extBut hs₄.extBut D.i12).extBut hs₅.extBut D.TOi1.symm
  have h2₅ : It2 c2 h₅ i2 l2 (k2 + 1) := h2₄.extBut hs₅.extBut D.TOi2.symm
  have hzlt : z < h₅.objs.size := Heap.lt_size hz₅
  have hTOlt : TO < h₅.objs.size := Heap.lt_size hTO₅
  have hi1lt : i1 < h₅.objs.size := by obtain ⟨_, e, _⟩ := h1₅.obj; exact Heap.lt_size e
  have hi2lt : i2 < h₅.objs.size := by obtain ⟨_, e, _⟩ := h2₅.obj; exact Heap.lt_size e
  show wpAny _ _ (Builtin.SmallTypes.ownedTupleHandOut (.ref z) (.ref h₅.objs.size) >>= _) _ _ _
  refine wpAny_bind ?_
  unfold Builtin.SmallTypes.ownedTupleHandOut
  have hz₆ : IsZip (h₅.push { cls := .type "tuple", data := .seq #[x, y] }) z TI TO .ellipsis := Heap.get?_push_of_some _ hz₅
  refine wpAny_bind (wpAny_setField_rec hz₆ (by simp) fun h₇ hz₇ hs₇ => ?_)
  replace hz₇ : IsZip h₇ z TI TO (rawInt h₅.objs.size) := hz₇
  refine wpAny_setField_rec hz₇ (by simp) fun h₈ hz₈ hs₈ => ?_
  replace hz₈ : IsZip h₈ z TI TO (rawInt h₅.objs.size) := hz₈
  have up : ∀ c o, c ≠ z → h₅.get? c = some o → h₈.get? c = some o := fun c o n1 e => hs₈.extBut _ _ n1 (hs₇.extBut _ _ n1 (Heap.get?_push_of_some _ e))
  have hT₈ : IsPair h₈ h₅.objs.size x y := hs₈.extBut _ _ (Nat.ne_of_gt hzlt) (hs₇.extBut _ _ (Nat.ne_of_gt hzlt) (Heap.get?_push_size _ rfl))
  have hz8 : h₈.objs.size = h₅.objs.size + 1 := by rw [hs₈.1, hs₇.1, Heap.size_push]
  rw [hsz] at hz₈ hT₈ hz8
  refine wpAny_pure ⟨_, rfl, ?_⟩
  show Q (.ref h₅.objs.size) _
  rw [hsz]
  exact hQ h₈ hz₈ (up _ _ D.TOz hTO₅) (h1₅.at fun o e => up _ o D.i1z e) (h2₅.at fun o e => up _ o D.i2z e) hT₈ hz8 fun c o n1 n2 n3 n4 e => up c o n1 (hk₅ c o n1 n2 n3 n4 e)

theorem zipM_next_end {c1 c2 : Bool} {z TI TO i1 i2 l1 l2 : Addr} {k1 k2 : Nat} {xs ys : Array Value} {a b : Value} {Q : Fin → Shared → Prop} (hh : A.handled = none) (D : ZipApart z TI TO i1 i2 l1 l2)
    (hz : IsZip s.heap z TI TO .none) (hTI : IsPair s.heap TI (.ref i1) (.ref i2)) (hTO : IsPair s.heap TO a b)
    (h1 : It2 c1 s.heap i1 l1 k1) (h2 : It2 c2 s.heap i2 l2 k2) (hl1 : Sq2 c1 s.heap l1 xs) (hl2 : Sq2 c2 s.heap l2 ys) (hend : xs[k1]? = none ∨ ys[k2]? = none)
    (hE : ∀ h' e, (∀ c o, c ≠ z → c ≠ TO → c ≠ i1 → c ≠ i2 → s.heap.get? c = some o → h'.get? c = some o) → (∃ o, h'.get? e = some o ∧ o.cls = .type "StopIteration") → E (.ref e) { s with heap := h' }) :
    wpAny (model prog w) A (Builtin.«zip.__next__» ⟨[.ref z], []⟩) Q E s := by
  show wpAny _ _ (field (.ref z) 2 >>= _) _ _ _
  refine wpAny_bind (wpAny_field hz rfl (x := .bool false) rfl ?_)
  show wpAny _ _ (field (.ref z) 3 >>= _) _ _ _
  refine wpAny_bind (wpAny_field hz rfl (x := .ref TI) rfl ?_)
  refine wpAny_bind (wpAny_seqItems hTI rfl ?_)
  show wpAny _ _ (Builtin.SmallTypes.ownedTupleIsFree (.ref z) >>= _) _ _ _
  refine wpAny_bind ?_
  unfold Builtin.SmallTypes.ownedTupleIsFree
  refine wpAny_bind (wpAny_field hz rfl (x := .none) rfl (wpAny_pure ?_))
  simp only [if_true]
  refine wpAny_bind (wpAny_rule ?_)
  refine wpAny_bind (wpAny_field hz rfl (x := .ref TO) rfl ?_)
  refine wpAny_bind (wpAny_setField_rec hz (by simp) fun h₁ hz₁ hs₁ => ?_)
  replace hz₁ : IsZip h₁ z TI TO .ellipsis := hz₁
  refine wpAny_bind ?_
  simp only [List.zipIdx_cons, List.zipIdx_nil, List.forIn_cons, List.forIn_nil]
  refine wpAny_bind (wpAny_bind (wpAny_onRaise ?_))
  show wpAny _ _ (Builtin.SmallTypes.nextOf (.ref i1) >>= _) _ _ _
  cases hx : xs[k1]? with
  | none =>
    refine wpAny_bind (next_any_end hh (h1.extBut hs₁.extBut D.i1z) (hl1.extBut hs₁.extBut D.l1z) hx fun h₂ e hs₂ he => ?_)
    obtain ⟨oe, hoe, hce⟩ := he
    have hz₂ : IsZip h₂ z TI TO .ellipsis := hs₂ _ _ D.i1z.symm hz₁
    have hez : e ≠ z := fun x => by subst x; rw [hz₂] at hoe; cases hoe; simp at hce
    refine wpAny_setField_rec hz₂ (by simp) fun h₃ _ hs₃ => hE h₃ e (fun c o n1 _ n3 _ x => hs₃.extBut _ _ n1 (hs₂ _ _ n3 (hs₁.extBut _ _ n1 x))) ⟨oe, hs₃.extBut _ _ hez hoe, hce⟩
  | some x =>
    have hy : ys[k2]? = none := by rcases hend with h | h; rw [hx] at h; cases h; exact h
    refine wpAny_bind (next_any_item (h1.extBut hs₁.extBut D.i1z) (hl1.extBut hs₁.extBut D.l1z) hx fun h₂ h1₂ hs₂ => wpAny_pure ?_)
    have hTO₂ : IsPair h₂ TO a b := hs₂.extBut _ _ D.TOi1 (hs₁.extBut _ _ D.TOz hTO)
    refine wpAny_bind (wpAny_seqItems hTO₂ rfl ?_)
    refine wpAny_bind (wpAny_updateSeq_pair hTO₂ fun h₃ hTO₃ hs₃ => ?_)
    refine wpAny_bind (wpAny_letGo (wpAny_pure ?_))
    refine wpAny_bind (wpAny_bind (wpAny_onRaise ?_))
    show wpAny _ _ (Builtin.SmallTypes.nextOf (.ref i2) >>= _) _ _ _
    refine wpAny_bind (next_any_end hh (((h2.extBut hs₁.extBut D.i2z).extBut hs₂.extBut D.i12.symm).extBut hs₃.extBut D.TOi2.symm)
      (((hl2.extBut hs₁.extBut D.l2z).extBut hs₂.extBut D.l2i1).extBut hs₃.extBut D.l2TO) hy fun h₄ e hs₄ he => ?_)
    obtain ⟨oe, hoe, hce⟩ := he
    have hz₄ : IsZip h₄ z TI TO .ellipsis := hs₄ _ _ D.i2z.symm (hs₃.extBut _ _ D.TOz.symm (hs₂.extBut _ _ D.i1z.symm hz₁))
    have hez : e ≠ z := fun x => by subst x; rw [hz₄] at hoe; cases hoe; simp at hce
    refine wpAny_setField_rec hz₄ (by simp) fun h₅ _ hs₅ => hE h₅ e (fun c o n1 n2 n3 n4 x => hs₅.extBut _ _ n1 (hs₄ _ _ n4 (hs₃.extBut _ _ n2 (hs₂.extBut _ _ n3 (hs₁.extBut _ _ n1 x))))) ⟨oe, hs₅.extBut _ _ hez hoe, hce⟩

theorem pyNext_zipM_item {c1 c2 : Bool} {z TI TO i1 i2 l1 l2 : Addr} {k1 k2 : Nat} {xs ys : Array Value} {x y a b : Value} {Q : Option Value → Shared → Prop} (D : ZipApart z TI TO i1 i2 l1 l2)
    (hz : IsZip s.heap z TI TO .none) (hTI : IsPair s.heap TI (.ref i1) (.ref i2)) (hTO : IsPair s.heap TO a b)
    (h1 : It2 c1 s.heap i1 l1 k1) (h2 : It2 c2 s.heap i2 l2 k2) (hl1 : Sq2 c1 s.heap l1 xs) (hl2 : Sq2 c2 s.heap l2 ys) (hx : xs[k1]? = some x) (hy : ys[k2]? = some y)
    (hQ : ∀ h', IsZip h' z TI TO (rawInt s.heap.objs.size) → IsPair h' TO x y → It2 c1 h' i1 l1 (k1 + 1) → It2 c2 h' i2 l2 (k2 + 1) → IsPair h' s.heap.objs.size x y → h'.objs.size = s.heap.objs.size + 1 →
      (∀ c o, c ≠ z → c ≠ TO → c ≠ i1 → c ≠ i2 → s.heap.get? c = some o → h'.get? c = some o) → Q (some (.ref s.heap.objs.size)) { s with heap := h' }) :
    wpAny (model prog w) A (pyNext (.ref z)) Q E s := by
  have hT : s.TypeIs (.ref z) "zip" := ⟨_, hz, rfl⟩
  unfold pyNext
  exact wpAny_bind (wpAny_attempt (wpAny_callSpecial?_slot (name := Str.ofString "__next__") hT PySem.F.slot_zip_next
    (wpAny_call_entry PySem.F.slot_zip_next hT PySem.F.entry_zip_next
      (zipM_next_item D hz hTI hTO h1 h2 hl1 hl2 hx hy fun h' a1 a2 a3 a4 a5 a6 a7 => wpAny_pure (hQ h' a1 a2 a3 a4 a5 a6 a7)) (PySem.F.args_zip_next_1 _))))

theorem pyNext_zipM_end {c1 c2 : Bool} {z TI TO i1 i2 l1 l2 : Addr} {k1 k2 : Nat} {xs ys : Array Value} {a b : Value} {Q : Option Value → Shared → Prop} (hh : A.handled = none) (D : ZipApart z TI TO i1 i2 l1 l2)
    (hz : IsZip s.heap z TI TO .none) (hTI : IsPair s.heap TI (.ref i1) (.ref i2)) (hTO : IsPair s.heap TO a b)
    (h1 : It2 c1 s.heap i1 l1 k1) (h2 : It2 c2 s.heap i2 l2 k2) (hl1 : Sq2 c1 s.heap l1 xs) (hl2 : Sq2 c2 s.heap l2 ys) (hend : xs[k1]? = none ∨ ys[k2]? = none)
    (hQ : ∀ h', (∀ c o, c ≠ z → c ≠ TO → c ≠ i1 → c ≠ i2 → s.heap.get? c = some o → h'.get? c = some o) → Q none { s with heap := h' }) : wpAny (model prog w) A (pyNext (.ref z)) Q E s := by
  have hT : s.TypeIs (.ref z) "zip" := ⟨_, hz, rfl⟩
  unfold pyNext
  refine wpAny_bind (wpAny_attempt (wpAny_callSpecial?_slot (name := Str.ofString "__next__") hT PySem.F.slot_zip_next
    (wpAny_call_entry PySem.F.slot_zip_next hT PySem.F.entry_zip_next (zipM_next_end hh D hz hTI hTO h1 h2 hl1 hl2 hend fun h' e hk he => ?_) (PySem.F.args_zip_next_1 _))))
  obtain ⟨o, ho, hc⟩ := he
  refine wpAny_bind (wpAny_isInstance (T := "StopIteration") (b := true) ⟨o, ho, hc⟩ isSubtype_stop ?_)
  exact wpAny_pure (hQ _ hk)
end

abbrev zipMH1 (c1 : Bool) (h : Heap) (l1 : Addr) : Heap := h.push (itO c1 l1)
abbrev zipMH2 (c1 c2 : Bool) (h : Heap) (l1 l2 : Addr) : Heap := (zipMH1 c1 h l1).push (itO c2 l2)
abbrev zipMH3 (c1 c2 : Bool) (h : Heap) (l1 l2 : Addr) : Heap := (zipMH2 c1 c2 h l1 l2).push { cls := .type "tuple", data := .seq #[.ref h.objs.size, .ref (zipMH1 c1 h l1).objs.size] }
abbrev zipMH4 (c1 c2 : Bool) (h : Heap) (l1 l2 : Addr) : Heap := (zipMH3 c1 c2 h l1 l2).push { cls := .type "tuple", data := .seq #[.none, .none] }
abbrev zipMH5 (c1 c2 : Bool) (h : Heap) (l1 l2 : Addr) : Heap := (zipMH4 c1 c2 h l1 l2).push { cls := .type "zip", data := .fields #[.none, .bool false, .bool false, .ref (zipMH2 c1 c2 h l1 l2).objs.size, .ref (zipMH3 c1 c2 h l1 l2).objs.size] }

theorem meets_zipM_new (c1 c2 : Bool) (l1 l2 : Addr) (xs ys : Array Value) :
    Meets (Builtin.«zip.__new__» ⟨[.type "zip", .ref l1, .ref l2], []⟩) (fun _ R s => Sq2 c1 s.heap l1 xs ∧ Sq2 c2 s.heap l2 ys ∧
      R (.ok (.ret (.ref (zipMH4 c1 c2 s.heap l1 l2).objs.size))) { s with heap := zipMH5 c1 c2 s.heap l1 l2 }) :=
  .of_wp fun prog w A R s h => by
    obtain ⟨hp, g, d, tk, os⟩ := s; obtain ⟨hl1, hl2, h⟩ := h
    have hsub := sub_zip
    have hL1 : Sq2 c1 (Shared.heap ⟨hp, g, d, tk, os⟩) l1 xs := hl1
    have hL2 : Sq2 c2 (Shared.heap ⟨hp.push (itO c1 l1), g, d, tk, os⟩) l2 ys := Sq2.push hl2 _
    wp_walk using pyIter_any hL1, pyIter_any hL2
    exact ⟨_, rfl, h⟩

section
variable {prog : Program} {w : World} {A : Around} {E : Value → Shared → Prop} {s : Shared}

theorem call_zipM {c1 c2 : Bool} {l1 l2 : Addr} {xs ys : Array Value} {Q : Value → Shared → Prop} (hl1 : Sq2 c1 s.heap l1 xs) (hl2 : Sq2 c2 s.heap l2 ys)
    (h : ∀ h', IsZip h' (s.heap.objs.size + 4) (s.heap.objs.size + 2) (s.heap.objs.size + 3) .none → IsPair h' (s.heap.objs.size + 2) (.ref s.heap.objs.size) (.ref (s.heap.objs.size + 1)) →
      IsPair h' (s.heap.objs.size + 3) .none .none → It2 c1 h' s.heap.objs.size l1 0 → It2 c2 h' (s.heap.objs.size + 1) l2 0 → h'.objs.size = s.heap.objs.size + 5 →
      (∀ c o, s.heap.get? c = some o → h'.get? c = some o) → Q (.ref (s.heap.objs.size + 4)) { s with heap := h' }) :
    wpAny (model prog w) A (call (.type "zip") [.ref l1, .ref l2]) Q E s := by
  refine callType_new PySem.F.called_zip (by decide) (PySem.F.typeCall_zip_2 _ _) (PySem.F.newCall_zip_2 _ _) (fun obj => PySem.F.args_object_init_3 obj _ _) PySem.F.entry_zip_new
    (meets_zipM_new c1 c2 l1 l2 xs ys) ⟨hl1, hl2, ?_⟩
  have z1 : (zipMH1 c1 s.heap l1).objs.size = s.heap.objs.size + 1 := Heap.size_push ..
  have z2 : (zipMH2 c1 c2 s.heap l1 l2).objs.size = s.heap.objs.size + 2 := by rw [Heap.size_push, z1]
  have z3 : (zipMH3 c1 c2 s.heap l1 l2).objs.size = s.heap.objs.size + 3 := by rw [Heap.size_push, z2]
  have z4 : (zipMH4 c1 c2 s.heap l1 l2).objs.size = s.heap.objs.size + 4 := by rw [Heap.size_push, z3]
  have z5 : (zipMH5 c1 c2 s.heap l1 l2).objs.size = s.heap.objs.size + 5 := by rw [Heap.size_push, z4]
  have g5 : (zipMH5 c1 c2 s.heap l1 l2).get? (zipMH4 c1 c2 s.heap l1 l2).objs.size = some _ := Heap.get?_push_size _ rfl
  have g4 : (zipMH5 c1 c2 s.heap l1 l2).get? (zipMH3 c1 c2 s.heap l1 l2).objs.size = some _ := Heap.get?_push_of_some _ (Heap.get?_push_size _ rfl)
  have g3 : (zipMH5 c1 c2 s.heap l1 l2).get? (zipMH2 c1 c2 s.heap l1 l2).objs.size = some _ := Heap.get?_push_of_some _ (Heap.get?_push_of_some _ (Heap.get?_push_size _ rfl))
  have g2 : (zipMH5 c1 c2 s.heap l1 l2).get? (zipMH1 c1 s.heap l1).objs.size = some _ := Heap.get?_push_of_some _ (Heap.get?_push_of_some _ (Heap.get?_push_of_some _ (Heap.get?_push_size _ itO_fr)))
  have g1 : (zipMH5 c1 c2 s.heap l1 l2).get? s.heap.objs.size = some _ := Heap.get?_push_of_some _ (Heap.get?_push_of_some _ (Heap.get?_push_of_some _ (Heap.get?_push_of_some _ (Heap.get?_push_size _ itO_fr))))
  show _ ∧ _
  rw [z2, z3, z4] at g5
  rw [z1, z2] at g3
  rw [z3] at g4
  rw [z1] at g2
  rw [z4]
  exact ⟨⟨_, g5, rfl⟩, h _ g5 g3 g4 (It2.new g1) (It2.new g2) z5 fun c o x =>
    Heap.get?_push_of_some _ (Heap.get?_push_of_some _ (Heap.get?_push_of_some _ (Heap.get?_push_of_some _ (Heap.get?_push_of_some _ x))))⟩
end
/-- the tuples at a and b as they stand at each turn, the items in new pairs -/
def ItzM (c1 c2 : Bool) (K : PySem.W.Frag) (a b : Addr) : It :=
  ⟨fun i H => ∃ (xs ys : List V) (x y : V), SqA c1 K H a xs ∧ SqA c2 K H b ys ∧ xs[i]? = some x ∧ ys[i]? = some y,
    fun i H v H' => ∃ T x y, v = .ref T ∧ H T = none ∧ H' = upd H T (.tup [x, y]) ∧ (∀ xs, SqA c1 K H a xs → xs[i]? = some x) ∧ ∀ ys, SqA c2 K H b ys → ys[i]? = some y,
    fun i H => ∃ xs ys : List V, SqA c1 K H a xs ∧ SqA c2 K H b ys ∧ (xs.length ≤ i ∨ ys.length ≤ i)⟩
theorem turn_zipM {c1 c2 : Bool} {P : Program} {w : World} {K : PySem.W.Frag} {elts : List Expr} {kk : Nat} {tpos : Pos} {a b z TI TO i1 i2 : Addr} (D : ZipApart z TI TO i1 i2 a b) :
    Turn P w K (.Tuple elts kk tpos) (ItzM c1 c2 K a b) [z, TI, TO, i1, i2] z (fun i h => IsZip h z TI TO .none ∧ IsPair h TI (.ref i1) (.ref i2) ∧ (∃ x y, IsPair h TO x y) ∧ It2 c1 h i1 a i ∧ It2 c2 h i2 b i) where
  mem := by simp
  obj := fun i h st c hc => by
    obtain ⟨hz, hTI, ⟨x, y, hTO⟩, hi1, hi2⟩ := st
    obtain ⟨o1, e1, d1⟩ := hi1.obj
    obtain ⟨o2, e2, d2⟩ := hi2.obj
    have e' : c = z ∨ c = TI ∨ c = TO ∨ c = i1 ∨ c = i2 := by simpa using hc
    rcases e' with q | q | q | q | q
    · rw [q]; exact ⟨_, hz, fun v q => nomatch q⟩
    · rw [q]; exact ⟨_, hTI, fun v q => nomatch q⟩
    · rw [q]; exact ⟨_, hTO, fun v q => nomatch q⟩
    · rw [q]; exact ⟨o1, e1, fun v q => by rw [d1] at q; cases q⟩
    · rw [q]; exact ⟨o2, e2, fun v q => by rw [d2] at q; cases q⟩
  keep := fun i h h' st k => by
    obtain ⟨hz, hTI, ⟨x, y, hTO⟩, h1, h2⟩ := st
    exact ⟨k z (by simp) _ hz, k TI (by simp) _ hTI, ⟨x, y, k TO (by simp) _ hTO⟩, h1.at fun o q => k i1 (by simp) o q, h2.at fun o q => k i2 (by simp) o q⟩
  item := by
    intro X hP hw hK hc i pins s σ H E I hf st hg
    subst hP hw hK
    obtain ⟨hz, hTI, ⟨x0, y0, hTO⟩, h1, h2⟩ := st
    obtain ⟨xs, ys, x, y, hqx, hqy, hx, hy⟩ := hg
    obtain ⟨its, rv, p⟩ := inv_sq I hqx
    obtain ⟨its2, rv2, p2⟩ := inv_sq I hqy
    obtain ⟨u, hu, ru⟩ := rv.get hx
    obtain ⟨u2, hu2, ru2⟩ := rv2.get hy
    have hzl : z < s.heap.objs.size := Heap.lt_size hz
    refine pyNext_zipM_item D hz hTI hTO h1 h2 p p2 (x := u) (y := u2) (by simpa using hu) (by simpa using hu2) fun h' z' TO' h1' h2' hT hsz hk => ?_
    refine ⟨_, rfl, wpAny_letOwnedTupleGo_zip (s := { s with heap := h' }) z' fun h'' z'' sb => ?_⟩
    have hT2 : h''.get? s.heap.objs.size = some { cls := .type "tuple", data := .seq #[u, u2] } := (sb.2 _ (Nat.ne_of_gt hzl)).trans hT
    have new : ObjOk X.prog X.w (upd H s.heap.objs.size (.tup [x, y])) h'' s.heap.objs.size (.tup [x, y]) :=
      ⟨by show 2 ≤ sizeLine; decide, [u, u2], .cons ru (.cons ru2 .nil), ⟨_, hT2, rfl, _, rfl⟩⟩
    have I1 : Inv X pins σ (upd H s.heap.objs.size (.tup [x, y])) { s with heap := h'' } :=
      I.turnedNew (t' := s.toks) (ch := [z, TI, TO, i1, i2]) (fun c o hb q => (sb.2 c (fun q' => hb (by simp [q']))).trans (hk c o (fun q' => hb (by simp [q'])) (fun q' => hb (by simp [q'])) (fun q' => hb (by simp [q'])) (fun q' => hb (by simp [q'])) q)) hf (Nat.le_refl _) new
    refine ⟨.ref s.heap.objs.size, _, I1, rfl, ⟨_, x, y, rfl, I.hok.fresh (Nat.le_refl _), rfl, fun l hl => by rw [sq_inj I hl hqx]; exact hx, fun l hl => by rw [sq_inj I hl hqy]; exact hy⟩, ⟨z'', ?_, ⟨u, u2, ?_⟩, ?_, ?_⟩, fun c hcm => ?_⟩
    · exact (sb.2 _ D.TIz).trans (hk _ _ D.TIz D.TITO D.TIi1 D.TIi2 hTI)
    · exact (sb.2 _ D.TOz).trans TO'
    · exact h1'.at fun o q => (sb.2 _ D.i1z).trans q
    · exact h2'.at fun o q => (sb.2 _ D.i2z).trans q
    · have hlt : c < s.heap.objs.size := by
        have e' : c = z ∨ c = TI ∨ c = TO ∨ c = i1 ∨ c = i2 := by simpa using hcm
        rcases e' with q | q | q | q | q
        · rw [q]; exact hzl
        · rw [q]; exact Heap.lt_size hTI
        · rw [q]; exact Heap.lt_size hTO
        · rw [q]; obtain ⟨_, e1, _⟩ := h1.obj; exact Heap.lt_size e1
        · rw [q]; obtain ⟨_, e2, _⟩ := h2.obj; exact Heap.lt_size e2
      rw [upd_ne (Nat.ne_of_lt hlt)]
      exact (hf c hcm).1
  done := by
    intro X hP hw hK hc i pins s σ H E I hf st hg
    subst hP hw hK
    obtain ⟨hz, hTI, ⟨x0, y0, hTO⟩, h1, h2⟩ := st
    obtain ⟨xs, ys, hqx, hqy, hend⟩ := hg
    obtain ⟨its, rv, p⟩ := inv_sq I hqx
    obtain ⟨its2, rv2, p2⟩ := inv_sq I hqy
    have l1 := rv.length
    have l2 := rv2.length
    have he : its.toArray[i]? = none ∨ its2.toArray[i]? = none := by
      rcases hend with q | q
      · exact .inl (by simp; omega)
      · exact .inr (by simp; omega)
    exact pyNext_zipM_end (I.ok.hd hc) D hz hTI hTO h1 h2 p p2 he fun h' hk => ⟨rfl, I.turnedL (t' := s.toks) (ch := [z, TI, TO, i1, i2]) (fun c o hb q =>
      hk c o (fun q' => hb (by simp [q'])) (fun q' => hb (by simp [q'])) (fun q' => hb (by simp [q'])) (fun q' => hb (by simp [q'])) q) hf⟩
  self := fun A i s Q E st h => wpAny_pyIter_zip st.1 h

def iZipM (K : PySem.W.Frag) (ta : TA) : TI := fun σ H R => ta σ H fun vs H1 => ∃ (c1 c2 : Bool) (a b : Addr) (xs ys : List V), vs = [.ref a, .ref b] ∧ SqA c1 K H1 a xs ∧ SqA c2 K H1 b ys ∧ R (ItzM c1 c2 K a b) H1
theorem pi_zipM {X : Cx} {e e2 : Expr} {ta : TA} {p pos tpos : Pos} {elts : List Expr} {kk : Nat} (hg : Gl X "zip") (hm : X.mg "zip" = none) (ha : PA X [e, e2] ta)
    (hs : starEach [e, e2] X.env = (false, eval e X.env) :: starEach [e2] X.env := by rfl) (hpl : (backTo pos (starEach [e2] X.env)).any (·.1) = false := by rfl) :
    PI X (.Tuple elts kk tpos) (.Call (.Name "zip" p) [e, e2] [] pos) (iZipM X.K ta) := by
  refine ⟨fun pins s σ H R I h => ?_⟩
  refine Call_ (ld_blt I hg hm PyProof.Rows.boot_zip (PyProof.Rows.callWith_type1 (thn (ha.run pos pins s σ H _ I h) fun us s1 ⟨vs, H1, I1, r1, q1⟩ => ?_) hs hpl))
  obtain ⟨c1, c2, a, b, xs, ys, ex, hqx, hqy, q⟩ := q1
  subst ex
  cases r1 with
  | cons r rr =>
    cases rr with
    | cons r' rr =>
      cases rr
      cases r
      cases r'
      have fresh5 : ∀ c, c ∈ [s1.heap.objs.size + 4, s1.heap.objs.size + 2, s1.heap.objs.size + 3, s1.heap.objs.size, s1.heap.objs.size + 1] → FpOk X pins H1 c := fun c hcm => by
        have e' : c = s1.heap.objs.size + 4 ∨ c = s1.heap.objs.size + 2 ∨ c = s1.heap.objs.size + 3 ∨ c = s1.heap.objs.size ∨ c = s1.heap.objs.size + 1 := by simpa using hcm
        have hle : s1.heap.objs.size ≤ c := by
          rcases e' with z | z | z | z | z
          · rw [z]; exact Nat.le_add_right _ _
          · rw [z]; exact Nat.le_add_right _ _
          · rw [z]; exact Nat.le_add_right _ _
          · rw [z]; exact Nat.le_refl _
          · rw [z]; exact Nat.le_add_right _ _
        exact I1.fpOk hle (I1.hok.fresh hle)
      obtain ⟨its, rv, p1⟩ := inv_sq I1 hqx
      obtain ⟨its2, rv2, p2⟩ := inv_sq I1 hqy
      refine call_zipM p1 p2 fun h' hz hTI hTO h1 h2 hsz hk => wpAny_pyIter_zip hz ?_
      have I2 : Inv X pins σ H1 { s1 with heap := h' } := I1.kept (t' := s1.toks) hk
      exact ⟨s1.heap.objs.size + 4, [s1.heap.objs.size + 4, s1.heap.objs.size + 2, s1.heap.objs.size + 3, s1.heap.objs.size, s1.heap.objs.size + 1], _, _, H1, rfl, I2, turn_zipM (PySem.W.ktu_apart s1.heap.objs.size a b p1.lt p2.lt), ⟨hz, hTI, ⟨_, _, hTO⟩, h1, h2⟩, fresh5, q⟩
section
variable {X : Cx} {N : List Str} {sc : Scope} {fr : List Str} {g : GF} {G : GI} {W : WX} {L : List Nat} {a b c : Expr} {pos p2 : Pos} {m n o : ME} {F H : Hp} {e : DEnv}
def zipMD (a b : D) : Option (List D) := match sqD a, sqD b with
  | some (_, xs), some (_, ys) => some (List.zipWith (fun x y => .tup [x, y]) xs ys)
  | _, _ => none
def mZipM (m n : ME) : MI := fun e => match m e with
  | .ok d1 e1 => match n e1 with
    | .ok d2 e2 => match zipMD (frz d1) (frz d2) with
      | some ds => .ok ds none e2
      | none => .no
    | .ex c d e2 => .ex c d e2
    | .no => .no
  | .ex c d e1 => .ex c d e1
  | .no => .no
theorem itok_zipM {c1 c2 : Bool} {K : PySem.W.Frag} {A B : Addr} {P : List Addr} {H0 : Hp} {vs ws : List V} {xs ys : List D} (h1 : F A = some (if c1 = true then .lst vs else .tup vs)) (h2 : F B = some (if c2 = true then .lst ws else .tup ws)) (r1 : ROs G F H [] vs xs) (r2 : ROs G F H [] ws ys) : ItOk G (ItzM c1 c2 K A B) F P H0 (List.zipWith (fun x y => .tup [x, y]) xs ys) where
  go := fun F' H' k d q1 _ q2 q3 => by
    obtain ⟨x, y, e1, e2, rfl⟩ := zipW_get q3
    obtain ⟨u, hu, ru⟩ := r1.get e1
    obtain ⟨w, hw, rw'⟩ := r2.get e2
    refine ⟨⟨vs, ws, u, w, sqA_of (q2 _ _ (q1 _ _ h1)), sqA_of (q2 _ _ (q1 _ _ h2)), hu, hw⟩, fun v H2 yl => ?_⟩
    obtain ⟨T, x', y', rfl, hT, rfl, f1, f2⟩ := yl
    have g1 := f1 vs (sqA_of (q2 _ _ (q1 _ _ h1)))
    have g2 := f2 ws (sqA_of (q2 _ _ (q1 _ _ h2)))
    rw [hu] at g1; rw [hw] at g2
    cases g1; cases g2
    exact pair_new q2 hT (ru.monoZ q1) (rw'.monoZ q1)
  stop := fun F' H' q1 _ q2 => ⟨vs, ws, sqA_of (q2 _ _ (q1 _ _ h1)), sqA_of (q2 _ _ (q1 _ _ h2)), by
    rw [List.length_zipWith, r1.length, r2.length]; omega⟩
theorem si_zipM {elts : List Expr} {kk : Nat} {tpos : Pos} (C : Cn X N sc fr) (h1 : ("zip" : Str) ∈ fr) (h2 : glB sc "zip" = true) (ha : SE X g W a m) (hb : SE X g W b n) (hs : starEach [a, b] X.env = (false, eval a X.env) :: starEach [b] X.env) (hs2 : starEach [b] X.env = (false, eval b X.env) :: starEach [] X.env) (hpl : (backTo pos (starEach [b] X.env)).any (·.1) = false) :
    SI X g W (.Tuple elts kk tpos) (.Call (.Name "zip" p2) [a, b] [] pos) (mZipM m n) := PI.imp (pi_zipM (gl_ok C h2) (C.hfr _ h1) (pa_cons ha.z (pa_cons hb.z pa_nil hs2) hs) hs hpl) fun σ H R ⟨F, fp, e, s, h⟩ => by
  refine ⟨F, fp, e, s, ?_⟩
  unfold mZipM at h
  cases q : m e with
  | ex c d e1 => rw [q] at h; exact h
  | no => rw [q] at h; exact h
  | ok d1 e1 =>
    rw [q] at h
    intro x F1 H1 fp1 s1 r1 tr1
    refine ⟨F1, fp1, e1, s1, ?_⟩
    simp only at h
    cases q1 : n e1 with
    | ex c d e2 => rw [q1] at h; exact XOut.trans h tr1
    | no => rw [q1] at h; exact h
    | ok d2 e2 =>
      rw [q1] at h
      intro y F2 H2 fp2 s2 r2 tr2
      simp only at h
      have r1 := r1.mono (F' := F2) (H' := H2) tr2.ff fun a z => nomatch z
      generalize frz d1 = z1 at h r1
      generalize frz d2 = z2 at h r2
      unfold zipMD at h
      cases w1 : sqD z1 with
      | none => rw [w1] at h; exact h.elim
      | some p1 =>
        cases w2 : sqD z2 with
        | none => rw [w1, w2] at h; exact h.elim
        | some p2 =>
          obtain ⟨c1, xs⟩ := p1
          obtain ⟨c2, ys⟩ := p2
          rw [w1, w2] at h
          obtain ⟨A, vs, rfl, ha, ra⟩ := sqD_inv r1 w1
          obtain ⟨B, ws, rfl, hb, rb⟩ := sqD_inv r2 w2
          exact ⟨c1, c2, A, B, vs, ws, rfl, sqA_of (s2.sub _ _ ha), sqA_of (s2.sub _ _ hb), h _ F2 H2 fp2 [] s2 rfl (tr1.trans tr2).nil (itok_zipM ha hb ra rb)⟩
@[simp] theorem ap_zipM : mZipM m n e = match m e with
  | .ok d1 e1 => match n e1 with
    | .ok d2 e2 => match zipMD (frz d1) (frz d2) with
      | some ds => .ok ds none e2
      | none => .no
    | .ex c d e2 => .ex c d e2
    | .no => .no
  | .ex c d e1 => .ex c d e1
  | .no => .no := rfl
@[simp] theorem zM_eq {a b : D} : zipMD a b = match sqD a, sqD b with
  | some (_, xs), some (_, ys) => some (List.zipWith (fun x y => .tup [x, y]) xs ys)
  | _, _ => none := rfl
end
end EV

namespace LW
open PySem PySem.Spec PyProof.Rows L2 EV
def top (i : Nat) : Stmt := PySem.Challenge.pw_fairanyprice_k86_the_case_of_counsel.main.body.getD i (.Pass ⟨0, 0, 0, 0⟩)
def g0 (K : PySem.W.Frag) : GF := ⟨fun _ => 0, fun c => match c with
  | 0 => He.ga K "OwnError"
  | 1 => He.ga K "Refused"
  | _ => 0, fun c => match c with
  | 1 => "value"
  | _ => ""⟩
def k1 : ClD := ⟨"Refused", "Refused.__init__", "value", "value", (clFn (top 2)).1, (clFn (top 2)).2⟩
theorem kok1 : SupOk k1 := ⟨_, _, _, _, _, _, _, _, _, _, _, _, _, rfl, rfl, rfl, rfl, by decide, by decide, rfl, rfl, rfl, fun _ _ _ _ _ _ _ _ _ => rfl⟩
def FR : List Str := ["super", "len", "abs", "int", "tuple", "list", "max", "min", "isinstance", "range", "zip", "enumerate", "bool", "str", "sorted"]
theorem fr_super : ("super" : Str) ∈ FR := by decide +kernel
theorem fr_len : ("len" : Str) ∈ FR := by decide +kernel
theorem fr_abs : ("abs" : Str) ∈ FR := by decide +kernel
theorem fr_int : ("int" : Str) ∈ FR := by decide +kernel
theorem fr_tuple : ("tuple" : Str) ∈ FR := by decide +kernel
theorem fr_list : ("list" : Str) ∈ FR := by decide +kernel
theorem fr_max : ("max" : Str) ∈ FR := by decide +kernel
theorem fr_min : ("min" : Str) ∈ FR := by decide +kernel
theorem fr_isinstance : ("isinstance" : Str) ∈ FR := by decide +kernel
theorem fr_range : ("range" : Str) ∈ FR := by decide +kernel
theorem fr_zip : ("zip" : Str) ∈ FR := by decide +kernel
theorem fr_enumerate : ("enumerate" : Str) ∈ FR := by decide +kernel
theorem fr_bool : ("bool" : Str) ∈ FR := by decide +kernel
theorem fr_str : ("str" : Str) ∈ FR := by decide +kernel
theorem fr_sorted : ("sorted" : Str) ∈ FR := by decide +kernel
def d4 : He.DefD := ⟨("step_at", none), "step_at", "step_at", defArgs (top 4), defBody (top 4), defScope (top 4), [], []⟩
def d5 : He.DefD := ⟨("row_steps", none), "row_steps", "row_steps", defArgs (top 5), defBody (top 5), defScope (top 5), [], []⟩
def d6 : He.DefD := ⟨("row_tasks", none), "row_tasks", "row_tasks", defArgs (top 6), defBody (top 6), defScope (top 6), [], []⟩
def d8 : He.DefD := ⟨("ends_behind", none), "ends_behind", "ends_behind", defArgs (top 8), defBody (top 8), defScope (top 8), [], []⟩
def d9 : He.DefD := ⟨("ends_of", none), "ends_of", "ends_of", defArgs (top 9), defBody (top 9), defScope (top 9), [], []⟩
def d10 : He.DefD := ⟨("least_cost", none), "least_cost", "least_cost", defArgs (top 10), defBody (top 10), defScope (top 10), [], []⟩
def d12 : He.DefD := ⟨("entries_at", none), "entries_at", "entries_at", defArgs (top 12), defBody (top 12), defScope (top 12), [], []⟩
def d13 : He.DefD := ⟨("number_among", none), "number_among", "number_among", defArgs (top 13), defBody (top 13), defScope (top 13), [], []⟩
def d14 : He.DefD := ⟨("counsel_step", none), "counsel_step", "counsel_step", defArgs (top 14), defBody (top 14), defScope (top 14), [], []⟩
def d15 : He.DefD := ⟨("counsel_book", none), "counsel_book", "counsel_book", defArgs (top 15), defBody (top 15), defScope (top 15), [], []⟩
def d16 : He.DefD := ⟨("costs_within", none), "costs_within", "costs_within", defArgs (top 16), defBody (top 16), defScope (top 16), [], []⟩
def d17 : He.DefD := ⟨("counsel_case", none), "counsel_case", "counsel_case", defArgs (top 17), defBody (top 17), defScope (top 17), [], []⟩
def d18 : He.DefD := ⟨("counsel_paid", none), "counsel_paid", "counsel_paid", defArgs (top 18), defBody (top 18), defScope (top 18), [], []⟩
def d20 : He.DefD := ⟨("_law_box", none), "_law_box", "_law_box", defArgs (top 20), defBody (top 20), defScope (top 20), [], []⟩
def d21 : He.DefD := ⟨("_law_take", none), "_law_take", "_law_take", defArgs (top 21), defBody (top 21), defScope (top 21), [], []⟩
def d22 : He.DefD := ⟨("_law_pick", none), "_law_pick", "_law_pick", defArgs (top 22), defBody (top 22), defScope (top 22), [], []⟩
def d23 : He.DefD := ⟨("_law_same", none), "_law_same", "_law_same", defArgs (top 23), defBody (top 23), defScope (top 23), [], []⟩
def d24 : He.DefD := ⟨("_law_closed", none), "_law_closed", "_law_closed", defArgs (top 24), defBody (top 24), defScope (top 24), [], []⟩
def d25 : He.DefD := ⟨("_law_service", none), "_law_service", "_law_service", defArgs (top 25), defBody (top 25), defScope (top 25), [], []⟩
def d26 : He.DefD := ⟨("_law_crowd_case", none), "_law_crowd_case", "_law_crowd_case", defArgs (top 26), defBody (top 26), defScope (top 26), [], []⟩
def d27 : He.DefD := ⟨("_law_player", none), "_law_player", "_law_player", defArgs (top 27), defBody (top 27), defScope (top 27), [], []⟩
def d28 : He.DefD := ⟨("_law_counsel", none), "_law_counsel", "_law_counsel", defArgs (top 28), defBody (top 28), defScope (top 28), [], []⟩
def d29 : He.DefD := ⟨("_law_drawn_row", none), "_law_drawn_row", "_law_drawn_row", defArgs (top 29), defBody (top 29), defScope (top 29), [], []⟩
def d30 : He.DefD := ⟨("_law_lots_paid", none), "_law_lots_paid", "_law_lots_paid", defArgs (top 30), defBody (top 30), defScope (top 30), [], []⟩
def d31 : He.DefD := ⟨("_law_tried", none), "_law_tried", "_law_tried", defArgs (top 31), defBody (top 31), defScope (top 31), [], []⟩
def d32 : He.DefD := ⟨("_law_spoilt", none), "_law_spoilt", "_law_spoilt", defArgs (top 32), defBody (top 32), defScope (top 32), [], []⟩
def d33 : He.DefD := ⟨("law", none), "law", "law", defArgs (top 33), defBody (top 33), defScope (top 33), [], []⟩
structure Dn (P : Program) (w : World) (K : PySem.W.Frag) (mg : Str → Option Value) (fd : Nat → FuncData) : Prop where
  f4 : FunD K d4.name d4.qual d4.params d4.body d4.scope (d4.dvs K) (d4.kws K) (He.fAd K d4.at_) (fd 4)
  m4 : mg "step_at" = some (.ref (He.fAd K d4.at_))
  f5 : FunD K d5.name d5.qual d5.params d5.body d5.scope (d5.dvs K) (d5.kws K) (He.fAd K d5.at_) (fd 5)
  m5 : mg "row_steps" = some (.ref (He.fAd K d5.at_))
  f6 : FunD K d6.name d6.qual d6.params d6.body d6.scope (d6.dvs K) (d6.kws K) (He.fAd K d6.at_) (fd 6)
  m6 : mg "row_tasks" = some (.ref (He.fAd K d6.at_))
  f8 : FunD K d8.name d8.qual d8.params d8.body d8.scope (d8.dvs K) (d8.kws K) (He.fAd K d8.at_) (fd 8)
  m8 : mg "ends_behind" = some (.ref (He.fAd K d8.at_))
  f9 : FunD K d9.name d9.qual d9.params d9.body d9.scope (d9.dvs K) (d9.kws K) (He.fAd K d9.at_) (fd 9)
  m9 : mg "ends_of" = some (.ref (He.fAd K d9.at_))
  f10 : FunD K d10.name d10.qual d10.params d10.body d10.scope (d10.dvs K) (d10.kws K) (He.fAd K d10.at_) (fd 10)
  m10 : mg "least_cost" = some (.ref (He.fAd K d10.at_))
  f12 : FunD K d12.name d12.qual d12.params d12.body d12.scope (d12.dvs K) (d12.kws K) (He.fAd K d12.at_) (fd 12)
  m12 : mg "entries_at" = some (.ref (He.fAd K d12.at_))
  f13 : FunD K d13.name d13.qual d13.params d13.body d13.scope (d13.dvs K) (d13.kws K) (He.fAd K d13.at_) (fd 13)
  m13 : mg "number_among" = some (.ref (He.fAd K d13.at_))
  f14 : FunD K d14.name d14.qual d14.params d14.body d14.scope (d14.dvs K) (d14.kws K) (He.fAd K d14.at_) (fd 14)
  m14 : mg "counsel_step" = some (.ref (He.fAd K d14.at_))
  f15 : FunD K d15.name d15.qual d15.params d15.body d15.scope (d15.dvs K) (d15.kws K) (He.fAd K d15.at_) (fd 15)
  m15 : mg "counsel_book" = some (.ref (He.fAd K d15.at_))
  f16 : FunD K d16.name d16.qual d16.params d16.body d16.scope (d16.dvs K) (d16.kws K) (He.fAd K d16.at_) (fd 16)
  m16 : mg "costs_within" = some (.ref (He.fAd K d16.at_))
  f17 : FunD K d17.name d17.qual d17.params d17.body d17.scope (d17.dvs K) (d17.kws K) (He.fAd K d17.at_) (fd 17)
  m17 : mg "counsel_case" = some (.ref (He.fAd K d17.at_))
  f18 : FunD K d18.name d18.qual d18.params d18.body d18.scope (d18.dvs K) (d18.kws K) (He.fAd K d18.at_) (fd 18)
  m18 : mg "counsel_paid" = some (.ref (He.fAd K d18.at_))
  f20 : FunD K d20.name d20.qual d20.params d20.body d20.scope (d20.dvs K) (d20.kws K) (He.fAd K d20.at_) (fd 20)
  m20 : mg "_law_box" = some (.ref (He.fAd K d20.at_))
  f21 : FunD K d21.name d21.qual d21.params d21.body d21.scope (d21.dvs K) (d21.kws K) (He.fAd K d21.at_) (fd 21)
  m21 : mg "_law_take" = some (.ref (He.fAd K d21.at_))
  f22 : FunD K d22.name d22.qual d22.params d22.body d22.scope (d22.dvs K) (d22.kws K) (He.fAd K d22.at_) (fd 22)
  m22 : mg "_law_pick" = some (.ref (He.fAd K d22.at_))
  f23 : FunD K d23.name d23.qual d23.params d23.body d23.scope (d23.dvs K) (d23.kws K) (He.fAd K d23.at_) (fd 23)
  m23 : mg "_law_same" = some (.ref (He.fAd K d23.at_))
  f24 : FunD K d24.name d24.qual d24.params d24.body d24.scope (d24.dvs K) (d24.kws K) (He.fAd K d24.at_) (fd 24)
  m24 : mg "_law_closed" = some (.ref (He.fAd K d24.at_))
  f25 : FunD K d25.name d25.qual d25.params d25.body d25.scope (d25.dvs K) (d25.kws K) (He.fAd K d25.at_) (fd 25)
  m25 : mg "_law_service" = some (.ref (He.fAd K d25.at_))
  f26 : FunD K d26.name d26.qual d26.params d26.body d26.scope (d26.dvs K) (d26.kws K) (He.fAd K d26.at_) (fd 26)
  m26 : mg "_law_crowd_case" = some (.ref (He.fAd K d26.at_))
  f27 : FunD K d27.name d27.qual d27.params d27.body d27.scope (d27.dvs K) (d27.kws K) (He.fAd K d27.at_) (fd 27)
  m27 : mg "_law_player" = some (.ref (He.fAd K d27.at_))
  f28 : FunD K d28.name d28.qual d28.params d28.body d28.scope (d28.dvs K) (d28.kws K) (He.fAd K d28.at_) (fd 28)
  m28 : mg "_law_counsel" = some (.ref (He.fAd K d28.at_))
  f29 : FunD K d29.name d29.qual d29.params d29.body d29.scope (d29.dvs K) (d29.kws K) (He.fAd K d29.at_) (fd 29)
  m29 : mg "_law_drawn_row" = some (.ref (He.fAd K d29.at_))
  f30 : FunD K d30.name d30.qual d30.params d30.body d30.scope (d30.dvs K) (d30.kws K) (He.fAd K d30.at_) (fd 30)
  m30 : mg "_law_lots_paid" = some (.ref (He.fAd K d30.at_))
  f31 : FunD K d31.name d31.qual d31.params d31.body d31.scope (d31.dvs K) (d31.kws K) (He.fAd K d31.at_) (fd 31)
  m31 : mg "_law_tried" = some (.ref (He.fAd K d31.at_))
  f32 : FunD K d32.name d32.qual d32.params d32.body d32.scope (d32.dvs K) (d32.kws K) (He.fAd K d32.at_) (fd 32)
  m32 : mg "_law_spoilt" = some (.ref (He.fAd K d32.at_))
  f33 : FunD K d33.name d33.qual d33.params d33.body d33.scope (d33.dvs K) (d33.kws K) (He.fAd K d33.at_) (fd 33)
  m33 : mg "law" = some (.ref (He.fAd K d33.at_))
  fr : ∀ x ∈ FR, mg x = none
  mx0 : mg "OwnError" = some (.ref ((g0 K).ca 0))
  mx1 : mg "Refused" = some (.ref ((g0 K).ca 1))
  x1 : ExK P w K mg (g0 K) 1 "Refused"
  xf1 : XfC K ((g0 K).ca 1)
  xe1 : ExcC K ((g0 K).ca 1)
  xo1 : PySem.W.findIn K (.ref ((g0 K).ca 1)) "value" = some none
  em1_1 : PySem.W.exmOne K (.ref ((g0 K).ca 1)) (.ref ((g0 K).ca 1)) = some true
def cg_1 : Nat → Option Bool
  | 1 => some true
  | _ => none
theorem cg_ok_1 {P : Program} {w : World} {K : PySem.W.Frag} {mg : Str → Option Value} {fd : Nat → FuncData} (T : Dn P w K mg fd) (c : Nat) (b : Bool) (h : cg_1 c = some b) : PySem.W.exmOne K (.ref ((g0 K).ca c)) (.ref ((g0 K).ca 1)) = some b := by
  unfold cg_1 at h
  split at h
  · injection h with h; subst h; exact T.em1_1
  · cases h
/-! ### step_at -/
abbrev N4 : List Str := ["book", "room", "sign"]
abbrev mask_4 : List Bool := [false, false, false]
theorem S4 : FnScope N4 ["book", "room", "sign"] (defScope (top 4)) := ⟨rfl, rfl, rfl, by decide +kernel, rfl, by decide +kernel, by decide +kernel⟩
theorem bind_4 {K : PySem.W.Frag} {f : Addr} {fd : FuncData} (F : FunD K d4.name d4.qual d4.params d4.body d4.scope (d4.dvs K) (d4.kws K) f fd) : Binds K fd ["book", "room", "sign"] [] := FunD.bindsN F fun _ _ _ _ _ _ us hl => match us, hl with | [_, _, _], _ => rfl
def m_4 : MS := (mSeq (mRet (mIf (mOp2 (cmpD fun i j => decide (i < j)) (.v 2) (.e (mOp1 lenD (.e (mOp2 ixD (.v 0) (.v 1)))))) (mOp2 ixD (.e (mOp2 ixD (.v 0) (.v 1))) (.v 2)) (mC .non)))
  RS.nx)
def c_4 : List D → RC := callF 3 mask_4 m_4
theorem b_4 {X : Cx} {W : WX} {fd : Nat → FuncData} (C : Cf X W N4 (defScope (top 4)) FR) (R : Room 0 X.A) (T : Dn X.prog X.w X.K X.mg fd) : SSs X (g0 X.K) W (lix 0 mask_4) (defBody (top 4)) m_4 := by
  have h0 : varB N4 (defScope (top 4)) 0 "book" = true := by decide +kernel
  have h1 : varB N4 (defScope (top 4)) 1 "room" = true := by decide +kernel
  have h2 : varB N4 (defScope (top 4)) 2 "sign" = true := by decide +kernel
  have g_len : glB (defScope (top 4)) "len" = true := by decide +kernel
  unfold m_4
  exact (sss_cons (ss_ret (se_if (st_lt (SOp.v C.toCn h2) (SOp.e (se_len C.toCn fr_len g_len (SOp.e (se_ix C.toCn (SOp.v C.toCn h0) (SOp.v C.toCn h1) (fun _ _ => rfl))) rfl))) (se_ix C.toCn (SOp.e (se_ix C.toCn (SOp.v C.toCn h0) (SOp.v C.toCn h1) (fun _ _ => rfl))) (SOp.v C.toCn h2) (fun _ _ => rfl)) (se_non (g := g0 X.K) (W := W))))
  sss_nil)
theorem ok_4 {P : Program} {w : World} {K : PySem.W.Frag} {mg : Str → Option Value} {base : Heap} {fd : Nat → FuncData} (T : Dn P w K mg fd) : FnOk P w K mg base (L2.CX P w) 1 (He.fAd K d4.at_) (fd 4) ["book", "room", "sign"] (Prom ⟨g0 K, K⟩ mask_4 c_4) :=
  fn_okC T.f4 S4 rfl (by decide) T.fr fun X W e1 e2 e3 e4 e5 R C => by
    subst e1 e2 e3 e4 e5
    exact b_4 C R T
/-! ### row_steps -/
abbrev N5 : List Str := ["book", "row", "steps", "room", "place", "sign", "step"]
abbrev mask_5 : List Bool := [false, false]
theorem S5 : FnScope N5 ["book", "row"] (defScope (top 5)) := ⟨rfl, rfl, rfl, by decide +kernel, rfl, by decide +kernel, by decide +kernel⟩
theorem bind_5 {K : PySem.W.Frag} {f : Addr} {fd : FuncData} (F : FunD K d5.name d5.qual d5.params d5.body d5.scope (d5.dvs K) (d5.kws K) f fd) : Binds K fd ["book", "row"] [] := FunD.bindsN F fun _ _ _ _ _ _ us hl => match us, hl with | [_, _], _ => rfl
def s_5_1 : MS := (mSeq (mAsg (.v 6) (mCall c_4 mask_4 [] [.t (mV 0), .t (mV 3), .t (mV 5)]))
  (mSeq (mIfS (mOp1 (fun d => some (.bl (isN d))) (.v 6)) (mSeq (mRaise 1 (mV 4))
  RS.nx) RS.nx)
  (mSeq (mExpr (mApp 2 (mV 6)))
  (mSeq (mAsg (.v 3) (mOp2 ixD (.v 6) (.e (mC (.int 2)))))
  RS.nx))))
def m_5 : MS := (mSeq (mPar [2, 3] [.t (mLst []), .t (mC (.int 0))])
  (mSeq (mFor [] (.t [(.v 4), (.v 5)]) (mEnum (mV 1)) s_5_1)
  (mSeq (mRet (mMv 2))
  RS.nx)))
def c_5 : List D → RC := callF 7 mask_5 m_5
theorem b_5 {X : Cx} {W : WX} {fd : Nat → FuncData} (C : Cf X W N5 (defScope (top 5)) FR) (R : Room 1 X.A) (T : Dn X.prog X.w X.K X.mg fd) : SSs X (g0 X.K) W (lix 0 mask_5) (defBody (top 5)) m_5 := by
  have h0 : varB N5 (defScope (top 5)) 0 "book" = true := by decide +kernel
  have h1 : varB N5 (defScope (top 5)) 1 "row" = true := by decide +kernel
  have h2 : varB N5 (defScope (top 5)) 2 "steps" = true := by decide +kernel
  have h3 : varB N5 (defScope (top 5)) 3 "room" = true := by decide +kernel
  have h4 : varB N5 (defScope (top 5)) 4 "place" = true := by decide +kernel
  have h5 : varB N5 (defScope (top 5)) 5 "sign" = true := by decide +kernel
  have h6 : varB N5 (defScope (top 5)) 6 "step" = true := by decide +kernel
  have g_Refused : glB (defScope (top 5)) "Refused" = true := by decide +kernel
  have g_enumerate : glB (defScope (top 5)) "enumerate" = true := by decide +kernel
  have g_step_at : glB (defScope (top 5)) "step_at" = true := by decide +kernel
  unfold m_5
  exact (sss_cons (ss_parC C (by decide +kernel) (by decide +kernel) (by decide) (sa_consT (se_lst (g := g0 X.K) (W := W) sa_nil) (sa_consT (se_int (g := g0 X.K) (W := W)) sa_nil rfl) rfl) (by kernel_rfl) (by decide))
  (sss_cons (ss_for (Ls := []) (t := (.t [(.v 4), (.v 5)])) C.po C.calm (si_enum C.toCn fr_enumerate g_enumerate (se_v C.toCn h1) rfl rfl) (pg_tup C.toCn.calm (pgs_cons (pg_f C (by decide +kernel)) (pgs_cons (pg_f C (by decide +kernel)) pgs_nil))) (gok_t rfl rfl (gsok_cons (gok_v (by decide)) (gsok_cons (gok_v (by decide)) gsok_nil))) (sss_cons (ss_setC C (by decide +kernel) (se_call (dvs := []) (ds := []) C.tk (ok_4 T) (R.mono (by decide)) (gl_ok C.toCn g_step_at) T.m4 T.f4.kp (bind_4 T.f4) .nil (fun _ _ => .nil) (sa_consT (se_v C.toCn h0) (sa_consT (se_v C.toCn h3) (sa_consT (se_v C.toCn h5) sa_nil rfl) rfl) rfl) (by decide) rfl rfl) (by decide) rfl)
  (sss_cons (ss_if (st_isN (SOp.v C.toCn h6)) (sss_cons (ss_raise C T.x1 (T.fr _ fr_super) (k := 0) (R.mono (by decide)) g_Refused (se_v C.toCn h4) (by decide) rfl)
  sss_nil) sss_nil)
  (sss_cons (ss_expr (se_app C.toCn h2 (se_v C.toCn h6) rfl rfl) rfl)
  (sss_cons (ss_setC C (by decide +kernel) (se_ix C.toCn (SOp.v C.toCn h6) (SOp.e (se_int (g := g0 X.K) (W := W))) (fun _ _ => rfl)) (by decide) rfl)
  sss_nil)))) (fun _ => rfl))
  (sss_cons (ss_ret (se_mv C.toCn h2))
  sss_nil)))
theorem ok_5 {P : Program} {w : World} {K : PySem.W.Frag} {mg : Str → Option Value} {base : Heap} {fd : Nat → FuncData} (T : Dn P w K mg fd) : FnOk P w K mg base (L2.CX P w) 2 (He.fAd K d5.at_) (fd 5) ["book", "row"] (Prom ⟨g0 K, K⟩ mask_5 c_5) :=
  fn_okC T.f5 S5 rfl (by decide) T.fr fun X W e1 e2 e3 e4 e5 R C => by
    subst e1 e2 e3 e4 e5
    exact b_5 C R T
/-! ### row_tasks -/
abbrev N6 : List Str := ["book", "row", "step"]
abbrev mask_6 : List Bool := [false, false]
theorem S6 : FnScope N6 ["book", "row"] (defScope (top 6)) := ⟨rfl, rfl, rfl, by decide +kernel, rfl, by decide +kernel, by decide +kernel⟩
theorem bind_6 {K : PySem.W.Frag} {f : Addr} {fd : FuncData} (F : FunD K d6.name d6.qual d6.params d6.body d6.scope (d6.dvs K) (d6.kws K) f fd) : Binds K fd ["book", "row"] [] := FunD.bindsN F fun _ _ _ _ _ _ us hl => match us, hl with | [_, _], _ => rfl
def q_6_1 : ME := (mOp2 ixD (.v 2) (.e (mC (.int 0))))
def m_6 : MS := (mSeq (mRet (mOp1 tupleD (.e (mLc [2] (.v 2) (mIt (mCall c_5 mask_5 [] [.t (mV 0), .t (mV 1)])) mTrue q_6_1))))
  RS.nx)
def c_6 : List D → RC := callF 3 mask_6 m_6
theorem b_6 {X : Cx} {W : WX} {fd : Nat → FuncData} (C : Cf X W N6 (defScope (top 6)) FR) (R : Room 2 X.A) (T : Dn X.prog X.w X.K X.mg fd) : SSs X (g0 X.K) W (lix 0 mask_6) (defBody (top 6)) m_6 := by
  have h0 : varB N6 (defScope (top 6)) 0 "book" = true := by decide +kernel
  have h1 : varB N6 (defScope (top 6)) 1 "row" = true := by decide +kernel
  have g_row_steps : glB (defScope (top 6)) "row_steps" = true := by decide +kernel
  have g_tuple : glB (defScope (top 6)) "tuple" = true := by decide +kernel
  unfold m_6
  exact (sss_cons (ss_ret (se_tuple C.toCn fr_tuple g_tuple (SOp.e (se_lcC (own' := [("step", 2)]) (t := (.v 2)) C.toCn (si_seq (se_call (dvs := []) (ds := []) C.tk (ok_5 T) (R.mono (by decide)) (gl_ok C.toCn g_row_steps) T.m5 T.f5.kp (bind_5 T.f5) .nil (fun _ _ => .nil) (sa_consT (se_v C.toCn h0) (sa_consT (se_v C.toCn h1) sa_nil rfl) rfl) (by decide) rfl rfl)) (by decide +kernel) (fun _ _ _ _ _ C1 => (pg_b C1 (by decide +kernel))) (fun L hL => (gok_vb (by decide) L hL)) (fun _ _ _ _ _ C1 => (pts_true pts_nil)) (fun _ _ _ _ _ C1 => (se_ix C1 (SOp.v C1 (by decide +kernel)) (SOp.e (se_int (g := g0 X.K) (W := W0))) (fun _ _ => rfl))) (fun _ => rfl))) rfl))
  sss_nil)
theorem ok_6 {P : Program} {w : World} {K : PySem.W.Frag} {mg : Str → Option Value} {base : Heap} {fd : Nat → FuncData} (T : Dn P w K mg fd) : FnOk P w K mg base (L2.CX P w) 3 (He.fAd K d6.at_) (fd 6) ["book", "row"] (Prom ⟨g0 K, K⟩ mask_6 c_6) :=
  fn_okC T.f6 S6 rfl (by decide) T.fr fun X W e1 e2 e3 e4 e5 R C => by
    subst e1 e2 e3 e4 e5
    exact b_6 C R T
/-! ### ends_behind -/
abbrev N8 : List Str := ["service", "ends", "task", "prices", "costs", "some", "end", "cost", "row", "standing", "paid"]
abbrev mask_8 : List Bool := [false, false, false]
theorem S8 : FnScope N8 ["service", "ends", "task"] (defScope (top 8)) := ⟨rfl, rfl, rfl, by decide +kernel, rfl, by decide +kernel, by decide +kernel⟩
theorem bind_8 {K : PySem.W.Frag} {f : Addr} {fd : FuncData} (F : FunD K d8.name d8.qual d8.params d8.body d8.scope (d8.dvs K) (d8.kws K) f fd) : Binds K fd ["service", "ends", "task"] [] := FunD.bindsN F fun _ _ _ _ _ _ us hl => match us, hl with | [_, _, _], _ => rfl
def q_8_1 : ME := (mOp2 addD (.v 10) (.e (mOp2 ixD (.v 8) (.v 9))))
def q_8_2 : ME := (mOp1 min1A (.e (mLc [10, 8] (.t [(.v 10), (.v 8)]) (mIt (mV 5)) mTrue q_8_1)))
def q_8_3 : ME := (mTup [.t (mOp2 addD (.v 6) (.v 7)), .t (mV 8)])
def t_8_4 : ME := (mOp1 (fun d => some (.bl (!isN d))) (.v 7))
def m_8 : MS := (mSeq (mAsg (.t [(.v 3), (.v 4)]) (mV 0))
  (mSeq (mAsg (.v 5) (mLc [6, 7, 8] (.t [(.v 6), (.v 7), (.v 8)]) (mZip3 (mV 1) (mOp2 ixD (.v 4) (.v 2)) (mV 3)) t_8_4 q_8_3))
  (mSeq (mRet (mOp1 tupleD (.e (mLc [9] (.v 9) (mRg1 (mOp1 lenD (.v 3))) mTrue q_8_2))))
  RS.nx)))
def c_8 : List D → RC := callF 11 mask_8 m_8
theorem b_8 {X : Cx} {W : WX} {fd : Nat → FuncData} (C : Cf X W N8 (defScope (top 8)) FR) (R : Room 0 X.A) (T : Dn X.prog X.w X.K X.mg fd) : SSs X (g0 X.K) W (lix 0 mask_8) (defBody (top 8)) m_8 := by
  have h0 : varB N8 (defScope (top 8)) 0 "service" = true := by decide +kernel
  have h1 : varB N8 (defScope (top 8)) 1 "ends" = true := by decide +kernel
  have h2 : varB N8 (defScope (top 8)) 2 "task" = true := by decide +kernel
  have h3 : varB N8 (defScope (top 8)) 3 "prices" = true := by decide +kernel
  have h4 : varB N8 (defScope (top 8)) 4 "costs" = true := by decide +kernel
  have g_len : glB (defScope (top 8)) "len" = true := by decide +kernel
  have g_range : glB (defScope (top 8)) "range" = true := by decide +kernel
  have g_tuple : glB (defScope (top 8)) "tuple" = true := by decide +kernel
  have g_zip : glB (defScope (top 8)) "zip" = true := by decide +kernel
  unfold m_8
  exact (sss_cons (ss_asgC C (se_v C.toCn h0) (pg_tup C.toCn.calm (pgs_cons (pg_f C (by decide +kernel)) (pgs_cons (pg_f C (by decide +kernel)) pgs_nil))) (gok_t rfl rfl (gsok_cons (gok_v (by decide)) (gsok_cons (gok_v (by decide)) gsok_nil))) rfl (by kernel_rfl) rfl)
  (sss_cons (ss_setC C (by decide +kernel) (se_lcC (own' := [("end", 6), ("cost", 7), ("row", 8)]) (t := (.t [(.v 6), (.v 7), (.v 8)])) C.toCn (si_zip3 C.toCn fr_zip g_zip (se_v C.toCn h1) (se_ix C.toCn (SOp.v C.toCn h4) (SOp.v C.toCn h2) (fun _ _ => rfl)) (se_v C.toCn h3) rfl rfl rfl rfl) (by decide +kernel) (fun _ _ _ _ _ C1 => (pg_tup C1.calm (pgs_cons (pg_b C1 (by decide +kernel)) (pgs_cons (pg_b C1 (by decide +kernel)) (pgs_cons (pg_b C1 (by decide +kernel)) pgs_nil))))) (fun L hL => (gok_t rfl rfl (gsok_cons (gok_vb (by decide) L hL) (gsok_cons (gok_vb (by decide) L hL) (gsok_cons (gok_vb (by decide) L hL) gsok_nil))))) (fun _ _ _ _ _ C1 => (pts_one (st_notN (SOp.v C1 (by decide +kernel))))) (fun _ _ _ _ _ C1 => (se_tup (g := g0 X.K) (W := W0) (sa_consT (se_add (SOp.v C1 (by decide +kernel)) (SOp.v C1 (by decide +kernel))) (sa_consT (se_v C1 (by decide +kernel)) sa_nil rfl) rfl))) (fun _ => rfl)) (by decide) (sw_cell C (by decide +kernel)))
  (sss_cons (ss_ret (se_tuple C.toCn fr_tuple g_tuple (SOp.e (se_lcC (own' := [("standing", 9)]) (t := (.v 9)) C.toCn (si_rg1 C.toCn fr_range g_range (se_len C.toCn fr_len g_len (SOp.v C.toCn h3) rfl) rfl) (by decide +kernel) (fun _ _ _ _ _ C1 => (pg_bc C1 (by decide +kernel) rfl)) (fun L hL => (gok_vb (by decide) L hL)) (fun _ _ _ _ _ C1 => (pts_true pts_nil)) (fun _ _ _ _ _ C1 => (se_min1A C1 fr_min (by decide +kernel) (SOp.e (se_lcC (own' := [("paid", 10), ("row", 8)]) (t := (.t [(.v 10), (.v 8)])) C1 (si_seq (se_v C1 (by decide +kernel))) (by decide +kernel) (fun _ _ _ _ _ C2 => (pg_tup C2.calm (pgs_cons (pg_b C2 (by decide +kernel)) (pgs_cons (pg_b C2 (by decide +kernel)) pgs_nil)))) (fun L hL => (gok_t rfl rfl (gsok_cons (gok_vb (by decide) L hL) (gsok_cons (gok_vb (by decide) L hL) gsok_nil)))) (fun _ _ _ _ _ C2 => (pts_true pts_nil)) (fun _ _ _ _ _ C2 => (se_add (SOp.v C2 (by decide +kernel)) (SOp.e (se_ix C2 (SOp.v C2 (by decide +kernel)) (SOp.v C2 (by decide +kernel)) (fun _ _ => rfl))))) (fun _ => rfl))) rfl)) (fun _ => rfl))) rfl))
  sss_nil)))
theorem ok_8 {P : Program} {w : World} {K : PySem.W.Frag} {mg : Str → Option Value} {base : Heap} {fd : Nat → FuncData} (T : Dn P w K mg fd) : FnOk P w K mg base (L2.CX P w) 1 (He.fAd K d8.at_) (fd 8) ["service", "ends", "task"] (Prom ⟨g0 K, K⟩ mask_8 c_8) :=
  fn_okC T.f8 S8 rfl (by decide) T.fr fun X W e1 e2 e3 e4 e5 R C => by
    subst e1 e2 e3 e4 e5
    exact b_8 C R T
/-! ### ends_of -/
abbrev N9 : List Str := ["service", "tasks", "ends", "task"]
abbrev mask_9 : List Bool := [false, false]
theorem S9 : FnScope N9 ["service", "tasks"] (defScope (top 9)) := ⟨rfl, rfl, rfl, by decide +kernel, rfl, by decide +kernel, by decide +kernel⟩
theorem bind_9 {K : PySem.W.Frag} {f : Addr} {fd : FuncData} (F : FunD K d9.name d9.qual d9.params d9.body d9.scope (d9.dvs K) (d9.kws K) f fd) : Binds K fd ["service", "tasks"] [] := FunD.bindsN F fun _ _ _ _ _ _ us hl => match us, hl with | [_, _], _ => rfl
def s_9_1 : MS := (mSeq (mAsg (.v 2) (mCall c_8 mask_8 [] [.t (mV 0), .t (mV 2), .t (mV 3)]))
  RS.nx)
def m_9 : MS := (mSeq (mAsg (.v 2) (mOp2 ixD (.e (mOp2 ixD (.v 0) (.e (mC (.int 0))))) (.e (mC (.int 0)))))
  (mSeq (mFor [] (.v 3) (mIt (mV 1)) s_9_1)
  (mSeq (mRet (mMv 2))
  RS.nx)))
def c_9 : List D → RC := callF 4 mask_9 m_9
theorem b_9 {X : Cx} {W : WX} {fd : Nat → FuncData} (C : Cf X W N9 (defScope (top 9)) FR) (R : Room 1 X.A) (T : Dn X.prog X.w X.K X.mg fd) : SSs X (g0 X.K) W (lix 0 mask_9) (defBody (top 9)) m_9 := by
  have h0 : varB N9 (defScope (top 9)) 0 "service" = true := by decide +kernel
  have h1 : varB N9 (defScope (top 9)) 1 "tasks" = true := by decide +kernel
  have h2 : varB N9 (defScope (top 9)) 2 "ends" = true := by decide +kernel
  have h3 : varB N9 (defScope (top 9)) 3 "task" = true := by decide +kernel
  have g_ends_behind : glB (defScope (top 9)) "ends_behind" = true := by decide +kernel
  unfold m_9
  exact (sss_cons (ss_setC C (by decide +kernel) (se_ix C.toCn (SOp.e (se_ix C.toCn (SOp.v C.toCn h0) (SOp.e (se_int (g := g0 X.K) (W := W))) (fun _ _ => rfl))) (SOp.e (se_int (g := g0 X.K) (W := W))) (fun _ _ => rfl)) (by decide) rfl)
  (sss_cons (ss_for (Ls := []) (t := (.v 3)) C.po C.calm (si_seq (se_v C.toCn h1)) (pg_f C (by decide +kernel)) (gok_v (by decide)) (sss_cons (ss_setC C (by decide +kernel) (se_call (dvs := []) (ds := []) C.tk (ok_8 T) (R.mono (by decide)) (gl_ok C.toCn g_ends_behind) T.m8 T.f8.kp (bind_8 T.f8) .nil (fun _ _ => .nil) (sa_consT (se_v C.toCn h0) (sa_consT (se_v C.toCn h2) (sa_consT (se_v C.toCn h3) sa_nil rfl) rfl) rfl) (by decide) rfl rfl) (by decide) rfl)
  sss_nil) (fun _ => rfl))
  (sss_cons (ss_ret (se_mv C.toCn h2))
  sss_nil)))
theorem ok_9 {P : Program} {w : World} {K : PySem.W.Frag} {mg : Str → Option Value} {base : Heap} {fd : Nat → FuncData} (T : Dn P w K mg fd) : FnOk P w K mg base (L2.CX P w) 2 (He.fAd K d9.at_) (fd 9) ["service", "tasks"] (Prom ⟨g0 K, K⟩ mask_9 c_9) :=
  fn_okC T.f9 S9 rfl (by decide) T.fr fun X W e1 e2 e3 e4 e5 R C => by
    subst e1 e2 e3 e4 e5
    exact b_9 C R T
/-! ### least_cost -/
abbrev N10 : List Str := ["service", "tasks"]
abbrev mask_10 : List Bool := [false, false]
theorem S10 : FnScope N10 ["service", "tasks"] (defScope (top 10)) := ⟨rfl, rfl, rfl, by decide +kernel, rfl, by decide +kernel, by decide +kernel⟩
theorem bind_10 {K : PySem.W.Frag} {f : Addr} {fd : FuncData} (F : FunD K d10.name d10.qual d10.params d10.body d10.scope (d10.dvs K) (d10.kws K) f fd) : Binds K fd ["service", "tasks"] [] := FunD.bindsN F fun _ _ _ _ _ _ us hl => match us, hl with | [_, _], _ => rfl
def m_10 : MS := (mSeq (mRet (mOp1 min1A (.e (mCall c_9 mask_9 [] [.t (mV 0), .t (mV 1)]))))
  RS.nx)
def c_10 : List D → RC := callF 2 mask_10 m_10
theorem b_10 {X : Cx} {W : WX} {fd : Nat → FuncData} (C : Cf X W N10 (defScope (top 10)) FR) (R : Room 2 X.A) (T : Dn X.prog X.w X.K X.mg fd) : SSs X (g0 X.K) W (lix 0 mask_10) (defBody (top 10)) m_10 := by
  have h0 : varB N10 (defScope (top 10)) 0 "service" = true := by decide +kernel
  have h1 : varB N10 (defScope (top 10)) 1 "tasks" = true := by decide +kernel
  have g_ends_of : glB (defScope (top 10)) "ends_of" = true := by decide +kernel
  have g_min : glB (defScope (top 10)) "min" = true := by decide +kernel
  unfold m_10
  exact (sss_cons (ss_ret (se_min1A C.toCn fr_min g_min (SOp.e (se_call (dvs := []) (ds := []) C.tk (ok_9 T) (R.mono (by decide)) (gl_ok C.toCn g_ends_of) T.m9 T.f9.kp (bind_9 T.f9) .nil (fun _ _ => .nil) (sa_consT (se_v C.toCn h0) (sa_consT (se_v C.toCn h1) sa_nil rfl) rfl) (by decide) rfl rfl)) rfl))
  sss_nil)
theorem ok_10 {P : Program} {w : World} {K : PySem.W.Frag} {mg : Str → Option Value} {base : Heap} {fd : Nat → FuncData} (T : Dn P w K mg fd) : FnOk P w K mg base (L2.CX P w) 3 (He.fAd K d10.at_) (fd 10) ["service", "tasks"] (Prom ⟨g0 K, K⟩ mask_10 c_10) :=
  fn_okC T.f10 S10 rfl (by decide) T.fr fun X W e1 e2 e3 e4 e5 R C => by
    subst e1 e2 e3 e4 e5
    exact b_10 C R T
/-! ### entries_at -/
abbrev N12 : List Str := ["players", "notes", "sign", "player", "note"]
abbrev mask_12 : List Bool := [false, false, false]
theorem S12 : FnScope N12 ["players", "notes", "sign"] (defScope (top 12)) := ⟨rfl, rfl, rfl, by decide +kernel, rfl, by decide +kernel, by decide +kernel⟩
theorem bind_12 {K : PySem.W.Frag} {f : Addr} {fd : FuncData} (F : FunD K d12.name d12.qual d12.params d12.body d12.scope (d12.dvs K) (d12.kws K) f fd) : Binds K fd ["players", "notes", "sign"] [] := FunD.bindsN F fun _ _ _ _ _ _ us hl => match us, hl with | [_, _, _], _ => rfl
def q_12_1 : ME := (mOp2 ixD (.e (mOp2 ixD (.v 3) (.v 4))) (.v 2))
def m_12 : MS := (mSeq (mRet (mLc [3, 4] (.t [(.v 3), (.v 4)]) (mZipM (mV 0) (mV 1)) mTrue q_12_1))
  RS.nx)
def c_12 : List D → RC := callF 5 mask_12 m_12
theorem b_12 {X : Cx} {W : WX} {fd : Nat → FuncData} (C : Cf X W N12 (defScope (top 12)) FR) (R : Room 0 X.A) (T : Dn X.prog X.w X.K X.mg fd) : SSs X (g0 X.K) W (lix 0 mask_12) (defBody (top 12)) m_12 := by
  have h0 : varB N12 (defScope (top 12)) 0 "players" = true := by decide +kernel
  have h1 : varB N12 (defScope (top 12)) 1 "notes" = true := by decide +kernel
  have g_zip : glB (defScope (top 12)) "zip" = true := by decide +kernel
  unfold m_12
  exact (sss_cons (ss_ret (se_lcC (own' := [("player", 3), ("note", 4)]) (t := (.t [(.v 3), (.v 4)])) C.toCn (si_zipM C.toCn fr_zip g_zip (se_v C.toCn h0) (se_v C.toCn h1) rfl rfl rfl) (by decide +kernel) (fun _ _ _ _ _ C1 => (pg_tup C1.calm (pgs_cons (pg_b C1 (by decide +kernel)) (pgs_cons (pg_b C1 (by decide +kernel)) pgs_nil)))) (fun L hL => (gok_t rfl rfl (gsok_cons (gok_vb (by decide) L hL) (gsok_cons (gok_vb (by decide) L hL) gsok_nil)))) (fun _ _ _ _ _ C1 => (pts_true pts_nil)) (fun _ _ _ _ _ C1 => (se_ix C1 (SOp.e (se_ix C1 (SOp.v C1 (by decide +kernel)) (SOp.v C1 (by decide +kernel)) (fun _ _ => rfl))) (SOp.v C1 (by decide +kernel)) (fun _ _ => rfl))) (fun _ => rfl)))
  sss_nil)
theorem ok_12 {P : Program} {w : World} {K : PySem.W.Frag} {mg : Str → Option Value} {base : Heap} {fd : Nat → FuncData} (T : Dn P w K mg fd) : FnOk P w K mg base (L2.CX P w) 1 (He.fAd K d12.at_) (fd 12) ["players", "notes", "sign"] (Prom ⟨g0 K, K⟩ mask_12 c_12) :=
  fn_okC T.f12 S12 rfl (by decide) T.fr fun X W e1 e2 e3 e4 e5 R C => by
    subst e1 e2 e3 e4 e5
    exact b_12 C R T
/-! ### number_among -/
abbrev N13 : List Str := ["found", "one"]
abbrev mask_13 : List Bool := [true, false]
theorem S13 : FnScope N13 ["found", "one"] (defScope (top 13)) := ⟨rfl, rfl, rfl, by decide +kernel, rfl, by decide +kernel, by decide +kernel⟩
theorem bind_13 {K : PySem.W.Frag} {f : Addr} {fd : FuncData} (F : FunD K d13.name d13.qual d13.params d13.body d13.scope (d13.dvs K) (d13.kws K) f fd) : Binds K fd ["found", "one"] [] := FunD.bindsN F fun _ _ _ _ _ _ us hl => match us, hl with | [_, _], _ => rfl
def m_13 : MS := (mSeq (mIfS (mOp2 notinB (.v 1) (.v 0)) (mSeq (mExpr (mApp 0 (mV 1)))
  RS.nx) RS.nx)
  (mSeq (mRet (mIdx 0 (.v 1)))
  RS.nx))
def c_13 : List D → RC := callF 2 mask_13 m_13
theorem b_13 {X : Cx} {W : WX} {fd : Nat → FuncData} (C : Cf X W N13 (defScope (top 13)) FR) (R : Room 0 X.A) (T : Dn X.prog X.w X.K X.mg fd) : SSs X (g0 X.K) W (lix 0 mask_13) (defBody (top 13)) m_13 := by
  have h0 : varB N13 (defScope (top 13)) 0 "found" = true := by decide +kernel
  have h1 : varB N13 (defScope (top 13)) 1 "one" = true := by decide +kernel
  unfold m_13
  exact (sss_cons (ss_if (st_notin C.toCn (SOp.v C.toCn h1) (SOp.v C.toCn h0) rfl) (sss_cons (ss_expr (se_app C.toCn h0 (se_v C.toCn h1) rfl rfl) rfl)
  sss_nil) sss_nil)
  (sss_cons (ss_ret (se_index C.toCn h0 (SOp.v C.toCn h1) rfl rfl))
  sss_nil))
theorem ok_13 {P : Program} {w : World} {K : PySem.W.Frag} {mg : Str → Option Value} {base : Heap} {fd : Nat → FuncData} (T : Dn P w K mg fd) : FnOk P w K mg base (L2.CX P w) 1 (He.fAd K d13.at_) (fd 13) ["found", "one"] (Prom ⟨g0 K, K⟩ mask_13 c_13) :=
  fn_okC T.f13 S13 rfl (by decide) T.fr fun X W e1 e2 e3 e4 e5 R C => by
    subst e1 e2 e3 e4 e5
    exact b_13 C R T
/-! ### counsel_step -/
abbrev N14 : List Str := ["players", "state", "sign", "step", "states", "asked", "entries", "lot", "standing", "note", "task", "room"]
abbrev mask_14 : List Bool := [false, false, false, false, true, true]
theorem S14 : FnScope N14 ["players", "state", "sign", "step", "states", "asked"] (defScope (top 14)) := ⟨rfl, rfl, rfl, by decide +kernel, rfl, by decide +kernel, by decide +kernel⟩
theorem bind_14 {K : PySem.W.Frag} {f : Addr} {fd : FuncData} (F : FunD K d14.name d14.qual d14.params d14.body d14.scope (d14.dvs K) (d14.kws K) f fd) : Binds K fd ["players", "state", "sign", "step", "states", "asked"] [] := FunD.bindsN F fun _ _ _ _ _ _ us hl => match us, hl with | [_, _, _, _, _, _], _ => rfl
def q_14_1 : ME := (mV 9)
def s_14_2 : MS := (mSeq (mIfS (mOp2 notinB (.v 8) (.v 7)) (mSeq (mExpr (mApp 7 (mV 8)))
  RS.nx) RS.nx)
  RS.nx)
def m_14 : MS := (mSeq (mAsg (.v 6) (mCall c_12 mask_12 [] [.t (mV 0), .t (mOp2 ixD (.v 1) (.e (mC (.int 1)))), .t (mV 2)]))
  (mSeq (mAsg (.v 7) (mLst []))
  (mSeq (mFor [] (.t [(.v 8), (.v 9)]) (mIt (mV 6)) s_14_2)
  (mSeq (mAsg (.v 10) (mCall c_13 mask_13 [] [.l 5, .t (mTup [.t (mOp2 ixD (.v 3) (.e (mC (.int 0)))), .t (mOp1 tupleD (.e (mOp1 sortD (.v 7))))])]))
  (mSeq (mAsg (.v 11) (mCall c_13 mask_13 [] [.l 4, .t (mTup [.t (mOp2 ixD (.v 3) (.e (mC (.int 2)))), .t (mOp1 tupleD (.e (mLc [8, 9] (.t [(.v 8), (.v 9)]) (mIt (mV 6)) mTrue q_14_1)))])]))
  (mSeq (mRet (mTup [.t (mV 10), .t (mOp2 ixD (.v 3) (.e (mC (.int 1)))), .t (mV 11)]))
  RS.nx))))))
def c_14 : List D → RC := callF 12 mask_14 m_14
theorem b_14 {X : Cx} {W : WX} {fd : Nat → FuncData} (C : Cf X W N14 (defScope (top 14)) FR) (R : Room 1 X.A) (T : Dn X.prog X.w X.K X.mg fd) : SSs X (g0 X.K) W (lix 0 mask_14) (defBody (top 14)) m_14 := by
  have h0 : varB N14 (defScope (top 14)) 0 "players" = true := by decide +kernel
  have h1 : varB N14 (defScope (top 14)) 1 "state" = true := by decide +kernel
  have h2 : varB N14 (defScope (top 14)) 2 "sign" = true := by decide +kernel
  have h3 : varB N14 (defScope (top 14)) 3 "step" = true := by decide +kernel
  have h4 : varB N14 (defScope (top 14)) 4 "states" = true := by decide +kernel
  have h5 : varB N14 (defScope (top 14)) 5 "asked" = true := by decide +kernel
  have h6 : varB N14 (defScope (top 14)) 6 "entries" = true := by decide +kernel
  have h7 : varB N14 (defScope (top 14)) 7 "lot" = true := by decide +kernel
  have h8 : varB N14 (defScope (top 14)) 8 "standing" = true := by decide +kernel
  have h10 : varB N14 (defScope (top 14)) 10 "task" = true := by decide +kernel
  have h11 : varB N14 (defScope (top 14)) 11 "room" = true := by decide +kernel
  have g_entries_at : glB (defScope (top 14)) "entries_at" = true := by decide +kernel
  have g_number_among : glB (defScope (top 14)) "number_among" = true := by decide +kernel
  have g_sorted : glB (defScope (top 14)) "sorted" = true := by decide +kernel
  have g_tuple : glB (defScope (top 14)) "tuple" = true := by decide +kernel
  unfold m_14
  exact (sss_cons (ss_setC C (by decide +kernel) (se_call (dvs := []) (ds := []) C.tk (ok_12 T) (R.mono (by decide)) (gl_ok C.toCn g_entries_at) T.m12 T.f12.kp (bind_12 T.f12) .nil (fun _ _ => .nil) (sa_consT (se_v C.toCn h0) (sa_consT (se_ix C.toCn (SOp.v C.toCn h1) (SOp.e (se_int (g := g0 X.K) (W := W))) (fun _ _ => rfl)) (sa_consT (se_v C.toCn h2) sa_nil rfl) rfl) rfl) (by decide) rfl rfl) (by decide) rfl)
  (sss_cons (ss_setC C (by decide +kernel) (se_lst (g := g0 X.K) (W := W) sa_nil) (by decide) rfl)
  (sss_cons (ss_for (Ls := []) (t := (.t [(.v 8), (.v 9)])) C.po C.calm (si_seq (se_v C.toCn h6)) (pg_tup C.toCn.calm (pgs_cons (pg_f C (by decide +kernel)) (pgs_cons (pg_f C (by decide +kernel)) pgs_nil))) (gok_t rfl rfl (gsok_cons (gok_v (by decide)) (gsok_cons (gok_v (by decide)) gsok_nil))) (sss_cons (ss_if (st_notin C.toCn (SOp.v C.toCn h8) (SOp.v C.toCn h7) rfl) (sss_cons (ss_expr (se_app C.toCn h7 (se_v C.toCn h8) rfl rfl) rfl)
  sss_nil) sss_nil)
  sss_nil) (fun _ => rfl))
  (sss_cons (ss_setC C (by decide +kernel) (se_call (dvs := []) (ds := []) C.tk (ok_13 T) (R.mono (by decide)) (gl_ok C.toCn g_number_among) T.m13 T.f13.kp (bind_13 T.f13) .nil (fun _ _ => .nil) (sa_consL (pv_ok C.toCn h5) (sa_consT (se_tup (g := g0 X.K) (W := W) (sa_consT (se_ix C.toCn (SOp.v C.toCn h3) (SOp.e (se_int (g := g0 X.K) (W := W))) (fun _ _ => rfl)) (sa_consT (se_tuple C.toCn fr_tuple g_tuple (SOp.e (se_sorted C.toCn fr_sorted g_sorted (SOp.v C.toCn h7) rfl)) rfl) sa_nil rfl) rfl)) sa_nil rfl) rfl) (by decide) rfl rfl) (by decide) rfl)
  (sss_cons (ss_setC C (by decide +kernel) (se_call (dvs := []) (ds := []) C.tk (ok_13 T) (R.mono (by decide)) (gl_ok C.toCn g_number_among) T.m13 T.f13.kp (bind_13 T.f13) .nil (fun _ _ => .nil) (sa_consL (pv_ok C.toCn h4) (sa_consT (se_tup (g := g0 X.K) (W := W) (sa_consT (se_ix C.toCn (SOp.v C.toCn h3) (SOp.e (se_int (g := g0 X.K) (W := W))) (fun _ _ => rfl)) (sa_consT (se_tuple C.toCn fr_tuple g_tuple (SOp.e (se_lcC (own' := [("standing", 8), ("note", 9)]) (t := (.t [(.v 8), (.v 9)])) C.toCn (si_seq (se_v C.toCn h6)) (by decide +kernel) (fun _ _ _ _ _ C1 => (pg_tup C1.calm (pgs_cons (pg_b C1 (by decide +kernel)) (pgs_cons (pg_b C1 (by decide +kernel)) pgs_nil)))) (fun L hL => (gok_t rfl rfl (gsok_cons (gok_vb (by decide) L hL) (gsok_cons (gok_vb (by decide) L hL) gsok_nil)))) (fun _ _ _ _ _ C1 => (pts_true pts_nil)) (fun _ _ _ _ _ C1 => (se_v C1 (by decide +kernel))) (fun _ => rfl))) rfl) sa_nil rfl) rfl)) sa_nil rfl) rfl) (by decide) rfl rfl) (by decide) rfl)
  (sss_cons (ss_ret (se_tup (g := g0 X.K) (W := W) (sa_consT (se_v C.toCn h10) (sa_consT (se_ix C.toCn (SOp.v C.toCn h3) (SOp.e (se_int (g := g0 X.K) (W := W))) (fun _ _ => rfl)) (sa_consT (se_v C.toCn h11) sa_nil rfl) rfl) rfl)))
  sss_nil))))))
theorem ok_14 {P : Program} {w : World} {K : PySem.W.Frag} {mg : Str → Option Value} {base : Heap} {fd : Nat → FuncData} (T : Dn P w K mg fd) : FnOk P w K mg base (L2.CX P w) 2 (He.fAd K d14.at_) (fd 14) ["players", "state", "sign", "step", "states", "asked"] (Prom ⟨g0 K, K⟩ mask_14 c_14) :=
  fn_okC T.f14 S14 rfl (by decide) T.fr fun X W e1 e2 e3 e4 e5 R C => by
    subst e1 e2 e3 e4 e5
    exact b_14 C R T
/-! ### counsel_book -/
abbrev N15 : List Str := ["book", "players", "states", "asked", "rooms", "state", "row", "sign", "step", "player"]
abbrev mask_15 : List Bool := [false, false]
theorem S15 : FnScope N15 ["book", "players"] (defScope (top 15)) := ⟨rfl, rfl, rfl, by decide +kernel, rfl, by decide +kernel, by decide +kernel⟩
theorem bind_15 {K : PySem.W.Frag} {f : Addr} {fd : FuncData} (F : FunD K d15.name d15.qual d15.params d15.body d15.scope (d15.dvs K) (d15.kws K) f fd) : Binds K fd ["book", "players"] [] := FunD.bindsN F fun _ _ _ _ _ _ us hl => match us, hl with | [_, _], _ => rfl
def s_15_1 : MS := (mSeq (mExpr (mApp 6 (mFz (mIf (mOp1 (fun d => some (.bl (isN d))) (.v 8)) (mC .non) (mCall c_14 mask_14 [] [.t (mV 1), .t (mV 5), .t (mV 7), .t (mV 8), .l 2, .l 3])))))
  RS.nx)
def t_15_2 : ME := (mOp2 (cmpD fun i j => decide (i < j)) (.e (mOp1 lenD (.v 4))) (.e (mOp1 lenD (.v 2))))
def s_15_3 : MS := (mSeq (mAsg (.v 5) (mOp2 ixD (.v 2) (.e (mOp1 lenD (.v 4)))))
  (mSeq (mAsg (.v 6) (mLst []))
  (mSeq (mFor [] (.t [(.v 7), (.v 8)]) (mEnum (mOp2 ixD (.v 0) (.e (mOp2 ixD (.v 5) (.e (mC (.int 0))))))) s_15_1)
  (mSeq (mExpr (mApp 4 (mOp1 tupleD (.v 6))))
  RS.nx))))
def q_15_4 : ME := (mC (.int 0))
def m_15 : MS := (mSeq (mPar [2, 3, 4] [.t (mLst [.t (mTup [.t (mC (.int 0)), .t (mOp1 tupleD (.e (mLc [9] (.v 9) (mIt (mV 1)) mTrue q_15_4)))])]), .t (mLst []), .t (mLst [])])
  (mSeq (mWhile t_15_2 s_15_3)
  (mSeq (mRet (mTup [.t (mOp1 tupleD (.v 4)), .t (mV 3)]))
  RS.nx)))
def c_15 : List D → RC := callF 10 mask_15 m_15
theorem b_15 {X : Cx} {W : WX} {fd : Nat → FuncData} (C : Cf X W N15 (defScope (top 15)) FR) (R : Room 2 X.A) (T : Dn X.prog X.w X.K X.mg fd) : SSs X (g0 X.K) W (lix 0 mask_15) (defBody (top 15)) m_15 := by
  have h0 : varB N15 (defScope (top 15)) 0 "book" = true := by decide +kernel
  have h1 : varB N15 (defScope (top 15)) 1 "players" = true := by decide +kernel
  have h2 : varB N15 (defScope (top 15)) 2 "states" = true := by decide +kernel
  have h3 : varB N15 (defScope (top 15)) 3 "asked" = true := by decide +kernel
  have h4 : varB N15 (defScope (top 15)) 4 "rooms" = true := by decide +kernel
  have h5 : varB N15 (defScope (top 15)) 5 "state" = true := by decide +kernel
  have h6 : varB N15 (defScope (top 15)) 6 "row" = true := by decide +kernel
  have h7 : varB N15 (defScope (top 15)) 7 "sign" = true := by decide +kernel
  have h8 : varB N15 (defScope (top 15)) 8 "step" = true := by decide +kernel
  have g_counsel_step : glB (defScope (top 15)) "counsel_step" = true := by decide +kernel
  have g_enumerate : glB (defScope (top 15)) "enumerate" = true := by decide +kernel
  have g_len : glB (defScope (top 15)) "len" = true := by decide +kernel
  have g_tuple : glB (defScope (top 15)) "tuple" = true := by decide +kernel
  unfold m_15
  exact (sss_cons (ss_par3C C (by decide +kernel) (by decide +kernel) (by decide +kernel) (by decide) (by decide) (by decide) (sa_consT (se_lst (g := g0 X.K) (W := W) (sa_consT (se_tup (g := g0 X.K) (W := W) (sa_consT (se_int (g := g0 X.K) (W := W)) (sa_consT (se_tuple C.toCn fr_tuple g_tuple (SOp.e (se_lcC (own' := [("player", 9)]) (t := (.v 9)) C.toCn (si_seq (se_v C.toCn h1)) (by decide +kernel) (fun _ _ _ _ _ C1 => (pg_b C1 (by decide +kernel))) (fun L hL => (gok_vb (by decide) L hL)) (fun _ _ _ _ _ C1 => (pts_true pts_nil)) (fun _ _ _ _ _ C1 => (se_int (g := g0 X.K) (W := W0))) (fun _ => rfl))) rfl) sa_nil rfl) rfl)) sa_nil rfl)) (sa_consT (se_lst (g := g0 X.K) (W := W) sa_nil) (sa_consT (se_lst (g := g0 X.K) (W := W) sa_nil) sa_nil rfl) rfl) rfl) (by kernel_rfl) (by decide))
  (sss_cons (ss_while C.po (st_lt (SOp.e (se_len C.toCn fr_len g_len (SOp.v C.toCn h4) rfl)) (SOp.e (se_len C.toCn fr_len g_len (SOp.v C.toCn h2) rfl))) (sss_cons (ss_setC C (by decide +kernel) (se_ix C.toCn (SOp.v C.toCn h2) (SOp.e (se_len C.toCn fr_len g_len (SOp.v C.toCn h4) rfl)) (fun _ _ => rfl)) (by decide) rfl)
  (sss_cons (ss_setC C (by decide +kernel) (se_lst (g := g0 X.K) (W := W) sa_nil) (by decide) rfl)
  (sss_cons (ss_for (Ls := []) (t := (.t [(.v 7), (.v 8)])) C.po C.calm (si_enum C.toCn fr_enumerate g_enumerate (se_ix C.toCn (SOp.v C.toCn h0) (SOp.e (se_ix C.toCn (SOp.v C.toCn h5) (SOp.e (se_int (g := g0 X.K) (W := W))) (fun _ _ => rfl))) (fun _ _ => rfl)) rfl rfl) (pg_tup C.toCn.calm (pgs_cons (pg_f C (by decide +kernel)) (pgs_cons (pg_f C (by decide +kernel)) pgs_nil))) (gok_t rfl rfl (gsok_cons (gok_v (by decide)) (gsok_cons (gok_v (by decide)) gsok_nil))) (sss_cons (ss_expr (se_app C.toCn h6 (se_fz (se_if (st_isN (SOp.v C.toCn h8)) (se_non (g := g0 X.K) (W := W)) (se_call (dvs := []) (ds := []) C.tk (ok_14 T) (R.mono (by decide)) (gl_ok C.toCn g_counsel_step) T.m14 T.f14.kp (bind_14 T.f14) .nil (fun _ _ => .nil) (sa_consT (se_v C.toCn h1) (sa_consT (se_v C.toCn h5) (sa_consT (se_v C.toCn h7) (sa_consT (se_v C.toCn h8) (sa_consL (pv_ok C.toCn h2) (sa_consL (pv_ok C.toCn h3) sa_nil rfl) rfl) rfl) rfl) rfl) rfl) (by decide) rfl rfl))) rfl rfl) rfl)
  sss_nil) (fun _ => rfl))
  (sss_cons (ss_expr (se_app C.toCn h4 (se_tuple C.toCn fr_tuple g_tuple (SOp.v C.toCn h6) rfl) rfl rfl) rfl)
  sss_nil)))))
  (sss_cons (ss_ret (se_tup (g := g0 X.K) (W := W) (sa_consT (se_tuple C.toCn fr_tuple g_tuple (SOp.v C.toCn h4) rfl) (sa_consT (se_v C.toCn h3) sa_nil rfl) rfl)))
  sss_nil)))
theorem ok_15 {P : Program} {w : World} {K : PySem.W.Frag} {mg : Str → Option Value} {base : Heap} {fd : Nat → FuncData} (T : Dn P w K mg fd) : FnOk P w K mg base (L2.CX P w) 3 (He.fAd K d15.at_) (fd 15) ["book", "players"] (Prom ⟨g0 K, K⟩ mask_15 c_15) :=
  fn_okC T.f15 S15 rfl (by decide) T.fr fun X W e1 e2 e3 e4 e5 R C => by
    subst e1 e2 e3 e4 e5
    exact b_15 C R T
/-! ### costs_within -/
abbrev N16 : List Str := ["costs", "lot", "standing", "cost"]
abbrev mask_16 : List Bool := [false, false]
theorem S16 : FnScope N16 ["costs", "lot"] (defScope (top 16)) := ⟨rfl, rfl, rfl, by decide +kernel, rfl, by decide +kernel, by decide +kernel⟩
theorem bind_16 {K : PySem.W.Frag} {f : Addr} {fd : FuncData} (F : FunD K d16.name d16.qual d16.params d16.body d16.scope (d16.dvs K) (d16.kws K) f fd) : Binds K fd ["costs", "lot"] [] := FunD.bindsN F fun _ _ _ _ _ _ us hl => match us, hl with | [_, _], _ => rfl
def q_16_1 : ME := (mIf (mOp2 inB (.v 2) (.v 1)) (mV 3) (mC .non))
def m_16 : MS := (mSeq (mRet (mOp1 tupleD (.e (mLc [2, 3] (.t [(.v 2), (.v 3)]) (mEnum (mV 0)) mTrue q_16_1))))
  RS.nx)
def c_16 : List D → RC := callF 4 mask_16 m_16
theorem b_16 {X : Cx} {W : WX} {fd : Nat → FuncData} (C : Cf X W N16 (defScope (top 16)) FR) (R : Room 0 X.A) (T : Dn X.prog X.w X.K X.mg fd) : SSs X (g0 X.K) W (lix 0 mask_16) (defBody (top 16)) m_16 := by
  have h0 : varB N16 (defScope (top 16)) 0 "costs" = true := by decide +kernel
  have g_enumerate : glB (defScope (top 16)) "enumerate" = true := by decide +kernel
  have g_tuple : glB (defScope (top 16)) "tuple" = true := by decide +kernel
  unfold m_16
  exact (sss_cons (ss_ret (se_tuple C.toCn fr_tuple g_tuple (SOp.e (se_lcC (own' := [("standing", 2), ("cost", 3)]) (t := (.t [(.v 2), (.v 3)])) C.toCn (si_enum C.toCn fr_enumerate g_enumerate (se_v C.toCn h0) rfl rfl) (by decide +kernel) (fun _ _ _ _ _ C1 => (pg_tup C1.calm (pgs_cons (pg_b C1 (by decide +kernel)) (pgs_cons (pg_b C1 (by decide +kernel)) pgs_nil)))) (fun L hL => (gok_t rfl rfl (gsok_cons (gok_vb (by decide) L hL) (gsok_cons (gok_vb (by decide) L hL) gsok_nil)))) (fun _ _ _ _ _ C1 => (pts_true pts_nil)) (fun _ _ _ _ _ C1 => (se_if (st_in C1 (SOp.v C1 (by decide +kernel)) (SOp.v C1 (by decide +kernel)) rfl) (se_v C1 (by decide +kernel)) (se_non (g := g0 X.K) (W := W0)))) (fun _ => rfl))) rfl))
  sss_nil)
theorem ok_16 {P : Program} {w : World} {K : PySem.W.Frag} {mg : Str → Option Value} {base : Heap} {fd : Nat → FuncData} (T : Dn P w K mg fd) : FnOk P w K mg base (L2.CX P w) 1 (He.fAd K d16.at_) (fd 16) ["costs", "lot"] (Prom ⟨g0 K, K⟩ mask_16 c_16) :=
  fn_okC T.f16 S16 rfl (by decide) T.fr fun X W e1 e2 e3 e4 e5 R C => by
    subst e1 e2 e3 e4 e5
    exact b_16 C R T
/-! ### counsel_case -/
abbrev N17 : List Str := ["whole", "players", "prices", "costs", "book", "asked", "mine", "theirs", "task", "lot"]
abbrev mask_17 : List Bool := [false, false]
theorem S17 : FnScope N17 ["whole", "players"] (defScope (top 17)) := ⟨rfl, rfl, rfl, by decide +kernel, rfl, by decide +kernel, by decide +kernel⟩
theorem bind_17 {K : PySem.W.Frag} {f : Addr} {fd : FuncData} (F : FunD K d17.name d17.qual d17.params d17.body d17.scope (d17.dvs K) (d17.kws K) f fd) : Binds K fd ["whole", "players"] [] := FunD.bindsN F fun _ _ _ _ _ _ us hl => match us, hl with | [_, _], _ => rfl
theorem kb_17_0 {K : PySem.W.Frag} {f : Addr} {fd : FuncData} (F : FunD K d17.name d17.qual d17.params d17.body d17.scope (d17.dvs K) (d17.kws K) f fd) : KBn K fd ["whole", "players"] 0 ["whole", "players"] (fun us ws => genL .none [] [.a 0, .a 1] (us ++ ws)) (fun vs zs => genL .non [] [.a 0, .a 1] (vs ++ zs)) := kbn0 F fun _ _ _ _ _ _ us ws h1 h2 => match us, ws, h1, h2 with | [], [_, _], _, _ => rfl
def q_17_1 : ME := (mFz (mCall c_16 mask_16 [] [.t (mOp2 ixD (.v 3) (.v 8)), .t (mV 9)]))
def q_17_2 : ME := (mOp2 ixD (.v 3) (.v 8))
def m_17 : MS := (mSeq (mAsg (.t [(.v 2), (.v 3)]) (mOp2 ixD (.v 0) (.e (mC (.int 0)))))
  (mSeq (mAsg (.t [(.v 4), (.v 5)]) (mCall c_15 mask_15 [] [.t (mOp2 ixD (.v 0) (.e (mC (.int 2)))), .t (mV 1)]))
  (mSeq (mAsg (.v 6) (mTup [.t (mV 2), .t (mOp1 tupleD (.e (mLc [8, 9] (.t [(.v 8), (.v 9)]) (mIt (mV 5)) mTrue q_17_2)))]))
  (mSeq (mAsg (.v 7) (mTup [.t (mV 2), .t (mOp1 tupleD (.e (mLc [8, 9] (.t [(.v 8), (.v 9)]) (mIt (mV 5)) mTrue q_17_1)))]))
  (mSeq (mRet (mTup [.t (mV 6), .t (mV 7), .t (mV 4)]))
  RS.nx)))))
def c_17 : List D → RC := callF 10 mask_17 m_17
theorem b_17 {X : Cx} {W : WX} {fd : Nat → FuncData} (C : Cf X W N17 (defScope (top 17)) FR) (R : Room 3 X.A) (T : Dn X.prog X.w X.K X.mg fd) : SSs X (g0 X.K) W (lix 0 mask_17) (defBody (top 17)) m_17 := by
  have h0 : varB N17 (defScope (top 17)) 0 "whole" = true := by decide +kernel
  have h1 : varB N17 (defScope (top 17)) 1 "players" = true := by decide +kernel
  have h2 : varB N17 (defScope (top 17)) 2 "prices" = true := by decide +kernel
  have h4 : varB N17 (defScope (top 17)) 4 "book" = true := by decide +kernel
  have h5 : varB N17 (defScope (top 17)) 5 "asked" = true := by decide +kernel
  have h6 : varB N17 (defScope (top 17)) 6 "mine" = true := by decide +kernel
  have h7 : varB N17 (defScope (top 17)) 7 "theirs" = true := by decide +kernel
  have g_counsel_book : glB (defScope (top 17)) "counsel_book" = true := by decide +kernel
  have g_tuple : glB (defScope (top 17)) "tuple" = true := by decide +kernel
  unfold m_17
  exact (sss_cons (ss_asgC C (se_ix C.toCn (SOp.v C.toCn h0) (SOp.e (se_int (g := g0 X.K) (W := W))) (fun _ _ => rfl)) (pg_tup C.toCn.calm (pgs_cons (pg_f C (by decide +kernel)) (pgs_cons (pg_f C (by decide +kernel)) pgs_nil))) (gok_t rfl rfl (gsok_cons (gok_v (by decide)) (gsok_cons (gok_v (by decide)) gsok_nil))) rfl (by kernel_rfl) rfl)
  (sss_cons (ss_asgC C (se_call (dvs := []) (ds := []) C.tk (ok_15 T) (R.mono (by decide)) (gl_ok C.toCn g_counsel_book) T.m15 T.f15.kp (bind_15 T.f15) .nil (fun _ _ => .nil) (sa_consT (se_ix C.toCn (SOp.v C.toCn h0) (SOp.e (se_int (g := g0 X.K) (W := W))) (fun _ _ => rfl)) (sa_consT (se_v C.toCn h1) sa_nil rfl) rfl) (by decide) rfl rfl) (pg_tup C.toCn.calm (pgs_cons (pg_f C (by decide +kernel)) (pgs_cons (pg_f C (by decide +kernel)) pgs_nil))) (gok_t rfl rfl (gsok_cons (gok_v (by decide)) (gsok_cons (gok_v (by decide)) gsok_nil))) rfl (by kernel_rfl) rfl)
  (sss_cons (ss_setC C (by decide +kernel) (se_tup (g := g0 X.K) (W := W) (sa_consT (se_v C.toCn h2) (sa_consT (se_tuple C.toCn fr_tuple g_tuple (SOp.e (se_lcC (own' := [("task", 8), ("lot", 9)]) (t := (.t [(.v 8), (.v 9)])) C.toCn (si_seq (se_v C.toCn h5)) (by decide +kernel) (fun _ _ _ _ _ C1 => (pg_tup C1.calm (pgs_cons (pg_b C1 (by decide +kernel)) (pgs_cons (pg_b C1 (by decide +kernel)) pgs_nil)))) (fun L hL => (gok_t rfl rfl (gsok_cons (gok_vb (by decide) L hL) (gsok_cons (gok_vb (by decide) L hL) gsok_nil)))) (fun _ _ _ _ _ C1 => (pts_true pts_nil)) (fun _ _ _ _ _ C1 => (se_ix C1 (SOp.v C1 (by decide +kernel)) (SOp.v C1 (by decide +kernel)) (fun _ _ => rfl))) (fun _ => rfl))) rfl) sa_nil rfl) rfl)) (by decide) rfl)
  (sss_cons (ss_setC C (by decide +kernel) (se_tup (g := g0 X.K) (W := W) (sa_consT (se_v C.toCn h2) (sa_consT (se_tuple C.toCn fr_tuple g_tuple (SOp.e (se_lcC (own' := [("task", 8), ("lot", 9)]) (t := (.t [(.v 8), (.v 9)])) C.toCn (si_seq (se_v C.toCn h5)) (by decide +kernel) (fun _ _ _ _ _ C1 => (pg_tup C1.calm (pgs_cons (pg_b C1 (by decide +kernel)) (pgs_cons (pg_b C1 (by decide +kernel)) pgs_nil)))) (fun L hL => (gok_t rfl rfl (gsok_cons (gok_vb (by decide) L hL) (gsok_cons (gok_vb (by decide) L hL) gsok_nil)))) (fun _ _ _ _ _ C1 => (pts_true pts_nil)) (fun _ _ _ _ _ C1 => (se_fz (se_call (dvs := []) (ds := []) EV.takes0 (ok_16 T) (R.mono (by decide)) (gl_ok C1 (by decide +kernel)) T.m16 T.f16.kp (bind_16 T.f16) .nil (fun _ _ => .nil) (sa_consT (se_ix C1 (SOp.v C1 (by decide +kernel)) (SOp.v C1 (by decide +kernel)) (fun _ _ => rfl)) (sa_consT (se_v C1 (by decide +kernel)) sa_nil rfl) rfl) (by decide) rfl rfl))) (fun _ => rfl))) rfl) sa_nil rfl) rfl)) (by decide) rfl)
  (sss_cons (ss_ret (se_tup (g := g0 X.K) (W := W) (sa_consT (se_v C.toCn h6) (sa_consT (se_v C.toCn h7) (sa_consT (se_v C.toCn h4) sa_nil rfl) rfl) rfl)))
  sss_nil)))))
theorem ok_17 {P : Program} {w : World} {K : PySem.W.Frag} {mg : Str → Option Value} {base : Heap} {fd : Nat → FuncData} (T : Dn P w K mg fd) : FnOk P w K mg base (L2.CX P w) 4 (He.fAd K d17.at_) (fd 17) ["whole", "players"] (Prom ⟨g0 K, K⟩ mask_17 c_17) :=
  fn_okC T.f17 S17 rfl (by decide) T.fr fun X W e1 e2 e3 e4 e5 R C => by
    subst e1 e2 e3 e4 e5
    exact b_17 C R T
/-! ### counsel_paid -/
abbrev N18 : List Str := ["whole", "players", "row", "mine", "theirs", "book"]
abbrev mask_18 : List Bool := [false, false, false]
theorem S18 : FnScope N18 ["whole", "players", "row"] (defScope (top 18)) := ⟨rfl, rfl, rfl, by decide +kernel, rfl, by decide +kernel, by decide +kernel⟩
theorem bind_18 {K : PySem.W.Frag} {f : Addr} {fd : FuncData} (F : FunD K d18.name d18.qual d18.params d18.body d18.scope (d18.dvs K) (d18.kws K) f fd) : Binds K fd ["whole", "players", "row"] [] := FunD.bindsN F fun _ _ _ _ _ _ us hl => match us, hl with | [_, _, _], _ => rfl
theorem kb_18_0 {K : PySem.W.Frag} {f : Addr} {fd : FuncData} (F : FunD K d18.name d18.qual d18.params d18.body d18.scope (d18.dvs K) (d18.kws K) f fd) : KBn K fd ["whole", "players", "row"] 0 ["whole", "players", "row"] (fun us ws => genL .none [] [.a 0, .a 1, .a 2] (us ++ ws)) (fun vs zs => genL .non [] [.a 0, .a 1, .a 2] (vs ++ zs)) := kbn0 F fun _ _ _ _ _ _ us ws h1 h2 => match us, ws, h1, h2 with | [], [_, _, _], _, _ => rfl
def m_18 : MS := (mSeq (mAsg (.t [(.v 3), (.v 4), (.v 5)]) (mCall c_17 mask_17 [] [.t (mV 0), .t (mV 1)]))
  (mSeq (mRet (mCall c_10 mask_10 [] [.t (mV 4), .t (mCall c_6 mask_6 [] [.t (mV 5), .t (mV 2)])]))
  RS.nx))
def c_18 : List D → RC := callF 6 mask_18 m_18
theorem b_18 {X : Cx} {W : WX} {fd : Nat → FuncData} (C : Cf X W N18 (defScope (top 18)) FR) (R : Room 4 X.A) (T : Dn X.prog X.w X.K X.mg fd) : SSs X (g0 X.K) W (lix 0 mask_18) (defBody (top 18)) m_18 := by
  have h0 : varB N18 (defScope (top 18)) 0 "whole" = true := by decide +kernel
  have h1 : varB N18 (defScope (top 18)) 1 "players" = true := by decide +kernel
  have h2 : varB N18 (defScope (top 18)) 2 "row" = true := by decide +kernel
  have h4 : varB N18 (defScope (top 18)) 4 "theirs" = true := by decide +kernel
  have h5 : varB N18 (defScope (top 18)) 5 "book" = true := by decide +kernel
  have g_counsel_case : glB (defScope (top 18)) "counsel_case" = true := by decide +kernel
  have g_least_cost : glB (defScope (top 18)) "least_cost" = true := by decide +kernel
  have g_row_tasks : glB (defScope (top 18)) "row_tasks" = true := by decide +kernel
  unfold m_18
  exact (sss_cons (ss_asgC C (se_call (dvs := []) (ds := []) C.tk (ok_17 T) (R.mono (by decide)) (gl_ok C.toCn g_counsel_case) T.m17 T.f17.kp (bind_17 T.f17) .nil (fun _ _ => .nil) (sa_consT (se_v C.toCn h0) (sa_consT (se_v C.toCn h1) sa_nil rfl) rfl) (by decide) rfl rfl) (pg_tup C.toCn.calm (pgs_cons (pg_f C (by decide +kernel)) (pgs_cons (pg_f C (by decide +kernel)) (pgs_cons (pg_f C (by decide +kernel)) pgs_nil)))) (gok_t rfl rfl (gsok_cons (gok_v (by decide)) (gsok_cons (gok_v (by decide)) (gsok_cons (gok_v (by decide)) gsok_nil)))) rfl (by kernel_rfl) rfl)
  (sss_cons (ss_ret (se_call (dvs := []) (ds := []) C.tk (ok_10 T) (R.mono (by decide)) (gl_ok C.toCn g_least_cost) T.m10 T.f10.kp (bind_10 T.f10) .nil (fun _ _ => .nil) (sa_consT (se_v C.toCn h4) (sa_consT (se_call (dvs := []) (ds := []) C.tk (ok_6 T) (R.mono (by decide)) (gl_ok C.toCn g_row_tasks) T.m6 T.f6.kp (bind_6 T.f6) .nil (fun _ _ => .nil) (sa_consT (se_v C.toCn h5) (sa_consT (se_v C.toCn h2) sa_nil rfl) rfl) (by decide) rfl rfl) sa_nil rfl) rfl) (by decide) rfl rfl))
  sss_nil))
theorem ok_18 {P : Program} {w : World} {K : PySem.W.Frag} {mg : Str → Option Value} {base : Heap} {fd : Nat → FuncData} (T : Dn P w K mg fd) : FnOk P w K mg base (L2.CX P w) 5 (He.fAd K d18.at_) (fd 18) ["whole", "players", "row"] (Prom ⟨g0 K, K⟩ mask_18 c_18) :=
  fn_okC T.f18 S18 rfl (by decide) T.fr fun X W e1 e2 e3 e4 e5 R C => by
    subst e1 e2 e3 e4 e5
    exact b_18 C R T
/-! ### _law_box -/
abbrev N20 : List Str := ["script", "k", "cell", "great"]
abbrev mask_20 : List Bool := [false, false]
theorem S20 : FnScope N20 ["script", "k"] (defScope (top 20)) := ⟨rfl, rfl, rfl, by decide +kernel, rfl, by decide +kernel, by decide +kernel⟩
theorem bind_20 {K : PySem.W.Frag} {f : Addr} {fd : FuncData} (F : FunD K d20.name d20.qual d20.params d20.body d20.scope (d20.dvs K) (d20.kws K) f fd) : Binds K fd ["script", "k"] [] := FunD.bindsN F fun _ _ _ _ _ _ us hl => match us, hl with | [_, _], _ => rfl
def m_20 : MS := (mSeq (mAsg (.v 2) (mOp2 addD (.e (mOp2 mulD (.e (mC (.int 6967))) (.v 1))) (.e (mC (.int 2309)))))
  (mSeq (mIfS (mOp2 (cmpD fun i j => decide (i < j)) (.v 1) (.e (mOp1 lenD (.v 0)))) (mSeq (mAsg (.v 2) (mOp1 absD (.e (mOp1 intD (.e (mOp2 ixD (.v 0) (.v 1)))))))
  RS.nx) (mSeq (mIfS (mOp2 (cmpD fun i j => decide (j < i)) (.e (mOp1 lenD (.v 0))) (.e (mC (.int 0)))) (mSeq (mAsg (.v 2) (mOp2 addD (.v 2) (.e (mOp2 mulD (.e (mOp2 modD (.e (mOp1 intD (.e (mOp1 absD (.e (mOp1 intD (.e (mOp2 ixD (.v 0) (.e (mOp2 modD (.e (mOp1 intD (.v 1))) (.e (mOp1 lenD (.v 0))))))))))))) (.e (mC (.int 2147483549))))) (.e (mC (.int 57037)))))))
  RS.nx) RS.nx)
  RS.nx))
  (mSeq (mAsg (.v 3) (mIf (mOp2 (cmpD fun i j => decide (j ≤ i)) (.v 2) (.e (mOp2 powD (.e (mC (.int 10))) (.e (mC (.int 18)))))) (mV 2) (mC (.int 0))))
  (mSeq (mRet (mLst [.t (mV 3), .t (mOp2 addD (.e (mOp2 modD (.e (mOp1 intD (.e (mOp2 addD (.e (mOp2 mulD (.e (mOp2 modD (.e (mOp1 intD (.v 2))) (.e (mC (.int 2147483549))))) (.e (mC (.int 40487))))) (.e (mOp2 mulD (.e (mC (.int 2309))) (.v 1))))))) (.e (mC (.int 2147483549))))) (.e (mC (.int 1))))]))
  RS.nx))))
def c_20 : List D → RC := callF 4 mask_20 m_20
theorem b_20 {X : Cx} {W : WX} {fd : Nat → FuncData} (C : Cf X W N20 (defScope (top 20)) FR) (R : Room 0 X.A) (T : Dn X.prog X.w X.K X.mg fd) : SSs X (g0 X.K) W (lix 0 mask_20) (defBody (top 20)) m_20 := by
  have h0 : varB N20 (defScope (top 20)) 0 "script" = true := by decide +kernel
  have h1 : varB N20 (defScope (top 20)) 1 "k" = true := by decide +kernel
  have h2 : varB N20 (defScope (top 20)) 2 "cell" = true := by decide +kernel
  have h3 : varB N20 (defScope (top 20)) 3 "great" = true := by decide +kernel
  have g_abs : glB (defScope (top 20)) "abs" = true := by decide +kernel
  have g_int : glB (defScope (top 20)) "int" = true := by decide +kernel
  have g_len : glB (defScope (top 20)) "len" = true := by decide +kernel
  unfold m_20
  exact (sss_cons (ss_setC C (by decide +kernel) (se_add (SOp.e (se_mul (SOp.e (se_int (g := g0 X.K) (W := W))) (SOp.v C.toCn h1))) (SOp.e (se_int (g := g0 X.K) (W := W)))) (by decide) rfl)
  (sss_cons (ss_if (st_lt (SOp.v C.toCn h1) (SOp.e (se_len C.toCn fr_len g_len (SOp.v C.toCn h0) rfl))) (sss_cons (ss_setC C (by decide +kernel) (se_abs C.toCn fr_abs g_abs (SOp.e (se_int1 C.toCn fr_int g_int (SOp.e (se_ix C.toCn (SOp.v C.toCn h0) (SOp.v C.toCn h1) (fun _ _ => rfl))) rfl)) rfl) (by decide) rfl)
  sss_nil) (sss_cons (ss_if (st_gt (SOp.e (se_len C.toCn fr_len g_len (SOp.v C.toCn h0) rfl)) (SOp.e (se_int (g := g0 X.K) (W := W)))) (sss_cons (ss_setC C (by decide +kernel) (se_add (SOp.v C.toCn h2) (SOp.e (se_mul (SOp.e (se_mod (SOp.e (se_int1 C.toCn fr_int g_int (SOp.e (se_abs C.toCn fr_abs g_abs (SOp.e (se_int1 C.toCn fr_int g_int (SOp.e (se_ix C.toCn (SOp.v C.toCn h0) (SOp.e (se_mod (SOp.e (se_int1 C.toCn fr_int g_int (SOp.v C.toCn h1) rfl)) (SOp.e (se_len C.toCn fr_len g_len (SOp.v C.toCn h0) rfl)))) (fun _ _ => rfl))) rfl)) rfl)) rfl)) (SOp.e (se_int (g := g0 X.K) (W := W))))) (SOp.e (se_int (g := g0 X.K) (W := W)))))) (by decide) rfl)
  sss_nil) sss_nil)
  sss_nil))
  (sss_cons (ss_setC C (by decide +kernel) (se_if (st_ge (SOp.v C.toCn h2) (SOp.e (se_pow (SOp.e (se_int (g := g0 X.K) (W := W))) (SOp.e (se_int (g := g0 X.K) (W := W)))))) (se_v C.toCn h2) (se_int (g := g0 X.K) (W := W))) (by decide) rfl)
  (sss_cons (ss_ret (se_lst (g := g0 X.K) (W := W) (sa_consT (se_v C.toCn h3) (sa_consT (se_add (SOp.e (se_mod (SOp.e (se_int1 C.toCn fr_int g_int (SOp.e (se_add (SOp.e (se_mul (SOp.e (se_mod (SOp.e (se_int1 C.toCn fr_int g_int (SOp.v C.toCn h2) rfl)) (SOp.e (se_int (g := g0 X.K) (W := W))))) (SOp.e (se_int (g := g0 X.K) (W := W))))) (SOp.e (se_mul (SOp.e (se_int (g := g0 X.K) (W := W))) (SOp.v C.toCn h1))))) rfl)) (SOp.e (se_int (g := g0 X.K) (W := W))))) (SOp.e (se_int (g := g0 X.K) (W := W)))) sa_nil rfl) rfl)))
  sss_nil))))
theorem ok_20 {P : Program} {w : World} {K : PySem.W.Frag} {mg : Str → Option Value} {base : Heap} {fd : Nat → FuncData} (T : Dn P w K mg fd) : FnOk P w K mg base (L2.CX P w) 1 (He.fAd K d20.at_) (fd 20) ["script", "k"] (Prom ⟨g0 K, K⟩ mask_20 c_20) :=
  fn_okC T.f20 S20 rfl (by decide) T.fr fun X W e1 e2 e3 e4 e5 R C => by
    subst e1 e2 e3 e4 e5
    exact b_20 C R T
/-! ### _law_take -/
abbrev N21 : List Str := ["box", "many", "digit", "raw"]
abbrev mask_21 : List Bool := [true, false]
theorem S21 : FnScope N21 ["box", "many"] (defScope (top 21)) := ⟨rfl, rfl, rfl, by decide +kernel, rfl, by decide +kernel, by decide +kernel⟩
theorem bind_21 {K : PySem.W.Frag} {f : Addr} {fd : FuncData} (F : FunD K d21.name d21.qual d21.params d21.body d21.scope (d21.dvs K) (d21.kws K) f fd) : Binds K fd ["box", "many"] [] := FunD.bindsN F fun _ _ _ _ _ _ us hl => match us, hl with | [_, _], _ => rfl
def m_21 : MS := (mSeq (mIfS (mOp2 (cmpD fun i j => decide (j < i)) (.e (mOp2 ixD (.v 0) (.e (mC (.int 0))))) (.e (mC (.int 0)))) (mSeq (mAsg (.v 2) (mOp2 modD (.e (mOp1 intD (.e (mOp2 ixD (.v 0) (.e (mC (.int 0))))))) (.v 1)))
  (mSeq (mSet 0 (.e (mC (.int 0))) (mOp2 fdivD (.e (mOp2 ixD (.v 0) (.e (mC (.int 0))))) (.v 1)))
  (mSeq (mRet (mMv 2))
  RS.nx))) RS.nx)
  (mSeq (mAsg (.v 3) (mOp2 modD (.e (mOp1 intD (.e (mOp2 addD (.e (mOp2 mulD (.e (mOp2 ixD (.v 0) (.e (mC (.int 1))))) (.e (mC (.int 39373))))) (.e (mC (.int 547))))))) (.e (mC (.int 2147483647)))))
  (mSeq (mSet 0 (.e (mC (.int 1))) (mOp2 addD (.e (mOp2 modD (.e (mOp1 intD (.e (mOp2 addD (.e (mOp2 mulD (.v 3) (.e (mC (.int 40692))))) (.e (mC (.int 73))))))) (.e (mC (.int 2147483399))))) (.e (mC (.int 1)))))
  (mSeq (mRet (mOp2 modD (.e (mOp1 intD (.e (mOp2 fdivD (.e (mOp2 addD (.e (mOp2 mulD (.v 3) (.e (mC (.int 2147483629))))) (.e (mOp2 ixD (.v 0) (.e (mC (.int 1))))))) (.e (mC (.int 8209))))))) (.v 1)))
  RS.nx))))
def c_21 : List D → RC := callF 4 mask_21 m_21
theorem b_21 {X : Cx} {W : WX} {fd : Nat → FuncData} (C : Cf X W N21 (defScope (top 21)) FR) (R : Room 0 X.A) (T : Dn X.prog X.w X.K X.mg fd) : SSs X (g0 X.K) W (lix 0 mask_21) (defBody (top 21)) m_21 := by
  have h0 : varB N21 (defScope (top 21)) 0 "box" = true := by decide +kernel
  have h1 : varB N21 (defScope (top 21)) 1 "many" = true := by decide +kernel
  have h2 : varB N21 (defScope (top 21)) 2 "digit" = true := by decide +kernel
  have h3 : varB N21 (defScope (top 21)) 3 "raw" = true := by decide +kernel
  have g_int : glB (defScope (top 21)) "int" = true := by decide +kernel
  unfold m_21
  exact (sss_cons (ss_if (st_gt (SOp.e (se_ix C.toCn (SOp.v C.toCn h0) (SOp.e (se_int (g := g0 X.K) (W := W))) (fun _ _ => rfl))) (SOp.e (se_int (g := g0 X.K) (W := W)))) (sss_cons (ss_setC C (by decide +kernel) (se_mod (SOp.e (se_int1 C.toCn fr_int g_int (SOp.e (se_ix C.toCn (SOp.v C.toCn h0) (SOp.e (se_int (g := g0 X.K) (W := W))) (fun _ _ => rfl))) rfl)) (SOp.v C.toCn h1)) (by decide) rfl)
  (sss_cons (ss_sub C.toCn h0 (SOp.e (se_int (g := g0 X.K) (W := W))) (se_fdiv (SOp.e (se_ix C.toCn (SOp.v C.toCn h0) (SOp.e (se_int (g := g0 X.K) (W := W))) (fun _ _ => rfl))) (SOp.v C.toCn h1)) rfl rfl rfl (fun _ => rfl))
  (sss_cons (ss_ret (se_mv C.toCn h2))
  sss_nil))) sss_nil)
  (sss_cons (ss_setC C (by decide +kernel) (se_mod (SOp.e (se_int1 C.toCn fr_int g_int (SOp.e (se_add (SOp.e (se_mul (SOp.e (se_ix C.toCn (SOp.v C.toCn h0) (SOp.e (se_int (g := g0 X.K) (W := W))) (fun _ _ => rfl))) (SOp.e (se_int (g := g0 X.K) (W := W))))) (SOp.e (se_int (g := g0 X.K) (W := W))))) rfl)) (SOp.e (se_int (g := g0 X.K) (W := W)))) (by decide) rfl)
  (sss_cons (ss_sub C.toCn h0 (SOp.e (se_int (g := g0 X.K) (W := W))) (se_add (SOp.e (se_mod (SOp.e (se_int1 C.toCn fr_int g_int (SOp.e (se_add (SOp.e (se_mul (SOp.v C.toCn h3) (SOp.e (se_int (g := g0 X.K) (W := W))))) (SOp.e (se_int (g := g0 X.K) (W := W))))) rfl)) (SOp.e (se_int (g := g0 X.K) (W := W))))) (SOp.e (se_int (g := g0 X.K) (W := W)))) rfl rfl rfl (fun _ => rfl))
  (sss_cons (ss_ret (se_mod (SOp.e (se_int1 C.toCn fr_int g_int (SOp.e (se_fdiv (SOp.e (se_add (SOp.e (se_mul (SOp.v C.toCn h3) (SOp.e (se_int (g := g0 X.K) (W := W))))) (SOp.e (se_ix C.toCn (SOp.v C.toCn h0) (SOp.e (se_int (g := g0 X.K) (W := W))) (fun _ _ => rfl))))) (SOp.e (se_int (g := g0 X.K) (W := W))))) rfl)) (SOp.v C.toCn h1)))
  sss_nil))))
theorem ok_21 {P : Program} {w : World} {K : PySem.W.Frag} {mg : Str → Option Value} {base : Heap} {fd : Nat → FuncData} (T : Dn P w K mg fd) : FnOk P w K mg base (L2.CX P w) 1 (He.fAd K d21.at_) (fd 21) ["box", "many"] (Prom ⟨g0 K, K⟩ mask_21 c_21) :=
  fn_okC T.f21 S21 rfl (by decide) T.fr fun X W e1 e2 e3 e4 e5 R C => by
    subst e1 e2 e3 e4 e5
    exact b_21 C R T
/-! ### _law_pick -/
abbrev N22 : List Str := ["box", "some"]
abbrev mask_22 : List Bool := [true, false]
theorem S22 : FnScope N22 ["box", "some"] (defScope (top 22)) := ⟨rfl, rfl, rfl, by decide +kernel, rfl, by decide +kernel, by decide +kernel⟩
theorem bind_22 {K : PySem.W.Frag} {f : Addr} {fd : FuncData} (F : FunD K d22.name d22.qual d22.params d22.body d22.scope (d22.dvs K) (d22.kws K) f fd) : Binds K fd ["box", "some"] [] := FunD.bindsN F fun _ _ _ _ _ _ us hl => match us, hl with | [_, _], _ => rfl
def m_22 : MS := (mSeq (mRet (mOp2 ixD (.v 1) (.e (mCall c_21 mask_21 [] [.l 0, .t (mOp1 lenD (.v 1))]))))
  RS.nx)
def c_22 : List D → RC := callF 2 mask_22 m_22
theorem b_22 {X : Cx} {W : WX} {fd : Nat → FuncData} (C : Cf X W N22 (defScope (top 22)) FR) (R : Room 1 X.A) (T : Dn X.prog X.w X.K X.mg fd) : SSs X (g0 X.K) W (lix 0 mask_22) (defBody (top 22)) m_22 := by
  have h0 : varB N22 (defScope (top 22)) 0 "box" = true := by decide +kernel
  have h1 : varB N22 (defScope (top 22)) 1 "some" = true := by decide +kernel
  have g__law_take : glB (defScope (top 22)) "_law_take" = true := by decide +kernel
  have g_len : glB (defScope (top 22)) "len" = true := by decide +kernel
  unfold m_22
  exact (sss_cons (ss_ret (se_ix C.toCn (SOp.v C.toCn h1) (SOp.e (se_call (dvs := []) (ds := []) C.tk (ok_21 T) (R.mono (by decide)) (gl_ok C.toCn g__law_take) T.m21 T.f21.kp (bind_21 T.f21) .nil (fun _ _ => .nil) (sa_consL (pv_ok C.toCn h0) (sa_consT (se_len C.toCn fr_len g_len (SOp.v C.toCn h1) rfl) sa_nil rfl) rfl) (by decide) rfl rfl)) (fun _ _ => rfl)))
  sss_nil)
theorem ok_22 {P : Program} {w : World} {K : PySem.W.Frag} {mg : Str → Option Value} {base : Heap} {fd : Nat → FuncData} (T : Dn P w K mg fd) : FnOk P w K mg base (L2.CX P w) 2 (He.fAd K d22.at_) (fd 22) ["box", "some"] (Prom ⟨g0 K, K⟩ mask_22 c_22) :=
  fn_okC T.f22 S22 rfl (by decide) T.fr fun X W e1 e2 e3 e4 e5 R C => by
    subst e1 e2 e3 e4 e5
    exact b_22 C R T
/-! ### _law_same -/
abbrev N23 : List Str := ["told", "due", "one", "other"]
abbrev mask_23 : List Bool := [false, false]
theorem S23 : FnScope N23 ["told", "due"] (defScope (top 23)) := ⟨rfl, rfl, rfl, by decide +kernel, rfl, by decide +kernel, by decide +kernel⟩
theorem bind_23 {K : PySem.W.Frag} {f : Addr} {fd : FuncData} (F : FunD K d23.name d23.qual d23.params d23.body d23.scope (d23.dvs K) (d23.kws K) f fd) : Binds K fd ["told", "due"] [] := FunD.bindsN F fun _ _ _ _ _ _ us hl => match us, hl with | [_, _], _ => rfl
def s_23_1 (self : List D → RC) : MS := (mSeq (mIfS (mTNot (mTru (.e (mCall self mask_23 [] [.t (mV 2), .t (mV 3)])))) (mSeq (mRet (mC (.bl false)))
  RS.nx) RS.nx)
  RS.nx)
def m_23 (self : List D → RC) : MS := (mSeq (mIfS (mTru (.e (mOp1 (fun d => (isiD .tuple d).map .bl) (.v 1)))) (mSeq (mIfS (mTOr (mTNot (mTru (.e (mOp1 (fun d => (isiD .tuple d).map .bl) (.v 0))))) (mOp2 neD (.e (mOp1 lenD (.v 0))) (.e (mOp1 lenD (.v 1))))) (mSeq (mRet (mC (.bl false)))
  RS.nx) RS.nx)
  (mSeq (mFor [] (.t [(.v 2), (.v 3)]) (mZipM (mV 0) (mV 1)) (s_23_1 self))
  (mSeq (mRet (mC (.bl true)))
  RS.nx))) RS.nx)
  (mSeq (mIfS (mOp1 (fun d => some (.bl (isN d))) (.v 1)) (mSeq (mRet (mOp1 (fun d => some (.bl (isN d))) (.v 0)))
  RS.nx) RS.nx)
  (mSeq (mIfS (mTOr (mOp1 (fun d => some (.bl (isB true d))) (.v 1)) (mOp1 (fun d => some (.bl (isB false d))) (.v 1))) (mSeq (mRet (mAnd (.e (mOp1 (fun d => (isiD .bool d).map .bl) (.v 0))) (mOp2 eqD (.v 0) (.v 1))))
  RS.nx) RS.nx)
  (mSeq (mIfS (mTru (.e (mOp1 (fun d => (isiD .int d).map .bl) (.v 1)))) (mSeq (mRet (mAnd (.e (mOp1 (fun d => (isiD .int d).map .bl) (.v 0))) (mAnd (.e (mNot (.e (mOp1 (fun d => (isiD .bool d).map .bl) (.v 0))))) (mOp2 eqD (.v 0) (.v 1)))))
  RS.nx) RS.nx)
  (mSeq (mRet (mAnd (.e (mOp1 (fun d => (isiD .str d).map .bl) (.v 0))) (mAnd (.e (mOp1 (fun d => (isiD .str d).map .bl) (.v 1))) (mOp2 eqD (.v 0) (.v 1)))))
  RS.nx)))))
def c_23 : Nat → List D → RC
  | 0 => fun _ => .no
  | n + 1 => callF 4 mask_23 (m_23 (c_23 n))
theorem b_23 {X : Cx} {W : WX} {fd : Nat → FuncData} {n : Nat} {self : List D → RC} (C : Cf X W N23 (defScope (top 23)) FR) (R : Room (0 + n) X.A) (T : Dn X.prog X.w X.K X.mg fd) (S : FnOk X.prog X.w X.K X.mg X.base (L2.CX X.prog X.w) (0 + n) (He.fAd X.K d23.at_) (fd 23) ["told", "due"] (Prom (gOf X (g0 X.K)) mask_23 self)) : SSs X (g0 X.K) W (lix 0 mask_23) (defBody (top 23)) (m_23 self) := by
  have h0 : varB N23 (defScope (top 23)) 0 "told" = true := by decide +kernel
  have h1 : varB N23 (defScope (top 23)) 1 "due" = true := by decide +kernel
  have h2 : varB N23 (defScope (top 23)) 2 "one" = true := by decide +kernel
  have h3 : varB N23 (defScope (top 23)) 3 "other" = true := by decide +kernel
  have g__law_same : glB (defScope (top 23)) "_law_same" = true := by decide +kernel
  have g_bool : glB (defScope (top 23)) "bool" = true := by decide +kernel
  have g_int : glB (defScope (top 23)) "int" = true := by decide +kernel
  have g_isinstance : glB (defScope (top 23)) "isinstance" = true := by decide +kernel
  have g_len : glB (defScope (top 23)) "len" = true := by decide +kernel
  have g_str : glB (defScope (top 23)) "str" = true := by decide +kernel
  have g_tuple : glB (defScope (top 23)) "tuple" = true := by decide +kernel
  have g_zip : glB (defScope (top 23)) "zip" = true := by decide +kernel
  unfold m_23
  exact (sss_cons (ss_if (st_tru (SOp.e (se_isi (T := .tuple) C.toCn fr_isinstance g_isinstance fr_tuple g_tuple (SOp.v C.toCn h1) rfl)) (fun _ => rfl)) (sss_cons (ss_if (st_bool (sw_or (st_not (st_tru (SOp.e (se_isi (T := .tuple) C.toCn fr_isinstance g_isinstance fr_tuple g_tuple (SOp.v C.toCn h0) rfl)) (fun _ => rfl))) (sw_or1 (st_ne C.toCn (SOp.e (se_len C.toCn fr_len g_len (SOp.v C.toCn h0) rfl)) (SOp.e (se_len C.toCn fr_len g_len (SOp.v C.toCn h1) rfl)))))) (sss_cons (ss_ret (se_bl (g := g0 X.K) (W := W)))
  sss_nil) sss_nil)
  (sss_cons (ss_for (Ls := []) (t := (.t [(.v 2), (.v 3)])) C.po C.calm (si_zipM C.toCn fr_zip g_zip (se_v C.toCn h0) (se_v C.toCn h1) rfl rfl rfl) (pg_tup C.toCn.calm (pgs_cons (pg_f C (by decide +kernel)) (pgs_cons (pg_f C (by decide +kernel)) pgs_nil))) (gok_t rfl rfl (gsok_cons (gok_v (by decide)) (gsok_cons (gok_v (by decide)) gsok_nil))) (sss_cons (ss_if (st_not (st_tru (SOp.e (se_call (dvs := []) (ds := []) C.tk S R (gl_ok C.toCn g__law_same) T.m23 T.f23.kp (bind_23 T.f23) .nil (fun _ _ => .nil) (sa_consT (se_v C.toCn h2) (sa_consT (se_v C.toCn h3) sa_nil rfl) rfl) (by decide) rfl rfl)) (fun _ => rfl))) (sss_cons (ss_ret (se_bl (g := g0 X.K) (W := W)))
  sss_nil) sss_nil)
  sss_nil) (fun _ => rfl))
  (sss_cons (ss_ret (se_bl (g := g0 X.K) (W := W)))
  sss_nil))) sss_nil)
  (sss_cons (ss_if (st_isN (SOp.v C.toCn h1)) (sss_cons (ss_ret (se_isN (SOp.v C.toCn h0)))
  sss_nil) sss_nil)
  (sss_cons (ss_if (st_bool (sw_or (st_isB (SOp.v C.toCn h1)) (sw_or1 (st_isB (SOp.v C.toCn h1))))) (sss_cons (ss_ret (se_and (SOp.e (se_isi (T := .bool) C.toCn fr_isinstance g_isinstance fr_bool g_bool (SOp.v C.toCn h0) rfl)) (se_and1 (se_eq C.toCn (SOp.v C.toCn h0) (SOp.v C.toCn h1)))))
  sss_nil) sss_nil)
  (sss_cons (ss_if (st_tru (SOp.e (se_isi (T := .int) C.toCn fr_isinstance g_isinstance fr_int g_int (SOp.v C.toCn h1) rfl)) (fun _ => rfl)) (sss_cons (ss_ret (se_and (SOp.e (se_isi (T := .int) C.toCn fr_isinstance g_isinstance fr_int g_int (SOp.v C.toCn h0) rfl)) (se_and (SOp.e (se_not (SOp.e (se_isi (T := .bool) C.toCn fr_isinstance g_isinstance fr_bool g_bool (SOp.v C.toCn h0) rfl)))) (se_and1 (se_eq C.toCn (SOp.v C.toCn h0) (SOp.v C.toCn h1))))))
  sss_nil) sss_nil)
  (sss_cons (ss_ret (se_and (SOp.e (se_isi (T := .str) C.toCn fr_isinstance g_isinstance fr_str g_str (SOp.v C.toCn h0) rfl)) (se_and (SOp.e (se_isi (T := .str) C.toCn fr_isinstance g_isinstance fr_str g_str (SOp.v C.toCn h1) rfl)) (se_and1 (se_eq C.toCn (SOp.v C.toCn h0) (SOp.v C.toCn h1))))))
  sss_nil)))))
theorem ok_23 {P : Program} {w : World} {K : PySem.W.Frag} {mg : Str → Option Value} {base : Heap} {fd : Nat → FuncData} (T : Dn P w K mg fd) : ∀ n, FnOk P w K mg base (L2.CX P w) (0 + n) (He.fAd K d23.at_) (fd 23) ["told", "due"] (Prom ⟨g0 K, K⟩ mask_23 (c_23 n))
  | 0 => fn_no rfl
  | n + 1 => fn_okC T.f23 S23 rfl (by decide) T.fr fun X W e1 e2 e3 e4 e5 R C => by
    subst e1 e2 e3 e4 e5
    exact b_23 C R T (ok_23 T n)
/-! ### _law_closed -/
abbrev N24 : List Str := ["prices", "many", "found", "stop", "one", "two", "row"]
abbrev mask_24 : List Bool := [true]
theorem S24 : FnScope N24 ["prices"] (defScope (top 24)) := ⟨rfl, rfl, rfl, by decide +kernel, rfl, by decide +kernel, by decide +kernel⟩
theorem bind_24 {K : PySem.W.Frag} {f : Addr} {fd : FuncData} (F : FunD K d24.name d24.qual d24.params d24.body d24.scope (d24.dvs K) (d24.kws K) f fd) : Binds K fd ["prices"] [] := FunD.bindsN F fun _ _ _ _ _ _ us hl => match us, hl with | [_], _ => rfl
def q_24_1 : ME := (mOp1 tupleD (.v 6))
def s_24_2 : MS := (mSeq (mSet2 2 (.s 4) (.s 5) (mOp2 min2D (.e (mIx2 2 (.s 4) (.s 5))) (.e (mOp2 addD (.e (mIx2 2 (.s 4) (.s 3))) (.e (mIx2 2 (.s 3) (.s 5)))))))
  RS.nx)
def s_24_3 : MS := (mSeq (mFor [] (.v 5) (mRg1 (mV 1)) s_24_2)
  RS.nx)
def s_24_4 : MS := (mSeq (mFor [] (.v 4) (mRg1 (mV 1)) s_24_3)
  RS.nx)
def q_24_5 : ME := (mOp1 listA (.v 6))
def m_24 : MS := (mSeq (mPar [1, 2] [.t (mOp1 lenD (.v 0)), .t (mLc [6] (.v 6) (mIt (mV 0)) mTrue q_24_5)])
  (mSeq (mFor [] (.v 3) (mRg1 (mV 1)) s_24_4)
  (mSeq (mRet (mOp1 tupleD (.e (mLc [6] (.v 6) (mIt (mV 2)) mTrue q_24_1))))
  RS.nx)))
def c_24 : List D → RC := callF 7 mask_24 m_24
theorem b_24 {X : Cx} {W : WX} {fd : Nat → FuncData} (C : Cf X W N24 (defScope (top 24)) FR) (R : Room 0 X.A) (T : Dn X.prog X.w X.K X.mg fd) : SSs X (g0 X.K) W (lix 0 mask_24) (defBody (top 24)) m_24 := by
  have h0 : varB N24 (defScope (top 24)) 0 "prices" = true := by decide +kernel
  have h1 : varB N24 (defScope (top 24)) 1 "many" = true := by decide +kernel
  have h2 : varB N24 (defScope (top 24)) 2 "found" = true := by decide +kernel
  have h3 : varB N24 (defScope (top 24)) 3 "stop" = true := by decide +kernel
  have h4 : varB N24 (defScope (top 24)) 4 "one" = true := by decide +kernel
  have h5 : varB N24 (defScope (top 24)) 5 "two" = true := by decide +kernel
  have g_len : glB (defScope (top 24)) "len" = true := by decide +kernel
  have g_min : glB (defScope (top 24)) "min" = true := by decide +kernel
  have g_range : glB (defScope (top 24)) "range" = true := by decide +kernel
  have g_tuple : glB (defScope (top 24)) "tuple" = true := by decide +kernel
  unfold m_24
  exact (sss_cons (ss_parC C (by decide +kernel) (by decide +kernel) (by decide) (sa_consT (se_len C.toCn fr_len g_len (SOp.v C.toCn h0) rfl) (sa_consT (se_lcC (own' := [("row", 6)]) (t := (.v 6)) C.toCn (si_seq (se_v C.toCn h0)) (by decide +kernel) (fun _ _ _ _ _ C1 => (pg_b C1 (by decide +kernel))) (fun L hL => (gok_vb (by decide) L hL)) (fun _ _ _ _ _ C1 => (pts_true pts_nil)) (fun _ _ _ _ _ C1 => (se_listA C1 fr_list (by decide +kernel) (SOp.v C1 (by decide +kernel)) rfl)) (fun _ => rfl)) sa_nil rfl) rfl) (by kernel_rfl) (by decide))
  (sss_cons (ss_for (Ls := []) (t := (.v 3)) C.po C.calm (si_rg1 C.toCn fr_range g_range (se_v C.toCn h1) rfl) (pg_f C (by decide +kernel)) (gok_v (by decide)) (sss_cons (ss_for (Ls := []) (t := (.v 4)) C.po C.calm (si_rg1 C.toCn fr_range g_range (se_v C.toCn h1) rfl) (pg_f C (by decide +kernel)) (gok_v (by decide)) (sss_cons (ss_for (Ls := []) (t := (.v 5)) C.po C.calm (si_rg1 C.toCn fr_range g_range (se_v C.toCn h1) rfl) (pg_f C (by decide +kernel)) (gok_v (by decide)) (sss_cons (ss_sub2 C.toCn h2 (sx_s C.toCn h4) (sx_s C.toCn h5) (fun _ _ => rfl) (se_min2 C.toCn fr_min g_min (SOp.e (se_ix2 C.toCn h2 (sx_s C.toCn h4) (sx_s C.toCn h5) (fun _ _ => rfl) (fun _ _ => rfl))) (SOp.e (se_add (SOp.e (se_ix2 C.toCn h2 (sx_s C.toCn h4) (sx_s C.toCn h3) (fun _ _ => rfl) (fun _ _ => rfl))) (SOp.e (se_ix2 C.toCn h2 (sx_s C.toCn h3) (sx_s C.toCn h5) (fun _ _ => rfl) (fun _ _ => rfl))))) rfl rfl rfl) rfl rfl rfl (fun _ => rfl))
  sss_nil) (fun _ => rfl))
  sss_nil) (fun _ => rfl))
  sss_nil) (fun _ => rfl))
  (sss_cons (ss_ret (se_tuple C.toCn fr_tuple g_tuple (SOp.e (se_lcC (own' := [("row", 6)]) (t := (.v 6)) C.toCn (si_seq (se_v C.toCn h2)) (by decide +kernel) (fun _ _ _ _ _ C1 => (pg_b C1 (by decide +kernel))) (fun L hL => (gok_vb (by decide) L hL)) (fun _ _ _ _ _ C1 => (pts_true pts_nil)) (fun _ _ _ _ _ C1 => (se_tuple C1 fr_tuple (by decide +kernel) (SOp.v C1 (by decide +kernel)) rfl)) (fun _ => rfl))) rfl))
  sss_nil)))
theorem ok_24 {P : Program} {w : World} {K : PySem.W.Frag} {mg : Str → Option Value} {base : Heap} {fd : Nat → FuncData} (T : Dn P w K mg fd) : FnOk P w K mg base (L2.CX P w) 1 (He.fAd K d24.at_) (fd 24) ["prices"] (Prom ⟨g0 K, K⟩ mask_24 c_24) :=
  fn_okC T.f24 S24 rfl (by decide) T.fr fun X W e1 e2 e3 e4 e5 R C => by
    subst e1 e2 e3 e4 e5
    exact b_24 C R T
/-! ### _law_service -/
abbrev N25 : List Str := ["box", "standings", "tasks", "dear", "rows", "costs", "one", "task", "row", "two", "cost"]
abbrev mask_25 : List Bool := [true, false, false, false]
theorem S25 : FnScope N25 ["box", "standings", "tasks", "dear"] (defScope (top 25)) := ⟨rfl, rfl, rfl, by decide +kernel, rfl, by decide +kernel, by decide +kernel⟩
theorem bind_25 {K : PySem.W.Frag} {f : Addr} {fd : FuncData} (F : FunD K d25.name d25.qual d25.params d25.body d25.scope (d25.dvs K) (d25.kws K) f fd) : Binds K fd ["box", "standings", "tasks", "dear"] [] := FunD.bindsN F fun _ _ _ _ _ _ us hl => match us, hl with | [_, _, _, _], _ => rfl
def q_25_1 : ME := (mV 10)
def t_25_2 : ME := (mOp1 (fun d => some (.bl (!isN d))) (.v 10))
def q_25_3 : ME := (mFz (mIf (mOp2 eqD (.e (mCall c_21 mask_21 [] [.l 0, .t (mC (.int 5))])) (.e (mC (.int 0)))) (mC .non) (mCall c_21 mask_21 [] [.l 0, .t (mOp2 addD (.v 3) (.e (mC (.int 1))))])))
def s_25_4 : MS := (mSeq (mAsg (.v 8) (mLc [6] (.v 6) (mRg1 (mV 1)) mTrue q_25_3))
  (mSeq (mIfS (mOp2 eqD (.e (mLc [10] (.v 10) (mItV 8) t_25_2 q_25_1)) (.e (mLst []))) (mSeq (mSet 8 (.e (mCall c_21 mask_21 [] [.l 0, .t (mV 1)])) (mFz (mCall c_21 mask_21 [] [.l 0, .t (mOp2 addD (.v 3) (.e (mC (.int 1))))])))
  RS.nx) RS.nx)
  (mSeq (mExpr (mApp 5 (mOp1 tupleD (.v 8))))
  RS.nx)))
def q_25_5 : ME := (mFz (mIf (mOp2 eqD (.v 6) (.v 9)) (mC (.int 0)) (mCall c_21 mask_21 [] [.l 0, .t (mOp2 addD (.v 3) (.e (mC (.int 1))))])))
def s_25_6 : MS := (mSeq (mExpr (mApp 4 (mFz (mLc [9] (.v 9) (mRg1 (mV 1)) mTrue q_25_5))))
  RS.nx)
def m_25 : MS := (mSeq (mPar [4, 5] [.t (mLst []), .t (mLst [])])
  (mSeq (mFor [] (.v 6) (mRg1 (mV 1)) s_25_6)
  (mSeq (mFor [] (.v 7) (mRg1 (mV 2)) s_25_4)
  (mSeq (mRet (mTup [.t (mCall c_24 mask_24 [] [.l 4]), .t (mOp1 tupleD (.v 5))]))
  RS.nx))))
def c_25 : List D → RC := callF 11 mask_25 m_25
theorem b_25 {X : Cx} {W : WX} {fd : Nat → FuncData} (C : Cf X W N25 (defScope (top 25)) FR) (R : Room 1 X.A) (T : Dn X.prog X.w X.K X.mg fd) : SSs X (g0 X.K) W (lix 0 mask_25) (defBody (top 25)) m_25 := by
  have h0 : varB N25 (defScope (top 25)) 0 "box" = true := by decide +kernel
  have h1 : varB N25 (defScope (top 25)) 1 "standings" = true := by decide +kernel
  have h2 : varB N25 (defScope (top 25)) 2 "tasks" = true := by decide +kernel
  have h3 : varB N25 (defScope (top 25)) 3 "dear" = true := by decide +kernel
  have h4 : varB N25 (defScope (top 25)) 4 "rows" = true := by decide +kernel
  have h5 : varB N25 (defScope (top 25)) 5 "costs" = true := by decide +kernel
  have h8 : varB N25 (defScope (top 25)) 8 "row" = true := by decide +kernel
  have g__law_closed : glB (defScope (top 25)) "_law_closed" = true := by decide +kernel
  have g__law_take : glB (defScope (top 25)) "_law_take" = true := by decide +kernel
  have g_range : glB (defScope (top 25)) "range" = true := by decide +kernel
  have g_tuple : glB (defScope (top 25)) "tuple" = true := by decide +kernel
  unfold m_25
  exact (sss_cons (ss_parC C (by decide +kernel) (by decide +kernel) (by decide) (sa_consT (se_lst (g := g0 X.K) (W := W) sa_nil) (sa_consT (se_lst (g := g0 X.K) (W := W) sa_nil) sa_nil rfl) rfl) (by kernel_rfl) (by decide))
  (sss_cons (ss_for (Ls := []) (t := (.v 6)) C.po C.calm (si_rg1 C.toCn fr_range g_range (se_v C.toCn h1) rfl) (pg_f C (by decide +kernel)) (gok_v (by decide)) (sss_cons (ss_expr (se_app C.toCn h4 (se_fz (se_lcC (own' := [("two", 9)]) (t := (.v 9)) C.toCn (si_rg1 C.toCn fr_range g_range (se_v C.toCn h1) rfl) (by decide +kernel) (fun _ _ _ _ _ C1 => (pg_b C1 (by decide +kernel))) (fun L hL => (gok_vb (by decide) L hL)) (fun _ _ _ _ _ C1 => (pts_true pts_nil)) (fun _ _ _ _ _ C1 => (se_fz (se_if (st_eq C1 (SOp.v C1 (by decide +kernel)) (SOp.v C1 (by decide +kernel))) (se_int (g := g0 X.K) (W := W0)) (se_call (dvs := []) (ds := []) EV.takes0 (ok_21 T) (R.mono (by decide)) (gl_ok C1 (by decide +kernel)) T.m21 T.f21.kp (bind_21 T.f21) .nil (fun _ _ => .nil) (sa_consL (pv_ok C1 (by decide +kernel)) (sa_consT (se_add (SOp.v C1 (by decide +kernel)) (SOp.e (se_int (g := g0 X.K) (W := W0)))) sa_nil rfl) rfl) (by decide) rfl rfl)))) (fun _ => rfl))) rfl rfl) rfl)
  sss_nil) (fun _ => rfl))
  (sss_cons (ss_for (Ls := []) (t := (.v 7)) C.po C.calm (si_rg1 C.toCn fr_range g_range (se_v C.toCn h2) rfl) (pg_f C (by decide +kernel)) (gok_v (by decide)) (sss_cons (ss_setLcC C (by decide +kernel) rfl rfl (by decide +kernel) (by decide) (si_rg1 C.toCn fr_range g_range (se_v C.toCn h1) rfl) (own' := [("one", 6)]) (t := (.v 6)) (by decide +kernel) (fun _ _ _ _ _ C1 => (pg_b C1 (by decide +kernel))) (fun L hL => (gok_vb (by decide) L hL)) (fun _ _ _ _ _ C1 => (pts_true pts_nil)) (fun _ _ _ _ _ C1 => (se_fz (se_if (st_eq C1 (SOp.e (se_call (dvs := []) (ds := []) EV.takes0 (ok_21 T) (R.mono (by decide)) (gl_ok C1 (by decide +kernel)) T.m21 T.f21.kp (bind_21 T.f21) .nil (fun _ _ => .nil) (sa_consL (pv_ok C1 (by decide +kernel)) (sa_consT (se_int (g := g0 X.K) (W := W0)) sa_nil rfl) rfl) (by decide) rfl rfl)) (SOp.e (se_int (g := g0 X.K) (W := W0)))) (se_non (g := g0 X.K) (W := W0)) (se_call (dvs := []) (ds := []) EV.takes0 (ok_21 T) (R.mono (by decide)) (gl_ok C1 (by decide +kernel)) T.m21 T.f21.kp (bind_21 T.f21) .nil (fun _ _ => .nil) (sa_consL (pv_ok C1 (by decide +kernel)) (sa_consT (se_add (SOp.v C1 (by decide +kernel)) (SOp.e (se_int (g := g0 X.K) (W := W0)))) sa_nil rfl) rfl) (by decide) rfl rfl)))) (fun _ => rfl))
  (sss_cons (ss_if (st_eq C.toCn (SOp.e (se_lcC (own' := [("cost", 10)]) (t := (.v 10)) C.toCn (si_v C.toCn h8) (by decide +kernel) (fun _ _ _ _ _ C1 => (pg_b C1 (by decide +kernel))) (fun L hL => (gok_vb (by decide) L hL)) (fun _ _ _ _ _ C1 => (pts_one (st_notN (SOp.v C1 (by decide +kernel))))) (fun _ _ _ _ _ C1 => (se_v C1 (by decide +kernel))) (fun _ => rfl))) (SOp.e (se_lst (g := g0 X.K) (W := W) sa_nil))) (sss_cons (ss_sub C.toCn h8 (SOp.e (se_call (dvs := []) (ds := []) C.tk (ok_21 T) (R.mono (by decide)) (gl_ok C.toCn g__law_take) T.m21 T.f21.kp (bind_21 T.f21) .nil (fun _ _ => .nil) (sa_consL (pv_ok C.toCn h0) (sa_consT (se_v C.toCn h1) sa_nil rfl) rfl) (by decide) rfl rfl)) (se_fz (se_call (dvs := []) (ds := []) C.tk (ok_21 T) (R.mono (by decide)) (gl_ok C.toCn g__law_take) T.m21 T.f21.kp (bind_21 T.f21) .nil (fun _ _ => .nil) (sa_consL (pv_ok C.toCn h0) (sa_consT (se_add (SOp.v C.toCn h3) (SOp.e (se_int (g := g0 X.K) (W := W)))) sa_nil rfl) rfl) (by decide) rfl rfl)) rfl rfl rfl (fun _ => rfl))
  sss_nil) sss_nil)
  (sss_cons (ss_expr (se_app C.toCn h5 (se_tuple C.toCn fr_tuple g_tuple (SOp.v C.toCn h8) rfl) rfl rfl) rfl)
  sss_nil))) (fun _ => rfl))
  (sss_cons (ss_ret (se_tup (g := g0 X.K) (W := W) (sa_consT (se_call (dvs := []) (ds := []) C.tk (ok_24 T) (R.mono (by decide)) (gl_ok C.toCn g__law_closed) T.m24 T.f24.kp (bind_24 T.f24) .nil (fun _ _ => .nil) (sa_consL (pv_ok C.toCn h4) sa_nil rfl) (by decide) rfl rfl) (sa_consT (se_tuple C.toCn fr_tuple g_tuple (SOp.v C.toCn h5) rfl) sa_nil rfl) rfl)))
  sss_nil))))
theorem ok_25 {P : Program} {w : World} {K : PySem.W.Frag} {mg : Str → Option Value} {base : Heap} {fd : Nat → FuncData} (T : Dn P w K mg fd) : FnOk P w K mg base (L2.CX P w) 2 (He.fAd K d25.at_) (fd 25) ["box", "standings", "tasks", "dear"] (Prom ⟨g0 K, K⟩ mask_25 c_25) :=
  fn_okC T.f25 S25 rfl (by decide) T.fr fun X W e1 e2 e3 e4 e5 R C => by
    subst e1 e2 e3 e4 e5
    exact b_25 C R T
/-! ### _law_crowd_case -/
abbrev N26 : List Str := ["box", "standings", "many", "tasks", "rooms", "mine", "theirs", "asks", "book", "room", "row", "sign", "task", "comes"]
abbrev mask_26 : List Bool := [true, false]
theorem S26 : FnScope N26 ["box", "standings"] (defScope (top 26)) := ⟨rfl, rfl, rfl, by decide +kernel, rfl, by decide +kernel, by decide +kernel⟩
theorem bind_26 {K : PySem.W.Frag} {f : Addr} {fd : FuncData} (F : FunD K d26.name d26.qual d26.params d26.body d26.scope (d26.dvs K) (d26.kws K) f fd) : Binds K fd ["box", "standings"] [] := FunD.bindsN F fun _ _ _ _ _ _ us hl => match us, hl with | [_, _], _ => rfl
def s_26_1 : MS := (mSeq (mAsg (.v 13) (mOr (.e (mOp2 (cmpD fun i j => decide (j < i)) (.e (mCall c_21 mask_21 [] [.l 0, .t (mC (.int 6))])) (.e (mC (.int 0))))) (mOp2 eqD (.e (mOp2 addD (.v 9) (.v 11))) (.e (mC (.int 0))))))
  (mSeq (mExpr (mApp 10 (mFz (mIf (mTru (.v 13)) (mTup [.t (mV 12), .t (mCall c_22 mask_22 [] [.l 0, .t (mLst [.t (mC (.int 0)), .t (mC (.int 0)), .t (mC (.int 1)), .t (mC (.int 2))])]), .t (mCall c_21 mask_21 [] [.l 0, .t (mV 4)])]) (mC .non)))))
  RS.nx))
def s_26_2 : MS := (mSeq (mAsg (.v 10) (mLst []))
  (mSeq (mFor [] (.t [(.v 11), (.v 12)]) (mEnum (mV 7)) s_26_1)
  (mSeq (mExpr (mApp 8 (mOp1 tupleD (.v 10))))
  RS.nx)))
def q_26_3 : ME := (mFz (mCall c_21 mask_21 [] [.l 0, .t (mV 3)]))
def m_26 : MS := (mSeq (mAsg (.t [(.v 2), (.v 3), (.v 4)]) (mTup [.t (mOp2 addD (.e (mC (.int 1))) (.e (mCall c_21 mask_21 [] [.l 0, .t (mV 1)]))), .t (mOp2 addD (.e (mC (.int 1))) (.e (mCall c_21 mask_21 [] [.l 0, .t (mC (.int 2))]))), .t (mOp2 addD (.e (mC (.int 1))) (.e (mCall c_21 mask_21 [] [.l 0, .t (mC (.int 2))])))]))
  (mSeq (mPar [5, 6] [.t (mCall c_25 mask_25 [] [.l 0, .t (mV 2), .t (mV 3), .t (mC (.int 3))]), .t (mCall c_25 mask_25 [] [.l 0, .t (mOp2 addD (.e (mC (.int 1))) (.e (mCall c_21 mask_21 [] [.l 0, .t (mC (.int 2))]))), .t (mV 3), .t (mC (.int 2))])])
  (mSeq (mAsg (.v 7) (mLc [11] (.v 11) (mRg1 (mOp2 addD (.e (mC (.int 1))) (.e (mCall c_21 mask_21 [] [.l 0, .t (mC (.int 3))])))) mTrue q_26_3))
  (mSeq (mAsg (.v 8) (mLst []))
  (mSeq (mFor [] (.v 9) (mRg1 (mV 4)) s_26_2)
  (mSeq (mRet (mTup [.t (mTup [.t (mV 5), .t (mV 6), .t (mOp1 tupleD (.v 8))]), .t (mV 7)]))
  RS.nx))))))
def c_26 : List D → RC := callF 14 mask_26 m_26
theorem b_26 {X : Cx} {W : WX} {fd : Nat → FuncData} (C : Cf X W N26 (defScope (top 26)) FR) (R : Room 2 X.A) (T : Dn X.prog X.w X.K X.mg fd) : SSs X (g0 X.K) W (lix 0 mask_26) (defBody (top 26)) m_26 := by
  have h0 : varB N26 (defScope (top 26)) 0 "box" = true := by decide +kernel
  have h1 : varB N26 (defScope (top 26)) 1 "standings" = true := by decide +kernel
  have h2 : varB N26 (defScope (top 26)) 2 "many" = true := by decide +kernel
  have h3 : varB N26 (defScope (top 26)) 3 "tasks" = true := by decide +kernel
  have h4 : varB N26 (defScope (top 26)) 4 "rooms" = true := by decide +kernel
  have h5 : varB N26 (defScope (top 26)) 5 "mine" = true := by decide +kernel
  have h6 : varB N26 (defScope (top 26)) 6 "theirs" = true := by decide +kernel
  have h7 : varB N26 (defScope (top 26)) 7 "asks" = true := by decide +kernel
  have h8 : varB N26 (defScope (top 26)) 8 "book" = true := by decide +kernel
  have h9 : varB N26 (defScope (top 26)) 9 "room" = true := by decide +kernel
  have h10 : varB N26 (defScope (top 26)) 10 "row" = true := by decide +kernel
  have h11 : varB N26 (defScope (top 26)) 11 "sign" = true := by decide +kernel
  have h12 : varB N26 (defScope (top 26)) 12 "task" = true := by decide +kernel
  have h13 : varB N26 (defScope (top 26)) 13 "comes" = true := by decide +kernel
  have g__law_pick : glB (defScope (top 26)) "_law_pick" = true := by decide +kernel
  have g__law_service : glB (defScope (top 26)) "_law_service" = true := by decide +kernel
  have g__law_take : glB (defScope (top 26)) "_law_take" = true := by decide +kernel
  have g_enumerate : glB (defScope (top 26)) "enumerate" = true := by decide +kernel
  have g_range : glB (defScope (top 26)) "range" = true := by decide +kernel
  have g_tuple : glB (defScope (top 26)) "tuple" = true := by decide +kernel
  unfold m_26
  exact (sss_cons (ss_asgC C (se_tup (g := g0 X.K) (W := W) (sa_consT (se_add (SOp.e (se_int (g := g0 X.K) (W := W))) (SOp.e (se_call (dvs := []) (ds := []) C.tk (ok_21 T) (R.mono (by decide)) (gl_ok C.toCn g__law_take) T.m21 T.f21.kp (bind_21 T.f21) .nil (fun _ _ => .nil) (sa_consL (pv_ok C.toCn h0) (sa_consT (se_v C.toCn h1) sa_nil rfl) rfl) (by decide) rfl rfl))) (sa_consT (se_add (SOp.e (se_int (g := g0 X.K) (W := W))) (SOp.e (se_call (dvs := []) (ds := []) C.tk (ok_21 T) (R.mono (by decide)) (gl_ok C.toCn g__law_take) T.m21 T.f21.kp (bind_21 T.f21) .nil (fun _ _ => .nil) (sa_consL (pv_ok C.toCn h0) (sa_consT (se_int (g := g0 X.K) (W := W)) sa_nil rfl) rfl) (by decide) rfl rfl))) (sa_consT (se_add (SOp.e (se_int (g := g0 X.K) (W := W))) (SOp.e (se_call (dvs := []) (ds := []) C.tk (ok_21 T) (R.mono (by decide)) (gl_ok C.toCn g__law_take) T.m21 T.f21.kp (bind_21 T.f21) .nil (fun _ _ => .nil) (sa_consL (pv_ok C.toCn h0) (sa_consT (se_int (g := g0 X.K) (W := W)) sa_nil rfl) rfl) (by decide) rfl rfl))) sa_nil rfl) rfl) rfl)) (pg_tup C.toCn.calm (pgs_cons (pg_f C (by decide +kernel)) (pgs_cons (pg_f C (by decide +kernel)) (pgs_cons (pg_f C (by decide +kernel)) pgs_nil)))) (gok_t rfl rfl (gsok_cons (gok_v (by decide)) (gsok_cons (gok_v (by decide)) (gsok_cons (gok_v (by decide)) gsok_nil)))) rfl (by kernel_rfl) rfl)
  (sss_cons (ss_parC C (by decide +kernel) (by decide +kernel) (by decide) (sa_consT (se_call (dvs := []) (ds := []) C.tk (ok_25 T) (R.mono (by decide)) (gl_ok C.toCn g__law_service) T.m25 T.f25.kp (bind_25 T.f25) .nil (fun _ _ => .nil) (sa_consL (pv_ok C.toCn h0) (sa_consT (se_v C.toCn h2) (sa_consT (se_v C.toCn h3) (sa_consT (se_int (g := g0 X.K) (W := W)) sa_nil rfl) rfl) rfl) rfl) (by decide) rfl rfl) (sa_consT (se_call (dvs := []) (ds := []) C.tk (ok_25 T) (R.mono (by decide)) (gl_ok C.toCn g__law_service) T.m25 T.f25.kp (bind_25 T.f25) .nil (fun _ _ => .nil) (sa_consL (pv_ok C.toCn h0) (sa_consT (se_add (SOp.e (se_int (g := g0 X.K) (W := W))) (SOp.e (se_call (dvs := []) (ds := []) C.tk (ok_21 T) (R.mono (by decide)) (gl_ok C.toCn g__law_take) T.m21 T.f21.kp (bind_21 T.f21) .nil (fun _ _ => .nil) (sa_consL (pv_ok C.toCn h0) (sa_consT (se_int (g := g0 X.K) (W := W)) sa_nil rfl) rfl) (by decide) rfl rfl))) (sa_consT (se_v C.toCn h3) (sa_consT (se_int (g := g0 X.K) (W := W)) sa_nil rfl) rfl) rfl) rfl) (by decide) rfl rfl) sa_nil rfl) rfl) (by kernel_rfl) (by decide))
  (sss_cons (ss_setLcC C (by decide +kernel) rfl rfl (by decide +kernel) (by decide) (si_rg1 C.toCn fr_range g_range (se_add (SOp.e (se_int (g := g0 X.K) (W := W))) (SOp.e (se_call (dvs := []) (ds := []) C.tk (ok_21 T) (R.mono (by decide)) (gl_ok C.toCn g__law_take) T.m21 T.f21.kp (bind_21 T.f21) .nil (fun _ _ => .nil) (sa_consL (pv_ok C.toCn h0) (sa_consT (se_int (g := g0 X.K) (W := W)) sa_nil rfl) rfl) (by decide) rfl rfl))) rfl) (own' := [("sign", 11)]) (t := (.v 11)) (by decide +kernel) (fun _ _ _ _ _ C1 => (pg_b C1 (by decide +kernel))) (fun L hL => (gok_vb (by decide) L hL)) (fun _ _ _ _ _ C1 => (pts_true pts_nil)) (fun _ _ _ _ _ C1 => (se_fz (se_call (dvs := []) (ds := []) EV.takes0 (ok_21 T) (R.mono (by decide)) (gl_ok C1 (by decide +kernel)) T.m21 T.f21.kp (bind_21 T.f21) .nil (fun _ _ => .nil) (sa_consL (pv_ok C1 (by decide +kernel)) (sa_consT (se_v C1 (by decide +kernel)) sa_nil rfl) rfl) (by decide) rfl rfl))) (fun _ => rfl))
  (sss_cons (ss_setC C (by decide +kernel) (se_lst (g := g0 X.K) (W := W) sa_nil) (by decide) rfl)
  (sss_cons (ss_for (Ls := []) (t := (.v 9)) C.po C.calm (si_rg1 C.toCn fr_range g_range (se_v C.toCn h4) rfl) (pg_f C (by decide +kernel)) (gok_v (by decide)) (sss_cons (ss_setC C (by decide +kernel) (se_lst (g := g0 X.K) (W := W) sa_nil) (by decide) rfl)
  (sss_cons (ss_for (Ls := []) (t := (.t [(.v 11), (.v 12)])) C.po C.calm (si_enum C.toCn fr_enumerate g_enumerate (se_v C.toCn h7) rfl rfl) (pg_tup C.toCn.calm (pgs_cons (pg_f C (by decide +kernel)) (pgs_cons (pg_f C (by decide +kernel)) pgs_nil))) (gok_t rfl rfl (gsok_cons (gok_v (by decide)) (gsok_cons (gok_v (by decide)) gsok_nil))) (sss_cons (ss_setC C (by decide +kernel) (se_or (SOp.e (se_gt (SOp.e (se_call (dvs := []) (ds := []) C.tk (ok_21 T) (R.mono (by decide)) (gl_ok C.toCn g__law_take) T.m21 T.f21.kp (bind_21 T.f21) .nil (fun _ _ => .nil) (sa_consL (pv_ok C.toCn h0) (sa_consT (se_int (g := g0 X.K) (W := W)) sa_nil rfl) rfl) (by decide) rfl rfl)) (SOp.e (se_int (g := g0 X.K) (W := W))))) (se_and1 (se_eq C.toCn (SOp.e (se_add (SOp.v C.toCn h9) (SOp.v C.toCn h11))) (SOp.e (se_int (g := g0 X.K) (W := W)))))) (by decide) rfl)
  (sss_cons (ss_expr (se_app C.toCn h10 (se_fz (se_if (st_tru (SOp.v C.toCn h13) (fun _ => rfl)) (se_tup (g := g0 X.K) (W := W) (sa_consT (se_v C.toCn h12) (sa_consT (se_call (dvs := []) (ds := []) C.tk (ok_22 T) (R.mono (by decide)) (gl_ok C.toCn g__law_pick) T.m22 T.f22.kp (bind_22 T.f22) .nil (fun _ _ => .nil) (sa_consL (pv_ok C.toCn h0) (sa_consT (se_lst (g := g0 X.K) (W := W) (sa_consT (se_int (g := g0 X.K) (W := W)) (sa_consT (se_int (g := g0 X.K) (W := W)) (sa_consT (se_int (g := g0 X.K) (W := W)) (sa_consT (se_int (g := g0 X.K) (W := W)) sa_nil rfl) rfl) rfl) rfl)) sa_nil rfl) rfl) (by decide) rfl rfl) (sa_consT (se_call (dvs := []) (ds := []) C.tk (ok_21 T) (R.mono (by decide)) (gl_ok C.toCn g__law_take) T.m21 T.f21.kp (bind_21 T.f21) .nil (fun _ _ => .nil) (sa_consL (pv_ok C.toCn h0) (sa_consT (se_v C.toCn h4) sa_nil rfl) rfl) (by decide) rfl rfl) sa_nil rfl) rfl) rfl)) (se_non (g := g0 X.K) (W := W)))) rfl rfl) rfl)
  sss_nil)) (fun _ => rfl))
  (sss_cons (ss_expr (se_app C.toCn h8 (se_tuple C.toCn fr_tuple g_tuple (SOp.v C.toCn h10) rfl) rfl rfl) rfl)
  sss_nil))) (fun _ => rfl))
  (sss_cons (ss_ret (se_tup (g := g0 X.K) (W := W) (sa_consT (se_tup (g := g0 X.K) (W := W) (sa_consT (se_v C.toCn h5) (sa_consT (se_v C.toCn h6) (sa_consT (se_tuple C.toCn fr_tuple g_tuple (SOp.v C.toCn h8) rfl) sa_nil rfl) rfl) rfl)) (sa_consT (se_v C.toCn h7) sa_nil rfl) rfl)))
  sss_nil))))))
theorem ok_26 {P : Program} {w : World} {K : PySem.W.Frag} {mg : Str → Option Value} {base : Heap} {fd : Nat → FuncData} (T : Dn P w K mg fd) : FnOk P w K mg base (L2.CX P w) 3 (He.fAd K d26.at_) (fd 26) ["box", "standings"] (Prom ⟨g0 K, K⟩ mask_26 c_26) :=
  fn_okC T.f26 S26 rfl (by decide) T.fr fun X W e1 e2 e3 e4 e5 R C => by
    subst e1 e2 e3 e4 e5
    exact b_26 C R T
/-! ### _law_player -/
abbrev N27 : List Str := ["box", "whole", "asks", "notes", "found", "note", "row", "task", "some", "standing", "cost"]
abbrev mask_27 : List Bool := [true, false, false, false]
theorem S27 : FnScope N27 ["box", "whole", "asks", "notes"] (defScope (top 27)) := ⟨rfl, rfl, rfl, by decide +kernel, rfl, by decide +kernel, by decide +kernel⟩
theorem bind_27 {K : PySem.W.Frag} {f : Addr} {fd : FuncData} (F : FunD K d27.name d27.qual d27.params d27.body d27.scope (d27.dvs K) (d27.kws K) f fd) : Binds K fd ["box", "whole", "asks", "notes"] [] := FunD.bindsN F fun _ _ _ _ _ _ us hl => match us, hl with | [_, _, _, _], _ => rfl
def q_27_1 : ME := (mV 9)
def t_27_2 : ME := (mOp1 (fun d => some (.bl (!isN d))) (.v 10))
def s_27_3 : MS := (mSeq (mAsg (.v 8) (mLc [9, 10] (.t [(.v 9), (.v 10)]) (mEnum (mOp2 ixD (.e (mOp2 ixD (.e (mOp2 ixD (.v 1) (.e (mC (.int 0))))) (.e (mC (.int 1))))) (.v 7))) t_27_2 q_27_1))
  (mSeq (mExpr (mApp 6 (mFz (mTup [.t (mCall c_22 mask_22 [] [.l 0, .t (mV 8)]), .t (mCall c_21 mask_21 [] [.l 0, .t (mV 3)])]))))
  RS.nx))
def s_27_4 : MS := (mSeq (mAsg (.v 6) (mLst []))
  (mSeq (mFor [] (.v 7) (mIt (mV 2)) s_27_3)
  (mSeq (mExpr (mApp 4 (mOp1 tupleD (.v 6))))
  RS.nx)))
def m_27 : MS := (mSeq (mAsg (.v 4) (mLst []))
  (mSeq (mFor [] (.v 5) (mRg1 (mV 3)) s_27_4)
  (mSeq (mRet (mOp1 tupleD (.v 4)))
  RS.nx)))
def c_27 : List D → RC := callF 11 mask_27 m_27
theorem b_27 {X : Cx} {W : WX} {fd : Nat → FuncData} (C : Cf X W N27 (defScope (top 27)) FR) (R : Room 2 X.A) (T : Dn X.prog X.w X.K X.mg fd) : SSs X (g0 X.K) W (lix 0 mask_27) (defBody (top 27)) m_27 := by
  have h0 : varB N27 (defScope (top 27)) 0 "box" = true := by decide +kernel
  have h1 : varB N27 (defScope (top 27)) 1 "whole" = true := by decide +kernel
  have h2 : varB N27 (defScope (top 27)) 2 "asks" = true := by decide +kernel
  have h3 : varB N27 (defScope (top 27)) 3 "notes" = true := by decide +kernel
  have h4 : varB N27 (defScope (top 27)) 4 "found" = true := by decide +kernel
  have h6 : varB N27 (defScope (top 27)) 6 "row" = true := by decide +kernel
  have h7 : varB N27 (defScope (top 27)) 7 "task" = true := by decide +kernel
  have h8 : varB N27 (defScope (top 27)) 8 "some" = true := by decide +kernel
  have g__law_pick : glB (defScope (top 27)) "_law_pick" = true := by decide +kernel
  have g__law_take : glB (defScope (top 27)) "_law_take" = true := by decide +kernel
  have g_enumerate : glB (defScope (top 27)) "enumerate" = true := by decide +kernel
  have g_range : glB (defScope (top 27)) "range" = true := by decide +kernel
  have g_tuple : glB (defScope (top 27)) "tuple" = true := by decide +kernel
  unfold m_27
  exact (sss_cons (ss_setC C (by decide +kernel) (se_lst (g := g0 X.K) (W := W) sa_nil) (by decide) rfl)
  (sss_cons (ss_for (Ls := []) (t := (.v 5)) C.po C.calm (si_rg1 C.toCn fr_range g_range (se_v C.toCn h3) rfl) (pg_f C (by decide +kernel)) (gok_v (by decide)) (sss_cons (ss_setC C (by decide +kernel) (se_lst (g := g0 X.K) (W := W) sa_nil) (by decide) rfl)
  (sss_cons (ss_for (Ls := []) (t := (.v 7)) C.po C.calm (si_seq (se_v C.toCn h2)) (pg_f C (by decide +kernel)) (gok_v (by decide)) (sss_cons (ss_setLcC C (by decide +kernel) rfl rfl (by decide +kernel) (by decide) (si_enum C.toCn fr_enumerate g_enumerate (se_ix C.toCn (SOp.e (se_ix C.toCn (SOp.e (se_ix C.toCn (SOp.v C.toCn h1) (SOp.e (se_int (g := g0 X.K) (W := W))) (fun _ _ => rfl))) (SOp.e (se_int (g := g0 X.K) (W := W))) (fun _ _ => rfl))) (SOp.v C.toCn h7) (fun _ _ => rfl)) rfl rfl) (own' := [("standing", 9), ("cost", 10)]) (t := (.t [(.v 9), (.v 10)])) (by decide +kernel) (fun _ _ _ _ _ C1 => (pg_tup C1.calm (pgs_cons (pg_b C1 (by decide +kernel)) (pgs_cons (pg_b C1 (by decide +kernel)) pgs_nil)))) (fun L hL => (gok_t rfl rfl (gsok_cons (gok_vb (by decide) L hL) (gsok_cons (gok_vb (by decide) L hL) gsok_nil)))) (fun _ _ _ _ _ C1 => (pts_one (st_notN (SOp.v C1 (by decide +kernel))))) (fun _ _ _ _ _ C1 => (se_v C1 (by decide +kernel))) (fun _ => rfl))
  (sss_cons (ss_expr (se_app C.toCn h6 (se_fz (se_tup (g := g0 X.K) (W := W) (sa_consT (se_call (dvs := []) (ds := []) C.tk (ok_22 T) (R.mono (by decide)) (gl_ok C.toCn g__law_pick) T.m22 T.f22.kp (bind_22 T.f22) .nil (fun _ _ => .nil) (sa_consL (pv_ok C.toCn h0) (sa_consT (se_v C.toCn h8) sa_nil rfl) rfl) (by decide) rfl rfl) (sa_consT (se_call (dvs := []) (ds := []) C.tk (ok_21 T) (R.mono (by decide)) (gl_ok C.toCn g__law_take) T.m21 T.f21.kp (bind_21 T.f21) .nil (fun _ _ => .nil) (sa_consL (pv_ok C.toCn h0) (sa_consT (se_v C.toCn h3) sa_nil rfl) rfl) (by decide) rfl rfl) sa_nil rfl) rfl))) rfl rfl) rfl)
  sss_nil)) (fun _ => rfl))
  (sss_cons (ss_expr (se_app C.toCn h4 (se_tuple C.toCn fr_tuple g_tuple (SOp.v C.toCn h6) rfl) rfl rfl) rfl)
  sss_nil))) (fun _ => rfl))
  (sss_cons (ss_ret (se_tuple C.toCn fr_tuple g_tuple (SOp.v C.toCn h4) rfl))
  sss_nil)))
theorem ok_27 {P : Program} {w : World} {K : PySem.W.Frag} {mg : Str → Option Value} {base : Heap} {fd : Nat → FuncData} (T : Dn P w K mg fd) : FnOk P w K mg base (L2.CX P w) 3 (He.fAd K d27.at_) (fd 27) ["box", "whole", "asks", "notes"] (Prom ⟨g0 K, K⟩ mask_27 c_27) :=
  fn_okC T.f27 S27 rfl (by decide) T.fr fun X W e1 e2 e3 e4 e5 R C => by
    subst e1 e2 e3 e4 e5
    exact b_27 C R T
/-! ### _law_counsel -/
abbrev N28 : List Str := ["whole", "players", "prices", "costs", "theirs", "book", "states", "pairs", "rooms", "turn", "room", "notes", "row", "sign", "step", "told", "pair", "state", "mine", "other", "task", "lot", "player", "note", "standing", "one", "cost"]
abbrev mask_28 : List Bool := [false, false]
theorem S28 : FnScope N28 ["whole", "players"] (defScope (top 28)) := ⟨rfl, rfl, rfl, by decide +kernel, rfl, by decide +kernel, by decide +kernel⟩
theorem bind_28 {K : PySem.W.Frag} {f : Addr} {fd : FuncData} (F : FunD K d28.name d28.qual d28.params d28.body d28.scope (d28.dvs K) (d28.kws K) f fd) : Binds K fd ["whole", "players"] [] := FunD.bindsN F fun _ _ _ _ _ _ us hl => match us, hl with | [_, _], _ => rfl
def q_28_1 : ME := (mIf (mOp2 inB (.v 24) (.v 21)) (mV 26) (mC .non))
def q_28_2 : ME := (mOp1 tupleD (.e (mLc [24, 26] (.t [(.v 24), (.v 26)]) (mEnum (mOp2 ixD (.v 3) (.v 20))) mTrue q_28_1)))
def q_28_3 : ME := (mOp2 ixD (.v 3) (.v 20))
def q_28_4 : ME := (mOp2 ixD (.v 25) (.e (mC (.int 1))))
def q_28_5 : ME := (mOp2 ixD (.v 25) (.e (mC (.int 0))))
def q_28_6 : ME := (mV 24)
def t_28_7 : ME := (mOp2 inB (.v 24) (.e (mLc [25] (.v 25) (mIt (mV 15)) mTrue q_28_5)))
def q_28_8 : ME := (mOp2 ixD (.e (mOp2 ixD (.v 22) (.v 23))) (.v 13))
def s_28_9 : MS := (mSeq (mIfS (mOp1 (fun d => some (.bl (isN d))) (.v 14)) (mSeq (mExpr (mApp 12 (mC .non)))
  (mSeq RS.ct
  RS.nx)) RS.nx)
  (mSeq (mAsg (.v 15) (mLc [22, 23] (.t [(.v 22), (.v 23)]) (mZipM (mV 1) (mV 11)) mTrue q_28_8))
  (mSeq (mAsg (.v 16) (mTup [.t (mOp2 ixD (.v 14) (.e (mC (.int 0)))), .t (mLc [24] (.v 24) (mRg1 (mOp1 lenD (.v 2))) t_28_7 q_28_6)]))
  (mSeq (mAsg (.v 17) (mTup [.t (mOp2 ixD (.v 14) (.e (mC (.int 2)))), .t (mLc [25] (.v 25) (mIt (mV 15)) mTrue q_28_4)]))
  (mSeq (mIfS (mOp2 notinB (.v 16) (.v 7)) (mSeq (mExpr (mApp 7 (mV 16)))
  RS.nx) RS.nx)
  (mSeq (mIfS (mOp2 notinB (.v 17) (.v 6)) (mSeq (mExpr (mApp 6 (mV 17)))
  RS.nx) RS.nx)
  (mSeq (mExpr (mApp 12 (mTup [.t (mIdx 7 (.v 16)), .t (mOp2 ixD (.v 14) (.e (mC (.int 1)))), .t (mIdx 6 (.v 17))])))
  RS.nx)))))))
def s_28_10 : MS := (mSeq (mIfS (mOp2 (cmpD fun i j => decide (j ≤ i)) (.v 9) (.e (mOp1 lenD (.v 6)))) (mSeq RS.bk
  RS.nx) RS.nx)
  (mSeq (mAsg (.t [(.v 10), (.v 11)]) (mOp2 ixD (.v 6) (.v 9)))
  (mSeq (mAsg (.v 12) (mLst []))
  (mSeq (mFor [] (.t [(.v 13), (.v 14)]) (mEnum (mOp2 ixD (.v 5) (.v 10))) s_28_9)
  (mSeq (mExpr (mApp 8 (mOp1 tupleD (.v 12))))
  RS.nx)))))
def m_28 : MS := (mSeq (mAsg (.t [(.t [(.v 2), (.v 3)]), (.v 4), (.v 5)]) (mV 0))
  (mSeq (mPar [6, 7, 8] [.t (mLst [.t (mFz (mTup [.t (mC (.int 0)), .t (mOp2 mulD (.e (mLst [.t (mC (.int 0))])) (.e (mOp1 lenD (.v 1))))]))]), .t (mLst []), .t (mLst [])])
  (mSeq (mFor [] (.v 9) (mRg1 (mC (.int 400))) s_28_10)
  (mSeq (mAsg (.v 18) (mOp1 tupleD (.e (mLc [20, 21] (.t [(.v 20), (.v 21)]) (mItV 7) mTrue q_28_3))))
  (mSeq (mAsg (.v 19) (mOp1 tupleD (.e (mLc [20, 21] (.t [(.v 20), (.v 21)]) (mItV 7) mTrue q_28_2))))
  (mSeq (mRet (mTup [.t (mTup [.t (mV 2), .t (mV 18)]), .t (mTup [.t (mV 2), .t (mV 19)]), .t (mOp1 tupleD (.v 8))]))
  RS.nx))))))
def c_28 : List D → RC := callF 27 mask_28 m_28
theorem b_28 {X : Cx} {W : WX} {fd : Nat → FuncData} (C : Cf X W N28 (defScope (top 28)) FR) (R : Room 0 X.A) (T : Dn X.prog X.w X.K X.mg fd) : SSs X (g0 X.K) W (lix 0 mask_28) (defBody (top 28)) m_28 := by
  have h0 : varB N28 (defScope (top 28)) 0 "whole" = true := by decide +kernel
  have h1 : varB N28 (defScope (top 28)) 1 "players" = true := by decide +kernel
  have h2 : varB N28 (defScope (top 28)) 2 "prices" = true := by decide +kernel
  have h5 : varB N28 (defScope (top 28)) 5 "book" = true := by decide +kernel
  have h6 : varB N28 (defScope (top 28)) 6 "states" = true := by decide +kernel
  have h7 : varB N28 (defScope (top 28)) 7 "pairs" = true := by decide +kernel
  have h8 : varB N28 (defScope (top 28)) 8 "rooms" = true := by decide +kernel
  have h9 : varB N28 (defScope (top 28)) 9 "turn" = true := by decide +kernel
  have h10 : varB N28 (defScope (top 28)) 10 "room" = true := by decide +kernel
  have h11 : varB N28 (defScope (top 28)) 11 "notes" = true := by decide +kernel
  have h12 : varB N28 (defScope (top 28)) 12 "row" = true := by decide +kernel
  have h14 : varB N28 (defScope (top 28)) 14 "step" = true := by decide +kernel
  have h15 : varB N28 (defScope (top 28)) 15 "told" = true := by decide +kernel
  have h16 : varB N28 (defScope (top 28)) 16 "pair" = true := by decide +kernel
  have h17 : varB N28 (defScope (top 28)) 17 "state" = true := by decide +kernel
  have h18 : varB N28 (defScope (top 28)) 18 "mine" = true := by decide +kernel
  have h19 : varB N28 (defScope (top 28)) 19 "other" = true := by decide +kernel
  have g_enumerate : glB (defScope (top 28)) "enumerate" = true := by decide +kernel
  have g_len : glB (defScope (top 28)) "len" = true := by decide +kernel
  have g_range : glB (defScope (top 28)) "range" = true := by decide +kernel
  have g_tuple : glB (defScope (top 28)) "tuple" = true := by decide +kernel
  have g_zip : glB (defScope (top 28)) "zip" = true := by decide +kernel
  unfold m_28
  exact (sss_cons (ss_asgC C (se_v C.toCn h0) (pg_tup C.toCn.calm (pgs_cons (pg_tup C.toCn.calm (pgs_cons (pg_f C (by decide +kernel)) (pgs_cons (pg_f C (by decide +kernel)) pgs_nil))) (pgs_cons (pg_f C (by decide +kernel)) (pgs_cons (pg_f C (by decide +kernel)) pgs_nil)))) (gok_t rfl rfl (gsok_cons (gok_t rfl rfl (gsok_cons (gok_v (by decide)) (gsok_cons (gok_v (by decide)) gsok_nil))) (gsok_cons (gok_v (by decide)) (gsok_cons (gok_v (by decide)) gsok_nil)))) rfl (by kernel_rfl) rfl)
  (sss_cons (ss_par3C C (by decide +kernel) (by decide +kernel) (by decide +kernel) (by decide) (by decide) (by decide) (sa_consT (se_lst (g := g0 X.K) (W := W) (sa_consT (se_fz (se_tup (g := g0 X.K) (W := W) (sa_consT (se_int (g := g0 X.K) (W := W)) (sa_consT (se_mul (SOp.e (se_lst (g := g0 X.K) (W := W) (sa_consT (se_int (g := g0 X.K) (W := W)) sa_nil rfl))) (SOp.e (se_len C.toCn fr_len g_len (SOp.v C.toCn h1) rfl))) sa_nil rfl) rfl))) sa_nil rfl)) (sa_consT (se_lst (g := g0 X.K) (W := W) sa_nil) (sa_consT (se_lst (g := g0 X.K) (W := W) sa_nil) sa_nil rfl) rfl) rfl) (by kernel_rfl) (by decide))
  (sss_cons (ss_for (Ls := []) (t := (.v 9)) C.po C.calm (si_rg1 C.toCn fr_range g_range (se_int (g := g0 X.K) (W := W)) rfl) (pg_f C (by decide +kernel)) (gok_v (by decide)) (sss_cons (ss_if (st_ge (SOp.v C.toCn h9) (SOp.e (se_len C.toCn fr_len g_len (SOp.v C.toCn h6) rfl))) (sss_cons ss_break
  sss_nil) sss_nil)
  (sss_cons (ss_asgC C (se_ix C.toCn (SOp.v C.toCn h6) (SOp.v C.toCn h9) (fun _ _ => rfl)) (pg_tup C.toCn.calm (pgs_cons (pg_f C (by decide +kernel)) (pgs_cons (pg_f C (by decide +kernel)) pgs_nil))) (gok_t rfl rfl (gsok_cons (gok_v (by decide)) (gsok_cons (gok_v (by decide)) gsok_nil))) rfl (by kernel_rfl) rfl)
  (sss_cons (ss_setC C (by decide +kernel) (se_lst (g := g0 X.K) (W := W) sa_nil) (by decide) rfl)
  (sss_cons (ss_for (Ls := []) (t := (.t [(.v 13), (.v 14)])) C.po C.calm (si_enum C.toCn fr_enumerate g_enumerate (se_ix C.toCn (SOp.v C.toCn h5) (SOp.v C.toCn h10) (fun _ _ => rfl)) rfl rfl) (pg_tup C.toCn.calm (pgs_cons (pg_f C (by decide +kernel)) (pgs_cons (pg_f C (by decide +kernel)) pgs_nil))) (gok_t rfl rfl (gsok_cons (gok_v (by decide)) (gsok_cons (gok_v (by decide)) gsok_nil))) (sss_cons (ss_if (st_isN (SOp.v C.toCn h14)) (sss_cons (ss_expr (se_app C.toCn h12 (se_non (g := g0 X.K) (W := W)) rfl rfl) rfl)
  (sss_cons ss_continue
  sss_nil)) sss_nil)
  (sss_cons (ss_setC C (by decide +kernel) (se_lcC (own' := [("player", 22), ("note", 23)]) (t := (.t [(.v 22), (.v 23)])) C.toCn (si_zipM C.toCn fr_zip g_zip (se_v C.toCn h1) (se_v C.toCn h11) rfl rfl rfl) (by decide +kernel) (fun _ _ _ _ _ C1 => (pg_tup C1.calm (pgs_cons (pg_b C1 (by decide +kernel)) (pgs_cons (pg_b C1 (by decide +kernel)) pgs_nil)))) (fun L hL => (gok_t rfl rfl (gsok_cons (gok_vb (by decide) L hL) (gsok_cons (gok_vb (by decide) L hL) gsok_nil)))) (fun _ _ _ _ _ C1 => (pts_true pts_nil)) (fun _ _ _ _ _ C1 => (se_ix C1 (SOp.e (se_ix C1 (SOp.v C1 (by decide +kernel)) (SOp.v C1 (by decide +kernel)) (fun _ _ => rfl))) (SOp.v C1 (by decide +kernel)) (fun _ _ => rfl))) (fun _ => rfl)) (by decide) (sw_cell C (by decide +kernel)))
  (sss_cons (ss_setC C (by decide +kernel) (se_tup (g := g0 X.K) (W := W) (sa_consT (se_ix C.toCn (SOp.v C.toCn h14) (SOp.e (se_int (g := g0 X.K) (W := W))) (fun _ _ => rfl)) (sa_consT (se_lcC (own' := [("standing", 24)]) (t := (.v 24)) C.toCn (si_rg1 C.toCn fr_range g_range (se_len C.toCn fr_len g_len (SOp.v C.toCn h2) rfl) rfl) (by decide +kernel) (fun _ _ _ _ _ C1 => (pg_b C1 (by decide +kernel))) (fun L hL => (gok_vb (by decide) L hL)) (fun _ _ _ _ _ C1 => (pts_one (st_in C1 (SOp.v C1 (by decide +kernel)) (SOp.e (se_lcC (own' := [("one", 25)]) (t := (.v 25)) C1 (si_seq (se_v C1 (by decide +kernel))) (by decide +kernel) (fun _ _ _ _ _ C2 => (pg_b C2 (by decide +kernel))) (fun L hL => (gok_vb (by decide) L hL)) (fun _ _ _ _ _ C2 => (pts_true pts_nil)) (fun _ _ _ _ _ C2 => (se_ix C2 (SOp.v C2 (by decide +kernel)) (SOp.e (se_int (g := g0 X.K) (W := W0))) (fun _ _ => rfl))) (fun _ => rfl))) rfl))) (fun _ _ _ _ _ C1 => (se_v C1 (by decide +kernel))) (fun _ => rfl)) sa_nil rfl) rfl)) (by decide) rfl)
  (sss_cons (ss_setC C (by decide +kernel) (se_tup (g := g0 X.K) (W := W) (sa_consT (se_ix C.toCn (SOp.v C.toCn h14) (SOp.e (se_int (g := g0 X.K) (W := W))) (fun _ _ => rfl)) (sa_consT (se_lcC (own' := [("one", 25)]) (t := (.v 25)) C.toCn (si_seq (se_v C.toCn h15)) (by decide +kernel) (fun _ _ _ _ _ C1 => (pg_b C1 (by decide +kernel))) (fun L hL => (gok_vb (by decide) L hL)) (fun _ _ _ _ _ C1 => (pts_true pts_nil)) (fun _ _ _ _ _ C1 => (se_ix C1 (SOp.v C1 (by decide +kernel)) (SOp.e (se_int (g := g0 X.K) (W := W0))) (fun _ _ => rfl))) (fun _ => rfl)) sa_nil rfl) rfl)) (by decide) rfl)
  (sss_cons (ss_if (st_notin C.toCn (SOp.v C.toCn h16) (SOp.v C.toCn h7) rfl) (sss_cons (ss_expr (se_app C.toCn h7 (se_v C.toCn h16) rfl rfl) rfl)
  sss_nil) sss_nil)
  (sss_cons (ss_if (st_notin C.toCn (SOp.v C.toCn h17) (SOp.v C.toCn h6) rfl) (sss_cons (ss_expr (se_app C.toCn h6 (se_v C.toCn h17) rfl rfl) rfl)
  sss_nil) sss_nil)
  (sss_cons (ss_expr (se_app C.toCn h12 (se_tup (g := g0 X.K) (W := W) (sa_consT (se_index C.toCn h7 (SOp.v C.toCn h16) rfl rfl) (sa_consT (se_ix C.toCn (SOp.v C.toCn h14) (SOp.e (se_int (g := g0 X.K) (W := W))) (fun _ _ => rfl)) (sa_consT (se_index C.toCn h6 (SOp.v C.toCn h17) rfl rfl) sa_nil rfl) rfl) rfl)) rfl rfl) rfl)
  sss_nil))))))) (fun _ => rfl))
  (sss_cons (ss_expr (se_app C.toCn h8 (se_tuple C.toCn fr_tuple g_tuple (SOp.v C.toCn h12) rfl) rfl rfl) rfl)
  sss_nil))))) (fun _ => rfl))
  (sss_cons (ss_setC C (by decide +kernel) (se_tuple C.toCn fr_tuple g_tuple (SOp.e (se_lcC (own' := [("task", 20), ("lot", 21)]) (t := (.t [(.v 20), (.v 21)])) C.toCn (si_v C.toCn h7) (by decide +kernel) (fun _ _ _ _ _ C1 => (pg_tup C1.calm (pgs_cons (pg_b C1 (by decide +kernel)) (pgs_cons (pg_b C1 (by decide +kernel)) pgs_nil)))) (fun L hL => (gok_t rfl rfl (gsok_cons (gok_vb (by decide) L hL) (gsok_cons (gok_vb (by decide) L hL) gsok_nil)))) (fun _ _ _ _ _ C1 => (pts_true pts_nil)) (fun _ _ _ _ _ C1 => (se_ix C1 (SOp.v C1 (by decide +kernel)) (SOp.v C1 (by decide +kernel)) (fun _ _ => rfl))) (fun _ => rfl))) rfl) (by decide) rfl)
  (sss_cons (ss_setC C (by decide +kernel) (se_tuple C.toCn fr_tuple g_tuple (SOp.e (se_lcC (own' := [("task", 20), ("lot", 21)]) (t := (.t [(.v 20), (.v 21)])) C.toCn (si_v C.toCn h7) (by decide +kernel) (fun _ _ _ _ _ C1 => (pg_tup C1.calm (pgs_cons (pg_b C1 (by decide +kernel)) (pgs_cons (pg_bc C1 (by decide +kernel) rfl) pgs_nil)))) (fun L hL => (gok_t rfl rfl (gsok_cons (gok_vb (by decide) L hL) (gsok_cons (gok_vb (by decide) L hL) gsok_nil)))) (fun _ _ _ _ _ C1 => (pts_true pts_nil)) (fun _ _ _ _ _ C1 => (se_tuple C1 fr_tuple (by decide +kernel) (SOp.e (se_lcC (own' := [("standing", 24), ("cost", 26)]) (t := (.t [(.v 24), (.v 26)])) C1 (si_enum C1 fr_enumerate (by decide +kernel) (se_ix C1 (SOp.v C1 (by decide +kernel)) (SOp.v C1 (by decide +kernel)) (fun _ _ => rfl)) rfl rfl) (by decide +kernel) (fun _ _ _ _ _ C2 => (pg_tup C2.calm (pgs_cons (pg_b C2 (by decide +kernel)) (pgs_cons (pg_b C2 (by decide +kernel)) pgs_nil)))) (fun L hL => (gok_t rfl rfl (gsok_cons (gok_vb (by decide) L hL) (gsok_cons (gok_vb (by decide) L hL) gsok_nil)))) (fun _ _ _ _ _ C2 => (pts_true pts_nil)) (fun _ _ _ _ _ C2 => (se_if (st_in C2 (SOp.v C2 (by decide +kernel)) (SOp.v C2 (by decide +kernel)) rfl) (se_v C2 (by decide +kernel)) (se_non (g := g0 X.K) (W := W0)))) (fun _ => rfl))) rfl)) (fun _ => rfl))) rfl) (by decide) rfl)
  (sss_cons (ss_ret (se_tup (g := g0 X.K) (W := W) (sa_consT (se_tup (g := g0 X.K) (W := W) (sa_consT (se_v C.toCn h2) (sa_consT (se_v C.toCn h18) sa_nil rfl) rfl)) (sa_consT (se_tup (g := g0 X.K) (W := W) (sa_consT (se_v C.toCn h2) (sa_consT (se_v C.toCn h19) sa_nil rfl) rfl)) (sa_consT (se_tuple C.toCn fr_tuple g_tuple (SOp.v C.toCn h8) rfl) sa_nil rfl) rfl) rfl)))
  sss_nil))))))
theorem ok_28 {P : Program} {w : World} {K : PySem.W.Frag} {mg : Str → Option Value} {base : Heap} {fd : Nat → FuncData} (T : Dn P w K mg fd) : FnOk P w K mg base (L2.CX P w) 1 (He.fAd K d28.at_) (fd 28) ["whole", "players"] (Prom ⟨g0 K, K⟩ mask_28 c_28) :=
  fn_okC T.f28 S28 rfl (by decide) T.fr fun X W e1 e2 e3 e4 e5 R C => by
    subst e1 e2 e3 e4 e5
    exact b_28 C R T
/-! ### _law_drawn_row -/
abbrev N29 : List Str := ["box", "book", "most", "room", "row", "turn", "some", "sign", "step"]
abbrev mask_29 : List Bool := [true, false, false]
theorem S29 : FnScope N29 ["box", "book", "most"] (defScope (top 29)) := ⟨rfl, rfl, rfl, by decide +kernel, rfl, by decide +kernel, by decide +kernel⟩
theorem bind_29 {K : PySem.W.Frag} {f : Addr} {fd : FuncData} (F : FunD K d29.name d29.qual d29.params d29.body d29.scope (d29.dvs K) (d29.kws K) f fd) : Binds K fd ["box", "book", "most"] [] := FunD.bindsN F fun _ _ _ _ _ _ us hl => match us, hl with | [_, _, _], _ => rfl
def q_29_1 : ME := (mV 7)
def t_29_2 : ME := (mOp1 (fun d => some (.bl (!isN d))) (.v 8))
def s_29_3 : MS := (mSeq (mAsg (.v 6) (mLc [7, 8] (.t [(.v 7), (.v 8)]) (mEnum (mOp2 ixD (.v 1) (.v 3))) t_29_2 q_29_1))
  (mSeq (mIfS (mOp2 eqD (.v 6) (.e (mLst []))) (mSeq RS.bk
  RS.nx) RS.nx)
  (mSeq (mAsg (.v 4) (mOp2 addD (.v 4) (.e (mTup [.t (mCall c_22 mask_22 [] [.l 0, .t (mV 6)])]))))
  (mSeq (mAsg (.v 3) (mOp2 ixD (.e (mOp2 ixD (.e (mOp2 ixD (.v 1) (.v 3))) (.e (mOp2 ixD (.v 4) (.e (mOp1 negD (.e (mC (.int 1))))))))) (.e (mC (.int 2)))))
  RS.nx))))
def m_29 : MS := (mSeq (mAsg (.t [(.v 3), (.v 4)]) (mTup [.t (mC (.int 0)), .t (mTup [])]))
  (mSeq (mFor [] (.v 5) (mRg1 (mV 2)) s_29_3)
  (mSeq (mRet (mMv 4))
  RS.nx)))
def c_29 : List D → RC := callF 9 mask_29 m_29
theorem b_29 {X : Cx} {W : WX} {fd : Nat → FuncData} (C : Cf X W N29 (defScope (top 29)) FR) (R : Room 2 X.A) (T : Dn X.prog X.w X.K X.mg fd) : SSs X (g0 X.K) W (lix 0 mask_29) (defBody (top 29)) m_29 := by
  have h0 : varB N29 (defScope (top 29)) 0 "box" = true := by decide +kernel
  have h1 : varB N29 (defScope (top 29)) 1 "book" = true := by decide +kernel
  have h2 : varB N29 (defScope (top 29)) 2 "most" = true := by decide +kernel
  have h3 : varB N29 (defScope (top 29)) 3 "room" = true := by decide +kernel
  have h4 : varB N29 (defScope (top 29)) 4 "row" = true := by decide +kernel
  have h6 : varB N29 (defScope (top 29)) 6 "some" = true := by decide +kernel
  have g__law_pick : glB (defScope (top 29)) "_law_pick" = true := by decide +kernel
  have g_enumerate : glB (defScope (top 29)) "enumerate" = true := by decide +kernel
  have g_range : glB (defScope (top 29)) "range" = true := by decide +kernel
  unfold m_29
  exact (sss_cons (ss_asgC C (se_tup (g := g0 X.K) (W := W) (sa_consT (se_int (g := g0 X.K) (W := W)) (sa_consT (se_tup (g := g0 X.K) (W := W) sa_nil) sa_nil rfl) rfl)) (pg_tup C.toCn.calm (pgs_cons (pg_f C (by decide +kernel)) (pgs_cons (pg_f C (by decide +kernel)) pgs_nil))) (gok_t rfl rfl (gsok_cons (gok_v (by decide)) (gsok_cons (gok_v (by decide)) gsok_nil))) rfl (by kernel_rfl) rfl)
  (sss_cons (ss_for (Ls := []) (t := (.v 5)) C.po C.calm (si_rg1 C.toCn fr_range g_range (se_v C.toCn h2) rfl) (pg_f C (by decide +kernel)) (gok_v (by decide)) (sss_cons (ss_setLcC C (by decide +kernel) rfl rfl (by decide +kernel) (by decide) (si_enum C.toCn fr_enumerate g_enumerate (se_ix C.toCn (SOp.v C.toCn h1) (SOp.v C.toCn h3) (fun _ _ => rfl)) rfl rfl) (own' := [("sign", 7), ("step", 8)]) (t := (.t [(.v 7), (.v 8)])) (by decide +kernel) (fun _ _ _ _ _ C1 => (pg_tup C1.calm (pgs_cons (pg_b C1 (by decide +kernel)) (pgs_cons (pg_b C1 (by decide +kernel)) pgs_nil)))) (fun L hL => (gok_t rfl rfl (gsok_cons (gok_vb (by decide) L hL) (gsok_cons (gok_vb (by decide) L hL) gsok_nil)))) (fun _ _ _ _ _ C1 => (pts_one (st_notN (SOp.v C1 (by decide +kernel))))) (fun _ _ _ _ _ C1 => (se_v C1 (by decide +kernel))) (fun _ => rfl))
  (sss_cons (ss_if (st_eq C.toCn (SOp.v C.toCn h6) (SOp.e (se_lst (g := g0 X.K) (W := W) sa_nil))) (sss_cons ss_break
  sss_nil) sss_nil)
  (sss_cons (ss_setC C (by decide +kernel) (se_add (SOp.v C.toCn h4) (SOp.e (se_tup (g := g0 X.K) (W := W) (sa_consT (se_call (dvs := []) (ds := []) C.tk (ok_22 T) (R.mono (by decide)) (gl_ok C.toCn g__law_pick) T.m22 T.f22.kp (bind_22 T.f22) .nil (fun _ _ => .nil) (sa_consL (pv_ok C.toCn h0) (sa_consT (se_v C.toCn h6) sa_nil rfl) rfl) (by decide) rfl rfl) sa_nil rfl)))) (by decide) rfl)
  (sss_cons (ss_setC C (by decide +kernel) (se_ix C.toCn (SOp.e (se_ix C.toCn (SOp.e (se_ix C.toCn (SOp.v C.toCn h1) (SOp.v C.toCn h3) (fun _ _ => rfl))) (SOp.e (se_ix C.toCn (SOp.v C.toCn h4) (SOp.e (se_neg (SOp.e (se_int (g := g0 X.K) (W := W))))) (fun _ _ => rfl))) (fun _ _ => rfl))) (SOp.e (se_int (g := g0 X.K) (W := W))) (fun _ _ => rfl)) (by decide) rfl)
  sss_nil)))) (fun _ => rfl))
  (sss_cons (ss_ret (se_mv C.toCn h4))
  sss_nil)))
theorem ok_29 {P : Program} {w : World} {K : PySem.W.Frag} {mg : Str → Option Value} {base : Heap} {fd : Nat → FuncData} (T : Dn P w K mg fd) : FnOk P w K mg base (L2.CX P w) 3 (He.fAd K d29.at_) (fd 29) ["box", "book", "most"] (Prom ⟨g0 K, K⟩ mask_29 c_29) :=
  fn_okC T.f29 S29 rfl (by decide) T.fr fun X W e1 e2 e3 e4 e5 R C => by
    subst e1 e2 e3 e4 e5
    exact b_29 C R T
/-! ### _law_lots_paid -/
abbrev N30 : List Str := ["whole", "players", "row", "prices", "costs", "room", "notes", "at", "paid", "ends", "free", "sign", "task", "wrong", "after", "told", "lot", "later", "all_later", "there", "cost", "player", "note", "one", "more", "here"]
abbrev mask_30 : List Bool := [false, false, false]
theorem S30 : FnScope N30 ["whole", "players", "row"] (defScope (top 30)) := ⟨rfl, rfl, rfl, by decide +kernel, rfl, by decide +kernel, by decide +kernel⟩
theorem bind_30 {K : PySem.W.Frag} {f : Addr} {fd : FuncData} (F : FunD K d30.name d30.qual d30.params d30.body d30.scope (d30.dvs K) (d30.kws K) f fd) : Binds K fd ["whole", "players", "row"] [] := FunD.bindsN F fun _ _ _ _ _ _ us hl => match us, hl with | [_, _, _], _ => rfl
def q_30_1 : ME := (mOp2 ixD (.v 9) (.v 25))
def q_30_2 : ME := (mOp2 ixD (.v 10) (.v 25))
def q_30_3 : ME := (mOp2 addD (.e (mOp2 ixD (.v 9) (.v 25))) (.e (mOp2 ixD (.e (mOp2 ixD (.v 3) (.v 25))) (.v 19))))
def q_30_4 : ME := (mOp2 addD (.e (mOp2 ixD (.v 10) (.v 25))) (.e (mOp2 ixD (.e (mOp2 ixD (.v 3) (.v 25))) (.v 19))))
def s_30_5 : MS := (mSeq (mIfS (mOp1 (fun d => some (.bl (!isN d))) (.v 20)) (mSeq (mSet 18 (.v 19) (mOp2 addD (.e (mOp1 min1A (.e (mLc [25] (.v 25) (mIt (mOp1 listA (.v 10))) mTrue q_30_4)))) (.v 20)))
  RS.nx) RS.nx)
  (mSeq (mIfS (mOp2 inB (.v 19) (.v 16)) (mSeq (mSet 17 (.v 19) (mOp2 addD (.e (mOp1 min1A (.e (mLc [25] (.v 25) (mIt (mOp1 listA (.v 9))) mTrue q_30_3)))) (.v 20)))
  RS.nx) RS.nx)
  RS.nx))
def q_30_6 : ME := (mOp2 ixD (.v 23) (.e (mC (.int 1))))
def q_30_7 : ME := (mOp2 addD (.e (mOp2 addD (.v 24) (.e (mOp2 ixD (.e (mOp2 ixD (.v 3) (.v 25))) (.e (mOp2 ixD (.v 23) (.e (mC (.int 0))))))))) (.e (mOp2 ixD (.e (mOp2 ixD (.v 4) (.v 12))) (.e (mOp2 ixD (.v 23) (.e (mC (.int 0))))))))
def q_30_8 : ME := (mOp2 ixD (.v 23) (.e (mC (.int 0))))
def q_30_9 : ME := (mOp2 ixD (.e (mOp2 ixD (.v 21) (.v 22))) (.v 11))
def s_30_10 : MS := (mSeq (mAsg (.t [(.v 12), (.v 13), (.v 14)]) (mOp2 ixD (.e (mOp2 ixD (.e (mOp2 ixD (.v 0) (.e (mC (.int 2))))) (.v 5))) (.v 11)))
  (mSeq (mAsg (.v 15) (mLc [21, 22] (.t [(.v 21), (.v 22)]) (mZipM (mV 1) (mV 6)) mTrue q_30_9))
  (mSeq (mAsg (.v 16) (mLc [23] (.v 23) (mIt (mV 15)) mTrue q_30_8))
  (mSeq (mAsg (.v 8) (mLc [24, 25, 23] (.t [(.v 24), (.v 25), (.v 23)]) (mZip3 (mV 8) (mV 7) (mV 15)) mTrue q_30_7))
  (mSeq (mPar [7, 6, 5] [.t (mV 16), .t (mLc [23] (.v 23) (mIt (mV 15)) mTrue q_30_6), .t (mV 14)])
  (mSeq (mPar [17, 18] [.t (mDnew (.dk true [])), .t (mDnew (.dk true []))])
  (mSeq (mFor [] (.t [(.v 19), (.v 20)]) (mEnum (mOp2 ixD (.v 4) (.v 12))) s_30_5)
  (mSeq (mAsg (.t [(.v 9), (.v 10)]) (mTup [.t (mV 17), .t (mV 18)]))
  RS.nx))))))))
def m_30 : MS := (mSeq (mAsg (.t [(.v 3), (.v 4)]) (mOp2 ixD (.v 0) (.e (mC (.int 0)))))
  (mSeq (mAsg (.t [(.v 5), (.v 6), (.v 7), (.v 8)]) (mTup [.t (mC (.int 0)), .t (mOp2 mulD (.e (mLst [.t (mC (.int 0))])) (.e (mOp1 lenD (.v 1)))), .t (mOp2 mulD (.e (mLst [.t (mC (.int 0))])) (.e (mOp1 lenD (.v 1)))), .t (mOp2 mulD (.e (mLst [.t (mC (.int 0))])) (.e (mOp1 lenD (.v 1))))]))
  (mSeq (mAsg (.t [(.v 9), (.v 10)]) (mTup [.t (mDisp1K (mC (.int 0)) (mC (.int 0))), .t (mDisp1K (mC (.int 0)) (mC (.int 0)))]))
  (mSeq (mFor [] (.v 11) (mIt (mV 2)) s_30_10)
  (mSeq (mRet (mTup [.t (mOp1 min1A (.e (mLc [25] (.v 25) (mIt (mOp1 listA (.v 9))) mTrue q_30_1))), .t (mV 8), .t (mOp1 min1A (.e (mLc [25] (.v 25) (mIt (mOp1 listA (.v 10))) mTrue q_30_2)))]))
  RS.nx)))))
def c_30 : List D → RC := callF 26 mask_30 m_30
theorem b_30 {X : Cx} {W : WX} {fd : Nat → FuncData} (C : Cf X W N30 (defScope (top 30)) FR) (R : Room 0 X.A) (T : Dn X.prog X.w X.K X.mg fd) : SSs X (g0 X.K) W (lix 0 mask_30) (defBody (top 30)) m_30 := by
  have h0 : varB N30 (defScope (top 30)) 0 "whole" = true := by decide +kernel
  have h1 : varB N30 (defScope (top 30)) 1 "players" = true := by decide +kernel
  have h2 : varB N30 (defScope (top 30)) 2 "row" = true := by decide +kernel
  have h4 : varB N30 (defScope (top 30)) 4 "costs" = true := by decide +kernel
  have h5 : varB N30 (defScope (top 30)) 5 "room" = true := by decide +kernel
  have h6 : varB N30 (defScope (top 30)) 6 "notes" = true := by decide +kernel
  have h7 : varB N30 (defScope (top 30)) 7 "at" = true := by decide +kernel
  have h8 : varB N30 (defScope (top 30)) 8 "paid" = true := by decide +kernel
  have h9 : varB N30 (defScope (top 30)) 9 "ends" = true := by decide +kernel
  have h10 : varB N30 (defScope (top 30)) 10 "free" = true := by decide +kernel
  have h11 : varB N30 (defScope (top 30)) 11 "sign" = true := by decide +kernel
  have h12 : varB N30 (defScope (top 30)) 12 "task" = true := by decide +kernel
  have h14 : varB N30 (defScope (top 30)) 14 "after" = true := by decide +kernel
  have h15 : varB N30 (defScope (top 30)) 15 "told" = true := by decide +kernel
  have h16 : varB N30 (defScope (top 30)) 16 "lot" = true := by decide +kernel
  have h17 : varB N30 (defScope (top 30)) 17 "later" = true := by decide +kernel
  have h18 : varB N30 (defScope (top 30)) 18 "all_later" = true := by decide +kernel
  have h19 : varB N30 (defScope (top 30)) 19 "there" = true := by decide +kernel
  have h20 : varB N30 (defScope (top 30)) 20 "cost" = true := by decide +kernel
  have g_enumerate : glB (defScope (top 30)) "enumerate" = true := by decide +kernel
  have g_len : glB (defScope (top 30)) "len" = true := by decide +kernel
  have g_list : glB (defScope (top 30)) "list" = true := by decide +kernel
  have g_min : glB (defScope (top 30)) "min" = true := by decide +kernel
  have g_zip : glB (defScope (top 30)) "zip" = true := by decide +kernel
  unfold m_30
  exact (sss_cons (ss_asgC C (se_ix C.toCn (SOp.v C.toCn h0) (SOp.e (se_int (g := g0 X.K) (W := W))) (fun _ _ => rfl)) (pg_tup C.toCn.calm (pgs_cons (pg_f C (by decide +kernel)) (pgs_cons (pg_f C (by decide +kernel)) pgs_nil))) (gok_t rfl rfl (gsok_cons (gok_v (by decide)) (gsok_cons (gok_v (by decide)) gsok_nil))) rfl (by kernel_rfl) rfl)
  (sss_cons (ss_asgC C (se_tup (g := g0 X.K) (W := W) (sa_consT (se_int (g := g0 X.K) (W := W)) (sa_consT (se_mul (SOp.e (se_lst (g := g0 X.K) (W := W) (sa_consT (se_int (g := g0 X.K) (W := W)) sa_nil rfl))) (SOp.e (se_len C.toCn fr_len g_len (SOp.v C.toCn h1) rfl))) (sa_consT (se_mul (SOp.e (se_lst (g := g0 X.K) (W := W) (sa_consT (se_int (g := g0 X.K) (W := W)) sa_nil rfl))) (SOp.e (se_len C.toCn fr_len g_len (SOp.v C.toCn h1) rfl))) (sa_consT (se_mul (SOp.e (se_lst (g := g0 X.K) (W := W) (sa_consT (se_int (g := g0 X.K) (W := W)) sa_nil rfl))) (SOp.e (se_len C.toCn fr_len g_len (SOp.v C.toCn h1) rfl))) sa_nil rfl) rfl) rfl) rfl)) (pg_tup C.toCn.calm (pgs_cons (pg_f C (by decide +kernel)) (pgs_cons (pg_f C (by decide +kernel)) (pgs_cons (pg_f C (by decide +kernel)) (pgs_cons (pg_f C (by decide +kernel)) pgs_nil))))) (gok_t rfl rfl (gsok_cons (gok_v (by decide)) (gsok_cons (gok_v (by decide)) (gsok_cons (gok_v (by decide)) (gsok_cons (gok_v (by decide)) gsok_nil))))) rfl (by kernel_rfl) rfl)
  (sss_cons (ss_asgC C (se_tup (g := g0 X.K) (W := W) (sa_consT (se_disp1K C.toCn (se_int (g := g0 X.K) (W := W)) (se_int (g := g0 X.K) (W := W))) (sa_consT (se_disp1K C.toCn (se_int (g := g0 X.K) (W := W)) (se_int (g := g0 X.K) (W := W))) sa_nil rfl) rfl)) (pg_tup C.toCn.calm (pgs_cons (pg_f C (by decide +kernel)) (pgs_cons (pg_f C (by decide +kernel)) pgs_nil))) (gok_t rfl rfl (gsok_cons (gok_v (by decide)) (gsok_cons (gok_v (by decide)) gsok_nil))) rfl (by kernel_rfl) rfl)
  (sss_cons (ss_for (Ls := []) (t := (.v 11)) C.po C.calm (si_seq (se_v C.toCn h2)) (pg_f C (by decide +kernel)) (gok_v (by decide)) (sss_cons (ss_asgC C (se_ix C.toCn (SOp.e (se_ix C.toCn (SOp.e (se_ix C.toCn (SOp.v C.toCn h0) (SOp.e (se_int (g := g0 X.K) (W := W))) (fun _ _ => rfl))) (SOp.v C.toCn h5) (fun _ _ => rfl))) (SOp.v C.toCn h11) (fun _ _ => rfl)) (pg_tup C.toCn.calm (pgs_cons (pg_f C (by decide +kernel)) (pgs_cons (pg_f C (by decide +kernel)) (pgs_cons (pg_f C (by decide +kernel)) pgs_nil)))) (gok_t rfl rfl (gsok_cons (gok_v (by decide)) (gsok_cons (gok_v (by decide)) (gsok_cons (gok_v (by decide)) gsok_nil)))) rfl (by kernel_rfl) rfl)
  (sss_cons (ss_setLcC C (by decide +kernel) rfl rfl (by decide +kernel) (by decide) (si_zipM C.toCn fr_zip g_zip (se_v C.toCn h1) (se_v C.toCn h6) rfl rfl rfl) (own' := [("player", 21), ("note", 22)]) (t := (.t [(.v 21), (.v 22)])) (by decide +kernel) (fun _ _ _ _ _ C1 => (pg_tup C1.calm (pgs_cons (pg_b C1 (by decide +kernel)) (pgs_cons (pg_b C1 (by decide +kernel)) pgs_nil)))) (fun L hL => (gok_t rfl rfl (gsok_cons (gok_vb (by decide) L hL) (gsok_cons (gok_vb (by decide) L hL) gsok_nil)))) (fun _ _ _ _ _ C1 => (pts_true pts_nil)) (fun _ _ _ _ _ C1 => (se_ix C1 (SOp.e (se_ix C1 (SOp.v C1 (by decide +kernel)) (SOp.v C1 (by decide +kernel)) (fun _ _ => rfl))) (SOp.v C1 (by decide +kernel)) (fun _ _ => rfl))) (fun _ => rfl))
  (sss_cons (ss_setLcC C (by decide +kernel) rfl rfl (by decide +kernel) (by decide) (si_seq (se_v C.toCn h15)) (own' := [("one", 23)]) (t := (.v 23)) (by decide +kernel) (fun _ _ _ _ _ C1 => (pg_b C1 (by decide +kernel))) (fun L hL => (gok_vb (by decide) L hL)) (fun _ _ _ _ _ C1 => (pts_true pts_nil)) (fun _ _ _ _ _ C1 => (se_ix C1 (SOp.v C1 (by decide +kernel)) (SOp.e (se_int (g := g0 X.K) (W := W0))) (fun _ _ => rfl))) (fun _ => rfl))
  (sss_cons (ss_setLcC C (by decide +kernel) rfl rfl (by decide +kernel) (by decide) (si_zip3 C.toCn fr_zip g_zip (se_v C.toCn h8) (se_v C.toCn h7) (se_v C.toCn h15) rfl rfl rfl rfl) (own' := [("more", 24), ("here", 25), ("one", 23)]) (t := (.t [(.v 24), (.v 25), (.v 23)])) (by decide +kernel) (fun _ _ _ _ _ C1 => (pg_tup C1.calm (pgs_cons (pg_b C1 (by decide +kernel)) (pgs_cons (pg_b C1 (by decide +kernel)) (pgs_cons (pg_b C1 (by decide +kernel)) pgs_nil))))) (fun L hL => (gok_t rfl rfl (gsok_cons (gok_vb (by decide) L hL) (gsok_cons (gok_vb (by decide) L hL) (gsok_cons (gok_vb (by decide) L hL) gsok_nil))))) (fun _ _ _ _ _ C1 => (pts_true pts_nil)) (fun _ _ _ _ _ C1 => (se_add (SOp.e (se_add (SOp.v C1 (by decide +kernel)) (SOp.e (se_ix C1 (SOp.e (se_ix C1 (SOp.v C1 (by decide +kernel)) (SOp.v C1 (by decide +kernel)) (fun _ _ => rfl))) (SOp.e (se_ix C1 (SOp.v C1 (by decide +kernel)) (SOp.e (se_int (g := g0 X.K) (W := W0))) (fun _ _ => rfl))) (fun _ _ => rfl))))) (SOp.e (se_ix C1 (SOp.e (se_ix C1 (SOp.v C1 (by decide +kernel)) (SOp.v C1 (by decide +kernel)) (fun _ _ => rfl))) (SOp.e (se_ix C1 (SOp.v C1 (by decide +kernel)) (SOp.e (se_int (g := g0 X.K) (W := W0))) (fun _ _ => rfl))) (fun _ _ => rfl))))) (fun _ => rfl))
  (sss_cons (ss_par3C C (by decide +kernel) (by decide +kernel) (by decide +kernel) (by decide) (by decide) (by decide) (sa_consT (se_v C.toCn h16) (sa_consT (se_lcC (own' := [("one", 23)]) (t := (.v 23)) C.toCn (si_seq (se_v C.toCn h15)) (by decide +kernel) (fun _ _ _ _ _ C1 => (pg_b C1 (by decide +kernel))) (fun L hL => (gok_vb (by decide) L hL)) (fun _ _ _ _ _ C1 => (pts_true pts_nil)) (fun _ _ _ _ _ C1 => (se_ix C1 (SOp.v C1 (by decide +kernel)) (SOp.e (se_int (g := g0 X.K) (W := W0))) (fun _ _ => rfl))) (fun _ => rfl)) (sa_consT (se_v C.toCn h14) sa_nil rfl) rfl) rfl) (by kernel_rfl) (by decide))
  (sss_cons (ss_parC C (by decide +kernel) (by decide +kernel) (by decide) (sa_consT (se_dnewK (g := g0 X.K) (W := W)) (sa_consT (se_dnewK (g := g0 X.K) (W := W)) sa_nil rfl) rfl) (by kernel_rfl) (by decide))
  (sss_cons (ss_for (Ls := []) (t := (.t [(.v 19), (.v 20)])) C.po C.calm (si_enum C.toCn fr_enumerate g_enumerate (se_ix C.toCn (SOp.v C.toCn h4) (SOp.v C.toCn h12) (fun _ _ => rfl)) rfl rfl) (pg_tup C.toCn.calm (pgs_cons (pg_f C (by decide +kernel)) (pgs_cons (pg_f C (by decide +kernel)) pgs_nil))) (gok_t rfl rfl (gsok_cons (gok_v (by decide)) (gsok_cons (gok_v (by decide)) gsok_nil))) (sss_cons (ss_if (st_notN (SOp.v C.toCn h20)) (sss_cons (ss_sub C.toCn h18 (SOp.v C.toCn h19) (se_add (SOp.e (se_min1A C.toCn fr_min g_min (SOp.e (se_lcC (own' := [("here", 25)]) (t := (.v 25)) C.toCn (si_seq (se_listA C.toCn fr_list g_list (SOp.v C.toCn h10) rfl)) (by decide +kernel) (fun _ _ _ _ _ C1 => (pg_b C1 (by decide +kernel))) (fun L hL => (gok_vb (by decide) L hL)) (fun _ _ _ _ _ C1 => (pts_true pts_nil)) (fun _ _ _ _ _ C1 => (se_add (SOp.e (se_ix C1 (SOp.v C1 (by decide +kernel)) (SOp.v C1 (by decide +kernel)) (fun _ _ => rfl))) (SOp.e (se_ix C1 (SOp.e (se_ix C1 (SOp.v C1 (by decide +kernel)) (SOp.v C1 (by decide +kernel)) (fun _ _ => rfl))) (SOp.v C1 (by decide +kernel)) (fun _ _ => rfl))))) (fun _ => rfl))) rfl)) (SOp.v C.toCn h20)) rfl rfl rfl (fun _ => rfl))
  sss_nil) sss_nil)
  (sss_cons (ss_if (st_in C.toCn (SOp.v C.toCn h19) (SOp.v C.toCn h16) rfl) (sss_cons (ss_sub C.toCn h17 (SOp.v C.toCn h19) (se_add (SOp.e (se_min1A C.toCn fr_min g_min (SOp.e (se_lcC (own' := [("here", 25)]) (t := (.v 25)) C.toCn (si_seq (se_listA C.toCn fr_list g_list (SOp.v C.toCn h9) rfl)) (by decide +kernel) (fun _ _ _ _ _ C1 => (pg_b C1 (by decide +kernel))) (fun L hL => (gok_vb (by decide) L hL)) (fun _ _ _ _ _ C1 => (pts_true pts_nil)) (fun _ _ _ _ _ C1 => (se_add (SOp.e (se_ix C1 (SOp.v C1 (by decide +kernel)) (SOp.v C1 (by decide +kernel)) (fun _ _ => rfl))) (SOp.e (se_ix C1 (SOp.e (se_ix C1 (SOp.v C1 (by decide +kernel)) (SOp.v C1 (by decide +kernel)) (fun _ _ => rfl))) (SOp.v C1 (by decide +kernel)) (fun _ _ => rfl))))) (fun _ => rfl))) rfl)) (SOp.v C.toCn h20)) rfl rfl rfl (fun _ => rfl))
  sss_nil) sss_nil)
  sss_nil)) (fun _ => rfl))
  (sss_cons (ss_asgC C (se_tup (g := g0 X.K) (W := W) (sa_consT (se_v C.toCn h17) (sa_consT (se_v C.toCn h18) sa_nil rfl) rfl)) (pg_tup C.toCn.calm (pgs_cons (pg_f C (by decide +kernel)) (pgs_cons (pg_f C (by decide +kernel)) pgs_nil))) (gok_t rfl rfl (gsok_cons (gok_v (by decide)) (gsok_cons (gok_v (by decide)) gsok_nil))) rfl (by kernel_rfl) rfl)
  sss_nil)))))))) (fun _ => rfl))
  (sss_cons (ss_ret (se_tup (g := g0 X.K) (W := W) (sa_consT (se_min1A C.toCn fr_min g_min (SOp.e (se_lcC (own' := [("here", 25)]) (t := (.v 25)) C.toCn (si_seq (se_listA C.toCn fr_list g_list (SOp.v C.toCn h9) rfl)) (by decide +kernel) (fun _ _ _ _ _ C1 => (pg_b C1 (by decide +kernel))) (fun L hL => (gok_vb (by decide) L hL)) (fun _ _ _ _ _ C1 => (pts_true pts_nil)) (fun _ _ _ _ _ C1 => (se_ix C1 (SOp.v C1 (by decide +kernel)) (SOp.v C1 (by decide +kernel)) (fun _ _ => rfl))) (fun _ => rfl))) rfl) (sa_consT (se_v C.toCn h8) (sa_consT (se_min1A C.toCn fr_min g_min (SOp.e (se_lcC (own' := [("here", 25)]) (t := (.v 25)) C.toCn (si_seq (se_listA C.toCn fr_list g_list (SOp.v C.toCn h10) rfl)) (by decide +kernel) (fun _ _ _ _ _ C1 => (pg_b C1 (by decide +kernel))) (fun L hL => (gok_vb (by decide) L hL)) (fun _ _ _ _ _ C1 => (pts_true pts_nil)) (fun _ _ _ _ _ C1 => (se_ix C1 (SOp.v C1 (by decide +kernel)) (SOp.v C1 (by decide +kernel)) (fun _ _ => rfl))) (fun _ => rfl))) rfl) sa_nil rfl) rfl) rfl)))
  sss_nil)))))
theorem ok_30 {P : Program} {w : World} {K : PySem.W.Frag} {mg : Str → Option Value} {base : Heap} {fd : Nat → FuncData} (T : Dn P w K mg fd) : FnOk P w K mg base (L2.CX P w) 1 (He.fAd K d30.at_) (fd 30) ["whole", "players", "row"] (Prom ⟨g0 K, K⟩ mask_30 c_30) :=
  fn_okC T.f30 S30 rfl (by decide) T.fr fun X W e1 e2 e3 e4 e5 R C => by
    subst e1 e2 e3 e4 e5
    exact b_30 C R T
/-! ### _law_tried -/
abbrev N31 : List Str := ["whole", "players", "row", "fault"]
abbrev mask_31 : List Bool := [false, false, false]
theorem S31 : FnScope N31 ["whole", "players", "row"] (defScope (top 31)) := ⟨rfl, rfl, rfl, by decide +kernel, rfl, by decide +kernel, by decide +kernel⟩
theorem bind_31 {K : PySem.W.Frag} {f : Addr} {fd : FuncData} (F : FunD K d31.name d31.qual d31.params d31.body d31.scope (d31.dvs K) (d31.kws K) f fd) : Binds K fd ["whole", "players", "row"] [] := FunD.bindsN F fun _ _ _ _ _ _ us hl => match us, hl with | [_, _, _], _ => rfl
def m_31 : MS := (mSeq (mTryM 3 cg_1 (fun c => decide (c = 1)) "refused" (mSeq (mRet (mTup [.t (mC (.str "told")), .t (mCall c_18 mask_18 [] [.t (mV 0), .t (mV 1), .t (mV 2)])]))
  RS.nx))
  RS.nx)
def c_31 : List D → RC := callF 4 mask_31 m_31
theorem b_31 {X : Cx} {W : WX} {fd : Nat → FuncData} (C : Cf X W N31 (defScope (top 31)) FR) (R : Room 5 X.A) (T : Dn X.prog X.w X.K X.mg fd) : SSs X (g0 X.K) W (lix 0 mask_31) (defBody (top 31)) m_31 := by
  have h0 : varB N31 (defScope (top 31)) 0 "whole" = true := by decide +kernel
  have h1 : varB N31 (defScope (top 31)) 1 "players" = true := by decide +kernel
  have h2 : varB N31 (defScope (top 31)) 2 "row" = true := by decide +kernel
  have g_Refused : glB (defScope (top 31)) "Refused" = true := by decide +kernel
  have g_counsel_paid : glB (defScope (top 31)) "counsel_paid" = true := by decide +kernel
  unfold m_31
  exact (sss_cons (ss_tryM (cc := 1) (cg := cg_1) (al := fun c => decide (c = 1)) C g_Refused T.mx1 (by decide) (by decide +kernel) (by decide) (cg_ok_1 T) (fun pn xe W C => (sss_cons (ss_ret (se_tup (g := g0 X.K) (W := W) (sa_consT (se_str (g := g0 X.K) (W := W)) (sa_consT (se_call (dvs := []) (ds := []) C.tk (ok_18 T) (R.mono (by decide)) (gl_ok C.toCn g_counsel_paid) T.m18 T.f18.kp (bind_18 T.f18) .nil (fun _ _ => .nil) (sa_consT (se_v C.toCn h0) (sa_consT (se_v C.toCn h1) (sa_consT (se_v C.toCn h2) sa_nil rfl) rfl) rfl) (by decide) rfl rfl) sa_nil rfl) rfl)))
  sss_nil)) (fun c a dd oe pn h1 h2 hz hf => by
    have h3 : c = 1 := by simpa using h2
    rcases h3 with rfl
    · exact (g_tell T.xf1 T.xo1 rfl hz hf (locL_ok C.toCn (i := 3) (by decide +kernel)).1 (.inl (locL_ok C.toCn (i := 3) (by decide +kernel)).2) (by decide) (by decide) rfl rfl rfl)
))
  sss_nil)
theorem ok_31 {P : Program} {w : World} {K : PySem.W.Frag} {mg : Str → Option Value} {base : Heap} {fd : Nat → FuncData} (T : Dn P w K mg fd) : FnOk P w K mg base (L2.CX P w) 6 (He.fAd K d31.at_) (fd 31) ["whole", "players", "row"] (Prom ⟨g0 K, K⟩ mask_31 c_31) :=
  fn_okC T.f31 S31 rfl (by decide) T.fr fun X W e1 e2 e3 e4 e5 R C => by
    subst e1 e2 e3 e4 e5
    exact b_31 C R T
/-! ### _law_spoilt -/
abbrev N32 : List Str := ["box", "book", "row", "at", "room", "sign", "some", "step"]
abbrev mask_32 : List Bool := [true, false, false]
theorem S32 : FnScope N32 ["box", "book", "row"] (defScope (top 32)) := ⟨rfl, rfl, rfl, by decide +kernel, rfl, by decide +kernel, by decide +kernel⟩
theorem bind_32 {K : PySem.W.Frag} {f : Addr} {fd : FuncData} (F : FunD K d32.name d32.qual d32.params d32.body d32.scope (d32.dvs K) (d32.kws K) f fd) : Binds K fd ["box", "book", "row"] [] := FunD.bindsN F fun _ _ _ _ _ _ us hl => match us, hl with | [_, _, _], _ => rfl
def q_32_1 : ME := (mV 5)
def t_32_2 : ME := (mOp1 (fun d => some (.bl (isN d))) (.v 7))
def s_32_3 : MS := (mSeq (mAsg (.v 4) (mOp2 ixD (.e (mOp2 ixD (.e (mOp2 ixD (.v 1) (.v 4))) (.v 5))) (.e (mC (.int 2)))))
  RS.nx)
def m_32 : MS := (mSeq (mAsg (.v 3) (mCall c_21 mask_21 [] [.l 0, .t (mOp2 addD (.e (mOp1 lenD (.v 2))) (.e (mC (.int 1))))]))
  (mSeq (mAsg (.v 4) (mC (.int 0)))
  (mSeq (mFor [] (.v 5) (mIt (mSl (mV 2) none (some (mV 3)))) s_32_3)
  (mSeq (mAsg (.v 6) (mOp2 addD (.e (mLc [5, 7] (.t [(.v 5), (.v 7)]) (mEnum (mOp2 ixD (.v 1) (.v 4))) t_32_2 q_32_1)) (.e (mLst [.t (mOp1 lenD (.e (mOp2 ixD (.v 1) (.v 4)))), .t (mOp2 addD (.e (mOp1 lenD (.e (mOp2 ixD (.v 1) (.v 4))))) (.e (mC (.int 3))))]))))
  (mSeq (mRet (mTup [.t (mOp2 addD (.e (mOp2 addD (.e (mSl (mV 2) none (some (mV 3)))) (.e (mTup [.t (mCall c_22 mask_22 [] [.l 0, .t (mV 6)])])))) (.e (mSl (mV 2) (some (mV 3)) none))), .t (mV 3)]))
  RS.nx)))))
def c_32 : List D → RC := callF 8 mask_32 m_32
theorem b_32 {X : Cx} {W : WX} {fd : Nat → FuncData} (C : Cf X W N32 (defScope (top 32)) FR) (R : Room 2 X.A) (T : Dn X.prog X.w X.K X.mg fd) : SSs X (g0 X.K) W (lix 0 mask_32) (defBody (top 32)) m_32 := by
  have h0 : varB N32 (defScope (top 32)) 0 "box" = true := by decide +kernel
  have h1 : varB N32 (defScope (top 32)) 1 "book" = true := by decide +kernel
  have h2 : varB N32 (defScope (top 32)) 2 "row" = true := by decide +kernel
  have h3 : varB N32 (defScope (top 32)) 3 "at" = true := by decide +kernel
  have h4 : varB N32 (defScope (top 32)) 4 "room" = true := by decide +kernel
  have h5 : varB N32 (defScope (top 32)) 5 "sign" = true := by decide +kernel
  have h6 : varB N32 (defScope (top 32)) 6 "some" = true := by decide +kernel
  have g__law_pick : glB (defScope (top 32)) "_law_pick" = true := by decide +kernel
  have g__law_take : glB (defScope (top 32)) "_law_take" = true := by decide +kernel
  have g_enumerate : glB (defScope (top 32)) "enumerate" = true := by decide +kernel
  have g_len : glB (defScope (top 32)) "len" = true := by decide +kernel
  unfold m_32
  exact (sss_cons (ss_setC C (by decide +kernel) (se_call (dvs := []) (ds := []) C.tk (ok_21 T) (R.mono (by decide)) (gl_ok C.toCn g__law_take) T.m21 T.f21.kp (bind_21 T.f21) .nil (fun _ _ => .nil) (sa_consL (pv_ok C.toCn h0) (sa_consT (se_add (SOp.e (se_len C.toCn fr_len g_len (SOp.v C.toCn h2) rfl)) (SOp.e (se_int (g := g0 X.K) (W := W)))) sa_nil rfl) rfl) (by decide) rfl rfl) (by decide) rfl)
  (sss_cons (ss_setC C (by decide +kernel) (se_int (g := g0 X.K) (W := W)) (by decide) rfl)
  (sss_cons (ss_for (Ls := []) (t := (.v 5)) C.po C.calm (si_seq (se_slice (se_v C.toCn h2) po_n (po_s (se_v C.toCn h3)))) (pg_f C (by decide +kernel)) (gok_v (by decide)) (sss_cons (ss_setC C (by decide +kernel) (se_ix C.toCn (SOp.e (se_ix C.toCn (SOp.e (se_ix C.toCn (SOp.v C.toCn h1) (SOp.v C.toCn h4) (fun _ _ => rfl))) (SOp.v C.toCn h5) (fun _ _ => rfl))) (SOp.e (se_int (g := g0 X.K) (W := W))) (fun _ _ => rfl)) (by decide) rfl)
  sss_nil) (fun _ => rfl))
  (sss_cons (ss_setC C (by decide +kernel) (se_add (SOp.e (se_lcC (own' := [("sign", 5), ("step", 7)]) (t := (.t [(.v 5), (.v 7)])) C.toCn (si_enum C.toCn fr_enumerate g_enumerate (se_ix C.toCn (SOp.v C.toCn h1) (SOp.v C.toCn h4) (fun _ _ => rfl)) rfl rfl) (by decide +kernel) (fun _ _ _ _ _ C1 => (pg_tup C1.calm (pgs_cons (pg_b C1 (by decide +kernel)) (pgs_cons (pg_b C1 (by decide +kernel)) pgs_nil)))) (fun L hL => (gok_t rfl rfl (gsok_cons (gok_vb (by decide) L hL) (gsok_cons (gok_vb (by decide) L hL) gsok_nil)))) (fun _ _ _ _ _ C1 => (pts_one (st_isN (SOp.v C1 (by decide +kernel))))) (fun _ _ _ _ _ C1 => (se_v C1 (by decide +kernel))) (fun _ => rfl))) (SOp.e (se_lst (g := g0 X.K) (W := W) (sa_consT (se_len C.toCn fr_len g_len (SOp.e (se_ix C.toCn (SOp.v C.toCn h1) (SOp.v C.toCn h4) (fun _ _ => rfl))) rfl) (sa_consT (se_add (SOp.e (se_len C.toCn fr_len g_len (SOp.e (se_ix C.toCn (SOp.v C.toCn h1) (SOp.v C.toCn h4) (fun _ _ => rfl))) rfl)) (SOp.e (se_int (g := g0 X.K) (W := W)))) sa_nil rfl) rfl)))) (by decide) rfl)
  (sss_cons (ss_ret (se_tup (g := g0 X.K) (W := W) (sa_consT (se_add (SOp.e (se_add (SOp.e (se_slice (se_v C.toCn h2) po_n (po_s (se_v C.toCn h3)))) (SOp.e (se_tup (g := g0 X.K) (W := W) (sa_consT (se_call (dvs := []) (ds := []) C.tk (ok_22 T) (R.mono (by decide)) (gl_ok C.toCn g__law_pick) T.m22 T.f22.kp (bind_22 T.f22) .nil (fun _ _ => .nil) (sa_consL (pv_ok C.toCn h0) (sa_consT (se_v C.toCn h6) sa_nil rfl) rfl) (by decide) rfl rfl) sa_nil rfl))))) (SOp.e (se_slice (se_v C.toCn h2) (po_s (se_v C.toCn h3)) po_n))) (sa_consT (se_v C.toCn h3) sa_nil rfl) rfl)))
  sss_nil)))))
theorem ok_32 {P : Program} {w : World} {K : PySem.W.Frag} {mg : Str → Option Value} {base : Heap} {fd : Nat → FuncData} (T : Dn P w K mg fd) : FnOk P w K mg base (L2.CX P w) 3 (He.fAd K d32.at_) (fd 32) ["box", "book", "row"] (Prom ⟨g0 K, K⟩ mask_32 c_32) :=
  fn_okC T.f32 S32 rfl (by decide) T.fr fun X W e1 e2 e3 e4 e5 R C => by
    subst e1 e2 e3 e4 e5
    exact b_32 C R T
/-! ### law -/
abbrev N33 : List Str := ["script", "k", "box", "whole", "asks", "players", "due", "told", "turn", "row", "paid", "bad", "at", "tasks", "room", "sign"]
abbrev mask_33 : List Bool := [false]
theorem S33 : FnScope N33 ["script"] (defScope (top 33)) := ⟨rfl, rfl, rfl, by decide +kernel, rfl, by decide +kernel, by decide +kernel⟩
theorem bind_33 {K : PySem.W.Frag} {f : Addr} {fd : FuncData} (F : FunD K d33.name d33.qual d33.params d33.body d33.scope (d33.dvs K) (d33.kws K) f fd) : Binds K fd ["script"] [] := FunD.bindsN F fun _ _ _ _ _ _ us hl => match us, hl with | [_], _ => rfl
def s_33_1 : MS := (mSeq (mPar [13, 14] [.t (mOp2 addD (.v 13) (.e (mTup [.t (mOp2 ixD (.e (mOp2 ixD (.e (mOp2 ixD (.e (mOp2 ixD (.v 6) (.e (mC (.int 2))))) (.v 14))) (.v 15))) (.e (mC (.int 0))))]))), .t (mOp2 ixD (.e (mOp2 ixD (.e (mOp2 ixD (.e (mOp2 ixD (.v 6) (.e (mC (.int 2))))) (.v 14))) (.v 15))) (.e (mC (.int 2))))])
  RS.nx)
def s_33_2 : MS := (mSeq (mAsg (.v 9) (mCall c_29 mask_29 [] [.l 2, .t (mOp2 ixD (.v 3) (.e (mC (.int 2)))), .t (mCall c_22 mask_22 [] [.l 2, .t (mLst [.t (mC (.int 0)), .t (mC (.int 3)), .t (mC (.int 8)), .t (mC (.int 30))])])]))
  (mSeq (mAsg (.v 10) (mOp2 ixD (.e (mCall c_30 mask_30 [] [.t (mV 3), .t (mV 5), .t (mV 9)])) (.e (mC (.int 0)))))
  (mSeq (mIfS (mTNot (mTru (.e (mCall (c_23 40) mask_23 [] [.t (mCall c_31 mask_31 [] [.t (mV 3), .t (mV 5), .t (mV 9)]), .t (mTup [.t (mC (.str "told")), .t (mV 10)])])))) (mSeq (mRet (mC (.bl false)))
  RS.nx) RS.nx)
  (mSeq (mAsg (.t [(.v 11), (.v 12)]) (mCall c_32 mask_32 [] [.l 2, .t (mOp2 ixD (.v 3) (.e (mC (.int 2)))), .t (mV 9)]))
  (mSeq (mIfS (mTNot (mTru (.e (mCall (c_23 40) mask_23 [] [.t (mCall c_31 mask_31 [] [.t (mV 3), .t (mV 5), .t (mV 11)]), .t (mTup [.t (mC (.str "refused")), .t (mV 12)])])))) (mSeq (mRet (mC (.bl false)))
  RS.nx) RS.nx)
  (mSeq (mAsg (.t [(.v 13), (.v 14)]) (mTup [.t (mTup []), .t (mC (.int 0))]))
  (mSeq (mFor [] (.v 15) (mIt (mV 9)) s_33_1)
  (mSeq (mIfS (mTNot (mTru (.e (mCall (c_23 40) mask_23 [] [.t (mCall c_10 mask_10 [] [.t (mOp2 ixD (.v 7) (.e (mC (.int 1)))), .t (mV 13)]), .t (mV 10)])))) (mSeq (mRet (mC (.bl false)))
  RS.nx) RS.nx)
  RS.nx))))))))
def q_33_3 : ME := (mFz (mCall c_27 mask_27 [] [.l 2, .t (mV 3), .t (mV 4), .t (mOp2 addD (.e (mC (.int 1))) (.e (mCall c_21 mask_21 [] [.l 2, .t (mC (.int 3))])))]))
def s_33_4 : MS := (mSeq (mAsg (.v 2) (mCall c_20 mask_20 [] [.t (mV 0), .t (mV 1)]))
  (mSeq (mAsg (.t [(.v 3), (.v 4)]) (mCall c_26 mask_26 [] [.l 2, .t (mC (.int 3))]))
  (mSeq (mAsg (.v 5) (mOp1 tupleD (.e (mLc [8] (.v 8) (mRg1 (mOp2 addD (.e (mC (.int 1))) (.e (mCall c_21 mask_21 [] [.l 2, .t (mC (.int 3))])))) mTrue q_33_3))))
  (mSeq (mAsg (.v 6) (mCall c_28 mask_28 [] [.t (mV 3), .t (mV 5)]))
  (mSeq (mAsg (.v 7) (mIf (mOp2 (cmpD fun i j => decide (j < i)) (.v 1) (.e (mC (.int 0)))) (mCall c_17 mask_17 [] [.t (mV 3), .t (mV 5)]) (mCallK c_17 [] [.a 0, .a 1] [(mV 3), (mV 5)])))
  (mSeq (mIfS (mTNot (mTru (.e (mCall (c_23 40) mask_23 [] [.t (mV 7), .t (mV 6)])))) (mSeq (mRet (mC (.bl false)))
  RS.nx) RS.nx)
  (mSeq (mFor [] (.v 8) (mRg1 (mC (.int 3))) s_33_2)
  RS.nx)))))))
def m_33 : MS := (mSeq (mFor [] (.v 1) (mRg1 (mOp2 max2D (.e (mC (.int 4))) (.e (mOp2 min2D (.e (mOp1 lenD (.v 0))) (.e (mC (.int 8))))))) s_33_4)
  (mSeq (mRet (mCall (c_23 40) mask_23 [] [.t (mCallK c_18 [] [.a 0, .a 1, .a 2] [(mV 3), (mV 5), (mTup [])]), .t (mC (.int 0))]))
  RS.nx))
def c_33 : List D → RC := callF 16 mask_33 m_33
theorem b_33 {X : Cx} {W : WX} {fd : Nat → FuncData} (C : Cf X W N33 (defScope (top 33)) FR) (R : Room 40 X.A) (T : Dn X.prog X.w X.K X.mg fd) : SSs X (g0 X.K) W (lix 0 mask_33) (defBody (top 33)) m_33 := by
  have h0 : varB N33 (defScope (top 33)) 0 "script" = true := by decide +kernel
  have h1 : varB N33 (defScope (top 33)) 1 "k" = true := by decide +kernel
  have h2 : varB N33 (defScope (top 33)) 2 "box" = true := by decide +kernel
  have h3 : varB N33 (defScope (top 33)) 3 "whole" = true := by decide +kernel
  have h5 : varB N33 (defScope (top 33)) 5 "players" = true := by decide +kernel
  have h6 : varB N33 (defScope (top 33)) 6 "due" = true := by decide +kernel
  have h7 : varB N33 (defScope (top 33)) 7 "told" = true := by decide +kernel
  have h9 : varB N33 (defScope (top 33)) 9 "row" = true := by decide +kernel
  have h10 : varB N33 (defScope (top 33)) 10 "paid" = true := by decide +kernel
  have h11 : varB N33 (defScope (top 33)) 11 "bad" = true := by decide +kernel
  have h12 : varB N33 (defScope (top 33)) 12 "at" = true := by decide +kernel
  have h13 : varB N33 (defScope (top 33)) 13 "tasks" = true := by decide +kernel
  have h14 : varB N33 (defScope (top 33)) 14 "room" = true := by decide +kernel
  have h15 : varB N33 (defScope (top 33)) 15 "sign" = true := by decide +kernel
  have g__law_box : glB (defScope (top 33)) "_law_box" = true := by decide +kernel
  have g__law_counsel : glB (defScope (top 33)) "_law_counsel" = true := by decide +kernel
  have g__law_crowd_case : glB (defScope (top 33)) "_law_crowd_case" = true := by decide +kernel
  have g__law_drawn_row : glB (defScope (top 33)) "_law_drawn_row" = true := by decide +kernel
  have g__law_lots_paid : glB (defScope (top 33)) "_law_lots_paid" = true := by decide +kernel
  have g__law_pick : glB (defScope (top 33)) "_law_pick" = true := by decide +kernel
  have g__law_same : glB (defScope (top 33)) "_law_same" = true := by decide +kernel
  have g__law_spoilt : glB (defScope (top 33)) "_law_spoilt" = true := by decide +kernel
  have g__law_take : glB (defScope (top 33)) "_law_take" = true := by decide +kernel
  have g__law_tried : glB (defScope (top 33)) "_law_tried" = true := by decide +kernel
  have g_counsel_case : glB (defScope (top 33)) "counsel_case" = true := by decide +kernel
  have g_counsel_paid : glB (defScope (top 33)) "counsel_paid" = true := by decide +kernel
  have g_least_cost : glB (defScope (top 33)) "least_cost" = true := by decide +kernel
  have g_len : glB (defScope (top 33)) "len" = true := by decide +kernel
  have g_max : glB (defScope (top 33)) "max" = true := by decide +kernel
  have g_min : glB (defScope (top 33)) "min" = true := by decide +kernel
  have g_range : glB (defScope (top 33)) "range" = true := by decide +kernel
  have g_tuple : glB (defScope (top 33)) "tuple" = true := by decide +kernel
  unfold m_33
  exact (sss_cons (ss_for (Ls := []) (t := (.v 1)) C.po C.calm (si_rg1 C.toCn fr_range g_range (se_max2 C.toCn fr_max g_max (SOp.e (se_int (g := g0 X.K) (W := W))) (SOp.e (se_min2 C.toCn fr_min g_min (SOp.e (se_len C.toCn fr_len g_len (SOp.v C.toCn h0) rfl)) (SOp.e (se_int (g := g0 X.K) (W := W))) rfl rfl rfl)) rfl rfl rfl) rfl) (pg_f C (by decide +kernel)) (gok_v (by decide)) (sss_cons (ss_setC C (by decide +kernel) (se_call (dvs := []) (ds := []) C.tk (ok_20 T) (R.mono (by decide)) (gl_ok C.toCn g__law_box) T.m20 T.f20.kp (bind_20 T.f20) .nil (fun _ _ => .nil) (sa_consT (se_v C.toCn h0) (sa_consT (se_v C.toCn h1) sa_nil rfl) rfl) (by decide) rfl rfl) (by decide) rfl)
  (sss_cons (ss_asgC C (se_call (dvs := []) (ds := []) C.tk (ok_26 T) (R.mono (by decide)) (gl_ok C.toCn g__law_crowd_case) T.m26 T.f26.kp (bind_26 T.f26) .nil (fun _ _ => .nil) (sa_consL (pv_ok C.toCn h2) (sa_consT (se_int (g := g0 X.K) (W := W)) sa_nil rfl) rfl) (by decide) rfl rfl) (pg_tup C.toCn.calm (pgs_cons (pg_f C (by decide +kernel)) (pgs_cons (pg_f C (by decide +kernel)) pgs_nil))) (gok_t rfl rfl (gsok_cons (gok_v (by decide)) (gsok_cons (gok_v (by decide)) gsok_nil))) rfl (by kernel_rfl) rfl)
  (sss_cons (ss_setC C (by decide +kernel) (se_tuple C.toCn fr_tuple g_tuple (SOp.e (se_lcC (own' := [("turn", 8)]) (t := (.v 8)) C.toCn (si_rg1 C.toCn fr_range g_range (se_add (SOp.e (se_int (g := g0 X.K) (W := W))) (SOp.e (se_call (dvs := []) (ds := []) C.tk (ok_21 T) (R.mono (by decide)) (gl_ok C.toCn g__law_take) T.m21 T.f21.kp (bind_21 T.f21) .nil (fun _ _ => .nil) (sa_consL (pv_ok C.toCn h2) (sa_consT (se_int (g := g0 X.K) (W := W)) sa_nil rfl) rfl) (by decide) rfl rfl))) rfl) (by decide +kernel) (fun _ _ _ _ _ C1 => (pg_b C1 (by decide +kernel))) (fun L hL => (gok_vb (by decide) L hL)) (fun _ _ _ _ _ C1 => (pts_true pts_nil)) (fun _ _ _ _ _ C1 => (se_fz (se_call (dvs := []) (ds := []) EV.takes0 (ok_27 T) (R.mono (by decide)) (gl_ok C1 (by decide +kernel)) T.m27 T.f27.kp (bind_27 T.f27) .nil (fun _ _ => .nil) (sa_consL (pv_ok C1 (by decide +kernel)) (sa_consT (se_v C1 (by decide +kernel)) (sa_consT (se_v C1 (by decide +kernel)) (sa_consT (se_add (SOp.e (se_int (g := g0 X.K) (W := W0))) (SOp.e (se_call (dvs := []) (ds := []) EV.takes0 (ok_21 T) (R.mono (by decide)) (gl_ok C1 (by decide +kernel)) T.m21 T.f21.kp (bind_21 T.f21) .nil (fun _ _ => .nil) (sa_consL (pv_ok C1 (by decide +kernel)) (sa_consT (se_int (g := g0 X.K) (W := W0)) sa_nil rfl) rfl) (by decide) rfl rfl))) sa_nil rfl) rfl) rfl) rfl) (by decide) rfl rfl))) (fun _ => rfl))) rfl) (by decide) rfl)
  (sss_cons (ss_setC C (by decide +kernel) (se_call (dvs := []) (ds := []) C.tk (ok_28 T) (R.mono (by decide)) (gl_ok C.toCn g__law_counsel) T.m28 T.f28.kp (bind_28 T.f28) .nil (fun _ _ => .nil) (sa_consT (se_v C.toCn h3) (sa_consT (se_v C.toCn h5) sa_nil rfl) rfl) (by decide) rfl rfl) (by decide) rfl)
  (sss_cons (ss_setC C (by decide +kernel) (se_if (st_gt (SOp.v C.toCn h1) (SOp.e (se_int (g := g0 X.K) (W := W)))) (se_call (dvs := []) (ds := []) C.tk (ok_17 T) (R.mono (by decide)) (gl_ok C.toCn g_counsel_case) T.m17 T.f17.kp (bind_17 T.f17) .nil (fun _ _ => .nil) (sa_consT (se_v C.toCn h3) (sa_consT (se_v C.toCn h5) sa_nil rfl) rfl) (by decide) rfl rfl) (se_callK0 (dvs := []) (dus := []) C.tk (ok_17 T) (R.mono (by decide)) (gl_ok C.toCn g_counsel_case) T.m17 T.f17.kp (kb_17_0 T.f17) (fun _ _ => .nil) rfl rfl (sk_cons (se_v C.toCn h3) (sk_cons (se_v C.toCn h5) sk_nil)) rfl rfl (by decide) rfl)) (by decide) rfl)
  (sss_cons (ss_if (st_not (st_tru (SOp.e (se_call (dvs := []) (ds := []) C.tk (ok_23 T 40) (R.mono (by decide)) (gl_ok C.toCn g__law_same) T.m23 T.f23.kp (bind_23 T.f23) .nil (fun _ _ => .nil) (sa_consT (se_v C.toCn h7) (sa_consT (se_v C.toCn h6) sa_nil rfl) rfl) (by decide) rfl rfl)) (fun _ => rfl))) (sss_cons (ss_ret (se_bl (g := g0 X.K) (W := W)))
  sss_nil) sss_nil)
  (sss_cons (ss_for (Ls := []) (t := (.v 8)) C.po C.calm (si_rg1 C.toCn fr_range g_range (se_int (g := g0 X.K) (W := W)) rfl) (pg_f C (by decide +kernel)) (gok_v (by decide)) (sss_cons (ss_setC C (by decide +kernel) (se_call (dvs := []) (ds := []) C.tk (ok_29 T) (R.mono (by decide)) (gl_ok C.toCn g__law_drawn_row) T.m29 T.f29.kp (bind_29 T.f29) .nil (fun _ _ => .nil) (sa_consL (pv_ok C.toCn h2) (sa_consT (se_ix C.toCn (SOp.v C.toCn h3) (SOp.e (se_int (g := g0 X.K) (W := W))) (fun _ _ => rfl)) (sa_consT (se_call (dvs := []) (ds := []) C.tk (ok_22 T) (R.mono (by decide)) (gl_ok C.toCn g__law_pick) T.m22 T.f22.kp (bind_22 T.f22) .nil (fun _ _ => .nil) (sa_consL (pv_ok C.toCn h2) (sa_consT (se_lst (g := g0 X.K) (W := W) (sa_consT (se_int (g := g0 X.K) (W := W)) (sa_consT (se_int (g := g0 X.K) (W := W)) (sa_consT (se_int (g := g0 X.K) (W := W)) (sa_consT (se_int (g := g0 X.K) (W := W)) sa_nil rfl) rfl) rfl) rfl)) sa_nil rfl) rfl) (by decide) rfl rfl) sa_nil rfl) rfl) rfl) (by decide) rfl rfl) (by decide) rfl)
  (sss_cons (ss_setC C (by decide +kernel) (se_ix C.toCn (SOp.e (se_call (dvs := []) (ds := []) C.tk (ok_30 T) (R.mono (by decide)) (gl_ok C.toCn g__law_lots_paid) T.m30 T.f30.kp (bind_30 T.f30) .nil (fun _ _ => .nil) (sa_consT (se_v C.toCn h3) (sa_consT (se_v C.toCn h5) (sa_consT (se_v C.toCn h9) sa_nil rfl) rfl) rfl) (by decide) rfl rfl)) (SOp.e (se_int (g := g0 X.K) (W := W))) (fun _ _ => rfl)) (by decide) rfl)
  (sss_cons (ss_if (st_not (st_tru (SOp.e (se_call (dvs := []) (ds := []) C.tk (ok_23 T 40) (R.mono (by decide)) (gl_ok C.toCn g__law_same) T.m23 T.f23.kp (bind_23 T.f23) .nil (fun _ _ => .nil) (sa_consT (se_call (dvs := []) (ds := []) C.tk (ok_31 T) (R.mono (by decide)) (gl_ok C.toCn g__law_tried) T.m31 T.f31.kp (bind_31 T.f31) .nil (fun _ _ => .nil) (sa_consT (se_v C.toCn h3) (sa_consT (se_v C.toCn h5) (sa_consT (se_v C.toCn h9) sa_nil rfl) rfl) rfl) (by decide) rfl rfl) (sa_consT (se_tup (g := g0 X.K) (W := W) (sa_consT (se_str (g := g0 X.K) (W := W)) (sa_consT (se_v C.toCn h10) sa_nil rfl) rfl)) sa_nil rfl) rfl) (by decide) rfl rfl)) (fun _ => rfl))) (sss_cons (ss_ret (se_bl (g := g0 X.K) (W := W)))
  sss_nil) sss_nil)
  (sss_cons (ss_asgC C (se_call (dvs := []) (ds := []) C.tk (ok_32 T) (R.mono (by decide)) (gl_ok C.toCn g__law_spoilt) T.m32 T.f32.kp (bind_32 T.f32) .nil (fun _ _ => .nil) (sa_consL (pv_ok C.toCn h2) (sa_consT (se_ix C.toCn (SOp.v C.toCn h3) (SOp.e (se_int (g := g0 X.K) (W := W))) (fun _ _ => rfl)) (sa_consT (se_v C.toCn h9) sa_nil rfl) rfl) rfl) (by decide) rfl rfl) (pg_tup C.toCn.calm (pgs_cons (pg_f C (by decide +kernel)) (pgs_cons (pg_f C (by decide +kernel)) pgs_nil))) (gok_t rfl rfl (gsok_cons (gok_v (by decide)) (gsok_cons (gok_v (by decide)) gsok_nil))) rfl (by kernel_rfl) rfl)
  (sss_cons (ss_if (st_not (st_tru (SOp.e (se_call (dvs := []) (ds := []) C.tk (ok_23 T 40) (R.mono (by decide)) (gl_ok C.toCn g__law_same) T.m23 T.f23.kp (bind_23 T.f23) .nil (fun _ _ => .nil) (sa_consT (se_call (dvs := []) (ds := []) C.tk (ok_31 T) (R.mono (by decide)) (gl_ok C.toCn g__law_tried) T.m31 T.f31.kp (bind_31 T.f31) .nil (fun _ _ => .nil) (sa_consT (se_v C.toCn h3) (sa_consT (se_v C.toCn h5) (sa_consT (se_v C.toCn h11) sa_nil rfl) rfl) rfl) (by decide) rfl rfl) (sa_consT (se_tup (g := g0 X.K) (W := W) (sa_consT (se_str (g := g0 X.K) (W := W)) (sa_consT (se_v C.toCn h12) sa_nil rfl) rfl)) sa_nil rfl) rfl) (by decide) rfl rfl)) (fun _ => rfl))) (sss_cons (ss_ret (se_bl (g := g0 X.K) (W := W)))
  sss_nil) sss_nil)
  (sss_cons (ss_asgC C (se_tup (g := g0 X.K) (W := W) (sa_consT (se_tup (g := g0 X.K) (W := W) sa_nil) (sa_consT (se_int (g := g0 X.K) (W := W)) sa_nil rfl) rfl)) (pg_tup C.toCn.calm (pgs_cons (pg_f C (by decide +kernel)) (pgs_cons (pg_f C (by decide +kernel)) pgs_nil))) (gok_t rfl rfl (gsok_cons (gok_v (by decide)) (gsok_cons (gok_v (by decide)) gsok_nil))) rfl (by kernel_rfl) rfl)
  (sss_cons (ss_for (Ls := []) (t := (.v 15)) C.po C.calm (si_seq (se_v C.toCn h9)) (pg_f C (by decide +kernel)) (gok_v (by decide)) (sss_cons (ss_parC C (by decide +kernel) (by decide +kernel) (by decide) (sa_consT (se_add (SOp.v C.toCn h13) (SOp.e (se_tup (g := g0 X.K) (W := W) (sa_consT (se_ix C.toCn (SOp.e (se_ix C.toCn (SOp.e (se_ix C.toCn (SOp.e (se_ix C.toCn (SOp.v C.toCn h6) (SOp.e (se_int (g := g0 X.K) (W := W))) (fun _ _ => rfl))) (SOp.v C.toCn h14) (fun _ _ => rfl))) (SOp.v C.toCn h15) (fun _ _ => rfl))) (SOp.e (se_int (g := g0 X.K) (W := W))) (fun _ _ => rfl)) sa_nil rfl)))) (sa_consT (se_ix C.toCn (SOp.e (se_ix C.toCn (SOp.e (se_ix C.toCn (SOp.e (se_ix C.toCn (SOp.v C.toCn h6) (SOp.e (se_int (g := g0 X.K) (W := W))) (fun _ _ => rfl))) (SOp.v C.toCn h14) (fun _ _ => rfl))) (SOp.v C.toCn h15) (fun _ _ => rfl))) (SOp.e (se_int (g := g0 X.K) (W := W))) (fun _ _ => rfl)) sa_nil rfl) rfl) (by kernel_rfl) (by decide))
  sss_nil) (fun _ => rfl))
  (sss_cons (ss_if (st_not (st_tru (SOp.e (se_call (dvs := []) (ds := []) C.tk (ok_23 T 40) (R.mono (by decide)) (gl_ok C.toCn g__law_same) T.m23 T.f23.kp (bind_23 T.f23) .nil (fun _ _ => .nil) (sa_consT (se_call (dvs := []) (ds := []) C.tk (ok_10 T) (R.mono (by decide)) (gl_ok C.toCn g_least_cost) T.m10 T.f10.kp (bind_10 T.f10) .nil (fun _ _ => .nil) (sa_consT (se_ix C.toCn (SOp.v C.toCn h7) (SOp.e (se_int (g := g0 X.K) (W := W))) (fun _ _ => rfl)) (sa_consT (se_v C.toCn h13) sa_nil rfl) rfl) (by decide) rfl rfl) (sa_consT (se_v C.toCn h10) sa_nil rfl) rfl) (by decide) rfl rfl)) (fun _ => rfl))) (sss_cons (ss_ret (se_bl (g := g0 X.K) (W := W)))
  sss_nil) sss_nil)
  sss_nil)))))))) (fun _ => rfl))
  sss_nil))))))) (fun _ => rfl))
  (sss_cons (ss_ret (se_call (dvs := []) (ds := []) C.tk (ok_23 T 40) (R.mono (by decide)) (gl_ok C.toCn g__law_same) T.m23 T.f23.kp (bind_23 T.f23) .nil (fun _ _ => .nil) (sa_consT (se_callK0 (dvs := []) (dus := []) C.tk (ok_18 T) (R.mono (by decide)) (gl_ok C.toCn g_counsel_paid) T.m18 T.f18.kp (kb_18_0 T.f18) (fun _ _ => .nil) rfl rfl (sk_cons (se_v C.toCn h3) (sk_cons (se_v C.toCn h5) (sk_cons (se_tup (g := g0 X.K) (W := W) sa_nil) sk_nil))) rfl rfl (by decide) rfl) (sa_consT (se_int (g := g0 X.K) (W := W)) sa_nil rfl) rfl) (by decide) rfl rfl))
  sss_nil))
theorem ok_33 {P : Program} {w : World} {K : PySem.W.Frag} {mg : Str → Option Value} {base : Heap} {fd : Nat → FuncData} (T : Dn P w K mg fd) : FnOk P w K mg base (L2.CX P w) 41 (He.fAd K d33.at_) (fd 33) ["script"] (Prom ⟨g0 K, K⟩ mask_33 c_33) :=
  fn_okC T.f33 S33 rfl (by decide) T.fr fun X W e1 e2 e3 e4 e5 R C => by
    subst e1 e2 e3 e4 e5
    exact b_33 C R T
end LW

namespace LW
open PySem PySem.Spec L2 EV
abbrev bx (a b : Int) : D := .lst true [.int a, .int b]
theorem at0 {d : D} {ds : List D} : atI (d :: ds) 0 = some d := by simp [atI, ixN]
theorem at1 {d d1 : D} {ds : List D} : atI (d :: d1 :: ds) 1 = some d1 := by
  have : (1 : Int) < (ds.length : Int) + 1 + 1 := by omega
  simp [atI, ixN, this]
theorem at2 {d d1 d2 : D} {ds : List D} : atI (d :: d1 :: d2 :: ds) 2 = some d2 := by
  have : (2 : Int) < (ds.length : Int) + 1 + 1 + 1 := by omega
  simp [atI, ixN, this]
theorem take_ok (a b m : Int) (hm : 0 < m) (hs : m < 1000000) : ∃ r a' b', 0 ≤ r ∧ r < m ∧ c_21 [bx a b, .int m] = .ok (.int r) [bx a' b'] := by
  unfold c_21 callF m_21
  by_cases h : 0 < a
  · refine ⟨a % m, a / m, b, Int.emod_nonneg _ (by omega), Int.emod_lt_of_pos _ hm, ?_⟩
    simp [h, atI, ixN, md_int hm, div_int hm (divOk_s hm (by omega))]
  · refine ⟨((b * 39373 + 547) % 2147483647 * 2147483629 + ((((b * 39373 + 547) % 2147483647) * 40692 + 73) % 2147483399 + 1)) / 8209 % m, a, (((b * 39373 + 547) % 2147483647) * 40692 + 73) % 2147483399 + 1, Int.emod_nonneg _ (by omega), Int.emod_lt_of_pos _ hm, ?_⟩
    simp [h, atI, ixN, mul_int (mulOk_r (a := b) (b := 39373) (by decide)), md_int (b := 2147483647) (by decide), mul_int (mulOk_r (b := 40692) (by decide)), md_int (b := 2147483399) (by decide), mul_int (mulOk_r (b := 2147483629) (by decide)),
        div_int (b := 8209) (by decide) (by decide), md_int hm]
theorem atI_nat {ds : List D} {r : Int} (h0 : 0 ≤ r) (h1 : r < ds.length) : atI ds r = ds[r.toNat]? := by
  simp [atI, ixN, h0, h1]
theorem pick_ok (a b : Int) (o : Bool) (ds : List D) (h0 : ds ≠ []) (hl : ds.length < 1000000) (hz : fzs ds = true) : ∃ x a' b', x ∈ ds ∧ c_22 [bx a b, .lst o ds] = .ok x [bx a' b'] := by
  have hp : 0 < ds.length := List.length_pos_iff.mpr h0
  obtain ⟨r, a', b', h1, h2, h3⟩ := take_ok a b ds.length (by omega) (by omega)
  have h4 : r.toNat < ds.length := by omega
  refine ⟨ds[r.toNat], a', b', List.getElem_mem h4, ?_⟩
  unfold c_22 callF m_22
  simp [h3, hz, atI_nat h1 h2, h4]
theorem same_ok : ∀ (n : Nat) (d : D), plD n d = true → c_23 (n + 1) [d, d] = .ok (.bl true) [] := by
  intro n
  induction n with
  | zero =>
    intro d h
    cases d <;> simp [plD] at h <;> (unfold c_23 callF m_23; simp)
  | succ n ih =>
    intro d h
    cases d with
    | non => unfold c_23 callF m_23; simp
    | int i => unfold c_23 callF m_23; simp
    | tup ds =>
      have hz := plD_fz _ h
      have hz2 : fzs ds = true := hz
      have hf : frzs ds = ds := by have := frz_of _ hz; simpa using this
      have h : ds.all (plD n) = true := h
      have loop : ∀ e : DEnv, e.length = 4 → ∃ e', forL (.t [.v 2, .v 3]) (s_23_1 (c_23 (n + 1))) (ds.map fun a => D.tup [a, a]) e = .nx e' := by
        intro e he
        refine forL_rule (fun r => ∃ e', r = .nx e') (fun _ e => e.length = 4) he ?_ (fun e _ => ⟨e, rfl⟩)
        intro k d e hk hl
        rw [List.getElem?_map] at hk
        cases h1 : ds[k]? with
        | none => rw [h1] at hk; cases hk
        | some x =>
        rw [h1] at hk
        injection hk with hk
        subst hk
        obtain ⟨o0, o1, o2, o3, rfl⟩ := env4 hl
        have hx := List.all_eq_true.mp h x (List.mem_of_getElem? h1)
        unfold s_23_1
        simp [plD_fz _ hx, ih x hx]
      unfold c_23 callF m_23
      obtain ⟨e', he⟩ := loop [some (.tup ds), some (.tup ds), none, none] rfl
      simp [hz2, hf, he]
    | _ => simp [plD] at h
theorem pw18 : powD (.int 10) (.int 18) = some (.int 1000000000000000000) := rfl
theorem atI_in {α : Type} {xs : List α} {k : Int} (h0 : 0 ≤ k) (h1 : k < xs.length) : ∃ x, atI xs k = some x := by
  have h2 : k.toNat < xs.length := by omega
  exact ⟨xs[k.toNat], by simp [atI, ixN, h0, h1, h2]⟩
theorem box_ok (ns : List Int) (k : Int) (hk : 0 ≤ k) : ∃ a b, c_20 [.scr ns, .int k] = .ok (bx a b) [] := by
  unfold c_20 callF m_20
  by_cases h1 : k < (ns.length : Int)
  · obtain ⟨n, hn⟩ := atI_in hk h1
    by_cases h2 : 1000000000000000000 ≤ (if n < 0 then -n else n)
    all_goals simp [h1, hn, h2, pw18, mul_int (mulOk_l (a := 6967) (b := k) (by decide)), mul_int (mulOk_r (b := 40487) (by decide)), mul_int (mulOk_l (a := 2309) (b := k) (by decide)), md_int (b := 2147483549) (by decide)]
  · by_cases h3 : 0 < ns.length
    · have hm := md_int (a := k) (b := (ns.length : Int)) (by omega)
      obtain ⟨n, hn⟩ := atI_in (xs := ns) (k := k % (ns.length : Int)) (Int.emod_nonneg _ (by omega)) (Int.emod_lt_of_pos _ (by omega))
      by_cases h2 : 1000000000000000000 ≤ 6967 * k + 2309 + (if n < 0 then -n else n) % 2147483549 * 57037
      all_goals simp [h1, hn, h2, h3, hm, pw18, mul_int (mulOk_l (a := 6967) (b := k) (by decide)), mul_int (mulOk_r (b := 40487) (by decide)), mul_int (mulOk_r (b := 57037) (by decide)), mul_int (mulOk_l (a := 2309) (b := k) (by decide)), md_int (b := 2147483549) (by decide)]
    · by_cases h2 : 1000000000000000000 ≤ 6967 * k + 2309
      all_goals simp [h1, h2, h3, pw18, mul_int (mulOk_l (a := 6967) (b := k) (by decide)), mul_int (mulOk_r (b := 40487) (by decide)), mul_int (mulOk_l (a := 2309) (b := k) (by decide)), md_int (b := 2147483549) (by decide)]
end LW

namespace LW
open PySem PySem.Spec L2 EV
/-- a table of whole numbers -/
abbrev Sq (n : Nat) (M : List (List Int)) : Prop := M.length = n ∧ ∀ r ∈ M, r.length = n
abbrev ro (r : List Int) : D := .lst true (r.map .int)
abbrev rz (r : List Int) : D := .lst false (r.map .int)
abbrev rt (r : List Int) : D := .tup (r.map .int)
theorem fzs_ints (r : List Int) : fzs (r.map D.int) = true := by
  rw [fzs_all, List.all_eq_true]
  intro d hd
  obtain ⟨i, _, rfl⟩ := List.mem_map.mp hd
  rfl
theorem frzs_ints (r : List Int) : frzs (r.map D.int) = r.map D.int := by
  induction r with
  | nil => rfl
  | cons i r ih => simp [ih]
theorem fzs_of {ds : List D} (h : ∀ d ∈ ds, fz d = true) : fzs ds = true := by
  rw [fzs_all, List.all_eq_true]; exact h
theorem frzs_of {ds : List D} (h : fzs ds = true) : frzs ds = ds := by
  have := frz_of (.tup ds) h
  simpa using this
theorem atI_nn {α : Type} {xs : List α} {k : Nat} (h : k < xs.length) : atI xs (k : Int) = some xs[k] := by
  simp [atI, ixN, h]
theorem atI_map' {α β : Type} (f : α → β) (xs : List α) (k : Nat) (h : k < xs.length) : atI (xs.map f) (k : Int) = some (f xs[k]) := by
  rw [atI_nn (by simpa using h)]; simp
/-- the entry of a table -/
def ent (M : List (List Int)) (i j : Nat) : Int := (M.getD i []).getD j 0
/-- prices: none below 0, none of staying -/
structure Mx (n : Nat) (M : List (List Int)) : Prop where
  sq : Sq n M
  nn : ∀ i j, 0 ≤ ent M i j
  dg : ∀ i, ent M i i = 0
theorem ent_get {M : List (List Int)} {a b : Nat} (h1 : a < M.length) (h2 : b < (M[a]).length) : (M[a])[b] = ent M a b := by
  unfold ent
  simp [List.getD_eq_getElem?_getD, List.getElem?_eq_getElem h1, List.getElem?_eq_getElem h2]
theorem ix2_ok {M : List (List Int)} {n k : Nat} {i j : IA} {a b : Nat} {e : DEnv} (hM : Sq n M) (hk : e[k]? = some (some (.lst true (M.map ro)))) (hi : ixAt i e = some (a : Int)) (hj : ixAt j e = some (b : Int)) (ha : a < n) (hb : b < n) :
    mIx2 k i j e = .ok (.int (ent M a b)) e := by
  have h1 : a < M.length := by rw [hM.1]; exact ha
  have h2 : b < (M[a]).length := by rw [hM.2 _ (List.getElem_mem h1)]; exact hb
  rw [← ent_get h1 h2]
  unfold mIx2
  rw [hk]
  simp only
  rw [hi, hj]
  simp only
  rw [atI_map' ro M a h1]
  simp only [ro]
  rw [atI_map' D.int _ b h2]
  simp [fzs_ints]
theorem ent_set {M : List (List Int)} {a b : Nat} {v : Int} (h1 : a < M.length) (h2 : b < (M[a]).length) (i j : Nat) : ent (M.set a ((M[a]).set b v)) i j = if i = a ∧ j = b then v else ent M i j := by
  unfold ent
  simp only [List.getD_eq_getElem?_getD]
  rw [List.getElem?_set]
  by_cases hi : a = i
  · subst hi
    rw [if_pos rfl, if_pos h1]
    simp only [Option.getD_some, true_and]
    rw [List.getElem?_set]
    by_cases hj : b = j
    · subst hj
      rw [if_pos rfl, if_pos h2, if_pos rfl]
      rfl
    · rw [if_neg hj, if_neg (fun e => hj e.symm), List.getElem?_eq_getElem h1]
      rfl
  · rw [if_neg hi, if_neg (fun e => hi e.1.symm)]
theorem set2_ok {M : List (List Int)} {n k : Nat} {i j : IA} {a b : Nat} {e : DEnv} {m : ME} {v : Int} (hM : Mx n M) (hv : 0 ≤ v) (hv2 : a = b → v = 0) (hm : m e = .ok (.int v) e) (hk : e[k]? = some (some (.lst true (M.map ro)))) (hi : ixAt i e = some (a : Int)) (hj : ixAt j e = some (b : Int)) (ha : a < n) (hb : b < n) :
    ∃ M', Mx n M' ∧ mSet2 k i j m e = .nx (e.set k (some (.lst true (M'.map ro)))) := by
  have h1 : a < M.length := by rw [hM.sq.1]; exact ha
  have h2 : b < (M[a]).length := by rw [hM.sq.2 _ (List.getElem_mem h1)]; exact hb
  refine ⟨M.set a ((M[a]).set b v), ⟨⟨by rw [List.length_set]; exact hM.sq.1, fun r hr => ?_⟩, fun i j => ?_, fun i => ?_⟩, ?_⟩
  · rcases List.mem_or_eq_of_mem_set hr with h | h
    · exact hM.sq.2 r h
    · rw [h, List.length_set]; exact hM.sq.2 _ (List.getElem_mem h1)
  · rw [ent_set h1 h2]
    split
    · exact hv
    · exact hM.nn i j
  · rw [ent_set h1 h2]
    split
    · rename_i q; exact hv2 (q.1.symm.trans q.2)
    · exact hM.dg i
  · unfold mSet2
    rw [hm, RE.toS_ok, hk]
    simp only
    rw [hi, hj]
    simp only
    have e1 : ixN (M.map ro).length (a : Int) = some a := by simp [ixN, h1]
    rw [e1]
    simp only
    have e2 : (M.map ro)[a]? = some (ro M[a]) := by simp [h1]
    rw [e2]
    simp only [ro]
    have e3 : ixN ((M[a]).map D.int).length (b : Int) = some b := by simp [ixN, h2]
    rw [e3]
    have e4 : D.lst true ((M[a].map D.int).set b (.int v)) = ro (M[a].set b v) := by simp [ro, List.map_set]
    simp only [fzs_ints, fz_int, Bool.and_self, if_true, e4, List.map_set]
theorem lc_list {e : DEnv} : ∀ {M : List (List Int)} {acc : List D} {o0 o1 o2 o3 o4 o5 : Option D}, M.length + acc.length ≤ 1000000 → lcL [6] (.v 6) mTrue q_24_5 (M.map rz) acc [o0, o1, o2, o3, o4, o5, none] = .ok (acc ++ M.map ro) [o0, o1, o2, o3, o4, o5, none]
  | [], acc, _, _, _, _, _, _, _ => by simp [lcL]
  | r :: M, acc, o0, o1, o2, o3, o4, o5, h => by
    have hl : acc.length < 1000000 := by simp at h; omega
    have ih := lc_list (e := e) (M := M) (acc := acc ++ [ro r]) (o0 := o0) (o1 := o1) (o2 := o2) (o3 := o3) (o4 := o4) (o5 := o5) (by simp at h ⊢; omega)
    simp [lcL, q_24_5, fzs_ints, hl]
    simpa [q_24_5] using ih
theorem lc_tup {e : DEnv} : ∀ {M : List (List Int)} {acc : List D} {o0 o1 o2 o3 o4 o5 : Option D}, M.length + acc.length ≤ 1000000 → lcL [6] (.v 6) mTrue q_24_1 (M.map rz) acc [o0, o1, o2, o3, o4, o5, none] = .ok (acc ++ M.map rt) [o0, o1, o2, o3, o4, o5, none]
  | [], acc, _, _, _, _, _, _, _ => by simp [lcL]
  | r :: M, acc, o0, o1, o2, o3, o4, o5, h => by
    have hl : acc.length < 1000000 := by simp at h; omega
    have ih := lc_tup (e := e) (M := M) (acc := acc ++ [rt r]) (o0 := o0) (o1 := o1) (o2 := o2) (o3 := o3) (o4 := o4) (o5 := o5) (by simp at h ⊢; omega)
    simp [lcL, q_24_1, fzs_ints, hl, tupleD]
    simpa [q_24_1] using ih
theorem fz_rows {o : Bool} (M : List (List Int)) : fzs (M.map rz) = true := fzs_of fun d hd => by
  obtain ⟨r, _, rfl⟩ := List.mem_map.mp hd
  simp [fzs_ints]
theorem frz_rows (M : List (List Int)) : frzs (M.map rz) = M.map rz := frzs_of (fz_rows (o := true) M)
theorem frz_ro (M : List (List Int)) : frzs (M.map ro) = M.map rz := by
  induction M with
  | nil => rfl
  | cons r M ih => simp [ih, frzs_ints]
theorem fz_tups (M : List (List Int)) : fzs (M.map rt) = true := fzs_of fun d hd => by
  obtain ⟨r, _, rfl⟩ := List.mem_map.mp hd
  simp [fzs_ints]
theorem frz_tups (M : List (List Int)) : frzs (M.map rt) = M.map rt := frzs_of (fz_tups M)
theorem closed_ok {n : Nat} {M : List (List Int)} (hM : Mx n M) (hn : n < 1000) : ∃ M', Mx n M' ∧ c_24 [.lst true (M.map rz)] = .ok (.tup (M'.map rt)) [.lst false (M.map rz)] := by
  have l1 : ∀ (p : D) (M : List (List Int)) (s o : Nat) (x : Option D), Mx n M → s < n → o < n → ∃ M' x', Mx n M' ∧ forL (.v 5) s_24_2 (rangeD 0 n) [some p, some (.int n), some (.lst true (M.map ro)), some (.int s), some (.int o), x, none] = .nx [some p, some (.int n), some (.lst true (M'.map ro)), some (.int s), some (.int o), x', none] := by
    intro p M s o x hM hs ho
    refine forL_rule (fun r => ∃ M' x', Mx n M' ∧ r = .nx [some p, some (.int n), some (.lst true (M'.map ro)), some (.int s), some (.int o), x', none]) (fun _ e => ∃ M' x', Mx n M' ∧ e = [some p, some (.int n), some (.lst true (M'.map ro)), some (.int s), some (.int o), x', none]) ⟨M, x, hM, rfl⟩ ?_ ?_
    · rintro k d e hk ⟨M1, x1, hM1, rfl⟩
      have hd := (rg_get hk).1
      have hk2 := (rg_get hk).2
      subst hd
      clear hk
      have hk3 : k < n := by omega
      simp only [put_v, stO_some, List.set_cons_succ, List.set_cons_zero]
      generalize he : [some p, some (D.int n), some (.lst true (M1.map ro)), some (.int s), some (.int o), some (D.int (0 + (k : Nat))), none] = e1
      have a2 : e1[2]? = some (some (.lst true (M1.map ro))) := by rw [← he]; rfl
      have i3 : ixAt (.s 3) e1 = some (s : Int) := by rw [← he]; rfl
      have i4 : ixAt (.s 4) e1 = some (o : Int) := by rw [← he]; rfl
      have i5 : ixAt (.s 5) e1 = some (k : Int) := by rw [← he]; simp [ixAt]
      have q1 := ix2_ok hM1.sq a2 i4 i5 ho hk3
      have q2 := ix2_ok hM1.sq a2 i4 i3 ho hs
      have q3 := ix2_ok hM1.sq a2 i3 i5 hs hk3
      have hm : ∃ v, 0 ≤ v ∧ (o = k → v = 0) ∧ (mOp2 min2D (.e (mIx2 2 (.s 4) (.s 5))) (.e (mOp2 addD (.e (mIx2 2 (.s 4) (.s 3))) (.e (mIx2 2 (.s 3) (.s 5)))))) e1 = .ok (.int v) e1 := by
        have n1 := hM1.nn o k
        have n2 := hM1.nn o s
        have n3 := hM1.nn s k
        refine ⟨if ent M1 o s + ent M1 s k < ent M1 o k then ent M1 o s + ent M1 s k else ent M1 o k, ?_, fun e => ?_, ?_⟩
        · split <;> omega
        · subst e
          have n4 := hM1.dg o
          split <;> omega
        · simp [q1, q2, q3]
      obtain ⟨v, hv, hv2, hm⟩ := hm
      obtain ⟨M2, hM2, h2⟩ := set2_ok hM1 hv hv2 hm a2 i4 i5 ho hk3
      unfold s_24_2
      rw [ap_seq, h2, ← he]
      simp only [RS.seq_nx, stP_nx, List.set_cons_succ, List.set_cons_zero]
      exact ⟨M2, _, hM2, rfl⟩
    · rintro e ⟨M1, x1, h1, rfl⟩
      exact ⟨M1, x1, h1, rfl⟩
  have rg : rngOk n = true := rngOk_s (by omega) (by omega)
  have l2 : ∀ (p : D) (M : List (List Int)) (s : Nat) (o x : Option D), Mx n M → s < n → ∃ M' o' x', Mx n M' ∧ forL (.v 4) s_24_3 (rangeD 0 n) [some p, some (.int n), some (.lst true (M.map ro)), some (.int s), o, x, none] = .nx [some p, some (.int n), some (.lst true (M'.map ro)), some (.int s), o', x', none] := by
    intro p M s o x hM hs
    refine forL_rule (fun r => ∃ M' o' x', Mx n M' ∧ r = .nx [some p, some (.int n), some (.lst true (M'.map ro)), some (.int s), o', x', none]) (fun _ e => ∃ M' o' x', Mx n M' ∧ e = [some p, some (.int n), some (.lst true (M'.map ro)), some (.int s), o', x', none]) ⟨M, o, x, hM, rfl⟩ ?_ ?_
    · rintro k d e hk ⟨M1, o1, x1, hM1, rfl⟩
      have hd := (rg_get hk).1
      have hk2 := (rg_get hk).2
      subst hd
      clear hk
      have hk3 : k < n := by omega
      obtain ⟨M2, x2, hM2, h2⟩ := l1 p M1 s k x1 hM1 hs hk3
      simp only [put_v, stO_some, List.set_cons_succ, List.set_cons_zero, Int.zero_add]
      have hs3 : s_24_3 [some p, some (.int n), some (.lst true (M1.map ro)), some (.int s), some (.int (k : Nat)), x1, none] = .nx [some p, some (.int n), some (.lst true (M2.map ro)), some (.int s), some (.int (k : Nat)), x2, none] := by
        unfold s_24_3
        simp [rg, h2]
      rw [hs3]
      exact ⟨M2, _, _, hM2, rfl⟩
    · rintro e ⟨M1, o1, x1, h1, rfl⟩
      exact ⟨M1, o1, x1, h1, rfl⟩
  have l3 : ∀ (p : D) (M : List (List Int)) (s o x : Option D), Mx n M → ∃ M' s' o' x', Mx n M' ∧ forL (.v 3) s_24_4 (rangeD 0 n) [some p, some (.int n), some (.lst true (M.map ro)), s, o, x, none] = .nx [some p, some (.int n), some (.lst true (M'.map ro)), s', o', x', none] := by
    intro p M s o x hM
    refine forL_rule (fun r => ∃ M' s' o' x', Mx n M' ∧ r = .nx [some p, some (.int n), some (.lst true (M'.map ro)), s', o', x', none]) (fun _ e => ∃ M' s' o' x', Mx n M' ∧ e = [some p, some (.int n), some (.lst true (M'.map ro)), s', o', x', none]) ⟨M, s, o, x, hM, rfl⟩ ?_ ?_
    · rintro k d e hk ⟨M1, s1, o1, x1, hM1, rfl⟩
      have hd := (rg_get hk).1
      have hk2 := (rg_get hk).2
      subst hd
      clear hk
      have hk3 : k < n := by omega
      obtain ⟨M2, o2, x2, hM2, h2⟩ := l2 p M1 k o1 x1 hM1 hk3
      simp only [put_v, stO_some, List.set_cons_succ, List.set_cons_zero, Int.zero_add]
      have hs4 : s_24_4 [some p, some (.int n), some (.lst true (M1.map ro)), some (.int (k : Nat)), o1, x1, none] = .nx [some p, some (.int n), some (.lst true (M2.map ro)), some (.int (k : Nat)), o2, x2, none] := by
        unfold s_24_4
        simp [rg, h2]
      rw [hs4]
      exact ⟨M2, _, _, _, hM2, rfl⟩
    · rintro e ⟨M1, s1, o1, x1, h1, rfl⟩
      exact ⟨M1, s1, o1, x1, h1, rfl⟩
  obtain ⟨M2, s2, o2, x2, hM2, h2⟩ := l3 (.lst false (M.map rz)) M none none none hM
  refine ⟨M2, hM2, ?_⟩
  have hl : M.length = n := hM.sq.1
  have hl2 : M2.length = n := hM2.sq.1
  have g1 := lc_list (e := []) (M := M) (acc := []) (o0 := some (.lst false (M.map rz))) (o1 := none) (o2 := none) (o3 := none) (o4 := none) (o5 := none) (by simp; omega)
  have g2 := lc_tup (e := []) (M := M2) (acc := []) (o0 := some (.lst false (M.map rz))) (o1 := some (.int n)) (o2 := some (.lst false (M2.map rz))) (o3 := s2) (o4 := o2) (o5 := x2) (by simp; omega)
  unfold c_24 callF m_24
  simp [fz_rows (o := true), frz_rows, g1, hl, rg, h2, frz_ro, g2, tupleD, frz_tups]
end LW

namespace LW
open PySem PySem.Spec L2 EV
/-- two lists of one length, entry by entry -/
def al2 {α β : Type} (P : α → β → Prop) : List α → List β → Prop
  | [], [] => True
  | x :: xs, y :: ys => P x y ∧ al2 P xs ys
  | _, _ => False
theorem al2.len {α β : Type} {P : α → β → Prop} : ∀ {xs : List α} {ys : List β}, al2 P xs ys → ys.length = xs.length
  | [], [], _ => rfl
  | _ :: _, _ :: _, h => congrArg (· + 1) (al2.len h.2)
  | [], _ :: _, h => h.elim
  | _ :: _, [], h => h.elim
theorem al2.get {α β : Type} {P : α → β → Prop} : ∀ {xs : List α} {ys : List β}, al2 P xs ys → ∀ {k : Nat} {x y}, xs[k]? = some x → ys[k]? = some y → P x y
  | [], [], _, k, _, _, h, _ => by simp at h
  | x :: xs, y :: ys, h, 0, _, _, h1, h2 => by
    injection h1 with h1
    injection h2 with h2
    subst h1 h2
    exact h.1
  | x :: xs, y :: ys, h, k + 1, _, _, h1, h2 => al2.get (xs := xs) (ys := ys) h.2 h1 h2
  | [], _ :: _, h, _, _, _, _, _ => h.elim
  | _ :: _, [], h, _, _, _, _, _ => h.elim
/-- a comprehension that draws from the box, entry by entry -/
theorem lc_rel {α β : Type} {own : List Nat} {tg : CT} {elt : ME} {E : Int → Int → DEnv} (E1 : Int → Int → α → DEnv) (P : α → β → Prop) (fa : α → D) (fb : β → D) : ∀ (xs : List α) (acc : List D) (a b : Int), acc.length + xs.length < 1000 →
    (∀ x ∈ xs, ∀ a b, put tg (fa x) (E a b) = some (E1 a b x) ∧ ∃ y a' b' e3, P x y ∧ elt (E1 a b x) = .ok (fb y) e3 ∧ wipeE own e3 = E a' b') →
    ∃ (a' b' : Int) (ys : List β), al2 P xs ys ∧ lcL own tg mTrue elt (xs.map fa) acc (E a b) = .ok (acc ++ ys.map fb) (E a' b')
  | [], acc, a, b, _, _ => ⟨a, b, [], trivial, by simp [lcL]⟩
  | x :: xs, acc, a, b, hl, h => by
    obtain ⟨h0, y, a1, b1, e3, h1, h2, h3⟩ := h x (List.mem_cons_self ..) a b
    simp only [List.length_cons] at hl
    obtain ⟨a2, b2, ys, h4, h5⟩ := lc_rel (own := own) (tg := tg) (elt := elt) (E := E) E1 P fa fb xs (acc ++ [fb y]) a1 b1 (by simp; omega) fun z hz => h z (List.mem_cons_of_mem _ hz)
    refine ⟨a2, b2, y :: ys, ⟨h1, h4⟩, ?_⟩
    have hlt : acc.length < LIM := by rw [LIM_is]; omega
    rw [List.map_cons]
    unfold lcL
    rw [h0]
    simp only [ap_true, h2, hlt, if_true, h3, h5]
    simp
/-- a comprehension that filters and maps, its frame kept -/
theorem lc_gen {own : List Nat} {tg : CT} {cond elt : ME} {E : DEnv} (E1 : D → DEnv) (p : D → Bool) (f : D → D) : ∀ (ds acc : List D), acc.length + ds.length ≤ 1000 →
    (∀ d ∈ ds, put tg d E = some (E1 d) ∧ cond (E1 d) = .ok (.bl (p d)) (E1 d) ∧ (p d = true → elt (E1 d) = .ok (f d) (E1 d)) ∧ wipeE own (E1 d) = E) → lcL own tg cond elt ds acc E = .ok (acc ++ (ds.filter p).map f) E
  | [], acc, _, _ => by simp [lcL]
  | d :: ds, acc, hl, h => by
    obtain ⟨h1, h2, h3, h4⟩ := h d (List.mem_cons_self ..)
    simp only [List.length_cons] at hl
    unfold lcL
    rw [h1]
    simp only
    rw [h2]
    cases hp : p d with
    | true =>
      simp only
      rw [h3 hp]
      have hlt : acc.length < LIM := by rw [LIM_is]; omega
      simp only [hlt, if_true, h4]
      rw [lc_gen E1 p f ds (acc ++ [f d]) (by simp; omega) fun x hx => h x (List.mem_cons_of_mem _ hx)]
      rw [List.filter_cons_of_pos hp]
      simp
    | false =>
      simp only [h4]
      rw [lc_gen E1 p f ds acc (by omega) fun x hx => h x (List.mem_cons_of_mem _ hx)]
      rw [List.filter_cons_of_neg (by simp [hp])]
abbrev nD (n : Nat) : D := .int (n : Nat)
abbrev iL (L : List Nat) : List D := L.map nD
theorem rangeD_eq : ∀ (n : Nat), rangeD 0 (n : Nat) = iL (List.range n) := fun n => by
  refine List.ext_getElem? fun k => ?_
  by_cases hk : k < n
  · have hl : k < (rangeD 0 (n : Nat)).length := by rw [rg_len]; omega
    rw [List.getElem?_eq_getElem hl]
    have h1 := (rg_get (List.getElem?_eq_getElem hl)).1
    rw [h1, List.getElem?_map, List.getElem?_range hk, Int.zero_add]
    rfl
  · rw [List.getElem?_eq_none (by rw [rg_len]; omega), List.getElem?_eq_none (by rw [List.length_map, List.length_range]; omega)]
/-- None or a whole number -/
def coV : Option Int → D
  | none => .non
  | some i => .int i
abbrev coR (r : List (Option Int)) : D := .tup (r.map coV)
theorem co_fz (c : Option Int) : fz (coV c) = true := by cases c <;> rfl
theorem cos_fz (r : List (Option Int)) : fzs (r.map coV) = true := fzs_of fun d hd => by
  obtain ⟨c, _, rfl⟩ := List.mem_map.mp hd
  exact co_fz c
theorem isN_co (c : Option Int) : isN (coV c) = c.isNone := by cases c <;> rfl
theorem cosr_fz (C : List (List (Option Int))) : fzs (C.map coR) = true := fzs_of fun d hd => by
  obtain ⟨c, _, rfl⟩ := List.mem_map.mp hd
  exact cos_fz c
abbrev sv (a b : Int) (st ta de : Int) (x4 x5 x6 x7 x8 x9 x10 : Option D) : DEnv := [some (bx a b), some (.int st), some (.int ta), some (.int de), x4, x5, x6, x7, x8, x9, x10]
theorem row_lc {st o : Nat} {ta de : Int} {x4 x5 x7 x8 x10 : Option D} (hd : 0 ≤ de) (hd2 : de < 1000) (hst : st < 1000) (a b : Int) :
    ∃ (a' b' : Int) (r : List Int), al2 (fun (k : Nat) (y : Int) => 0 ≤ y ∧ (k = o → y = 0)) (List.range st) r ∧ lcL [9] (.v 9) mTrue q_25_5 (rangeD 0 st) [] (sv a b st ta de x4 x5 (some (nD o)) x7 x8 none x10) = .ok (r.map D.int) (sv a' b' st ta de x4 x5 (some (nD o)) x7 x8 none x10) := by
  rw [rangeD_eq]
  refine lc_rel (E := fun a b => sv a b st ta de x4 x5 (some (nD o)) x7 x8 none x10) (fun a b k => sv a b st ta de x4 x5 (some (nD o)) x7 x8 (some (nD k)) x10) _ nD D.int (List.range st) [] a b (by simp; omega) (fun k _ a b => ⟨rfl, ?_⟩)
  by_cases ho : o = k
  · refine ⟨0, a, b, sv a b st ta de x4 x5 (some (nD o)) x7 x8 (some (nD k)) x10, ⟨Int.le_refl _, fun _ => rfl⟩, ?_, rfl⟩
    unfold q_25_5
    simp [ho]
  · obtain ⟨v, a2, b2, h3, h4, h5⟩ := take_ok a b (de + 1) (by omega) (by omega)
    refine ⟨v, a2, b2, sv a2 b2 st ta de x4 x5 (some (nD o)) x7 x8 (some (nD k)) x10, ⟨h3, fun e => absurd e.symm ho⟩, ?_, rfl⟩
    unfold q_25_5
    have ho' : ((o : Int) == (k : Int)) = false := by
      rw [beq_eq_false_iff_ne]; omega
    simp [ho', h5]
def rOk (st o : Nat) (r : List Int) : Prop := r.length = st ∧ (∀ j, 0 ≤ r.getD j 0) ∧ r.getD o 0 = 0
theorem rOk_of {st o : Nat} {r : List Int} (h : al2 (fun (k : Nat) (y : Int) => 0 ≤ y ∧ (k = o → y = 0)) (List.range st) r) : rOk st o r := by
  have hl : r.length = st := by rw [h.len, List.length_range]
  have key : ∀ j, 0 ≤ r.getD j 0 ∧ (j = o → r.getD j 0 = 0) := fun j => by
    rw [List.getD_eq_getElem?_getD]
    by_cases hj : j < st
    · have hj2 : j < r.length := by omega
      have := h.get (List.getElem?_range hj) (List.getElem?_eq_getElem hj2)
      rw [List.getElem?_eq_getElem hj2]
      exact this
    · rw [List.getElem?_eq_none (by omega)]
      exact ⟨Int.le_refl _, fun _ => rfl⟩
  exact ⟨hl, fun j => (key j).1, (key o).2 rfl⟩
theorem rows_loop {st : Nat} {ta de : Int} (hd : 0 ≤ de) (hd2 : de < 1000) (hst : st < 1000) (a b : Int) :
    ∃ (a' b' : Int) (M : List (List Int)) (x6 : Option D), (x6 = none ∨ ∃ i : Int, x6 = some (.int i)) ∧ Mx st M ∧ forL (.v 6) s_25_6 (rangeD 0 st) (sv a b st ta de (some (.lst true [])) (some (.lst true [])) none none none none none) = .nx (sv a' b' st ta de (some (.lst true (M.map rz))) (some (.lst true [])) x6 none none none none) := by
  have H := forL_rule (tg := .v 6) (m := s_25_6) (fun r => ∃ (a' b' : Int) (M : List (List Int)) (x6 : Option D), (x6 = none ∨ ∃ i : Int, x6 = some (.int i)) ∧ (M.length = st ∧ ∀ i r, M[i]? = some r → rOk st i r) ∧ r = .nx (sv a' b' st ta de (some (.lst true (M.map rz))) (some (.lst true [])) x6 none none none none)) (ds := rangeD 0 st)
    (fun k e => ∃ (a' b' : Int) (M : List (List Int)) (x6 : Option D), (x6 = none ∨ ∃ i : Int, x6 = some (.int i)) ∧ M.length = k ∧ (∀ i r, M[i]? = some r → rOk st i r) ∧ e = sv a' b' st ta de (some (.lst true (M.map rz))) (some (.lst true [])) x6 none none none none)
    (e := sv a b st ta de (some (.lst true [])) (some (.lst true [])) none none none none none) ⟨a, b, [], none, .inl rfl, rfl, (fun i r hr => by simp at hr), rfl⟩ ?_ ?_
  · obtain ⟨a', b', M, x6, h6, ⟨h1, h2⟩, h3⟩ := H
    have hent : ∀ i j, 0 ≤ ent M i j ∧ ent M i i = 0 := fun i j => by
      unfold ent
      have e : M.getD i [] = (M[i]?).getD [] := List.getD_eq_getElem?_getD
      rw [e]
      cases q : M[i]? with
      | none => exact ⟨by simp, by simp⟩
      | some r =>
        have := h2 i r q
        exact ⟨this.2.1 j, this.2.2⟩
    refine ⟨a', b', M, x6, h6, ⟨⟨h1, fun r hr => ?_⟩, fun i j => (hent i j).1, fun i => (hent i i).2⟩, h3⟩
    obtain ⟨k, hk⟩ := List.getElem?_of_mem hr
    exact (h2 k r hk).1
  · rintro k d e hk ⟨a1, b1, M, x6, h6, hM, hr, rfl⟩
    obtain ⟨hd', hk2⟩ := rg_get hk
    subst hd'
    clear hk
    obtain ⟨a2, b2, r, h1, h2⟩ := row_lc (st := st) (ta := ta) (de := de) (o := k) (x4 := some (.lst true (M.map rz))) (x5 := some (.lst true [])) (x7 := none) (x8 := none) (x10 := none) hd hd2 hst a1 b1
    have rg : rngOk st = true := rngOk_s (by omega) (by omega)
    have hs : s_25_6 (sv a1 b1 st ta de (some (.lst true (M.map rz))) (some (.lst true [])) (some (nD k)) none none none none) = .nx (sv a2 b2 st ta de (some (.lst true ((M ++ [r]).map rz))) (some (.lst true [])) (some (nD k)) none none none none) := by
      have hl : M.length < 1000000 := by omega
      unfold s_25_6
      simp [rg, h2, frzs_ints, hl]
    simp only [put_v, stO_some, Int.zero_add, List.set_cons_succ, List.set_cons_zero]
    rw [hs]
    refine ⟨a2, b2, M ++ [r], _, .inr ⟨_, rfl⟩, by simp [hM], fun i q hq => ?_, rfl⟩
    by_cases hi : i < M.length
    · rw [List.getElem?_append_left hi] at hq
      exact hr i q hq
    · rw [List.getElem?_append_right (by omega)] at hq
      have e : i - M.length = 0 := by
        cases hh : i - M.length with
        | zero => rfl
        | succ n => rw [hh] at hq; simp at hq
      rw [e] at hq
      injection hq with hq
      subst hq
      have : i = k := by omega
      subst this
      exact rOk_of h1
  · rintro e ⟨a1, b1, M, x6, h6, hM, hr, rfl⟩
    exact ⟨a1, b1, M, x6, h6, ⟨by rw [hM, rg_len]; omega, hr⟩, rfl⟩
end LW

namespace LW
open PySem PySem.Spec L2 EV
theorem cost_lc {st : Nat} {ta de : Int} {x4 x5 x7 x8 x9 x10 : Option D} (hd : 0 ≤ de) (hd2 : de < 1000) (hst : st < 1000) (a b : Int) :
    ∃ (a' b' : Int) (r : List (Option Int)), r.length = st ∧ lcL [6] (.v 6) mTrue q_25_3 (rangeD 0 st) [] (sv a b st ta de x4 x5 none x7 x8 x9 x10) = .ok (r.map coV) (sv a' b' st ta de x4 x5 none x7 x8 x9 x10) := by
  rw [rangeD_eq]
  obtain ⟨a', b', r, h1, h2⟩ := lc_rel (own := [6]) (tg := .v 6) (elt := q_25_3) (E := fun a b => sv a b st ta de x4 x5 none x7 x8 x9 x10) (fun a b k => sv a b st ta de x4 x5 (some (nD k)) x7 x8 x9 x10) (fun (_ : Nat) (_ : Option Int) => True) nD coV (List.range st) [] a b (by simp; omega) (fun k _ a b => ⟨rfl, by
    obtain ⟨v, a1, b1, h1, h2, h3⟩ := take_ok a b 5 (by omega) (by omega)
    by_cases hv : v = 0
    · refine ⟨none, a1, b1, sv a1 b1 st ta de x4 x5 (some (nD k)) x7 x8 x9 x10, trivial, ?_, rfl⟩
      unfold q_25_3
      simp [h3, hv, coV]
    · obtain ⟨v2, a2, b2, h4, h5, h6⟩ := take_ok a1 b1 (de + 1) (by omega) (by omega)
      refine ⟨some v2, a2, b2, sv a2 b2 st ta de x4 x5 (some (nD k)) x7 x8 x9 x10, trivial, ?_, rfl⟩
      have hv' : (v == 0) = false := by simpa using hv
      unfold q_25_3
      simp [h3, hv', h6, coV]⟩)
  exact ⟨a', b', r, by rw [h1.len, List.length_range], h2⟩
def pCo : D → Bool := fun d => !isN d
theorem filt_co : ∀ (r : List (Option Int)), ((r.map coV).filter pCo).map id = (r.filter Option.isSome).map coV
  | [] => rfl
  | s :: r => by
    have h : pCo (coV s) = s.isSome := by
      show (!isN (coV s)) = _
      rw [isN_co]; cases s <;> rfl
    rw [List.map_cons]
    by_cases hs : s.isSome = true
    · rw [List.filter_cons_of_pos (by rw [h]; exact hs), List.filter_cons_of_pos (by exact hs), List.map_cons, List.map_cons, filt_co r]; rfl
    · rw [List.filter_cons_of_neg (by rw [h]; exact hs), List.filter_cons_of_neg (by exact hs), filt_co r]
theorem eq_cos {o o2 : Bool} {r : List (Option Int)} : eqD (.lst o (r.map coV)) (.lst o2 []) = some (.bl r.isEmpty) := by
  have h : ∀ r : List (Option Int), eqOks 59 (r.map coV) = true := fun r => by
    induction r with
    | nil => rfl
    | cons s r ih =>
      show (eqOk 59 (coV s) && eqOks 59 (r.map coV)) = true
      rw [ih]; cases s <;> rfl
  show (if eqOks 59 (r.map coV) && eqOks 59 [] then some (D.bl (eqvDs (r.map coV) [])) else none) = _
  rw [h]
  cases r <;> rfl
/-- a row of costs -/
def cOk (st : Nat) (r : List (Option Int)) : Prop := r.length = st ∧ ∃ i, some i ∈ r
theorem costs_step {st : Nat} {ta de : Int} {x4 x6 x8 x9 : Option D} {t : Int} {cs : List (List (Option Int))} (hd : 0 ≤ de) (hd2 : de < 1000) (hst : st < 1000) (hst0 : 0 < st) (hc : cs.length < 1000) (h6 : x6 = none ∨ ∃ i : Int, x6 = some (.int i)) (a b : Int) :
    ∃ (a' b' : Int) (ds : List (Option Int)) (x8' : Option D), cOk st ds ∧ s_25_4 (sv a b st ta de x4 (some (.lst true (cs.map coR))) x6 (some (.int t)) x8 x9 none) = .nx (sv a' b' st ta de x4 (some (.lst true ((cs ++ [ds]).map coR))) x6 (some (.int t)) x8' x9 none) := by
  obtain ⟨a1, b1, row, h1, h3⟩ := cost_lc (st := st) (ta := ta) (de := de) (x4 := x4) (x5 := some (.lst true (cs.map coR))) (x7 := some (.int t)) (x8 := x8) (x9 := x9) (x10 := none) hd hd2 hst a b
  have rg : rngOk st = true := rngOk_s (by omega) (by omega)
  have hl : cs.length < 1000000 := by omega
  have hz := cos_fz row
  have hf := frzs_of hz
  have lc := fun (y6 : Option D) => lc_gen (own := [10]) (tg := .v 10) (cond := t_25_2) (elt := q_25_1) (E := sv a1 b1 st ta de x4 (some (.lst true (cs.map coR))) y6 (some (.int t)) none x9 none) (fun d => sv a1 b1 st ta de x4 (some (.lst true (cs.map coR))) y6 (some (.int t)) none x9 (some d)) pCo id (row.map coV) [] (by simp; omega) (fun x hx => by
    obtain ⟨g, _, rfl⟩ := List.mem_map.mp hx
    refine ⟨by simp, ?_, fun _ => ?_, rfl⟩
    · unfold t_25_2
      cases g <;> simp [coV, pCo]
    · unfold q_25_1
      cases g <;> simp [coV])
  simp only [List.nil_append, filt_co] at lc
  have zf := cos_fz (row.filter Option.isSome)
  have ff := frzs_of zf
  have hq := eq_cos (o := false) (o2 := false) (r := row.filter Option.isSome)
  cases he : (row.filter Option.isSome).isEmpty with
  | false =>
    rw [he] at hq
    have hx : ∃ x, some x ∈ row := by
      cases hf : row.filter Option.isSome with
      | nil => rw [hf] at he; cases he
      | cons x xs =>
        have hm := List.mem_filter.mp (show x ∈ row.filter Option.isSome by rw [hf]; exact List.mem_cons_self ..)
        cases x with
        | none => exact absurd hm.2 (by simp)
        | some x => exact ⟨x, hm.1⟩
    refine ⟨a1, b1, row, some (.lst true (row.map coV)), ⟨h1, hx⟩, ?_⟩
    generalize row.filter Option.isSome = Fl at *
    unfold s_25_4
    rcases h6 with rfl | ⟨i, rfl⟩ <;> simp [rg, h3, lc, hz, hf, zf, ff, hq, hl, tupleD]
  | true =>
    rw [he] at hq
    obtain ⟨v, a2, b2, _, _, h8⟩ := take_ok a1 b1 (de + 1) (by omega) (by omega)
    obtain ⟨w, a3, b3, h9, h10, h11⟩ := take_ok a2 b2 st (by omega) (by omega)
    have hw : w.toNat < row.length := by omega
    have hix : ixN row.length w = some w.toNat := by
      have : w < (row.length : Int) := by omega
      simp [ixN, h9, this]
    have hset : (row.map coV).set w.toNat (.int v) = (row.set w.toNat (some v)).map coV := by rw [List.map_set]; rfl
    have hz' : fzs ((row.map coV).set w.toNat (.int v)) = true := by rw [hset]; exact cos_fz _
    have hf' := frzs_of hz'
    refine ⟨a3, b3, row.set w.toNat (some v), some (.lst true ((row.set w.toNat (some v)).map coV)), ⟨by rw [List.length_set]; exact h1, v, List.mem_iff_getElem.mpr ⟨w.toNat, by rw [List.length_set]; exact hw, List.getElem_set_self _⟩⟩, ?_⟩
    rw [List.map_append, List.map_cons, List.map_nil]
    show _ = RS.nx (sv a3 b3 st ta de x4 (some (.lst true (cs.map coR ++ [.tup ((row.set w.toNat (some v)).map coV)]))) x6 (some (.int t)) (some (.lst true ((row.set w.toNat (some v)).map coV))) x9 none)
    rw [← hset]
    generalize row.filter Option.isSome = Fl at *
    unfold s_25_4
    rcases h6 with rfl | ⟨i, rfl⟩ <;> simp [rg, h3, lc, hz, hf, zf, ff, hq, h8, h11, hix, hz', hf', hl, tupleD]
theorem costs_loop {st tk : Nat} {de : Int} {x4 x6 : Option D} (hd : 0 ≤ de) (hd2 : de < 1000) (hst : st < 1000) (hst0 : 0 < st) (htk : tk < 1000) (h6 : x6 = none ∨ ∃ i : Int, x6 = some (.int i)) (a b : Int) :
    ∃ (a' b' : Int) (cs : List (List (Option Int))) (x7' x8' : Option D), cs.length = tk ∧ (∀ r ∈ cs, cOk st r) ∧ forL (.v 7) s_25_4 (rangeD 0 tk) (sv a b st tk de x4 (some (.lst true [])) x6 none none none none) = .nx (sv a' b' st tk de x4 (some (.lst true (cs.map coR))) x6 x7' x8' none none) := by
  refine forL_rule (tg := .v 7) (m := s_25_4) (fun r => ∃ (a' b' : Int) (cs : List (List (Option Int))) (x7' x8' : Option D), cs.length = tk ∧ (∀ r ∈ cs, cOk st r) ∧ r = .nx (sv a' b' st tk de x4 (some (.lst true (cs.map coR))) x6 x7' x8' none none)) (ds := rangeD 0 tk)
    (fun k e => ∃ (a' b' : Int) (cs : List (List (Option Int))) (x7' x8' : Option D), cs.length = k ∧ (∀ r ∈ cs, cOk st r) ∧ e = sv a' b' st tk de x4 (some (.lst true (cs.map coR))) x6 x7' x8' none none)
    ⟨a, b, [], none, none, rfl, (fun r hr => nomatch hr), rfl⟩ ?_ ?_
  · rintro k d e hk ⟨a1, b1, cs, y7, y8, hc, hr, rfl⟩
    obtain ⟨hd', hk2⟩ := rg_get hk
    subst hd'
    clear hk
    obtain ⟨a2, b2, ds, z8, h1, h2⟩ := costs_step (st := st) (ta := tk) (de := de) (x4 := x4) (x6 := x6) (x8 := y8) (x9 := none) (t := (k : Nat)) (cs := cs) hd hd2 hst hst0 (by omega) h6 a1 b1
    simp only [put_v, stO_some, Int.zero_add, List.set_cons_succ, List.set_cons_zero]
    rw [h2]
    refine ⟨a2, b2, cs ++ [ds], _, z8, by simp [hc], fun q hq => ?_, rfl⟩
    rcases List.mem_append.mp hq with hq | hq
    · exact hr q hq
    · rw [List.mem_singleton.mp hq]; exact h1
  · rintro e ⟨a1, b1, cs, y7, y8, hc, hr, rfl⟩
    exact ⟨a1, b1, cs, y7, y8, by rw [hc, rg_len]; omega, hr, rfl⟩
/-- a service -/
structure Sv (st tk : Nat) (M : List (List Int)) (C : List (List (Option Int))) : Prop where
  mx : Mx st M
  tl : C.length = tk
  co : ∀ r ∈ C, cOk st r
abbrev svD (M : List (List Int)) (C : List (List (Option Int))) : D := .tup [.tup (M.map rt), .tup (C.map coR)]
theorem sv_fz (M : List (List Int)) (C : List (List (Option Int))) : fz (svD M C) = true := by
  show (fzs _ && (fzs _ && true)) = true
  rw [fz_tups, cosr_fz]; rfl
theorem service_ok {st tk : Nat} {de : Int} (hd : 0 ≤ de) (hd2 : de < 1000) (hst : st < 1000) (hst0 : 0 < st) (htk : tk < 1000) (a b : Int) :
    ∃ (a' b' : Int) (M : List (List Int)) (C : List (List (Option Int))), Sv st tk M C ∧ c_25 [bx a b, .int st, .int tk, .int de] = .ok (svD M C) [bx a' b'] := by
  obtain ⟨a1, b1, M, x6, h6, hM, h1⟩ := rows_loop (st := st) (ta := tk) hd hd2 hst a b
  obtain ⟨a2, b2, cs, y7, y8, hc, hr, h2⟩ := costs_loop (st := st) (tk := tk) (x4 := some (.lst true (M.map rz))) (x6 := x6) hd hd2 hst hst0 htk h6 a1 b1
  obtain ⟨M', hM', h3⟩ := closed_ok hM hst
  have g1 : rngOk st = true := rngOk_s (by omega) (by omega)
  have g2 : rngOk tk = true := rngOk_s (by omega) (by omega)
  have hz := cosr_fz cs
  have hf := frzs_of hz
  refine ⟨a2, b2, M', cs, ⟨hM', hc, hr⟩, ?_⟩
  unfold c_25 callF m_25
  simp [g1, g2, h1, h2, h3, hz, hf, tupleD]
end LW

namespace LW
open PySem PySem.Spec L2 EV
/-- a sign of a room: none; or task, wrong, the room behind -/
abbrev Sg := Option (Nat × Int × Nat)
def sgD : Sg → D
  | none => .non
  | some (t, w, g) => .tup [nD t, .int w, nD g]
abbrev Rm := List Sg
abbrev rmD (r : Rm) : D := .tup (r.map sgD)
abbrev bkD (B : List Rm) : D := .tup (B.map rmD)
theorem sg_fz (s : Sg) : fz (sgD s) = true := by
  cases s with
  | none => rfl
  | some x => obtain ⟨t, w, g⟩ := x; rfl
theorem sgs_fz (r : Rm) : fzs (r.map sgD) = true := fzs_of fun d hd => by
  obtain ⟨s, _, rfl⟩ := List.mem_map.mp hd
  exact sg_fz s
theorem rms_fz (B : List Rm) : fzs (B.map rmD) = true := fzs_of fun d hd => by
  obtain ⟨s, _, rfl⟩ := List.mem_map.mp hd
  exact sgs_fz s
theorem isN_sg (s : Sg) : isN (sgD s) = s.isNone := by
  cases s with
  | none => rfl
  | some x => rfl
theorem iL_fz (L : List Nat) : fzs (iL L) = true := fzs_of fun d hd => by
  obtain ⟨i, _, rfl⟩ := List.mem_map.mp hd
  rfl
/-- a sign of that task that leads to a room -/
def gOk (t rooms : Nat) (s : Sg) : Prop := ∀ t' w g, s = some (t', w, g) → t' = t ∧ g < rooms
theorem numD_eq (ds : List D) : ∀ k, numD k ds = (ds.zipIdx k).map fun p => .tup [nD p.2, p.1] := by
  induction ds with
  | nil => intro k; rfl
  | cons d ds ih => intro k; rw [List.zipIdx_cons, List.map_cons, ← ih]; rfl
abbrev cf (a b : Int) (m tk rs : Int) (x5 x6 : Option D) (asks : List Nat) (x8 x9 x10 x11 x12 x13 : Option D) : DEnv := [some (bx a b), some (.int 3), some (.int m), some (.int tk), some (.int rs), x5, x6, some (.lst false (iL asks)), x8, x9, x10, x11, x12, x13]
abbrev cfo (o : Bool) (a b : Int) (m tk rs : Int) (x5 x6 : Option D) (asks : List Nat) (x8 x9 x10 x11 x12 x13 : Option D) : DEnv := [some (bx a b), some (.int 3), some (.int m), some (.int tk), some (.int rs), x5, x6, some (.lst o (iL asks)), x8, x9, x10, x11, x12, x13]
theorem sign_step {m tk rs : Int} {rooms : Nat} {x5 x6 x8 x13 : Option D} {asks : List Nat} {room k t : Nat} {r : Rm} (hrs : rs = (rooms : Nat)) (h0 : 0 < rooms) (h1 : rooms < 100) (hl : r.length < 100) (a b : Int) :
    ∃ (a' b' : Int) (s : Sg) (y13 : Option D), gOk t rooms s ∧ s_26_1 (cf a b m tk rs x5 x6 asks x8 (some (nD room)) (some (.lst true (r.map sgD))) (some (nD k)) (some (nD t)) x13) = .nx (cf a' b' m tk rs x5 x6 asks x8 (some (nD room)) (some (.lst true ((r ++ [s]).map sgD))) (some (nD k)) (some (nD t)) y13) := by
  subst hrs
  obtain ⟨v, a1, b1, _, _, t1⟩ := take_ok a b 6 (by omega) (by omega)
  obtain ⟨w, a2, b2, hw, t2⟩ := pick_ok a1 b1 true [.int 0, .int 0, .int 1, .int 2] (by simp) (by simp) rfl
  obtain ⟨g, a3, b3, g1, g2, t3⟩ := take_ok a2 b2 (rooms : Nat) (by omega) (by omega)
  obtain ⟨g, rfl⟩ : ∃ n : Nat, g = (n : Nat) := ⟨g.toNat, by omega⟩
  obtain ⟨w, rfl⟩ : ∃ i : Int, w = .int i := by
    simp only [List.mem_cons, List.not_mem_nil, or_false] at hw
    rcases hw with rfl | rfl | rfl | rfl <;> exact ⟨_, rfl⟩
  have zr := sgs_fz r
  have hl2 : r.length < 1000000 := by omega
  by_cases hv : 0 < v
  · refine ⟨a3, b3, some (t, w, g), some (.bl true), fun t' w' g' e => by injection e with e; injection e with e1 e2; injection e2 with e2 e3; omega, ?_⟩
    unfold s_26_1
    simp [t1, hv, t2, t3, zr, hl2, sgD]
  · by_cases hk : ((room : Int) + (k : Int) == 0) = true
    · refine ⟨a3, b3, some (t, w, g), some (.bl true), fun t' w' g' e => by injection e with e; injection e with e1 e2; injection e2 with e2 e3; omega, ?_⟩
      unfold s_26_1
      simp [-beq_iff_eq, t1, hv, hk, t2, t3, zr, hl2, sgD]
    · have hk : ((room : Int) + (k : Int) == 0) = false := by simpa using hk
      refine ⟨a1, b1, none, some (.bl false), (fun t' w' g' e => nomatch e), ?_⟩
      unfold s_26_1
      simp [-beq_iff_eq, t1, hv, hk, t2, t3, zr, hl2, sgD]
theorem row_loop {m tk rs : Int} {rooms : Nat} {x5 x6 x8 x11 x12 x13 : Option D} {asks : List Nat} {room : Nat} (hrs : rs = (rooms : Nat)) (h0 : 0 < rooms) (h1 : rooms < 100) (hl : asks.length < 100) (a b : Int) :
    ∃ (a' b' : Int) (r : Rm) (y11 y12 y13 : Option D), (r.length = asks.length ∧ ∀ (k t : Nat) s, asks[k]? = some t → r[k]? = some s → gOk t rooms s) ∧ forL (.t [.v 11, .v 12]) s_26_1 (numD 0 (iL asks)) (cf a b m tk rs x5 x6 asks x8 (some (nD room)) (some (.lst true [])) x11 x12 x13) = .nx (cf a' b' m tk rs x5 x6 asks x8 (some (nD room)) (some (.lst true (r.map sgD))) y11 y12 y13) := by
  have H := forL_rule (tg := .t [.v 11, .v 12]) (m := s_26_1) (fun R => ∃ (a' b' : Int) (r : Rm) (y11 y12 y13 : Option D), (r.length = asks.length ∧ ∀ (k t : Nat) s, asks[k]? = some t → r[k]? = some s → gOk t rooms s) ∧ R = .nx (cf a' b' m tk rs x5 x6 asks x8 (some (nD room)) (some (.lst true (r.map sgD))) y11 y12 y13)) (ds := numD 0 (iL asks))
    (fun j e => ∃ (a' b' : Int) (r : Rm) (y11 y12 y13 : Option D), (r.length = j ∧ j ≤ asks.length ∧ ∀ (k t : Nat) s, asks[k]? = some t → r[k]? = some s → gOk t rooms s) ∧ e = cf a' b' m tk rs x5 x6 asks x8 (some (nD room)) (some (.lst true (r.map sgD))) y11 y12 y13)
    (e := cf a b m tk rs x5 x6 asks x8 (some (nD room)) (some (.lst true [])) x11 x12 x13) ⟨a, b, [], x11, x12, x13, ⟨rfl, Nat.zero_le _, fun k t s _ h => by simp at h⟩, rfl⟩ ?_ ?_
  · exact H
  · rintro j d e hd ⟨a1, b1, r, y11, y12, y13, ⟨hr, hj, hg⟩, rfl⟩
    obtain ⟨x, hx, rfl⟩ := numD_nth hd
    rw [List.getElem?_map] at hx
    cases ht : asks[j]? with
    | none => rw [ht] at hx; cases hx
    | some t =>
      rw [ht] at hx
      injection hx with hx
      subst hx
      have hj2 := (List.getElem?_eq_some_iff.mp ht).1
      obtain ⟨a2, b2, s, z13, h2, h3⟩ := sign_step (m := m) (tk := tk) (x5 := x5) (x6 := x6) (x8 := x8) (x13 := y13) (asks := asks) (room := room) (k := j) (t := t) (r := r) hrs h0 h1 (by omega) a1 b1
      simp only [put_t, puts_cons, put_v, Option.bind_some, puts_nil, stO_some, List.set_cons_succ, List.set_cons_zero]
      rw [h3]
      refine ⟨a2, b2, r ++ [s], _, _, z13, ⟨by simp [hr], hj2, fun k t' s' hk hs => ?_⟩, rfl⟩
      by_cases hkl : k < r.length
      · rw [List.getElem?_append_left hkl] at hs
        exact hg k t' s' hk hs
      · rw [List.getElem?_append_right (by omega)] at hs
        have e0 : k - r.length = 0 := by
          cases hh : k - r.length with
          | zero => rfl
          | succ n => rw [hh] at hs; simp at hs
        rw [e0] at hs
        injection hs with hs
        subst hs
        have : k = j := by omega
        subst this
        rw [ht] at hk
        injection hk with hk
        subst hk
        exact h2
  · rintro e ⟨a1, b1, r, y11, y12, y13, ⟨hr, hj, hg⟩, rfl⟩
    rw [numD_len, List.length_map] at hr
    exact ⟨a1, b1, r, y11, y12, y13, ⟨hr, hg⟩, rfl⟩
/-- the case that the law draws -/
structure Cw (m tk rooms : Nat) (M : List (List Int)) (C : List (List (Option Int))) (B : List Rm) (asks : List Nat) : Prop where
  sv : Sv m tk M C
  m0 : 0 < m
  m1 : m ≤ 3
  t1 : tk ≤ 2
  r0 : 0 < rooms
  r1 : rooms ≤ 2
  s1 : asks.length ≤ 3
  at_ : ∀ t ∈ asks, t < tk
  bl : B.length = rooms
  rl : ∀ r ∈ B, r.length = asks.length
  go : ∀ r ∈ B, ∀ (k t : Nat) s, asks[k]? = some t → r[k]? = some s → gOk t rooms s
theorem book_loop {o0 : Bool} {m tk rs : Int} {rooms : Nat} {x5 x6 : Option D} {asks : List Nat} (hrs : rs = (rooms : Nat)) (h0 : 0 < rooms) (h1 : rooms < 100) (hl : asks.length < 100) (a b : Int) :
    ∃ (o : Bool) (a' b' : Int) (B : List Rm) (y9 y10 y11 y12 y13 : Option D), B.length = rooms ∧ (∀ r ∈ B, r.length = asks.length) ∧ (∀ r ∈ B, ∀ (k t : Nat) s, asks[k]? = some t → r[k]? = some s → gOk t rooms s) ∧ forL (.v 9) s_26_2 (rangeD 0 rs) (cfo o0 a b m tk rs x5 x6 asks (some (.lst true [])) none none none none none) = .nx (cfo o a' b' m tk rs x5 x6 asks (some (.lst true (B.map rmD))) y9 y10 y11 y12 y13) := by
  have H := forL_rule (tg := .v 9) (m := s_26_2) (fun R => ∃ (o : Bool) (a' b' : Int) (B : List Rm) (y9 y10 y11 y12 y13 : Option D), B.length = rooms ∧ (∀ r ∈ B, r.length = asks.length) ∧ (∀ r ∈ B, ∀ (k t : Nat) s, asks[k]? = some t → r[k]? = some s → gOk t rooms s) ∧ R = .nx (cfo o a' b' m tk rs x5 x6 asks (some (.lst true (B.map rmD))) y9 y10 y11 y12 y13)) (ds := rangeD 0 rs)
    (fun j e => ∃ (o : Bool) (a' b' : Int) (B : List Rm) (y9 y10 y11 y12 y13 : Option D), B.length = j ∧ (∀ r ∈ B, r.length = asks.length) ∧ (∀ r ∈ B, ∀ (k t : Nat) s, asks[k]? = some t → r[k]? = some s → gOk t rooms s) ∧ e = cfo o a' b' m tk rs x5 x6 asks (some (.lst true (B.map rmD))) y9 y10 y11 y12 y13)
    (e := cfo o0 a b m tk rs x5 x6 asks (some (.lst true [])) none none none none none) ⟨o0, a, b, [], none, none, none, none, none, rfl, (fun r hr => nomatch hr), (fun r hr => nomatch hr), rfl⟩ ?_ ?_
  · exact H
  · rintro j d e hd ⟨o, a1, b1, B, y9, y10, y11, y12, y13, hB, hr, hg, rfl⟩
    obtain ⟨hd', hlt⟩ := rg_get hd
    subst hd'
    have e0 : ((0 : Int) + (j : Nat)) = (j : Nat) := by omega
    obtain ⟨a2, b2, r, z11, z12, z13, ⟨h2, h3⟩, h4⟩ := row_loop (m := m) (tk := tk) (x5 := x5) (x6 := x6) (x8 := some (.lst true (B.map rmD))) (x11 := y11) (x12 := y12) (x13 := y13) (asks := asks) (room := j) hrs h0 h1 hl a1 b1
    have za := iL_fz asks
    have fa := frzs_of za
    have zr := sgs_fz r
    have fr := frzs_of zr
    have hBl : B.length < 1000000 := by omega
    have st : s_26_2 (cfo o a1 b1 m tk rs x5 x6 asks (some (.lst true (B.map rmD))) (some (nD j)) y10 y11 y12 y13) = .nx (cfo false a2 b2 m tk rs x5 x6 asks (some (.lst true ((B ++ [r]).map rmD))) (some (nD j)) (some (.lst true (r.map sgD))) z11 z12 z13) := by
      unfold s_26_2
      cases o <;> simp [za, fa, h4, zr, fr, tupleD, hBl]
    simp only [put_v, stO_some, List.set_cons_succ, List.set_cons_zero, e0]
    rw [st]
    refine ⟨false, a2, b2, B ++ [r], _, _, z11, z12, z13, by simp [hB], fun q hq => ?_, fun q hq => ?_, rfl⟩
    · rcases List.mem_append.mp hq with hq | hq
      · exact hr q hq
      · rw [List.mem_singleton.mp hq]; exact h2
    · rcases List.mem_append.mp hq with hq | hq
      · exact hg q hq
      · rw [List.mem_singleton.mp hq]; exact h3
  · rintro e ⟨o, a1, b1, B, y9, y10, y11, y12, y13, hB, hr, hg, rfl⟩
    exact ⟨o, a1, b1, B, y9, y10, y11, y12, y13, by rw [hB, rg_len]; omega, hr, hg, rfl⟩
abbrev whD (M : List (List Int)) (C : List (List (Option Int))) (th : D) (B : List Rm) : D := .tup [svD M C, th, bkD B]
theorem case_ok (a b : Int) : ∃ (a' b' : Int) (m tk rooms : Nat) (M : List (List Int)) (C : List (List (Option Int))) (th : D) (B : List Rm) (asks : List Nat), Cw m tk rooms M C B asks ∧ fz th = true ∧ c_26 [bx a b, .int 3] = .ok (.tup [whD M C th B, .lst false (iL asks)]) [bx a' b'] := by
  obtain ⟨v1, a1, b1, h1, g1, t1⟩ := take_ok a b 3 (by omega) (by omega)
  obtain ⟨v2, a2, b2, h2, g2, t2⟩ := take_ok a1 b1 2 (by omega) (by omega)
  obtain ⟨v3, a3, b3, h3, g3, t3⟩ := take_ok a2 b2 2 (by omega) (by omega)
  obtain ⟨v1, rfl⟩ : ∃ n : Nat, v1 = (n : Nat) := ⟨v1.toNat, by omega⟩
  obtain ⟨v2, rfl⟩ : ∃ n : Nat, v2 = (n : Nat) := ⟨v2.toNat, by omega⟩
  obtain ⟨v3, rfl⟩ : ∃ n : Nat, v3 = (n : Nat) := ⟨v3.toNat, by omega⟩
  have e1 : (1 + (v1 : Int)) = ((1 + v1 : Nat) : Int) := by omega
  have e2 : (1 + (v2 : Int)) = ((1 + v2 : Nat) : Int) := by omega
  have e3 : (1 + (v3 : Int)) = ((1 + v3 : Nat) : Int) := by omega
  obtain ⟨a4, b4, M, C, hS, s1⟩ := service_ok (st := 1 + v1) (tk := 1 + v2) (de := 3) (by omega) (by omega) (by omega) (by omega) (by omega) a3 b3
  obtain ⟨v5, a5, b5, h5, g5, t5⟩ := take_ok a4 b4 2 (by omega) (by omega)
  obtain ⟨v5, rfl⟩ : ∃ n : Nat, v5 = (n : Nat) := ⟨v5.toNat, by omega⟩
  have e5 : (1 + (v5 : Int)) = ((1 + v5 : Nat) : Int) := by omega
  obtain ⟨a6, b6, M2, C2, hS2, s2⟩ := service_ok (st := 1 + v5) (tk := 1 + v2) (de := 2) (by omega) (by omega) (by omega) (by omega) (by omega) a5 b5
  obtain ⟨v7, a7, b7, h7, g7, t7⟩ := take_ok a6 b6 3 (by omega) (by omega)
  obtain ⟨v7, rfl⟩ : ∃ n : Nat, v7 = (n : Nat) := ⟨v7.toNat, by omega⟩
  have e7 : (1 + (v7 : Int)) = ((1 + v7 : Nat) : Int) := by omega
  have z1 := sv_fz M C
  have z2 := sv_fz M2 C2
  have f1 := frz_of _ z1
  have f2 := frz_of _ z2
  obtain ⟨a8, b8, asks, ha, la⟩ := lc_rel (own := [11]) (tg := .v 11) (elt := q_26_3) (E := fun a b => [some (bx a b), some (.int 3), some (nD (1 + v1)), some (nD (1 + v2)), some (nD (1 + v3)), some (svD M C), some (svD M2 C2), none, none, none, none, none, none, none]) (fun a b k => [some (bx a b), some (.int 3), some (nD (1 + v1)), some (nD (1 + v2)), some (nD (1 + v3)), some (svD M C), some (svD M2 C2), none, none, none, none, some (nD k), none, none]) (fun (_ : Nat) (t : Nat) => t < 1 + v2) nD nD (List.range (1 + v7)) [] a7 b7 (by simp; omega) (fun k _ a b => ⟨rfl, by
    obtain ⟨v, a1, b1, h1, h2, h3⟩ := take_ok a b ((1 + v2 : Nat) : Int) (by omega) (by omega)
    obtain ⟨v, rfl⟩ : ∃ n : Nat, v = (n : Nat) := ⟨v.toNat, by omega⟩
    refine ⟨v, a1, b1, [some (bx a1 b1), some (.int 3), some (nD (1 + v1)), some (nD (1 + v2)), some (nD (1 + v3)), some (svD M C), some (svD M2 C2), none, none, none, none, some (nD k), none, none], by omega, ?_, rfl⟩
    unfold q_26_3
    generalize svD M C = S1 at *
    generalize svD M2 C2 = S2 at *
    simp [-Int.natCast_add, h3]⟩)
  rw [show List.map nD (List.range (1 + v7)) = rangeD 0 ((1 + v7 : Nat) : Int) from (rangeD_eq _).symm, List.nil_append] at la
  have hal : asks.length = 1 + v7 := by rw [ha.len, List.length_range]
  obtain ⟨o9, a9, b9, B, y9, y10, y11, y12, y13, hB, hr, hg, lb⟩ := book_loop (o0 := true) (m := ((1 + v1 : Nat) : Int)) (tk := ((1 + v2 : Nat) : Int)) (rs := ((1 + v3 : Nat) : Int)) (rooms := 1 + v3) (x5 := some (svD M C)) (x6 := some (svD M2 C2)) (asks := asks) rfl (by omega) (by omega) (by omega) a8 b8
  have zB := rms_fz B
  have fB := frzs_of zB
  have za := iL_fz asks
  have fa := frzs_of za
  refine ⟨a9, b9, 1 + v1, 1 + v2, 1 + v3, M, C, svD M2 C2, B, asks, ⟨hS, by omega, by omega, by omega, by omega, by omega, by omega, fun t ht => ?_, hB, hr, hg⟩, z2, ?_⟩
  · obtain ⟨k, hk⟩ := List.getElem?_of_mem ht
    have hkl := (List.getElem?_eq_some_iff.mp hk).1
    exact ha.get (List.getElem?_range (by omega)) hk
  · have r7 : rngOk ((1 + v7 : Nat) : Int) = true := rngOk_s (by omega) (by omega)
    have r3 : rngOk ((1 + v3 : Nat) : Int) = true := rngOk_s (by omega) (by omega)
    show c_26 _ = .ok (.tup [.tup [svD M C, svD M2 C2, bkD B], .lst false (iL asks)]) _
    generalize svD M C = S1 at *
    generalize svD M2 C2 = S2 at *
    simp only [cfo] at lb
    unfold c_26 callF m_26
    cases o9 <;> simp [-Int.natCast_add, e1, e2, e3, e5, e7, t1, t2, t3, s1, s2, t5, t7, z1, z2, f1, f2, r7, r3, la, lb, zB, fB, za, fa, tupleD]
end LW

namespace LW
open PySem PySem.Spec L2 EV
/-- the places where something stands -/
def smk : Nat → List (Option Int) → List Nat
  | _, [] => []
  | k, none :: r => smk (k + 1) r
  | k, some _ :: r => k :: smk (k + 1) r
def pSm : D → Bool
  | .tup [_, c] => !isN c
  | _ => false
def fFst : D → D
  | .tup [x, _] => x
  | d => d
theorem smk_filter : ∀ (k : Nat) (r : List (Option Int)), ((numD k (r.map coV)).filter pSm).map fFst = iL (smk k r)
  | _, [] => rfl
  | k, none :: r => by
    rw [List.map_cons]
    show ((D.tup [nD k, coV none] :: numD (k + 1) (r.map coV)).filter pSm).map fFst = _
    rw [List.filter_cons_of_neg (by simp [pSm, coV])]
    exact smk_filter (k + 1) r
  | k, some i :: r => by
    rw [List.map_cons]
    show ((D.tup [nD k, coV (some i)] :: numD (k + 1) (r.map coV)).filter pSm).map fFst = _
    rw [List.filter_cons_of_pos (by simp [pSm, coV]), List.map_cons, smk_filter (k + 1) r]
    rfl
theorem smk_mem : ∀ (k : Nat) (r : List (Option Int)) (s : Nat), s ∈ smk k r → k ≤ s ∧ ∃ i, r[s - k]? = some (some i)
  | _, [], _, h => nomatch h
  | k, none :: r, s, h => by
    obtain ⟨h1, i, h2⟩ := smk_mem (k + 1) r s h
    refine ⟨by omega, i, ?_⟩
    have e : s - k = (s - (k + 1)) + 1 := by omega
    rw [e]; exact h2
  | k, some j :: r, s, h => by
    rcases List.mem_cons.mp h with rfl | h
    · exact ⟨Nat.le_refl _, j, by simp⟩
    · obtain ⟨h1, i, h2⟩ := smk_mem (k + 1) r s h
      refine ⟨by omega, i, ?_⟩
      have e : s - k = (s - (k + 1)) + 1 := by omega
      rw [e]; exact h2
theorem smk_ne : ∀ (k : Nat) (r : List (Option Int)) (i : Int), some i ∈ r → smk k r ≠ []
  | _, [], _, h => nomatch h
  | k, none :: r, i, h => by
    rcases List.mem_cons.mp h with e | h
    · cases e
    · exact smk_ne (k + 1) r i h
  | k, some j :: r, i, h => by simp [smk]
theorem smk_len : ∀ (k : Nat) (r : List (Option Int)), (smk k r).length ≤ r.length
  | _, [] => Nat.le_refl _
  | k, none :: r => Nat.le_trans (smk_len (k + 1) r) (by simp)
  | k, some j :: r => by simp only [smk, List.length_cons]; exact Nat.succ_le_succ (smk_len (k + 1) r)
abbrev Ply := List (List (Nat × Nat))
abbrev prD (p : Nat × Nat) : D := .tup [nD p.1, nD p.2]
abbrev nrD (r : List (Nat × Nat)) : D := .tup (r.map prD)
abbrev plyD (p : Ply) : D := .tup (p.map nrD)
theorem prs_fz (r : List (Nat × Nat)) : fzs (r.map prD) = true := fzs_of fun d hd => by
  obtain ⟨c, _, rfl⟩ := List.mem_map.mp hd
  rfl
theorem nrs_fz (r : Ply) : fzs (r.map nrD) = true := fzs_of fun d hd => by
  obtain ⟨c, _, rfl⟩ := List.mem_map.mp hd
  exact prs_fz c
theorem plys_fz (r : List Ply) : fzs (r.map plyD) = true := fzs_of fun d hd => by
  obtain ⟨c, _, rfl⟩ := List.mem_map.mp hd
  exact nrs_fz c
/-- an answer to that task -/
def aOk (C : List (List (Option Int))) (m notes t : Nat) (p : Nat × Nat) : Prop := p.1 < m ∧ p.2 < notes ∧ ∃ (r : List (Option Int)) (i : Int), C[t]? = some r ∧ r[p.1]? = some (some i)
/-- a player -/
structure Py (C : List (List (Option Int))) (m : Nat) (asks : List Nat) (p : Ply) : Prop where
  n0 : 0 < p.length
  n1 : p.length ≤ 3
  rl : ∀ r ∈ p, r.length = asks.length
  ao : ∀ r ∈ p, ∀ (k t : Nat) q, asks[k]? = some t → r[k]? = some q → aOk C m p.length t q
abbrev pf (a b : Int) (W : D) (asks : List Nat) (nt : Nat) (x4 x5 x6 x7 x8 : Option D) : DEnv := [some (bx a b), some W, some (.lst false (iL asks)), some (nD nt), x4, x5, x6, x7, x8, none, none]
section
variable {m tk rooms : Nat} {M : List (List Int)} {C : List (List (Option Int))} {th : D} {B : List Rm} {asks : List Nat}
theorem atI_at {α : Type} {xs : List α} {k : Nat} {x : α} (h : xs[k]? = some x) : atI xs (k : Nat) = some x := by
  obtain ⟨hk, h2⟩ := List.getElem?_eq_some_iff.mp h
  simp [atI, ixN, hk, h2]
theorem wh_fz (hth : fz th = true) : fz (whD M C th B) = true := by
  show (fz (svD M C) && (fz th && (fzs (B.map rmD) && true))) = true
  rw [sv_fz, hth, rms_fz]; rfl
theorem ans_step (K : Cw m tk rooms M C B asks) (hth : fz th = true) {nt t : Nat} {x4 x5 x8 : Option D} {r : List (Nat × Nat)} (ht : t < tk) (h0 : 0 < nt) (h1 : nt < 100) (hl : r.length < 100) (a b : Int) :
    ∃ (a' b' : Int) (q : Nat × Nat) (y8 : Option D), aOk C m nt t q ∧ s_27_3 (pf a b (whD M C th B) asks nt x4 x5 (some (.lst true (r.map prD))) (some (nD t)) x8) = .nx (pf a' b' (whD M C th B) asks nt x4 x5 (some (.lst true ((r ++ [q]).map prD))) (some (nD t)) y8) := by
  have htl : t < C.length := by rw [K.sv.tl]; exact ht
  have hC : C[t]? = some C[t] := List.getElem?_eq_getElem htl
  obtain ⟨c1, i, c2⟩ := K.sv.co _ (List.getElem_mem htl)
  have hco : atI (C.map coR) (t : Nat) = some (coR C[t]) := atI_at (by rw [List.getElem?_map, hC]; rfl)
  generalize C[t] = cr at *
  have zc := cos_fz cr
  have fc := frzs_of zc
  have hcl : cr.length < 100 := by have := K.m1; omega
  have lc := fun (y8 : Option D) => lc_gen (own := [9, 10]) (tg := .t [.v 9, .v 10]) (cond := t_27_2) (elt := q_27_1) (E := pf a b (whD M C th B) asks nt x4 x5 (some (.lst true (r.map prD))) (some (nD t)) y8) (fun d => match d with
      | .tup [x, c] => [some (bx a b), some (whD M C th B), some (.lst false (iL asks)), some (nD nt), x4, x5, some (.lst true (r.map prD)), some (nD t), y8, some x, some c]
      | _ => []) pSm fFst (numD 0 (cr.map coV)) [] (by rw [numD_len]; simp; omega) (fun d hd => by
    obtain ⟨k, hk⟩ := List.getElem?_of_mem hd
    obtain ⟨x, hx, rfl⟩ := numD_nth hk
    obtain ⟨c, _, rfl⟩ := List.mem_map.mp (List.mem_of_getElem? hx)
    refine ⟨by simp, ?_, fun _ => ?_, rfl⟩
    · show t_27_2 [_, _, _, _, _, _, _, _, _, _, some (coV c)] = .ok (.bl (!isN (coV c))) _
      unfold t_27_2
      cases c <;> simp [coV]
    · show q_27_1 [_, _, _, _, _, _, _, _, _, some (.int (k : Nat)), _] = .ok (.int (k : Nat)) _
      unfold q_27_1
      simp)
  rw [List.nil_append, smk_filter] at lc
  have hne := smk_ne 0 cr i c2
  have hsl := smk_len 0 cr
  have zs := iL_fz (smk 0 cr)
  have fs := frzs_of zs
  obtain ⟨x, a1, b1, hx, p1⟩ := pick_ok a b false (iL (smk 0 cr)) (by simpa using hne) (by simp; omega) zs
  obtain ⟨s, hs, rfl⟩ := List.mem_map.mp hx
  obtain ⟨_, j, hj⟩ := smk_mem 0 cr s hs
  rw [Nat.sub_zero] at hj
  obtain ⟨n, a2, b2, n1, n2, p2⟩ := take_ok a1 b1 (nt : Nat) (by omega) (by omega)
  obtain ⟨n, rfl⟩ : ∃ q : Nat, n = (q : Nat) := ⟨n.toNat, by omega⟩
  have hsm : s < m := by
    have := (List.getElem?_eq_some_iff.mp hj).1
    omega
  refine ⟨a2, b2, (s, n), some (.lst false (iL (smk 0 cr))), ⟨hsm, by omega, cr, j, hC, hj⟩, ?_⟩
  have zr := prs_fz r
  have hl2 : r.length < 1000000 := by omega
  have zm := fz_tups M
  have zC := cosr_fz C
  have zB := rms_fz B
  have fth := frz_of _ hth
  have fB := frzs_of zB
  generalize smk 0 cr = L at *
  unfold s_27_3
  simp only [pf, whD, svD, bkD] at lc ⊢
  simp [zm, zC, zB, hth, at0, at1, frzs_of zC, frzs_of zm, hco, zc, fc, lc, zs, fs, p1, p2, zr, hl2]
end
end LW

namespace LW
open PySem PySem.Spec L2 EV
theorem snoc_get {α : Type} {r : List α} {x s : α} {k : Nat} (h : (r ++ [x])[k]? = some s) : r[k]? = some s ∨ (k = r.length ∧ s = x) := by
  by_cases hk : k < r.length
  · rw [List.getElem?_append_left hk] at h; exact .inl h
  · rw [List.getElem?_append_right (by omega)] at h
    have e0 : k - r.length = 0 := by
      cases hh : k - r.length with
      | zero => rfl
      | succ n => rw [hh] at h; simp at h
    rw [e0] at h
    injection h with h
    exact .inr ⟨by omega, h.symm⟩
section
variable {m tk rooms : Nat} {M : List (List Int)} {C : List (List (Option Int))} {th : D} {B : List Rm} {asks : List Nat}
theorem note_step (K : Cw m tk rooms M C B asks) (hth : fz th = true) {nt : Nat} {x5 x6 x7 x8 : Option D} {p : Ply} (h0 : 0 < nt) (h1 : nt < 100) (hl : p.length < 100) (a b : Int) :
    ∃ (a' b' : Int) (r : List (Nat × Nat)) (y6 y7 y8 : Option D), r.length = asks.length ∧ (∀ (k t : Nat) q, asks[k]? = some t → r[k]? = some q → aOk C m nt t q) ∧ s_27_4 (pf a b (whD M C th B) asks nt (some (.lst true (p.map nrD))) x5 x6 x7 x8) = .nx (pf a' b' (whD M C th B) asks nt (some (.lst true ((p ++ [r]).map nrD))) x5 y6 y7 y8) := by
  have H := forL_rule (tg := .v 7) (m := s_27_3) (fun R => ∃ (a' b' : Int) (r : List (Nat × Nat)) (y7 y8 : Option D), (r.length = asks.length ∧ ∀ (k t : Nat) q, asks[k]? = some t → r[k]? = some q → aOk C m nt t q) ∧ R = .nx (pf a' b' (whD M C th B) asks nt (some (.lst true (p.map nrD))) x5 (some (.lst true (r.map prD))) y7 y8)) (ds := iL asks)
    (fun j e => ∃ (a' b' : Int) (r : List (Nat × Nat)) (y7 y8 : Option D), (r.length = j ∧ ∀ (k t : Nat) q, asks[k]? = some t → r[k]? = some q → aOk C m nt t q) ∧ e = pf a' b' (whD M C th B) asks nt (some (.lst true (p.map nrD))) x5 (some (.lst true (r.map prD))) y7 y8)
    (e := pf a b (whD M C th B) asks nt (some (.lst true (p.map nrD))) x5 (some (.lst true [])) x7 x8) ⟨a, b, [], x7, x8, ⟨rfl, fun k t s _ h => by simp at h⟩, rfl⟩ ?_ ?_
  · obtain ⟨a1, b1, r, y7, y8, ⟨h2, h3⟩, h4⟩ := H
    have za := iL_fz asks
    have fa := frzs_of za
    have zr := prs_fz r
    have fr := frzs_of zr
    have hpl : p.length < 1000000 := by omega
    refine ⟨a1, b1, r, some (.lst true (r.map prD)), y7, y8, h2, h3, ?_⟩
    have zw := wh_fz (M := M) (C := C) (B := B) hth
    generalize whD M C th B = W at *
    unfold s_27_4
    simp [za, fa, h4, zr, fr, tupleD, hpl]
  · rintro j d e hd ⟨a1, b1, r, y7, y8, ⟨hr, hg⟩, rfl⟩
    rw [List.getElem?_map] at hd
    cases ht : asks[j]? with
    | none => rw [ht] at hd; cases hd
    | some t =>
      rw [ht] at hd
      injection hd with hd
      subst hd
      have hj2 := (List.getElem?_eq_some_iff.mp ht).1
      have hs1 := K.s1
      obtain ⟨a2, b2, q, z8, h2, h3⟩ := ans_step K hth (nt := nt) (t := t) (x4 := some (.lst true (p.map nrD))) (x5 := x5) (x8 := y8) (r := r) (K.at_ t (List.mem_of_getElem? ht)) h0 h1 (by omega) a1 b1
      simp only [put_v, stO_some, List.set_cons_succ, List.set_cons_zero]
      rw [h3]
      refine ⟨a2, b2, r ++ [q], _, z8, ⟨by simp [hr], fun k t' q' hk hq => ?_⟩, rfl⟩
      rcases snoc_get hq with hq | ⟨hk2, rfl⟩
      · exact hg k t' q' hk hq
      · rw [hk2, hr, ht] at hk
        injection hk with hk
        subst hk
        exact h2
  · rintro e ⟨a1, b1, r, y7, y8, ⟨hr, hg⟩, rfl⟩
    rw [List.length_map] at hr
    exact ⟨a1, b1, r, y7, y8, ⟨hr, hg⟩, rfl⟩
theorem player_ok (K : Cw m tk rooms M C B asks) (hth : fz th = true) {nt : Nat} (h0 : 0 < nt) (h1 : nt ≤ 3) (a b : Int) :
    ∃ (a' b' : Int) (p : Ply), p.length = nt ∧ Py C m asks p ∧ c_27 [bx a b, whD M C th B, .lst false (iL asks), nD nt] = .ok (plyD p) [bx a' b'] := by
  have H := forL_rule (tg := .v 5) (m := s_27_4) (fun R => ∃ (a' b' : Int) (p : Ply) (y5 y6 y7 y8 : Option D), (p.length = nt ∧ (∀ r ∈ p, r.length = asks.length) ∧ ∀ r ∈ p, ∀ (k t : Nat) q, asks[k]? = some t → r[k]? = some q → aOk C m nt t q) ∧ R = .nx (pf a' b' (whD M C th B) asks nt (some (.lst true (p.map nrD))) y5 y6 y7 y8)) (ds := rangeD 0 (nt : Nat))
    (fun j e => ∃ (a' b' : Int) (p : Ply) (y5 y6 y7 y8 : Option D), (p.length = j ∧ (∀ r ∈ p, r.length = asks.length) ∧ ∀ r ∈ p, ∀ (k t : Nat) q, asks[k]? = some t → r[k]? = some q → aOk C m nt t q) ∧ e = pf a' b' (whD M C th B) asks nt (some (.lst true (p.map nrD))) y5 y6 y7 y8)
    (e := pf a b (whD M C th B) asks nt (some (.lst true [])) none none none none) ⟨a, b, [], none, none, none, none, ⟨rfl, (fun r h => nomatch h), fun r h => nomatch h⟩, rfl⟩ ?_ ?_
  · obtain ⟨a1, b1, p, y5, y6, y7, y8, ⟨h2, h3, h4⟩, h5⟩ := H
    have zp := nrs_fz p
    have fp := frzs_of zp
    have rg : rngOk (nt : Nat) = true := rngOk_s (by omega) (by omega)
    refine ⟨a1, b1, p, h2, ⟨by omega, by omega, h3, fun r hr k t q hk hq => by rw [h2]; exact h4 r hr k t q hk hq⟩, ?_⟩
    have zw := wh_fz (M := M) (C := C) (B := B) hth
    generalize whD M C th B = W at *
    have za := iL_fz asks
    unfold c_27 callF m_27
    simp [zw, za, rg, h5, zp, fp, tupleD]
  · rintro j d e hd ⟨a1, b1, p, y5, y6, y7, y8, ⟨hp, hr, hg⟩, rfl⟩
    obtain ⟨hd', hlt⟩ := rg_get hd
    subst hd'
    obtain ⟨a2, b2, r, z6, z7, z8, h2, h3, h4⟩ := note_step K hth (nt := nt) (x5 := some (.int (0 + (j : Nat)))) (x6 := y6) (x7 := y7) (x8 := y8) (p := p) h0 (by omega) (by omega) a1 b1
    simp only [put_v, stO_some, List.set_cons_succ, List.set_cons_zero]
    rw [h4]
    refine ⟨a2, b2, p ++ [r], _, z6, z7, z8, ⟨by simp [hp], fun q hq => ?_, fun q hq => ?_⟩, rfl⟩
    · rcases List.mem_append.mp hq with hq | hq
      · exact hr q hq
      · rw [List.mem_singleton.mp hq]; exact h2
    · rcases List.mem_append.mp hq with hq | hq
      · exact hg q hq
      · rw [List.mem_singleton.mp hq]; exact h3
  · rintro e ⟨a1, b1, p, y5, y6, y7, y8, ⟨hp, hr, hg⟩, rfl⟩
    exact ⟨a1, b1, p, y5, y6, y7, y8, ⟨by rw [hp, rg_len]; omega, hr, hg⟩, rfl⟩
end
end LW

namespace LW
open PySem PySem.Spec L2 EV
/-! ### the process of counsel, pure -/
abbrev St := Nat × List Nat
def add (l : List St) (x : St) : List St := if x ∈ l then l else l ++ [x]
def told (ps : List Ply) (ns : List Nat) (sg : Nat) : List (Nat × Nat) := List.zipWith (fun p n => (p.getD n []).getD sg (0, 0)) ps ns
def lotN (m : Nat) (td : List (Nat × Nat)) : List Nat := (List.range m).filter fun s => decide (s ∈ td.map (·.1))
def cst (ps : List Ply) (m : Nat) (ns : List Nat) (sg : Nat) (S A : List St) : Sg → List St × List St × Sg
  | none => (S, A, none)
  | some (t, w, g) => (add S (g, (told ps ns sg).map (·.2)), add A (t, lotN m (told ps ns sg)), some ((add A (t, lotN m (told ps ns sg))).idxOf (t, lotN m (told ps ns sg)), w, (add S (g, (told ps ns sg).map (·.2))).idxOf (g, (told ps ns sg).map (·.2))))
def crow (ps : List Ply) (m : Nat) (ns : List Nat) : Nat → Rm → List St → List St → Rm → List St × List St × Rm
  | _, [], S, A, acc => (S, A, acc)
  | k, s :: r, S, A, acc => crow ps m ns (k + 1) r (cst ps m ns k S A s).1 (cst ps m ns k S A s).2.1 (acc ++ [(cst ps m ns k S A s).2.2])
def crun (B : List Rm) (ps : List Ply) (m : Nat) : Nat → List St → List St → List Rm → List St × List St × List Rm
  | 0, S, A, R => (S, A, R)
  | n + 1, S, A, R => match S[R.length]? with
    | none => (S, A, R)
    | some (r, ns) => crun B ps m n (crow ps m ns 0 (B.getD r []) S A []).1 (crow ps m ns 0 (B.getD r []) S A []).2.1 (R ++ [(crow ps m ns 0 (B.getD r []) S A []).2.2])
/-! ### how data stand for it -/
structure Rp (R : St → D) : Prop where
  eqv : ∀ a b, eqvD (R a) (R b) = decide (a = b)
  ok : ∀ a, eqOk 58 (R a) = true ∧ eqOk 59 (R a) = true ∧ eqOk 60 (R a) = true
  fz : ∀ a, EV.fz (R a) = true
  tup : ∀ a, ∃ xs, R a = .tup xs
def stP : St → D := fun s => .tup [nD s.1, .tup (iL s.2)]
def stL : St → D := fun s => .tup [nD s.1, .lst false (iL s.2)]
theorem eqvs_iL : ∀ {a b : List Nat}, eqvDs (iL a) (iL b) = decide (a = b)
  | [], [] => by simp [eqvDs]
  | x :: a, [] => by simp [eqvDs]
  | [], y :: b => by simp [eqvDs]
  | x :: a, y :: b => by
    show (((x : Int) == (y : Int)) && eqvDs (iL a) (iL b)) = _
    rw [eqvs_iL (a := a) (b := b)]
    by_cases h1 : x = y <;> by_cases h2 : a = b <;> simp [h1, h2] <;> omega
theorem oks_iL {m : Nat} : ∀ {L : List Nat}, eqOks (m + 1) (iL L) = true
  | [] => rfl
  | x :: L => by
    show (eqOk (m + 1) (nD x) && eqOks (m + 1) (iL L)) = true
    rw [oks_iL]; rfl
theorem ok_st {n : Nat} (a : St) : eqOk (n + 3) (stP a) = true ∧ eqOk (n + 3) (stL a) = true := by
  have h : eqOks (n + 1) (iL a.2) = true := oks_iL
  constructor
  · show (eqOk (n + 2) (nD a.1) && (eqOks (n + 1) (iL a.2) && true)) = true
    rw [h]; rfl
  · show (eqOk (n + 2) (nD a.1) && (eqOks (n + 1) (iL a.2) && true)) = true
    rw [h]; rfl
theorem rp_P : Rp stP where
  eqv := fun a b => by
    obtain ⟨a1, a2⟩ := a
    obtain ⟨b1, b2⟩ := b
    show (((a1 : Int) == (b1 : Int)) && (eqvDs (iL a2) (iL b2) && true)) = _
    rw [eqvs_iL]
    by_cases h1 : a1 = b1 <;> by_cases h2 : a2 = b2 <;> simp [h1, h2] <;> omega
  ok := fun a => ⟨(ok_st (n := 55) a).1, (ok_st (n := 56) a).1, (ok_st (n := 57) a).1⟩
  fz := fun a => by
    show (true && (fzs (iL a.2) && true)) = true
    rw [iL_fz]; rfl
  tup := fun a => ⟨_, rfl⟩
theorem rp_L : Rp stL where
  eqv := fun a b => by
    obtain ⟨a1, a2⟩ := a
    obtain ⟨b1, b2⟩ := b
    show (((a1 : Int) == (b1 : Int)) && (eqvDs (iL a2) (iL b2) && true)) = _
    rw [eqvs_iL]
    by_cases h1 : a1 = b1 <;> by_cases h2 : a2 = b2 <;> simp [h1, h2] <;> omega
  ok := fun a => ⟨(ok_st (n := 55) a).2, (ok_st (n := 56) a).2, (ok_st (n := 57) a).2⟩
  fz := fun a => by
    show (true && (((!false) && fzs (iL a.2)) && true)) = true
    rw [iL_fz]; rfl
  tup := fun a => ⟨_, rfl⟩
section
variable {R : St → D}
theorem Rp.fzs (h : Rp R) (l : List St) : EV.fzs (l.map R) = true := fzs_of fun d hd => by
  obtain ⟨s, _, rfl⟩ := List.mem_map.mp hd
  exact h.fz s
theorem Rp.any (h : Rp R) (ps : List St) (q : St) : (ps.map R).any (fun z => eqvD z (R q)) = decide (q ∈ ps) := by
  induction ps with
  | nil => simp
  | cons p ps ih =>
    rw [List.map_cons, List.any_cons, ih, h.eqv]
    by_cases h : p = q
    · subst h; simp
    · have h' : ¬ q = p := fun e => h e.symm
      simp [h, h']
theorem Rp.oks (h : Rp R) (ps : List St) : eqOks 59 (ps.map R) = true := by
  induction ps with
  | nil => rfl
  | cons p ps ih =>
    show (eqOk 59 (R p) && eqOks 59 (ps.map R)) = true
    rw [ih, (h.ok p).2.1]; rfl
theorem Rp.notin (h : Rp R) (o : Bool) (ps : List St) (q : St) : notinB (R q) (.lst o (ps.map R)) = some (.bl (!decide (q ∈ ps))) := by
  have h2 : inD (R q) (.lst o (ps.map R)) = some (.bl (decide (q ∈ ps))) := by
    show (if eqOk 60 (R q) && eqOks 59 (ps.map R) then some (D.bl ((ps.map R).any fun z => eqvD z (R q))) else none) = _
    rw [(h.ok q).2.2, h.oks, h.any]
    rfl
  unfold notinB
  rw [h2]
theorem Rp.index (h : Rp R) (o : Bool) {ps : List St} {q : St} (hq : q ∈ ps) : indexD (.lst o (ps.map R)) (R q) = some (nD (ps.idxOf q)) := by
  show (if eqOk 60 (R q) && eqOks 59 (ps.map R) then ((ps.map R).findIdx? fun z => eqvD z (R q)).map (fun j => D.int (j : Nat)) else none) = _
  rw [(h.ok q).2.2, h.oks]
  have e : ∀ ps : List St, q ∈ ps → (ps.map R).findIdx? (fun z => eqvD z (R q)) = some (ps.idxOf q) := by
    intro ps
    induction ps with
    | nil => intro h; cases h
    | cons p ps ih =>
      intro hm
      rw [List.map_cons, List.findIdx?_cons, h.eqv, List.idxOf_cons]
      by_cases hp : p = q
      · subst hp; simp
      · have hq : q ∈ ps := by
          rcases List.mem_cons.mp hm with h | h
          · exact absurd h.symm hp
          · exact h
        have hb : (p == q) = false := by simpa using hp
        rw [ih hq]
        simp [hp, hb]
  rw [e ps hq]
  rfl
theorem add_mem (l : List St) (x : St) : x ∈ add l x := by
  unfold add
  split
  · assumption
  · simp
theorem add_len (l : List St) (x : St) : l.length ≤ (add l x).length ∧ (add l x).length ≤ l.length + 1 := by
  unfold add
  split <;> simp
theorem add_pre (l : List St) (x : St) : l <+: add l x := by
  unfold add
  split
  · exact List.prefix_refl l
  · exact List.prefix_append l [x]
@[simp] theorem ap_idx {k : Nat} {ob : Op} {e : DEnv} : mIdx k ob e = match e[k]? with
  | some (some (.lst _ _)) => (ob.run e).bind fun p e1 => (PV.v k).see e1 fun dl e2 => p.see e2 fun d e3 => RE.of (indexD dl d) e3
  | _ => .no := rfl
/-- number_among -/
theorem number_ok (h : Rp R) {l : List St} {x : St} (hl : l.length < 1000) : c_13 [.lst true (l.map R), R x] = .ok (nD ((add l x).idxOf x)) [.lst true ((add l x).map R)] := by
  have hx := h.fz x
  have fx := frz_of _ hx
  have hz := h.fzs l
  have fl := frzs_of hz
  have hl2 : l.length < 1000000 := by omega
  have g1 := h.notin false l x
  have g2 := h.index false (add_mem l x)
  have hz2 := h.fzs (add l x)
  have fl2 := frzs_of hz2
  obtain ⟨xs, hxs⟩ := h.tup x
  by_cases hm : x ∈ l
  · have e : add l x = l := by unfold add; rw [if_pos hm]
    rw [e] at g2 hz2 fl2 ⊢
    simp only [hm, decide_true, Bool.not_true] at g1
    rw [hxs] at hx g1 g2 ⊢
    have hx : EV.fzs xs = true := hx
    have fx := frzs_of hx
    unfold c_13 callF m_13
    simp [hx, fx, hz, fl, g1, g2]
  · have e : add l x = l ++ [x] := by unfold add; rw [if_neg hm]
    rw [e] at g2 hz2 fl2 ⊢
    simp only [hm, decide_false, Bool.not_false] at g1
    simp only [List.map_append, List.map_cons, List.map_nil] at g2 hz2 fl2 ⊢
    rw [hxs] at hx g1 g2 hz2 fl2 ⊢
    have hx : EV.fzs xs = true := hx
    have fx := frzs_of hx
    unfold c_13 callF m_13
    simp [hx, fx, hz, fl, hl2, g1, g2, hz2, fl2]
end
end LW

namespace LW
open PySem PySem.Spec L2 EV
theorem any_iL {g : Nat} : ∀ {L : List Nat}, ((iL L).any fun z => eqvD z (nD g)) = decide (g ∈ L)
  | [] => by simp
  | n :: L => by
    show (eqvD (nD n) (nD g) || (iL L).any fun z => eqvD z (nD g)) = _
    rw [any_iL (g := g) (L := L)]
    have : eqvD (nD n) (nD g) = decide (g = n) := by
      show (((n : Nat) : Int) == ((g : Nat) : Int)) = _
      rw [Bool.eq_iff_iff]
      simp
      omega
    rw [this, Bool.eq_iff_iff]
    simp
theorem okS_iL {m : Nat} : ∀ {L : List Nat}, eqOks (m + 1) (iL L) = true
  | [] => rfl
  | n :: L => by
    show (eqOk (m + 1) (nD n) && eqOks (m + 1) (iL L)) = true
    rw [okS_iL (m := m) (L := L)]
    rfl
theorem in_iL {g : Nat} {o : Bool} {L : List Nat} : inB (nD g) (.lst o (iL L)) = some (.bl (decide (g ∈ L))) := by
  have h : inD (nD g) (.lst o (iL L)) = some (.bl (decide (g ∈ L))) := by
    show (if eqOk 60 (nD g) && eqOks 59 (iL L) then some (D.bl ((iL L).any fun z => eqvD z (nD g))) else none) = _
    rw [okS_iL (m := 58), any_iL]
    rfl
  unfold inB
  rw [h]
theorem notin_iL {g : Nat} {o : Bool} {L : List Nat} : notinB (nD g) (.lst o (iL L)) = some (.bl (!decide (g ∈ L))) := by
  have h : inD (nD g) (.lst o (iL L)) = some (.bl (decide (g ∈ L))) := by
    show (if eqOk 60 (nD g) && eqOks 59 (iL L) then some (D.bl ((iL L).any fun z => eqvD z (nD g))) else none) = _
    rw [okS_iL (m := 58), any_iL]
    rfl
  unfold notinB
  rw [h]
theorem in_iLt {g : Nat} {L : List Nat} : inB (nD g) (.tup (iL L)) = some (.bl (decide (g ∈ L))) := by
  have h : inD (nD g) (.tup (iL L)) = some (.bl (decide (g ∈ L))) := by
    show (if (iL L).all (fun y => match y with | .int _ => true | _ => false) then some (D.bl ((iL L).any fun z => eqvD z (nD g))) else none) = _
    have h2 : (iL L).all (fun y => match y with | .int _ => true | _ => false) = true := by
      rw [List.all_eq_true]
      intro d hd
      obtain ⟨i, _, rfl⟩ := List.mem_map.mp hd
      rfl
    rw [if_pos h2, any_iL]
  unfold inB
  rw [h]
/-- a player's note and a sign at which it answers -/
def nOk (sg : Nat) (p : Ply) (n : Nat) : Prop := n < p.length ∧ ∀ r ∈ p, sg < r.length
theorem getD_at {α : Type} {xs : List α} {k : Nat} {d : α} (h : k < xs.length) : xs[k]? = some (xs.getD k d) := by
  rw [List.getD_eq_getElem?_getD, List.getElem?_eq_getElem h]
  rfl
theorem ans_at {sg : Nat} {p : Ply} {n : Nat} (h : nOk sg p n) : atI (p.map nrD) (n : Nat) = some (nrD (p.getD n [])) ∧ atI ((p.getD n []).map prD) (sg : Nat) = some (prD ((p.getD n []).getD sg (0, 0))) := by
  have h1 : p[n]? = some (p.getD n []) := getD_at h.1
  have h2 : (p.getD n [])[sg]? = some ((p.getD n []).getD sg (0, 0)) := getD_at (h.2 _ (List.mem_of_getElem? h1))
  exact ⟨atI_at (by rw [List.getElem?_map, h1]; rfl), atI_at (by rw [List.getElem?_map, h2]; rfl)⟩
theorem zip_lc {own : List Nat} {tg : CT} {elt : ME} {E : DEnv} (E1 : Ply → Nat → DEnv) (sg : Nat) : ∀ (ps : List Ply) (ns : List Nat) (acc : List D), acc.length + ps.length ≤ 1000 → al2 (nOk sg) ps ns →
    (∀ p n, nOk sg p n → put tg (.tup [plyD p, nD n]) E = some (E1 p n) ∧ elt (E1 p n) = .ok (prD ((p.getD n []).getD sg (0, 0))) (E1 p n) ∧ wipeE own (E1 p n) = E) →
    lcL own tg mTrue elt (List.zipWith (fun a b => D.tup [plyD a, nD b]) ps ns) acc E = .ok (acc ++ (told ps ns sg).map prD) E
  | [], [], acc, _, _, _ => by simp [lcL, told]
  | p :: ps, n :: ns, acc, hl, hv, h => by
    obtain ⟨h1, h2, h3⟩ := h p n hv.1
    simp only [List.length_cons] at hl
    have ih := zip_lc (own := own) (tg := tg) (elt := elt) (E := E) E1 sg ps ns (acc ++ [prD ((p.getD n []).getD sg (0, 0))]) (by simp; omega) hv.2 h
    have hlt : acc.length < LIM := by rw [LIM_is]; omega
    show lcL own tg mTrue elt (.tup [plyD p, nD n] :: List.zipWith (fun a b => D.tup [plyD a, nD b]) ps ns) acc E = _
    unfold lcL
    rw [h1]
    simp only [ap_true, h2, hlt, if_true, h3]
    rw [ih]
    simp [told]
  | [], _ :: _, _, _, hv, _ => hv.elim
  | _ :: _, [], _, _, hv, _ => hv.elim
abbrev psD (ps : List Ply) : D := .tup (ps.map plyD)
theorem entries_ok {ps : List Ply} {ns : List Nat} {sg : Nat} (hv : al2 (nOk sg) ps ns) (hl : ps.length < 100) : c_12 [psD ps, .tup (iL ns), nD sg] = .ok (.lst true ((told ps ns sg).map prD)) [] := by
  have zp := plys_fz ps
  have fp := frzs_of zp
  have zn := iL_fz ns
  have fn := frzs_of zn
  have lc := zip_lc (own := [3, 4]) (tg := .t [.v 3, .v 4]) (elt := q_12_1) (E := [some (psD ps), some (.tup (iL ns)), some (nD sg), none, none]) (fun p n => [some (psD ps), some (.tup (iL ns)), some (nD sg), some (plyD p), some (nD n)]) sg ps ns [] (by simp; omega) hv (fun p n hn => by
    obtain ⟨h1, h2⟩ := ans_at hn
    have z1 := nrs_fz p
    have z2 := prs_fz (p.getD n [])
    have f2 := frzs_of z2
    refine ⟨by simp, ?_, rfl⟩
    generalize p.getD n [] = row at *
    unfold q_12_1
    simp [z1, h1, z2, f2, h2])
  rw [List.nil_append] at lc
  unfold c_12 callF m_12
  simp [zp, fp, zn, fn, lc]
/-- the standings, each once -/
def ded : List (Nat × Nat) → List Nat → List Nat
  | [], acc => acc
  | q :: r, acc => ded r (if q.1 ∈ acc then acc else acc ++ [q.1])
theorem ded_mem (x : Nat) : ∀ (r : List (Nat × Nat)) (acc : List Nat), x ∈ ded r acc ↔ x ∈ acc ∨ x ∈ r.map (·.1)
  | [], acc => by simp [ded]
  | q :: r, acc => by
    unfold ded
    rw [ded_mem x r]
    split
    · rename_i h
      simp only [List.map_cons, List.mem_cons]
      constructor
      · rintro (h1 | h1)
        · exact .inl h1
        · exact .inr (.inr h1)
      · rintro (h1 | h1 | h1)
        · exact .inl h1
        · rw [h1]; exact .inl h
        · exact .inr h1
    · simp only [List.mem_append, List.map_cons, List.mem_cons, List.not_mem_nil, or_false]
      constructor
      · rintro ((h1 | h1) | h1)
        · exact .inl h1
        · exact .inr (.inl h1)
        · exact .inr (.inr h1)
      · rintro (h1 | h1 | h1)
        · exact .inl (.inl h1)
        · exact .inl (.inr h1)
        · exact .inr h1
theorem ded_nd : ∀ (r : List (Nat × Nat)) (acc : List Nat), acc.Nodup → (ded r acc).Nodup
  | [], acc, h => h
  | q :: r, acc, h => by
    unfold ded
    refine ded_nd r _ ?_
    split
    · exact h
    · rename_i hm
      refine List.nodup_append.mpr ⟨h, by simp, fun a ha b hb e => ?_⟩
      rw [List.mem_singleton.mp hb] at e
      exact hm (e ▸ ha)
theorem ded_len : ∀ (r : List (Nat × Nat)) (acc : List Nat), (ded r acc).length ≤ acc.length + r.length
  | [], acc => by simp [ded]
  | q :: r, acc => by
    unfold ded
    refine Nat.le_trans (ded_len r _) ?_
    split <;> simp <;> omega
theorem ints_iL (L : List Nat) : intsD (iL L) = some (L.map fun n => ((n : Nat) : Int)) := by
  induction L with
  | nil => rfl
  | cons x L ih =>
    show (intsD (iL L)).map ((x : Int) :: ·) = _
    rw [ih]; rfl
theorem perm_nd {α : Type} [BEq α] [LawfulBEq α] : ∀ {a b : List α}, a.Nodup → b.Nodup → (∀ x, x ∈ a ↔ x ∈ b) → a.Perm b
  | [], b, _, _, h => by
    cases b with
    | nil => exact List.Perm.refl _
    | cons y b => exact absurd ((h y).mpr (List.mem_cons_self ..)) (by simp)
  | x :: a, b, ha, hb, h => by
    have hx : x ∈ b := (h x).mp (List.mem_cons_self ..)
    obtain ⟨ha1, ha2⟩ := List.nodup_cons.mp ha
    have p1 := List.perm_cons_erase hx
    have ih := perm_nd (a := a) (b := b.erase x) ha2 (hb.erase x) (fun y => by
      rw [hb.mem_erase_iff]
      constructor
      · intro hy
        exact ⟨fun e => ha1 (e ▸ hy), (h y).mp (List.mem_cons_of_mem _ hy)⟩
      · rintro ⟨h1, h2⟩
        rcases List.mem_cons.mp ((h y).mpr h2) with e | h3
        · exact absurd e h1
        · exact h3)
    exact (List.Perm.cons x ih).trans p1.symm
theorem lot_srt (m : Nat) (td : List (Nat × Nat)) : ((lotN m td).map fun n => ((n : Nat) : Int)).Pairwise (· ≤ ·) := by
  refine List.pairwise_map.mpr ?_
  refine (List.Pairwise.filter _ ?_)
  exact (List.pairwise_le_range (n := m)).imp fun h => by omega
theorem lot_nd (m : Nat) (td : List (Nat × Nat)) : (lotN m td).Nodup := List.Pairwise.filter _ List.nodup_range
theorem sort_lot {m : Nat} {td : List (Nat × Nat)} (h : ∀ q ∈ td, q.1 < m) : (sortI ((ded td []).map fun n => ((n : Nat) : Int))).map D.int = iL (lotN m td) := by
  have hp : (ded td []).Perm (lotN m td) := perm_nd (ded_nd td [] List.Pairwise.nil) (lot_nd m td) fun x => by
    rw [ded_mem]
    unfold lotN
    rw [List.mem_filter]
    constructor
    · rintro (h1 | h1)
      · cases h1
      · obtain ⟨q, hq, rfl⟩ := List.mem_map.mp h1
        exact ⟨List.mem_range.mpr (h q hq), by simpa using h1⟩
    · rintro ⟨_, h1⟩
      exact .inr (by simpa using h1)
  have e : sortI ((ded td []).map fun n => ((n : Nat) : Int)) = (lotN m td).map fun n => ((n : Nat) : Int) := srt_uniq ((sortI_perm _).trans (hp.map _)) (sortI_srt _) (lot_srt m td)
  rw [e, List.map_map]
  rfl
end LW

namespace LW
open PySem PySem.Spec L2 EV
abbrev sf (e0 e1 e2 e3 e4 e5 e6 : Option D) (lot : List Nat) (x8 x9 : Option D) : DEnv := [e0, e1, e2, e3, e4, e5, e6, some (.lst true (iL lot)), x8, x9, none, none]
theorem lot_loop {e0 e1 e2 e3 e4 e5 e6 : Option D} : ∀ (td : List (Nat × Nat)) (lot : List Nat) (x8 x9 : Option D), lot.length + td.length < 1000 →
    ((x8 = none ∨ ∃ i : Int, x8 = some (.int i)) ∧ (x9 = none ∨ ∃ i : Int, x9 = some (.int i))) →
    ∃ y8 y9, ((y8 = none ∨ ∃ i : Int, y8 = some (.int i)) ∧ (y9 = none ∨ ∃ i : Int, y9 = some (.int i))) ∧ forL (.t [.v 8, .v 9]) s_14_2 (td.map prD) (sf e0 e1 e2 e3 e4 e5 e6 lot x8 x9) = .nx (sf e0 e1 e2 e3 e4 e5 e6 (ded td lot) y8 y9)
  | [], lot, x8, x9, _, h => ⟨x8, x9, h, rfl⟩
  | q :: td, lot, x8, x9, hl, h => by
    simp only [List.length_cons] at hl
    obtain ⟨y8, y9, h2, h3⟩ := lot_loop (e0 := e0) (e1 := e1) (e2 := e2) (e3 := e3) (e4 := e4) (e5 := e5) (e6 := e6) td (if q.1 ∈ lot then lot else lot ++ [q.1]) (some (nD q.1)) (some (nD q.2)) (by
      split
      · omega
      · rw [List.length_append]; simp; omega) ⟨.inr ⟨_, rfl⟩, .inr ⟨_, rfl⟩⟩
    refine ⟨y8, y9, h2, ?_⟩
    have hn := notin_iL (g := q.1) (o := false) (L := lot)
    have zl := iL_fz lot
    have hll : lot.length < 1000000 := by omega
    have st : s_14_2 (sf e0 e1 e2 e3 e4 e5 e6 lot (some (nD q.1)) (some (nD q.2))) = .nx (sf e0 e1 e2 e3 e4 e5 e6 (if q.1 ∈ lot then lot else lot ++ [q.1]) (some (nD q.1)) (some (nD q.2))) := by
      unfold s_14_2
      by_cases hm : q.1 ∈ lot
      · simp only [hm, decide_true, Bool.not_true] at hn
        simp [hm, hn, zl]
      · simp only [hm, decide_false, Bool.not_false] at hn
        simp [hm, hn, zl, hll]
    rw [List.map_cons]
    conv => lhs; unfold forL
    simp only [put_t, puts_cons, put_v, Option.bind_some, puts_nil, List.set_cons_succ, List.set_cons_zero]
    rw [st]
    show forL _ _ _ _ = _
    rw [h3]
    rfl
theorem fst_lc {own : List Nat} {tg : CT} {elt : ME} {E : DEnv} (E1 : Nat × Nat → DEnv) (f : Nat × Nat → Nat) : ∀ (td : List (Nat × Nat)) (acc : List D), acc.length + td.length ≤ 1000 →
    (∀ q, put tg (prD q) E = some (E1 q) ∧ elt (E1 q) = .ok (nD (f q)) (E1 q) ∧ wipeE own (E1 q) = E) → lcL own tg mTrue elt (td.map prD) acc E = .ok (acc ++ iL (td.map f)) E
  | [], acc, _, _ => by simp [lcL]
  | q :: td, acc, hl, h => by
    obtain ⟨h1, h2, h3⟩ := h q
    simp only [List.length_cons] at hl
    have ih := fst_lc (own := own) (tg := tg) (elt := elt) (E := E) E1 f td (acc ++ [nD (f q)]) (by simp; omega) h
    have hlt : acc.length < LIM := by rw [LIM_is]; omega
    rw [List.map_cons]
    unfold lcL
    rw [h1]
    simp only [ap_true, h2, hlt, if_true, h3]
    rw [ih]
    simp
theorem told_len {ps : List Ply} {ns : List Nat} {sg : Nat} : (told ps ns sg).length ≤ ps.length := by
  unfold told
  rw [List.length_zipWith]
  omega
theorem nr_D (r : Nat × Nat) : prD r = .tup [nD r.1, nD r.2] := rfl
theorem step14_ok {ps : List Ply} {ns : List Nat} {sg m r t g : Nat} {w : Int} {S A : List St} (hv : al2 (nOk sg) ps ns) (hl : ps.length < 100) (hm : ∀ q ∈ told ps ns sg, q.1 < m) (hS : S.length < 900) (hA : A.length < 900) :
    c_14 [psD ps, stP (r, ns), nD sg, sgD (some (t, w, g)), .lst true (S.map stP), .lst true (A.map stP)] = .ok (sgD (cst ps m ns sg S A (some (t, w, g))).2.2) [.lst true ((cst ps m ns sg S A (some (t, w, g))).1.map stP), .lst true ((cst ps m ns sg S A (some (t, w, g))).2.1.map stP)] := by
  have zp := plys_fz ps
  have fp := frzs_of zp
  have zn := iL_fz ns
  have fn := frzs_of zn
  have h1 := entries_ok hv hl
  have htl := told_len (ps := ps) (ns := ns) (sg := sg)
  have hsl := sort_lot hm
  generalize htd : told ps ns sg = td at *
  have zt := prs_fz td
  have ft := frzs_of zt
  obtain ⟨y8, y9, ⟨hy8, hy9⟩, h2⟩ := lot_loop (e0 := some (psD ps)) (e1 := some (stP (r, ns))) (e2 := some (nD sg)) (e3 := some (sgD (some (t, w, g)))) (e4 := some (.lst true (S.map stP))) (e5 := some (.lst true (A.map stP))) (e6 := some (.lst false (td.map prD))) td [] none none (by simp; omega) ⟨.inl rfl, .inl rfl⟩
  have zd := iL_fz (ded td [])
  have hi := ints_iL (ded td [])
  have zq := iL_fz (lotN m td)
  have fq := frzs_of zq
  have n1 := number_ok rp_P (l := A) (x := (t, lotN m td)) (by omega)
  have n2 := number_ok rp_P (l := S) (x := (g, td.map (·.2))) (by omega)
  have n1' : c_13 [.lst true (A.map stP), .tup [nD t, .tup (iL (lotN m td))]] = _ := n1
  have n2' : c_13 [.lst true (S.map stP), .tup [nD g, .tup (iL (td.map (·.2)))]] = _ := n2
  have lc := fun (e4 e5 : Option D) (x10 : Option D) => fst_lc (own := [8, 9]) (tg := .t [.v 8, .v 9]) (elt := q_14_1) (E := [some (psD ps), some (stP (r, ns)), some (nD sg), some (sgD (some (t, w, g))), e4, e5, some (.lst false (td.map prD)), some (.lst true (iL (ded td []))), none, none, x10, none]) (fun q => [some (psD ps), some (stP (r, ns)), some (nD sg), some (sgD (some (t, w, g))), e4, e5, some (.lst false (td.map prD)), some (.lst true (iL (ded td []))), some (nD q.1), some (nD q.2), x10, none]) (·.2) td [] (by simp; omega) (fun q => ⟨by simp, by unfold q_14_1; simp, rfl⟩)
  simp only [List.nil_append] at lc
  have zs2 := iL_fz (td.map (·.2))
  have fs2 := frzs_of zs2
  unfold cst
  simp only
  rw [htd]
  generalize hlot : lotN m td = lot at *
  generalize hnn : td.map (·.2) = nn at *
  generalize (add A (t, lot)).idxOf (t, lot) = i1 at *
  generalize (add S (g, nn)).idxOf (g, nn) = i2 at *
  have zA := rp_P.fzs (add A (t, lot))
  have zS := rp_P.fzs (add S (g, nn))
  have zA0 := rp_P.fzs A
  have zS0 := rp_P.fzs S
  generalize (add A (t, lot)).map stP = A1 at *
  generalize (add S (g, nn)).map stP = S1 at *
  generalize A.map stP = A0 at *
  generalize S.map stP = S0 at *
  simp only [sf, stP, sgD, psD, List.map_nil] at h2 lc h1 ⊢
  unfold c_14 callF m_14
  rcases hy8 with rfl | ⟨k8, rfl⟩ <;> rcases hy9 with rfl | ⟨k9, rfl⟩ <;>
    simp [zp, fp, zn, fn, at0, at1, at2, h1, zt, ft, h2, sortD, zd, hi, hsl, n1', n2', lc, tupleD, zq, fq, zs2, fs2]
end LW

namespace LW
open PySem PySem.Spec L2 EV
theorem nd_sub {α : Type} [BEq α] [LawfulBEq α] : ∀ {l L : List α}, l.Nodup → (∀ x ∈ l, x ∈ L) → l.length ≤ L.length
  | [], _, _, _ => Nat.zero_le _
  | x :: l, L, h, hs => by
    obtain ⟨h1, h2⟩ := List.nodup_cons.mp h
    have hx : x ∈ L := hs x (List.mem_cons_self ..)
    have ih := nd_sub (l := l) (L := L.erase x) h2 fun y hy => by
      have hne : y ≠ x := fun e => h1 (e ▸ hy)
      exact (List.mem_erase_of_ne hne).mpr (hs y (List.mem_cons_of_mem _ hy))
    rw [List.length_erase_of_mem hx] at ih
    have : 0 < L.length := List.length_pos_of_mem hx
    simp only [List.length_cons]
    omega
/-- all rows of notes -/
def allN : List Ply → List (List Nat)
  | [] => [[]]
  | p :: ps => (List.range p.length).flatMap fun n => (allN ps).map (n :: ·)
def nOk0 (p : Ply) (n : Nat) : Prop := n < p.length
theorem allN_mem : ∀ {ps : List Ply} {ns : List Nat}, al2 nOk0 ps ns → ns ∈ allN ps
  | [], [], _ => by simp [allN]
  | p :: ps, n :: ns, h => by
    unfold allN
    rw [List.mem_flatMap]
    exact ⟨n, List.mem_range.mpr h.1, List.mem_map_of_mem (allN_mem h.2)⟩
  | [], _ :: _, h => h.elim
  | _ :: _, [], h => h.elim
theorem sum_const (c : Nat) : ∀ (l : List Nat), (l.map fun _ => c).sum = l.length * c
  | [] => by simp
  | x :: l => by
    rw [List.map_cons, List.sum_cons, sum_const c l, List.length_cons, Nat.add_mul]; omega
theorem allN_len : ∀ (ps : List Ply), (∀ p ∈ ps, p.length ≤ 3) → (allN ps).length ≤ 3 ^ ps.length
  | [], _ => by simp [allN]
  | p :: ps, h => by
    have ih := allN_len ps fun q hq => h q (List.mem_cons_of_mem _ hq)
    have hp := h p (List.mem_cons_self ..)
    unfold allN
    rw [List.length_flatMap]
    simp only [List.length_map]
    rw [sum_const, List.length_range, List.length_cons, Nat.pow_succ]
    calc p.length * (allN ps).length ≤ 3 * 3 ^ ps.length := Nat.mul_le_mul hp ih
      _ = 3 ^ ps.length * 3 := Nat.mul_comm _ _
def sOk (rooms : Nat) (ps : List Ply) (s : St) : Prop := s.1 < rooms ∧ al2 nOk0 ps s.2
def allS (rooms : Nat) (ps : List Ply) : List St := (List.range rooms).flatMap fun r => (allN ps).map fun ns => (r, ns)
theorem states_len {rooms : Nat} {ps : List Ply} {S : List St} (hn : S.Nodup) (hs : ∀ s ∈ S, sOk rooms ps s) (hr : rooms ≤ 2) (hp : ps.length ≤ 4) (h3 : ∀ p ∈ ps, p.length ≤ 3) : S.length ≤ 162 := by
  have h1 : S.length ≤ (allS rooms ps).length := nd_sub hn fun s h => by
    obtain ⟨r, ns⟩ := s
    have := hs _ h
    unfold allS
    rw [List.mem_flatMap]
    exact ⟨r, List.mem_range.mpr this.1, List.mem_map_of_mem (f := fun ns => (r, ns)) (allN_mem this.2)⟩
  have h2 : (allS rooms ps).length = rooms * (allN ps).length := by
    unfold allS
    rw [List.length_flatMap]
    simp only [List.length_map]
    rw [sum_const, List.length_range]
  have h4 := allN_len ps h3
  have h5 : 3 ^ ps.length ≤ 3 ^ 4 := Nat.pow_le_pow_right (by omega) hp
  have h6 : rooms * (allN ps).length ≤ 2 * 81 := Nat.mul_le_mul hr (by omega)
  omega
section
variable {m tk rooms : Nat} {M : List (List Int)} {C : List (List (Option Int))} {th : D} {B : List Rm} {asks : List Nat} {ps : List Ply}
/-- the players -/
structure Cr (C : List (List (Option Int))) (m : Nat) (asks : List Nat) (ps : List Ply) : Prop where
  py : ∀ p ∈ ps, Py C m asks p
  p0 : 0 < ps.length
  p4 : ps.length ≤ 4
theorem ans_of (Q : Cr C m asks ps) {sg : Nat} (hs : sg < asks.length) : ∀ {qs : List Ply} {ns : List Nat}, (∀ p ∈ qs, p ∈ ps) → al2 nOk0 qs ns → al2 (nOk sg) qs ns
  | [], [], _, _ => trivial
  | p :: qs, n :: ns, hq, h => ⟨⟨h.1, fun r hr => by rw [(Q.py p (hq p (List.mem_cons_self ..))).rl r hr]; exact hs⟩, ans_of Q hs (fun x hx => hq x (List.mem_cons_of_mem _ hx)) h.2⟩
  | [], _ :: _, _, h => h.elim
  | _ :: _, [], _, h => h.elim
/-- what the players answer -/
theorem told_ok (Q : Cr C m asks ps) {sg t : Nat} (ht : asks[sg]? = some t) : ∀ {qs : List Ply} {ns : List Nat}, (∀ p ∈ qs, p ∈ ps) → al2 nOk0 qs ns → al2 (fun p q => aOk C m p.length t q) qs (told qs ns sg)
  | [], [], _, _ => trivial
  | p :: qs, n :: ns, hq, h => by
    have hs := (List.getElem?_eq_some_iff.mp ht).1
    have P := Q.py p (hq p (List.mem_cons_self ..))
    have h1 : p[n]? = some (p.getD n []) := getD_at h.1
    have hrl := P.rl _ (List.mem_of_getElem? h1)
    have h2 : (p.getD n [])[sg]? = some ((p.getD n []).getD sg (0, 0)) := getD_at (by omega)
    refine ⟨P.ao _ (List.mem_of_getElem? h1) sg t _ ht h2, ?_⟩
    exact told_ok Q ht (fun x hx => hq x (List.mem_cons_of_mem _ hx)) h.2
  | [], _ :: _, _, h => h.elim
  | _ :: _, [], _, h => h.elim
theorem al2_map {α β γ : Type} {P : α → β → Prop} {Q : α → γ → Prop} (f : β → γ) (h : ∀ a b, P a b → Q a (f b)) : ∀ {xs : List α} {ys : List β}, al2 P xs ys → al2 Q xs (ys.map f)
  | [], [], _ => trivial
  | x :: xs, y :: ys, hh => ⟨h x y hh.1, al2_map f h hh.2⟩
  | [], _ :: _, hh => hh.elim
  | _ :: _, [], hh => hh.elim
theorem al2_mem {α β : Type} {P : α → β → Prop} {Z : β → Prop} (h : ∀ a b, P a b → Z b) : ∀ {xs : List α} {ys : List β}, al2 P xs ys → ∀ y ∈ ys, Z y
  | [], [], _ => fun y hy => nomatch hy
  | x :: xs, y :: ys, hh => fun z hz => by
    rcases List.mem_cons.mp hz with rfl | hz
    · exact h _ _ hh.1
    · exact al2_mem h hh.2 z hz
  | [], _ :: _, hh => hh.elim
  | _ :: _, [], hh => hh.elim
/-- one sign of the process -/
structure Iv (rooms m tk : Nat) (C : List (List (Option Int))) (ps : List Ply) (S A : List St) : Prop where
  nd : S.Nodup
  so : ∀ s ∈ S, sOk rooms ps s
  ao : ∀ a ∈ A, a.1 < tk ∧ a.2 ≠ [] ∧ (∀ x ∈ a.2, x < m ∧ ∃ (r : List (Option Int)) (i : Int), C[a.1]? = some r ∧ r[x]? = some (some i)) ∧ ∃ td, a.2 = lotN m td
theorem add_nd {l : List St} {x : St} (h : l.Nodup) : (add l x).Nodup := by
  unfold add
  split
  · exact h
  · rename_i hm
    refine List.nodup_append.mpr ⟨h, by simp, fun a ha b hb e => ?_⟩
    rw [List.mem_singleton.mp hb] at e
    exact hm (e ▸ ha)
theorem add_all {l : List St} {x : St} {P : St → Prop} (h : ∀ s ∈ l, P s) (hx : P x) : ∀ s ∈ add l x, P s := fun s hs => by
  unfold add at hs
  split at hs
  · exact h s hs
  · rcases List.mem_append.mp hs with hs | hs
    · exact h s hs
    · rw [List.mem_singleton.mp hs]; exact hx
theorem lot_mem {m : Nat} {td : List (Nat × Nat)} {x : Nat} : x ∈ lotN m td ↔ x < m ∧ x ∈ td.map (·.1) := by
  unfold lotN
  rw [List.mem_filter, List.mem_range]
  simp
theorem cst_iv (Q : Cr C m asks ps) {sg r : Nat} {ns : List Nat} {S A : List St} {s : Sg} (hs : sOk rooms ps (r, ns)) (hsg : ∀ t w g, s = some (t, w, g) → asks[sg]? = some t ∧ t < tk ∧ g < rooms) (I : Iv rooms m tk C ps S A) : Iv rooms m tk C ps (cst ps m ns sg S A s).1 (cst ps m ns sg S A s).2.1 := by
  cases s with
  | none => exact I
  | some x =>
    obtain ⟨t, w, g⟩ := x
    obtain ⟨h1, h2, h3⟩ := hsg t w g rfl
    have ho := told_ok Q h1 (fun p hp => hp) hs.2
    refine ⟨add_nd I.nd, add_all I.so ⟨h3, ?_⟩, add_all I.ao ⟨h2, ?_, fun x hx => ?_, _, rfl⟩⟩
    · exact al2_map (Q := nOk0) (·.2) (fun p q hq => hq.2.1) ho
    · have hl : (told ps ns sg).length = ps.length := ho.len
      have hp := Q.p0
      intro e
      cases htd : told ps ns sg with
      | nil => rw [htd] at hl; simp at hl; omega
      | cons q td =>
        have hq : q ∈ told ps ns sg := by rw [htd]; exact List.mem_cons_self ..
        have hq2 := al2_mem (Z := fun q => q.1 < m) (fun a b hb => hb.1) ho q hq
        have : q.1 ∈ lotN m (told ps ns sg) := lot_mem.mpr ⟨hq2, List.mem_map_of_mem hq⟩
        have e : lotN m (told ps ns sg) = [] := e
        rw [e] at this
        cases this
    · obtain ⟨_, hx2⟩ := lot_mem.mp hx
      obtain ⟨q, hq, rfl⟩ := List.mem_map.mp hx2
      exact al2_mem (Z := fun q => q.1 < m ∧ ∃ (r : List (Option Int)) (i : Int), C[t]? = some r ∧ r[q.1]? = some (some i)) (fun a b hb => ⟨hb.1, hb.2.2⟩) ho q hq
theorem cst_len {ns : List Nat} {sg : Nat} {S A : List St} {s : Sg} : S.length ≤ (cst ps m ns sg S A s).1.length ∧ (cst ps m ns sg S A s).1.length ≤ S.length + 1 ∧ (cst ps m ns sg S A s).2.1.length ≤ A.length + 1 := by
  cases s with
  | none => exact ⟨Nat.le_refl _, Nat.le_succ _, Nat.le_succ _⟩
  | some x =>
    obtain ⟨t, w, g⟩ := x
    exact ⟨(add_len _ _).1, (add_len _ _).2, (add_len _ _).2⟩
end
end LW

namespace LW
open PySem PySem.Spec L2 EV
section
variable {m tk rooms : Nat} {M : List (List Int)} {C : List (List (Option Int))} {th : D} {B : List Rm} {asks : List Nat} {ps : List Ply}
/-- the signs of a row, told by what they ask -/
def rwOk (asks : List Nat) (tk rooms k : Nat) (r : Rm) : Prop := ∀ (j : Nat) s, r[j]? = some s → k + j < asks.length ∧ ∀ t w g, s = some (t, w, g) → asks[k + j]? = some t ∧ t < tk ∧ g < rooms
theorem rwOk.tl {asks : List Nat} {k : Nat} {s : Sg} {r : Rm} (h : rwOk asks tk rooms k (s :: r)) : rwOk asks tk rooms (k + 1) r := fun j s' hj => by
  have := h (j + 1) s' hj
  have e : k + (j + 1) = k + 1 + j := by omega
  rw [e] at this
  exact this
theorem room_rw (K : Cw m tk rooms M C B asks) {i : Nat} (hi : i < rooms) : B[i]? = some (B.getD i []) ∧ (B.getD i []).length = asks.length ∧ rwOk asks tk rooms 0 (B.getD i []) := by
  have h1 : B[i]? = some (B.getD i []) := getD_at (by rw [K.bl]; exact hi)
  have hm := List.mem_of_getElem? h1
  have hl := K.rl _ hm
  refine ⟨h1, hl, fun j s hj => ?_⟩
  have hjl : j < asks.length := by
    have := (List.getElem?_eq_some_iff.mp hj).1
    omega
  rw [Nat.zero_add]
  refine ⟨hjl, fun t w g e => ?_⟩
  have ha : asks[j]? = some asks[j] := List.getElem?_eq_getElem hjl
  obtain ⟨e1, e2⟩ := K.go _ hm j _ s ha hj t w g e
  subst e1
  exact ⟨ha, K.at_ _ (List.getElem_mem hjl), e2⟩
theorem crow_iv (Q : Cr C m asks ps) {q : Nat} {ns : List Nat} (hs : sOk rooms ps (q, ns)) : ∀ (r : Rm) (k : Nat) (S A : List St) (acc : Rm), rwOk asks tk rooms k r → Iv rooms m tk C ps S A →
    Iv rooms m tk C ps (crow ps m ns k r S A acc).1 (crow ps m ns k r S A acc).2.1 ∧ S.length ≤ (crow ps m ns k r S A acc).1.length ∧ (crow ps m ns k r S A acc).1.length ≤ S.length + r.length ∧ (crow ps m ns k r S A acc).2.1.length ≤ A.length + r.length ∧ (crow ps m ns k r S A acc).2.2.length = acc.length + r.length
  | [], k, S, A, acc, _, I => ⟨I, Nat.le_refl _, Nat.le_refl _, Nat.le_refl _, rfl⟩
  | s :: r, k, S, A, acc, hr, I => by
    have h0 := hr 0 s rfl
    rw [Nat.add_zero] at h0
    have I1 := cst_iv Q hs h0.2 I
    obtain ⟨l1, l2, l3⟩ := cst_len (ps := ps) (m := m) (ns := ns) (sg := k) (S := S) (A := A) (s := s)
    obtain ⟨i1, i2, i3, i4, i5⟩ := crow_iv Q hs r (k + 1) _ _ (acc ++ [(cst ps m ns k S A s).2.2]) hr.tl I1
    refine ⟨i1, ?_, ?_, ?_, ?_⟩
    · exact Nat.le_trans l1 i2
    · refine Nat.le_trans i3 ?_; simp only [List.length_cons]; omega
    · refine Nat.le_trans i4 ?_; simp only [List.length_cons]; omega
    · refine Eq.trans i5 ?_; simp; omega
abbrev qf (bk : D) (ps : List Ply) (S A : List St) (x4 x5 : Option D) (acc : Rm) (x7 x8 : Option D) : DEnv := [some bk, some (psD ps), some (.lst true (S.map stP)), some (.lst true (A.map stP)), x4, x5, some (.lst true (acc.map sgD)), x7, x8, none]
theorem prow_ok (Q : Cr C m asks ps) {bk : D} (hb : fz bk = true) {q : Nat} {ns : List Nat} (hs : sOk rooms ps (q, ns)) {x4 : Option D} : ∀ (r : Rm) (k : Nat) (S A : List St) (acc : Rm) (x7 x8 : Option D), rwOk asks tk rooms k r → Iv rooms m tk C ps S A → S.length + r.length < 900 → A.length + r.length < 900 → acc.length + r.length < 900 →
    ∃ y7 y8, forL (.t [.v 7, .v 8]) s_15_1 (numD k (r.map sgD)) (qf bk ps S A x4 (some (stP (q, ns))) acc x7 x8) = .nx (qf bk ps (crow ps m ns k r S A acc).1 (crow ps m ns k r S A acc).2.1 x4 (some (stP (q, ns))) (crow ps m ns k r S A acc).2.2 y7 y8)
  | [], k, S, A, acc, x7, x8, _, _, _, _, _ => ⟨x7, x8, rfl⟩
  | s :: r, k, S, A, acc, x7, x8, hr, I, h1, h2, h3 => by
    simp only [List.length_cons] at h1 h2 h3
    have h0 := hr 0 s rfl
    rw [Nat.add_zero] at h0
    have I1 := cst_iv Q hs h0.2 I
    obtain ⟨l1, l2, l3⟩ := cst_len (ps := ps) (m := m) (ns := ns) (sg := k) (S := S) (A := A) (s := s)
    obtain ⟨y7, y8, ih⟩ := prow_ok Q hb hs (x4 := x4) r (k + 1) (cst ps m ns k S A s).1 (cst ps m ns k S A s).2.1 (acc ++ [(cst ps m ns k S A s).2.2]) (some (nD k)) (some (sgD s)) hr.tl I1 (by omega) (by omega) (by simp; omega)
    refine ⟨y7, y8, ?_⟩
    have zp := plys_fz ps
    have hst := rp_P.fz (q, ns)
    have zs := sg_fz s
    have fs := frz_of _ zs
    have hal : acc.length < 1000000 := by omega
    have st : s_15_1 (qf bk ps S A x4 (some (stP (q, ns))) acc (some (nD k)) (some (sgD s))) = .nx (qf bk ps (cst ps m ns k S A s).1 (cst ps m ns k S A s).2.1 x4 (some (stP (q, ns))) (acc ++ [(cst ps m ns k S A s).2.2]) (some (nD k)) (some (sgD s))) := by
      cases s with
      | none =>
        unfold s_15_1
        simp [cst, sgD, hal]
      | some x =>
        obtain ⟨t, w, g⟩ := x
        have ha := h0.2 t w g rfl
        have ho := told_ok Q ha.1 (fun p hp => hp) hs.2
        have hm : ∀ q ∈ told ps ns k, q.1 < m := al2_mem (Z := fun q => q.1 < m) (fun a b hb => hb.1) ho
        have c14 := step14_ok (ps := ps) (ns := ns) (sg := k) (m := m) (r := q) (t := t) (g := g) (w := w) (S := S) (A := A) (ans_of Q (by have := h0.1; omega) (fun p hp => hp) hs.2) (by have := Q.p4; omega) hm (by omega) (by omega)
        generalize hc : cst ps m ns k S A (some (t, w, g)) = c at *
        have ze := sg_fz c.2.2
        have fe := frz_of _ ze
        have e1 : sgD (some (t, w, g)) = .tup [nD t, .int w, nD g] := rfl
        rw [e1] at zs fs c14 ⊢
        generalize [nD t, D.int w, nD g] = sd at *
        have zs : fzs sd = true := zs
        have fs := frzs_of zs
        have e2 : stP (q, ns) = .tup [nD q, .tup (iL ns)] := rfl
        rw [e2] at hst c14 ⊢
        generalize [nD q, D.tup (iL ns)] = qd at *
        have hst : fzs qd = true := hst
        have fq := frzs_of hst
        unfold s_15_1
        simp [zs, fs, hst, fq, zp, frzs_of zp, c14, ze, fe, hal]
    show forL _ _ (.tup [nD k, sgD s] :: numD (k + 1) (r.map sgD)) _ = _
    conv => lhs; unfold forL
    simp only [put_t, puts_cons, put_v, Option.bind_some, puts_nil, List.set_cons_succ, List.set_cons_zero]
    rw [st]
    exact ih
end
end LW

namespace LW
open PySem PySem.Spec L2 EV
section
variable {m tk rooms : Nat} {M : List (List Int)} {C : List (List (Option Int))} {th : D} {B : List Rm} {asks : List Nat} {ps : List Ply}
def zeros (ps : List Ply) : List Nat := ps.map fun _ => 0
def fin_ (B : List Rm) (ps : List Ply) (m : Nat) : List St × List St × List Rm := crun B ps m 400 [(0, zeros ps)] [] []
theorem zeros_ok (Q : Cr C m asks ps) : ∀ {qs : List Ply}, (∀ p ∈ qs, p ∈ ps) → al2 nOk0 qs (zeros qs)
  | [], _ => trivial
  | p :: qs, h => ⟨(Q.py p (h p (List.mem_cons_self ..))).n0, zeros_ok Q fun x hx => h x (List.mem_cons_of_mem _ hx)⟩
/-- so far -/
structure Jn (B : List Rm) (rooms m tk : Nat) (C : List (List (Option Int))) (ps : List Ply) (S A : List St) (R : List Rm) : Prop where
  iv : Iv rooms m tk C ps S A
  run : fin_ B ps m = crun B ps m (400 - R.length) S A R
  rs : R.length ≤ S.length
  al : A.length ≤ 3 * R.length
theorem J0 (K : Cw m tk rooms M C B asks) (Q : Cr C m asks ps) : Jn B rooms m tk C ps [(0, zeros ps)] [] [] where
  iv := ⟨by simp, fun s hs => by rw [List.mem_singleton.mp hs]; exact ⟨K.r0, zeros_ok Q fun p hp => hp⟩, fun a ha => nomatch ha⟩
  run := rfl
  rs := Nat.zero_le _
  al := Nat.zero_le _
theorem Jn.len (K : Cw m tk rooms M C B asks) (Q : Cr C m asks ps) {S A : List St} {R : List Rm} (J : Jn B rooms m tk C ps S A R) : S.length ≤ 162 :=
  states_len J.iv.nd J.iv.so K.r1 Q.p4 fun p hp => (Q.py p hp).n1
theorem Jn.step (K : Cw m tk rooms M C B asks) (Q : Cr C m asks ps) {S A : List St} {R : List Rm} (J : Jn B rooms m tk C ps S A R) {r : Nat} {ns : List Nat} (h : S[R.length]? = some (r, ns)) :
    Jn B rooms m tk C ps (crow ps m ns 0 (B.getD r []) S A []).1 (crow ps m ns 0 (B.getD r []) S A []).2.1 (R ++ [(crow ps m ns 0 (B.getD r []) S A []).2.2]) := by
  have hs := J.iv.so _ (List.mem_of_getElem? h)
  have hrr : r < rooms := hs.1
  obtain ⟨h1, h2, h3⟩ := room_rw K hrr
  obtain ⟨i1, i2, i3, i4, i5⟩ := crow_iv Q hs (B.getD r []) 0 S A [] h3 J.iv
  have hl := J.len K Q
  have hrl := (List.getElem?_eq_some_iff.mp h).1
  have hs1 := K.s1
  refine ⟨i1, ?_, ?_, ?_⟩
  · rw [J.run]
    have e : 400 - R.length = (400 - (R.length + 1)) + 1 := by omega
    rw [e, List.length_append, List.length_singleton]
    conv => lhs; unfold crun
    rw [h]
  · rw [List.length_append, List.length_singleton]; omega
  · rw [List.length_append, List.length_singleton]
    have := J.al
    omega
theorem Jn.fin (K : Cw m tk rooms M C B asks) (Q : Cr C m asks ps) {S A : List St} {R : List Rm} (J : Jn B rooms m tk C ps S A R) (h : S.length ≤ R.length) : fin_ B ps m = (S, A, R) := by
  rw [J.run]
  have hl := J.len K Q
  have hr := J.rs
  have e : 400 - R.length = (400 - (R.length + 1)) + 1 := by omega
  rw [e]
  unfold crun
  rw [List.getElem?_eq_none (by omega)]
abbrev bf (B : List Rm) (ps : List Ply) (S A : List St) (R : List Rm) (x5 x6 x7 x8 : Option D) : DEnv := [some (bkD B), some (psD ps), some (.lst true (S.map stP)), some (.lst true (A.map stP)), some (.lst true (R.map rmD)), x5, x6, x7, x8, none]
theorem body15 (K : Cw m tk rooms M C B asks) (Q : Cr C m asks ps) {S A : List St} {R : List Rm} {x5 x6 x7 x8 : Option D} (J : Jn B rooms m tk C ps S A R) {r : Nat} {ns : List Nat} (h : S[R.length]? = some (r, ns)) :
    ∃ y5 y6 y7 y8, s_15_3 (bf B ps S A R x5 x6 x7 x8) = .nx (bf B ps (crow ps m ns 0 (B.getD r []) S A []).1 (crow ps m ns 0 (B.getD r []) S A []).2.1 (R ++ [(crow ps m ns 0 (B.getD r []) S A []).2.2]) y5 y6 y7 y8) := by
  have hs := J.iv.so _ (List.mem_of_getElem? h)
  have hrr : r < rooms := hs.1
  obtain ⟨h1, h2, h3⟩ := room_rw K hrr
  have hl := J.len K Q
  have hal := J.al
  have hrs := J.rs
  have hs1 := K.s1
  have zb := rms_fz B
  obtain ⟨y7, y8, hp⟩ := prow_ok Q (bk := bkD B) zb hs (x4 := some (.lst true (R.map rmD))) (B.getD r []) 0 S A [] x7 x8 h3 J.iv (by omega) (by omega) (by rw [List.length_nil]; omega)
  have ai : atI (S.map stP) (R.length : Nat) = some (stP (r, ns)) := atI_at (by rw [List.getElem?_map, h]; rfl)
  have ar : atI (B.map rmD) (r : Nat) = some (rmD (B.getD r [])) := atI_at (by rw [List.getElem?_map, h1]; rfl)
  have zS := rp_P.fzs S
  have hst := rp_P.fz (r, ns)
  have fst_ := frz_of _ hst
  generalize B.getD r [] = row at *
  have zr := sgs_fz row
  have fr := frzs_of zr
  generalize crow ps m ns 0 row S A [] = c at *
  have zc := sgs_fz c.2.2
  have fc := frzs_of zc
  have hRl : R.length < 1000000 := by omega
  have zR := rms_fz R
  have e2 : stP (r, ns) = .tup [nD r, .tup (iL ns)] := rfl
  rw [e2] at hst fst_ ai hp
  have zn := iL_fz ns
  have fn := frzs_of zn
  have fb := frzs_of zb
  refine ⟨some (.tup [nD r, .tup (iL ns)]), some (.lst true (c.2.2.map sgD)), y7, y8, ?_⟩
  simp only [bkD, qf, List.map_nil] at hp
  unfold s_15_3
  simp [zS, zR, ai, zn, fn, at0, zb, fb, ar, zr, fr, hp, zc, fc, tupleD, hRl]
theorem book_ok (K : Cw m tk rooms M C B asks) (Q : Cr C m asks ps) : ∃ S A R, fin_ B ps m = (S, A, R) ∧ Jn B rooms m tk C ps S A R ∧ R.length = S.length ∧ c_15 [bkD B, psD ps] = .ok (.tup [bkD R, .lst false (A.map stP)]) [] := by
  have zb := rms_fz B
  have zp := plys_fz ps
  have fp := frzs_of zp
  have H := whileN_rule (t := t_15_2) (m := s_15_3) (fun X => ∃ S A R y5 y6 y7 y8, Jn B rooms m tk C ps S A R ∧ S.length ≤ R.length ∧ X = .nx (bf B ps S A R y5 y6 y7 y8))
    (fun μ e => ∃ S A R y5 y6 y7 y8, Jn B rooms m tk C ps S A R ∧ μ = 400 - R.length ∧ e = bf B ps S A R y5 y6 y7 y8) (fun μ e => ?_) FUEL 400 (bf B ps [(0, zeros ps)] [] [] none none none none) ⟨_, _, _, _, _, _, _, J0 K Q, rfl, rfl⟩ (by rw [FUEL_eq]; omega)
  · obtain ⟨S, A, R, y5, y6, y7, y8, J, hle, hw⟩ := H
    have hf := J.fin K Q hle
    refine ⟨S, A, R, hf, J, Nat.le_antisymm J.rs hle, ?_⟩
    have lc := lc_gen (own := [9]) (tg := .v 9) (cond := mTrue) (elt := q_15_4) (E := [some (bkD B), some (psD ps), none, none, none, none, none, none, none, none]) (fun d => [some (bkD B), some (psD ps), none, none, none, none, none, none, none, some d]) (fun _ => true) (fun _ => .int 0) (ps.map plyD) [] (by have := Q.p4; simp; omega) (fun d hd => ⟨by simp, rfl, fun _ => by unfold q_15_4; simp, rfl⟩)
    have e0 : ((ps.map plyD).filter fun _ => true).map (fun _ => D.int 0) = iL (zeros ps) := by
      rw [List.filter_eq_self.mpr (fun _ _ => rfl), List.map_map]
      show _ = (ps.map fun _ => 0).map nD
      rw [List.map_map]
      rfl
    rw [e0, List.nil_append] at lc
    have zz := iL_fz (zeros ps)
    have fz_ := frzs_of zz
    have zR := rms_fz R
    have fR := frzs_of zR
    have zA := rp_P.fzs A
    have fA := frzs_of zA
    have c0 : ((0 : Nat) : Int) = 0 := rfl
    have e1 : ([(0, zeros ps)] : List St).map stP = [.tup [.int 0, .tup (iL (zeros ps))]] := rfl
    simp only [bf, bkD, e1, List.map_nil] at hw
    simp only [bkD] at lc ⊢
    unfold c_15 callF m_15
    simp [zb, zp, fp, lc, zz, fz_, tupleD, hw, zR, fR, zA, fA]
  · rintro ⟨S, A, R, y5, y6, y7, y8, J, rfl, rfl⟩
    have hl := J.len K Q
    have hrs := J.rs
    by_cases hlt : R.length < S.length
    · obtain ⟨s, hs⟩ : ∃ s, S[R.length]? = some s := ⟨_, List.getElem?_eq_getElem hlt⟩
      obtain ⟨r, ns⟩ := s
      obtain ⟨z5, z6, z7, z8, hb⟩ := body15 (x5 := y5) (x6 := y6) (x7 := y7) (x8 := y8) K Q J hs
      have hi : ((R.length : Nat) : Int) < ((S.length : Nat) : Int) := by omega
      have ht : t_15_2 (bf B ps S A R y5 y6 y7 y8) = .ok (.bl true) (bf B ps S A R y5 y6 y7 y8) := by
        have zS := rp_P.fzs S
        have zR := rms_fz R
        unfold t_15_2
        simp [zS, zR, hlt]
      rw [ht]
      simp only [stB_ok, if_true]
      rw [hb]
      refine ⟨400 - (R ++ [(crow ps m ns 0 (B.getD r []) S A []).2.2]).length, ?_, _, _, _, _, _, _, _, J.step K Q hs, rfl, rfl⟩
      rw [List.length_append, List.length_singleton]
      omega
    · have ht : t_15_2 (bf B ps S A R y5 y6 y7 y8) = .ok (.bl false) (bf B ps S A R y5 y6 y7 y8) := by
        have zS := rp_P.fzs S
        have zR := rms_fz R
        unfold t_15_2
        simp [zS, zR, hlt]
      rw [ht]
      simp only [stB_ok, Bool.false_eq_true, if_false]
      exact ⟨S, A, R, y5, y6, y7, y8, J, by omega, rfl⟩
end
end LW

namespace LW
open PySem PySem.Spec L2 EV
theorem map_lc {α : Type} {own : List Nat} {tg : CT} {elt : ME} {E : DEnv} (E1 : α → DEnv) (fa fb : α → D) : ∀ (xs : List α) (acc : List D), acc.length + xs.length ≤ 1000 →
    (∀ x ∈ xs, put tg (fa x) E = some (E1 x) ∧ elt (E1 x) = .ok (fb x) (E1 x) ∧ wipeE own (E1 x) = E) → lcL own tg mTrue elt (xs.map fa) acc E = .ok (acc ++ xs.map fb) E
  | [], acc, _, _ => by simp [lcL]
  | x :: xs, acc, hl, h => by
    obtain ⟨h1, h2, h3⟩ := h x (List.mem_cons_self ..)
    simp only [List.length_cons] at hl
    have ih := map_lc (own := own) (tg := tg) (elt := elt) (E := E) E1 fa fb xs (acc ++ [fb x]) (by simp; omega) fun y hy => h y (List.mem_cons_of_mem _ hy)
    have hlt : acc.length < LIM := by rw [LIM_is]; omega
    rw [List.map_cons]
    unfold lcL
    rw [h1]
    simp only [ap_true, h2, hlt, if_true, h3]
    rw [ih]
    simp
/-- the costs of a lot -/
def wi (lot : List Nat) : Nat → List (Option Int) → List (Option Int)
  | _, [] => []
  | k, c :: r => (if k ∈ lot then c else none) :: wi lot (k + 1) r
theorem wi_len (lot : List Nat) : ∀ (r : List (Option Int)) (k : Nat), (wi lot k r).length = r.length
  | [], _ => rfl
  | c :: r, k => congrArg (· + 1) (wi_len lot r (k + 1))
theorem wi_get (lot : List Nat) : ∀ (r : List (Option Int)) (k j : Nat), (wi lot k r)[j]? = (r[j]?).map fun c => if k + j ∈ lot then c else none
  | [], _, _ => by simp [wi]
  | c :: r, k, 0 => by simp [wi]
  | c :: r, k, j + 1 => by
    show (wi lot (k + 1) r)[j]? = _
    rw [wi_get lot r (k + 1) j]
    have e : k + 1 + j = k + (j + 1) := by omega
    rw [e]
    rfl
theorem wi_lc {lot : List Nat} {e0 e1 : Option D} (he : e1 = some (.tup (iL lot))) : ∀ (r : List (Option Int)) (k : Nat) (acc : List D), acc.length + r.length ≤ 1000 →
    lcL [2, 3] (.t [.v 2, .v 3]) mTrue q_16_1 (numD k (r.map coV)) acc [e0, e1, none, none] = .ok (acc ++ (wi lot k r).map coV) [e0, e1, none, none]
  | [], k, acc, _ => by simp [lcL, wi, numD]
  | c :: r, k, acc, hl => by
    simp only [List.length_cons] at hl
    have ih := wi_lc (e0 := e0) he r (k + 1) (acc ++ [coV (if k ∈ lot then c else none)]) (by simp; omega)
    have hlt : acc.length < LIM := by rw [LIM_is]; omega
    have hin := in_iLt (g := k) (L := lot)
    have zl := iL_fz lot
    have zc := co_fz c
    have hq : q_16_1 [e0, e1, some (nD k), some (coV c)] = .ok (coV (if k ∈ lot then c else none)) [e0, e1, some (nD k), some (coV c)] := by
      subst he
      unfold q_16_1
      by_cases hm : k ∈ lot
      · simp only [hm, decide_true] at hin
        simp [hin, zl, zc, hm]
      · simp only [hm, decide_false] at hin
        simp [hin, zl, hm, coV]
    show lcL _ _ _ _ (.tup [nD k, coV c] :: numD (k + 1) (r.map coV)) _ _ = _
    unfold lcL
    simp only [put_t, puts_cons, put_v, Option.bind_some, puts_nil, List.set_cons_succ, List.set_cons_zero, ap_true, hq, hlt, if_true]
    rw [show wipeE [2, 3] [e0, e1, some (nD k), some (coV c)] = [e0, e1, none, none] from rfl, ih]
    simp [wi]
theorem within_ok {r : List (Option Int)} {lot : List Nat} (hl : r.length < 1000) : c_16 [coR r, .tup (iL lot)] = .ok (coR (wi lot 0 r)) [] := by
  have zr := cos_fz r
  have fr := frzs_of zr
  have zl := iL_fz lot
  have zw := cos_fz (wi lot 0 r)
  have fw := frzs_of zw
  have lc := wi_lc (lot := lot) (e0 := some (coR r)) (e1 := some (.tup (iL lot))) rfl r 0 [] (by simp; omega)
  rw [List.nil_append] at lc
  unfold c_16 callF m_16
  simp [zr, fr, zl, lc, zw, fw, tupleD]
section
variable {m tk rooms : Nat} {M : List (List Int)} {C : List (List (Option Int))} {th : D} {B : List Rm} {asks : List Nat} {ps : List Ply}
def mineC (C : List (List (Option Int))) (A : List St) : List (List (Option Int)) := A.map fun a => C.getD a.1 []
def theirC (C : List (List (Option Int))) (A : List St) : List (List (Option Int)) := A.map fun a => wi a.2 0 (C.getD a.1 [])
abbrev coD (M : List (List Int)) (C : List (List (Option Int))) (A : List St) (R : List Rm) : D := .tup [svD M (mineC C A), svD M (theirC C A), bkD R]
theorem case17 (K : Cw m tk rooms M C B asks) (hth : fz th = true) (Q : Cr C m asks ps) {S A : List St} {R : List Rm} (J : Jn B rooms m tk C ps S A R) (hc : c_15 [bkD B, psD ps] = .ok (.tup [bkD R, .lst false (A.map stP)]) []) :
    c_17 [whD M C th B, psD ps] = .ok (coD M C A R) [] := by
  have hal := J.al
  have hrs := J.rs
  have hl := J.len K Q
  have zM := fz_tups M
  have fM := frzs_of zM
  have zC := cosr_fz C
  have fC := frzs_of zC
  have zB := rms_fz B
  have fB := frzs_of zB
  have zR := rms_fz R
  have fR := frzs_of zR
  have zA := rp_P.fzs A
  have fA := frzs_of zA
  have zp := plys_fz ps
  have fp := frzs_of zp
  have fth := frz_of _ hth
  have hC : ∀ a ∈ A, atI (C.map coR) (a.1 : Nat) = some (coR (C.getD a.1 [])) ∧ (C.getD a.1 []).length < 1000 := fun a ha => by
    have h1 := (J.iv.ao a ha).1
    have h2 : C[a.1]? = some (C.getD a.1 []) := getD_at (by rw [K.sv.tl]; exact h1)
    refine ⟨atI_at (by rw [List.getElem?_map, h2]; rfl), ?_⟩
    have := (K.sv.co _ (List.mem_of_getElem? h2)).1
    have := K.m1
    omega
  have lc1 := map_lc (own := [8, 9]) (tg := .t [.v 8, .v 9]) (elt := q_17_2) (E := [some (whD M C th B), some (psD ps), some (.tup (M.map rt)), some (.tup (C.map coR)), some (bkD R), some (.lst false (A.map stP)), none, none, none, none]) (fun a => [some (whD M C th B), some (psD ps), some (.tup (M.map rt)), some (.tup (C.map coR)), some (bkD R), some (.lst false (A.map stP)), none, none, some (nD a.1), some (.tup (iL a.2))]) stP (fun a => coR (C.getD a.1 [])) A [] (by simp; omega) (fun a ha => by
    obtain ⟨h1, _⟩ := hC a ha
    have zr := cos_fz (C.getD a.1 [])
    refine ⟨by simp [stP], ?_, rfl⟩
    generalize C.getD a.1 [] = row at *
    unfold q_17_2
    simp [zC, h1, zr])
  have lc2 := fun (x6 : Option D) => map_lc (own := [8, 9]) (tg := .t [.v 8, .v 9]) (elt := q_17_1) (E := [some (whD M C th B), some (psD ps), some (.tup (M.map rt)), some (.tup (C.map coR)), some (bkD R), some (.lst false (A.map stP)), x6, none, none, none]) (fun a => [some (whD M C th B), some (psD ps), some (.tup (M.map rt)), some (.tup (C.map coR)), some (bkD R), some (.lst false (A.map stP)), x6, none, some (nD a.1), some (.tup (iL a.2))]) stP (fun a => coR (wi a.2 0 (C.getD a.1 []))) A [] (by simp; omega) (fun a ha => by
    obtain ⟨h1, h2⟩ := hC a ha
    have zr := cos_fz (C.getD a.1 [])
    have fr := frzs_of zr
    have zw := cos_fz (wi a.2 0 (C.getD a.1 []))
    have fw := frzs_of zw
    have za := iL_fz a.2
    have fa := frzs_of za
    have hw := within_ok (r := C.getD a.1 []) (lot := a.2) h2
    refine ⟨by simp [stP], ?_, rfl⟩
    generalize wi a.2 0 (C.getD a.1 []) = wr at *
    generalize C.getD a.1 [] = row at *
    unfold q_17_1
    simp [zC, h1, zr, fr, za, fa, hw, zw, fw])
  rw [List.nil_append] at lc1
  simp only [List.nil_append] at lc2
  have e1 : (A.map fun a => coR (C.getD a.1 [])) = (mineC C A).map coR := by unfold mineC; rw [List.map_map]; rfl
  have e2 : (A.map fun a => coR (wi a.2 0 (C.getD a.1 []))) = (theirC C A).map coR := by unfold theirC; rw [List.map_map]; rfl
  rw [e1] at lc1
  simp only [e2] at lc2
  have z1 := cosr_fz (mineC C A)
  have f1 := frzs_of z1
  have z2 := cosr_fz (theirC C A)
  have f2 := frzs_of z2
  show _ = RC.ok (.tup [svD M (mineC C A), svD M (theirC C A), bkD R]) []
  generalize mineC C A = C1 at *
  generalize theirC C A = C2 at *
  simp only [whD, svD, bkD, psD] at lc1 lc2 hc ⊢
  unfold c_17 callF m_17
  simp [zM, fM, zC, fC, zB, fB, zp, fp, hth, fth, at0, at2, hc, zR, fR, zA, fA, lc1, lc2, tupleD, z1, f1, z2, f2]
end
end LW

namespace LW
open PySem PySem.Spec L2 EV
section
variable {m tk rooms : Nat} {M : List (List Int)} {C : List (List (Option Int))} {th : D} {B : List Rm} {asks : List Nat} {ps : List Ply}
/-- the law's own frame -/
abbrev lf (W : D) (ps : List Ply) (pr co th bk : D) (S A : List St) (x8 x9 : Option D) (q : Nat) (ns : List Nat) (acc : Rm) (x13 x14 x15 x16 x17 : Option D) : DEnv :=
  [some W, some (psD ps), some pr, some co, some th, some bk, some (.lst true (S.map stL)), some (.lst true (A.map stL)), x8, x9, some (nD q), some (.lst false (iL ns)), some (.lst true (acc.map sgD)), x13, x14, x15, x16, x17, none, none, none, none, none, none, none, none, none]
def pTd (td : List (Nat × Nat)) : D → Bool
  | .int k => decide (k.toNat ∈ td.map (·.1))
  | _ => false
theorem filt_lot {td : List (Nat × Nat)} : ∀ (L : List Nat), ((iL L).filter (pTd td)).map id = iL (L.filter fun s => decide (s ∈ td.map (·.1)))
  | [] => rfl
  | x :: L => by
    have h : pTd td (nD x) = decide (x ∈ td.map (·.1)) := by
      show decide ((((x : Nat) : Int).toNat) ∈ _) = _
      rw [Int.toNat_natCast]
    show ((nD x :: iL L).filter (pTd td)).map id = iL ((x :: L).filter _)
    by_cases hx : x ∈ td.map (·.1)
    · rw [List.filter_cons_of_pos (by rw [h]; simpa using hx), List.filter_cons_of_pos (by simpa using hx), List.map_cons, filt_lot L]
      rfl
    · rw [List.filter_cons_of_neg (by rw [h]; simpa using hx), List.filter_cons_of_neg (by simpa using hx), filt_lot L]
theorem lc_ok_len {own : List Nat} {tg : CT} {cond elt : ME} {E : DEnv} (E1 : D → DEnv) (d : D) (p : Bool) (f : D) (ds : List D) (acc' : List D) (E2 : DEnv) (h1 : put tg d E = some (E1 d)) (h2 : cond (E1 d) = .ok (.bl p) E2) (h3 : elt E2 = .ok f E2) (E3 : DEnv) (h4 : wipeE own E2 = E3)
    (h5 : lcL own tg cond elt ds (if p = true then [f] else []) E3 = .ok acc' E3) : lcL own tg cond elt (d :: ds) [] E = .ok acc' E3 := by
  unfold lcL
  rw [h1]
  simp only
  rw [h2]
  cases p with
  | true =>
    simp only
    rw [h3]
    have : ([] : List D).length < LIM := by rw [LIM_is]; decide
    simp only [this, if_true, h4]
    simpa using h5
  | false =>
    simp only [h4]
    simpa using h5
/-- the pair's lot -/
theorem lot_lc {e0 e1 e2 e3 e4 e5 e6 e7 e8 e9 e10 e11 e12 e13 e14 e16 e17 : Option D} {td : List (Nat × Nat)} {o : Bool} {m : Nat} (hm : 0 < m) (hm2 : m < 100) (ht : td.length < 100) :
    lcL [24] (.v 24) t_28_7 q_28_6 (rangeD 0 (m : Nat)) [] [e0, e1, e2, e3, e4, e5, e6, e7, e8, e9, e10, e11, e12, e13, e14, some (.lst o (td.map prD)), e16, e17, none, none, none, none, none, none, none, none, none] = .ok (iL (lotN m td)) [e0, e1, e2, e3, e4, e5, e6, e7, e8, e9, e10, e11, e12, e13, e14, some (.lst false (td.map prD)), e16, e17, none, none, none, none, none, none, none, none, none] := by
  have zt := prs_fz td
  have ft := frzs_of zt
  have inner := fun (k : Nat) => fst_lc (own := [25]) (tg := .v 25) (elt := q_28_5) (E := [e0, e1, e2, e3, e4, e5, e6, e7, e8, e9, e10, e11, e12, e13, e14, some (.lst false (td.map prD)), e16, e17, none, none, none, none, none, none, some (nD k), none, none]) (fun q => [e0, e1, e2, e3, e4, e5, e6, e7, e8, e9, e10, e11, e12, e13, e14, some (.lst false (td.map prD)), e16, e17, none, none, none, none, none, none, some (nD k), some (prD q), none]) (·.1) td [] (by simp; omega) (fun q => ⟨by simp, by unfold q_28_5; simp [at0], rfl⟩)
  simp only [List.nil_append] at inner
  have hi : ∀ (o : Bool) (k : Nat), t_28_7 [e0, e1, e2, e3, e4, e5, e6, e7, e8, e9, e10, e11, e12, e13, e14, some (.lst o (td.map prD)), e16, e17, none, none, none, none, none, none, some (nD k), none, none] = .ok (.bl (decide (k ∈ td.map (·.1)))) [e0, e1, e2, e3, e4, e5, e6, e7, e8, e9, e10, e11, e12, e13, e14, some (.lst false (td.map prD)), e16, e17, none, none, none, none, none, none, some (nD k), none, none] := fun o k => by
    have hin := in_iL (g := k) (o := false) (L := td.map (·.1))
    have zl := iL_fz (td.map (·.1))
    have fl := frzs_of zl
    have hk := inner k
    generalize td.map (·.1) = L at *
    unfold t_28_7
    cases o <;> simp [zt, ft, hk, zl, fl, hin]
  have hq : ∀ (o : Bool) (k : Nat), q_28_6 [e0, e1, e2, e3, e4, e5, e6, e7, e8, e9, e10, e11, e12, e13, e14, some (.lst o (td.map prD)), e16, e17, none, none, none, none, none, none, some (nD k), none, none] = .ok (nD k) [e0, e1, e2, e3, e4, e5, e6, e7, e8, e9, e10, e11, e12, e13, e14, some (.lst o (td.map prD)), e16, e17, none, none, none, none, none, none, some (nD k), none, none] := fun o k => by
    unfold q_28_6
    simp
  have rest := fun (L : List Nat) (acc : List D) (hl : acc.length + L.length ≤ 1000) => lc_gen (own := [24]) (tg := .v 24) (cond := t_28_7) (elt := q_28_6) (E := [e0, e1, e2, e3, e4, e5, e6, e7, e8, e9, e10, e11, e12, e13, e14, some (.lst false (td.map prD)), e16, e17, none, none, none, none, none, none, none, none, none]) (fun d => [e0, e1, e2, e3, e4, e5, e6, e7, e8, e9, e10, e11, e12, e13, e14, some (.lst false (td.map prD)), e16, e17, none, none, none, none, none, none, some d, none, none]) (pTd td) id (iL L) acc (by rw [List.length_map]; exact hl) (fun d hd => by
    obtain ⟨k, _, rfl⟩ := List.mem_map.mp hd
    have h : pTd td (nD k) = decide (k ∈ td.map (·.1)) := by
      show decide ((((k : Nat) : Int).toNat) ∈ _) = _
      rw [Int.toNat_natCast]
    exact ⟨by simp, by rw [h]; exact hi false k, fun _ => hq false k, rfl⟩)
  rw [rangeD_eq]
  unfold lotN
  obtain ⟨n, rfl⟩ : ∃ n, m = n + 1 := ⟨m - 1, by omega⟩
  have er : List.range (n + 1) = 0 :: (List.range n).map (· + 1) := List.range_succ_eq_map
  rw [er]
  have r2 := rest ((List.range n).map (· + 1)) (if decide (0 ∈ td.map (·.1)) = true then [nD 0] else []) (by
    rw [List.length_map, List.length_range]
    split
    · rw [List.length_singleton]; omega
    · rw [List.length_nil]; omega)
  refine lc_ok_len (fun d => [e0, e1, e2, e3, e4, e5, e6, e7, e8, e9, e10, e11, e12, e13, e14, some (.lst o (td.map prD)), e16, e17, none, none, none, none, none, none, some d, none, none]) (nD 0) (decide (0 ∈ td.map (·.1))) (nD 0) (iL ((List.range n).map (· + 1))) _ [e0, e1, e2, e3, e4, e5, e6, e7, e8, e9, e10, e11, e12, e13, e14, some (.lst false (td.map prD)), e16, e17, none, none, none, none, none, none, some (nD 0), none, none] (by simp) (hi o 0) (hq false 0) _ rfl ?_
  rw [r2, filt_lot]
  congr 1
  by_cases h0 : 0 ∈ td.map (·.1)
  · rw [if_pos (by simpa using h0), List.filter_cons_of_pos (by simpa using h0)]
    rfl
  · rw [if_neg (by simpa using h0), List.filter_cons_of_neg (by simpa using h0)]
    rfl
theorem law_step {W pr co bk : D} {S A : List St} {x8 x9 x15 x16 x17 : Option D} {q : Nat} {ns : List Nat} {acc : Rm} {k t g : Nat} {w : Int} {rows : List D} (hpr : pr = .tup rows) (hrl : rows.length = m) (hm0 : 0 < m) (hm1 : m < 100) (hz : fzs rows = true) (hv : al2 (nOk k) ps ns) (hl : ps.length < 100) (hS : S.length < 900) (hA : A.length < 900) (ha : acc.length < 900) :
    ∃ y15 y16 y17, s_28_9 (lf W ps pr co th bk S A x8 x9 q ns acc (some (nD k)) (some (sgD (some (t, w, g)))) x15 x16 x17) = .nx (lf W ps pr co th bk (cst ps m ns k S A (some (t, w, g))).1 (cst ps m ns k S A (some (t, w, g))).2.1 x8 x9 q ns (acc ++ [(cst ps m ns k S A (some (t, w, g))).2.2]) (some (nD k)) (some (sgD (some (t, w, g)))) y15 y16 y17) := by
  subst hpr
  have zp := plys_fz ps
  have fp := frzs_of zp
  have zn := iL_fz ns
  have fn := frzs_of zn
  have htl := told_len (ps := ps) (ns := ns) (sg := k)
  have lc := zip_lc (own := [22, 23]) (tg := .t [.v 22, .v 23]) (elt := q_28_8) (E := lf W ps (.tup rows) co th bk S A x8 x9 q ns acc (some (nD k)) (some (sgD (some (t, w, g)))) x15 x16 x17) (fun p n => [some W, some (psD ps), some (.tup rows), some co, some th, some bk, some (.lst true (S.map stL)), some (.lst true (A.map stL)), x8, x9, some (nD q), some (.lst false (iL ns)), some (.lst true (acc.map sgD)), some (nD k), some (sgD (some (t, w, g))), x15, x16, x17, none, none, none, none, some (plyD p), some (nD n), none, none, none]) k ps ns [] (by simp; omega) hv (fun p n hn => by
    obtain ⟨h1, h2⟩ := ans_at hn
    have z1 := nrs_fz p
    have z2 := prs_fz (p.getD n [])
    have f2 := frzs_of z2
    refine ⟨by simp, ?_, rfl⟩
    generalize p.getD n [] = row at *
    unfold q_28_8
    simp [z1, h1, z2, f2, h2])
  rw [List.nil_append] at lc
  unfold cst
  simp only
  generalize htd : told ps ns k = td at *
  have ll := fun (e16 e17 : Option D) => lot_lc (e0 := some W) (e1 := some (psD ps)) (e2 := some (.tup rows)) (e3 := some co) (e4 := some th) (e5 := some bk) (e6 := some (.lst true (S.map stL))) (e7 := some (.lst true (A.map stL))) (e8 := x8) (e9 := x9) (e10 := some (nD q)) (e11 := some (.lst false (iL ns))) (e12 := some (.lst true (acc.map sgD))) (e13 := some (nD k)) (e14 := some (sgD (some (t, w, g)))) (e16 := e16) (e17 := e17) (td := td) (o := true) (m := m) hm0 hm1 (by omega)
  have l2 := fun (e16 e17 : Option D) => fst_lc (own := [25]) (tg := .v 25) (elt := q_28_4) (E := [some W, some (psD ps), some (.tup rows), some co, some th, some bk, some (.lst true (S.map stL)), some (.lst true (A.map stL)), x8, x9, some (nD q), some (.lst false (iL ns)), some (.lst true (acc.map sgD)), some (nD k), some (sgD (some (t, w, g))), some (.lst false (td.map prD)), e16, e17, none, none, none, none, none, none, none, none, none]) (fun q' => [some W, some (psD ps), some (.tup rows), some co, some th, some bk, some (.lst true (S.map stL)), some (.lst true (A.map stL)), x8, x9, some (nD q), some (.lst false (iL ns)), some (.lst true (acc.map sgD)), some (nD k), some (sgD (some (t, w, g))), some (.lst false (td.map prD)), e16, e17, none, none, none, none, none, none, none, some (prD q'), none]) (·.2) td [] (by simp; omega) (fun q => ⟨by simp, by unfold q_28_4; simp [at1], rfl⟩)
  simp only [List.nil_append] at l2
  have zt := prs_fz td
  have ft := frzs_of zt
  have rg : rngOk (m : Nat) = true := rngOk_s (by omega) (by omega)
  generalize hlot : lotN m td = lot at *
  generalize hnn : td.map (·.2) = nn at *
  have zl := iL_fz lot
  have fl := frzs_of zl
  have zn2 := iL_fz nn
  have fn2 := frzs_of zn2
  -- the two memberships
  have g1 := rp_L.notin false A (t, lot)
  have g2 := rp_L.notin false S (g, nn)
  have i1 := rp_L.index false (add_mem A (t, lot))
  have i2 := rp_L.index false (add_mem S (g, nn))
  have hA2 : A.length < 1000000 := by omega
  have hS2 : S.length < 1000000 := by omega
  have ha2 : acc.length < 1000000 := by omega
  have zA := rp_L.fzs A
  have zS := rp_L.fzs S
  have fA := frzs_of zA
  have fS := frzs_of zS
  have es1 : stL (t, lot) = .tup [nD t, .lst false (iL lot)] := rfl
  have es2 : stL (g, nn) = .tup [nD g, .lst false (iL nn)] := rfl
  have zA1 := rp_L.fzs (add A (t, lot))
  have zS1 := rp_L.fzs (add S (g, nn))
  have fA1 := frzs_of zA1
  have fS1 := frzs_of zS1
  refine ⟨some (.lst false (td.map prD)), some (.tup [nD t, .lst false (iL lot)]), some (.tup [nD g, .lst false (iL nn)]), ?_⟩
  by_cases hm1 : (t, lot) ∈ A <;> by_cases hm2 : (g, nn) ∈ S
  · have e1 : add A (t, lot) = A := by unfold add; rw [if_pos hm1]
    have e2 : add S (g, nn) = S := by unfold add; rw [if_pos hm2]
    rw [e1] at i1 zA1 fA1 ⊢
    rw [e2] at i2 zS1 fS1 ⊢
    simp only [hm1, hm2, decide_true, decide_false, Bool.not_true, Bool.not_false] at g1 g2
    rw [es1] at g1 i1
    rw [es2] at g2 i2
    simp only [lf, psD, sgD] at lc ll l2 ⊢
    unfold s_28_9
    simp [zp, fp, zn, fn, lc, at0, at1, at2, hz, hrl, rg, ll, l2, zt, ft, zl, fl, zn2, fn2, zA, fA, zS, fS, zA1, fA1, zS1, fS1, g1, g2, i1, i2, ha2, hA2, hS2, sgD, es1, es2]
  · have e1 : add A (t, lot) = A := by unfold add; rw [if_pos hm1]
    have e2 : add S (g, nn) = S ++ [(g, nn)] := by unfold add; rw [if_neg hm2]
    rw [e1] at i1 zA1 fA1 ⊢
    rw [e2] at i2 zS1 fS1 ⊢
    simp only [hm1, hm2, decide_true, decide_false, Bool.not_true, Bool.not_false] at g1 g2
    simp only [List.map_append, List.map_cons, List.map_nil] at i1 i2 zA1 fA1 zS1 fS1
    rw [es1] at g1 i1
    rw [es2] at g2 i2 zS1 fS1
    simp only [lf, psD, sgD] at lc ll l2 ⊢
    unfold s_28_9
    simp [zp, fp, zn, fn, lc, at0, at1, at2, hz, hrl, rg, ll, l2, zt, ft, zl, fl, zn2, fn2, zA, fA, zS, fS, zA1, fA1, zS1, fS1, g1, g2, i1, i2, ha2, hA2, hS2, sgD, es1, es2]
  · have e1 : add A (t, lot) = A ++ [(t, lot)] := by unfold add; rw [if_neg hm1]
    have e2 : add S (g, nn) = S := by unfold add; rw [if_pos hm2]
    rw [e1] at i1 zA1 fA1 ⊢
    rw [e2] at i2 zS1 fS1 ⊢
    simp only [hm1, hm2, decide_true, decide_false, Bool.not_true, Bool.not_false] at g1 g2
    simp only [List.map_append, List.map_cons, List.map_nil] at i1 i2 zA1 fA1 zS1 fS1
    rw [es1] at g1 i1 zA1 fA1
    rw [es2] at g2 i2
    simp only [lf, psD, sgD] at lc ll l2 ⊢
    unfold s_28_9
    simp [zp, fp, zn, fn, lc, at0, at1, at2, hz, hrl, rg, ll, l2, zt, ft, zl, fl, zn2, fn2, zA, fA, zS, fS, zA1, fA1, zS1, fS1, g1, g2, i1, i2, ha2, hA2, hS2, sgD, es1, es2]
  · have e1 : add A (t, lot) = A ++ [(t, lot)] := by unfold add; rw [if_neg hm1]
    have e2 : add S (g, nn) = S ++ [(g, nn)] := by unfold add; rw [if_neg hm2]
    rw [e1] at i1 zA1 fA1 ⊢
    rw [e2] at i2 zS1 fS1 ⊢
    simp only [hm1, hm2, decide_true, decide_false, Bool.not_true, Bool.not_false] at g1 g2
    simp only [List.map_append, List.map_cons, List.map_nil] at i1 i2 zA1 fA1 zS1 fS1
    rw [es1] at g1 i1 zA1 fA1
    rw [es2] at g2 i2 zS1 fS1
    simp only [lf, psD, sgD] at lc ll l2 ⊢
    unfold s_28_9
    simp [zp, fp, zn, fn, lc, at0, at1, at2, hz, hrl, rg, ll, l2, zt, ft, zl, fl, zn2, fn2, zA, fA, zS, fS, zA1, fA1, zS1, fS1, g1, g2, i1, i2, ha2, hA2, hS2, sgD, es1, es2]
end
end LW

namespace LW
open PySem PySem.Spec L2 EV
section
variable {m tk rooms : Nat} {M : List (List Int)} {C : List (List (Option Int))} {th : D} {B : List Rm} {asks : List Nat} {ps : List Ply}
theorem lrow_ok (Q : Cr C m asks ps) (hm1 : m < 100) (hm0 : 0 < m) {W co bk : D} {rows : List D} (hrl : rows.length = m) (hz : fzs rows = true) {x8 x9 : Option D} {q : Nat} {ns : List Nat} (hs : sOk rooms ps (q, ns)) : ∀ (r : Rm) (k : Nat) (S A : List St) (acc : Rm) (x13 x14 x15 x16 x17 : Option D), rwOk asks tk rooms k r → Iv rooms m tk C ps S A → S.length + r.length < 900 → A.length + r.length < 900 → acc.length + r.length < 900 →
    ∃ y13 y14 y15 y16 y17, forL (.t [.v 13, .v 14]) s_28_9 (numD k (r.map sgD)) (lf W ps (.tup rows) co th bk S A x8 x9 q ns acc x13 x14 x15 x16 x17) = .nx (lf W ps (.tup rows) co th bk (crow ps m ns k r S A acc).1 (crow ps m ns k r S A acc).2.1 x8 x9 q ns (crow ps m ns k r S A acc).2.2 y13 y14 y15 y16 y17)
  | [], k, S, A, acc, x13, x14, x15, x16, x17, _, _, _, _, _ => ⟨_, _, _, _, _, rfl⟩
  | s :: r, k, S, A, acc, x13, x14, x15, x16, x17, hr, I, h1, h2, h3 => by
    simp only [List.length_cons] at h1 h2 h3
    have h0 := hr 0 s rfl
    rw [Nat.add_zero] at h0
    have I1 := cst_iv Q hs h0.2 I
    obtain ⟨l1, l2, l3⟩ := cst_len (ps := ps) (m := m) (ns := ns) (sg := k) (S := S) (A := A) (s := s)
    have hp4 := Q.p4
    have st : ∃ y15 y16 y17, s_28_9 (lf W ps (.tup rows) co th bk S A x8 x9 q ns acc (some (nD k)) (some (sgD s)) x15 x16 x17) = .nx (lf W ps (.tup rows) co th bk (cst ps m ns k S A s).1 (cst ps m ns k S A s).2.1 x8 x9 q ns (acc ++ [(cst ps m ns k S A s).2.2]) (some (nD k)) (some (sgD s)) y15 y16 y17) ∨ s_28_9 (lf W ps (.tup rows) co th bk S A x8 x9 q ns acc (some (nD k)) (some (sgD s)) x15 x16 x17) = .ct (lf W ps (.tup rows) co th bk (cst ps m ns k S A s).1 (cst ps m ns k S A s).2.1 x8 x9 q ns (acc ++ [(cst ps m ns k S A s).2.2]) (some (nD k)) (some (sgD s)) y15 y16 y17) := by
      cases s with
      | none =>
        refine ⟨x15, x16, x17, .inr ?_⟩
        have ha : acc.length < 1000000 := by omega
        unfold s_28_9
        simp [cst, sgD, ha]
      | some x =>
        obtain ⟨t, w, g⟩ := x
        obtain ⟨y15, y16, y17, hh⟩ := law_step (th := th) (W := W) (co := co) (bk := bk) (S := S) (A := A) (x8 := x8) (x9 := x9) (x15 := x15) (x16 := x16) (x17 := x17) (q := q) (ns := ns) (acc := acc) (k := k) (t := t) (g := g) (w := w) (rows := rows) rfl hrl hm0 hm1 hz (ans_of Q (by have := h0.1; omega) (fun p hp => hp) hs.2) (by omega) (by omega) (by omega) (by omega)
        exact ⟨y15, y16, y17, .inl hh⟩
    obtain ⟨z15, z16, z17, st⟩ := st
    obtain ⟨y13, y14, y15, y16, y17, ih⟩ := lrow_ok Q hm1 hm0 (W := W) (co := co) (bk := bk) hrl hz (x8 := x8) (x9 := x9) hs r (k + 1) (cst ps m ns k S A s).1 (cst ps m ns k S A s).2.1 (acc ++ [(cst ps m ns k S A s).2.2]) (some (nD k)) (some (sgD s)) z15 z16 z17 hr.tl I1 (by omega) (by omega) (by rw [List.length_append, List.length_singleton]; omega)
    refine ⟨y13, y14, y15, y16, y17, ?_⟩
    show forL _ _ (.tup [nD k, sgD s] :: numD (k + 1) (r.map sgD)) _ = _
    conv => lhs; unfold forL
    simp only [put_t, puts_cons, put_v, Option.bind_some, puts_nil, List.set_cons_succ, List.set_cons_zero]
    rcases st with st | st
    · rw [st]; exact ih
    · rw [st]; exact ih
abbrev lo (W : D) (ps : List Ply) (pr co th bk : D) (S A : List St) (R : List Rm) (x9 x10 x11 x12 x13 x14 x15 x16 x17 : Option D) : DEnv :=
  [some W, some (psD ps), some pr, some co, some th, some bk, some (.lst true (S.map stL)), some (.lst true (A.map stL)), some (.lst true (R.map rmD)), x9, x10, x11, x12, x13, x14, x15, x16, x17, none, none, none, none, none, none, none, none, none]
theorem lbody (K : Cw m tk rooms M C B asks) (Q : Cr C m asks ps) {W co : D} {rows : List D} (hrl : rows.length = m) (hz : fzs rows = true) {S A : List St} {R : List Rm} {x10 x11 x12 x13 x14 x15 x16 x17 : Option D} (J : Jn B rooms m tk C ps S A R) {r : Nat} {ns : List Nat} (h : S[R.length]? = some (r, ns)) :
    ∃ y10 y11 y12 y13 y14 y15 y16 y17, s_28_10 (lo W ps (.tup rows) co th (bkD B) S A R (some (nD R.length)) x10 x11 x12 x13 x14 x15 x16 x17) = .nx (lo W ps (.tup rows) co th (bkD B) (crow ps m ns 0 (B.getD r []) S A []).1 (crow ps m ns 0 (B.getD r []) S A []).2.1 (R ++ [(crow ps m ns 0 (B.getD r []) S A []).2.2]) (some (nD R.length)) y10 y11 y12 y13 y14 y15 y16 y17) := by
  have hs := J.iv.so _ (List.mem_of_getElem? h)
  have hrr : r < rooms := hs.1
  obtain ⟨h1, h2, h3⟩ := room_rw K hrr
  have hl := J.len K Q
  have hal := J.al
  have hrs := J.rs
  have hs1 := K.s1
  have hm1 := K.m1
  have zb := rms_fz B
  have fb := frzs_of zb
  obtain ⟨y13, y14, y15, y16, y17, hp⟩ := lrow_ok Q (by omega) K.m0 (th := th) (W := W) (co := co) (bk := bkD B) hrl hz (x8 := some (.lst true (R.map rmD))) (x9 := some (nD R.length)) hs (B.getD r []) 0 S A [] x13 x14 x15 x16 x17 h3 J.iv (by omega) (by omega) (by rw [List.length_nil]; omega)
  have hlt := (List.getElem?_eq_some_iff.mp h).1
  have ai : atI (S.map stL) (R.length : Nat) = some (stL (r, ns)) := atI_at (by rw [List.getElem?_map, h]; rfl)
  have ar : atI (B.map rmD) (r : Nat) = some (rmD (B.getD r [])) := atI_at (by rw [List.getElem?_map, h1]; rfl)
  have zS := rp_L.fzs S
  have zR := rms_fz R
  generalize B.getD r [] = row at *
  have zr := sgs_fz row
  have fr := frzs_of zr
  generalize crow ps m ns 0 row S A [] = c at *
  have zc := sgs_fz c.2.2
  have fc := frzs_of zc
  have hRl : R.length < 1000000 := by omega
  have e2 : stL (r, ns) = .tup [nD r, .lst false (iL ns)] := rfl
  rw [e2] at ai
  have zn := iL_fz ns
  have fn := frzs_of zn
  have hnle : ¬ (S.length ≤ R.length) := by omega
  refine ⟨some (nD r), some (.lst false (iL ns)), some (.lst true (c.2.2.map sgD)), y13, y14, y15, y16, y17, ?_⟩
  simp only [lf, bkD, psD, List.map_nil] at hp
  unfold s_28_10
  simp [zS, zR, ai, hnle, zn, fn, zb, fb, ar, zr, fr, hp, zc, fc, tupleD, hRl]
theorem wiL_lc {e0 e1 e2 e3 e4 e5 e6 e7 e8 e9 e10 e11 e12 e13 e14 e15 e16 e17 e18 e19 e20 e22 e23 e25 : Option D} {lot : List Nat} : ∀ (r : List (Option Int)) (k : Nat) (acc : List D), acc.length + r.length ≤ 1000 →
    lcL [24, 26] (.t [.v 24, .v 26]) mTrue q_28_1 (numD k (r.map coV)) acc [e0, e1, e2, e3, e4, e5, e6, e7, e8, e9, e10, e11, e12, e13, e14, e15, e16, e17, e18, e19, e20, some (.lst false (iL lot)), e22, e23, none, e25, none] = .ok (acc ++ (wi lot k r).map coV) [e0, e1, e2, e3, e4, e5, e6, e7, e8, e9, e10, e11, e12, e13, e14, e15, e16, e17, e18, e19, e20, some (.lst false (iL lot)), e22, e23, none, e25, none]
  | [], k, acc, _ => by simp [lcL, wi, numD]
  | c :: r, k, acc, hl => by
    simp only [List.length_cons] at hl
    have ih := wiL_lc (e0 := e0) (e1 := e1) (e2 := e2) (e3 := e3) (e4 := e4) (e5 := e5) (e6 := e6) (e7 := e7) (e8 := e8) (e9 := e9) (e10 := e10) (e11 := e11) (e12 := e12) (e13 := e13) (e14 := e14) (e15 := e15) (e16 := e16) (e17 := e17) (e18 := e18) (e19 := e19) (e20 := e20) (e22 := e22) (e23 := e23) (e25 := e25) (lot := lot) r (k + 1) (acc ++ [coV (if k ∈ lot then c else none)]) (by simp; omega)
    have hlt : acc.length < LIM := by rw [LIM_is]; omega
    have hin := in_iL (g := k) (o := false) (L := lot)
    have zl := iL_fz lot
    have zc := co_fz c
    have hq : q_28_1 [e0, e1, e2, e3, e4, e5, e6, e7, e8, e9, e10, e11, e12, e13, e14, e15, e16, e17, e18, e19, e20, some (.lst false (iL lot)), e22, e23, some (nD k), e25, some (coV c)] = .ok (coV (if k ∈ lot then c else none)) [e0, e1, e2, e3, e4, e5, e6, e7, e8, e9, e10, e11, e12, e13, e14, e15, e16, e17, e18, e19, e20, some (.lst false (iL lot)), e22, e23, some (nD k), e25, some (coV c)] := by
      unfold q_28_1
      by_cases hm : k ∈ lot
      · simp only [hm, decide_true] at hin
        simp [hin, zl, zc, hm]
      · simp only [hm, decide_false] at hin
        simp [hin, zl, hm, coV]
    show lcL _ _ _ _ (.tup [nD k, coV c] :: numD (k + 1) (r.map coV)) _ _ = _
    unfold lcL
    simp only [put_t, puts_cons, put_v, Option.bind_some, puts_nil, List.set_cons_succ, List.set_cons_zero, ap_true, hq, hlt, if_true, wipe_cons, wipe_nil]
    rw [ih]
    simp [wi]
theorem rep_zero : ∀ ps : List Ply, (List.replicate ps.length [D.int 0]).flatten = iL (zeros ps)
  | [] => rfl
  | p :: ps => by
    rw [List.length_cons, List.replicate_succ, List.flatten_cons, rep_zero ps]
    rfl
theorem law28 (K : Cw m tk rooms M C B asks) (hth : fz th = true) (Q : Cr C m asks ps) {S A : List St} {R : List Rm} (hf : fin_ B ps m = (S, A, R)) (J0' : Jn B rooms m tk C ps S A R) :
    c_28 [whD M C th B, psD ps] = .ok (coD M C A R) [] := by
  have zM := fz_tups M
  have fM := frzs_of zM
  have hMl : (M.map rt).length = m := by rw [List.length_map]; exact K.sv.mx.sq.1
  have H : ∃ y9 y10 y11 y12 y13 y14 y15 y16 y17, forL (.v 9) s_28_10 (rangeD 0 400) (lo (whD M C th B) ps (.tup (M.map rt)) (.tup (C.map coR)) th (bkD B) [(0, zeros ps)] [] [] none none none none none none none none none) = .nx (lo (whD M C th B) ps (.tup (M.map rt)) (.tup (C.map coR)) th (bkD B) S A R y9 y10 y11 y12 y13 y14 y15 y16 y17) := by
    refine forL_rule (tg := .v 9) (m := s_28_10) (fun X => ∃ y9 y10 y11 y12 y13 y14 y15 y16 y17, X = .nx (lo (whD M C th B) ps (.tup (M.map rt)) (.tup (C.map coR)) th (bkD B) S A R y9 y10 y11 y12 y13 y14 y15 y16 y17)) (ds := rangeD 0 400)
      (fun j e => ∃ S A R y9 y10 y11 y12 y13 y14 y15 y16 y17, Jn B rooms m tk C ps S A R ∧ R.length = j ∧ e = lo (whD M C th B) ps (.tup (M.map rt)) (.tup (C.map coR)) th (bkD B) S A R y9 y10 y11 y12 y13 y14 y15 y16 y17) ⟨_, _, _, _, _, _, _, _, _, _, _, _, J0 K Q, rfl, rfl⟩ ?_ ?_
    · rintro j d e hd ⟨S1, A1, R1, y9, y10, y11, y12, y13, y14, y15, y16, y17, J, rfl, rfl⟩
      obtain ⟨hd', _⟩ := rg_get hd
      subst hd'
      have e0 : ((0 : Int) + (R1.length : Nat)) = (R1.length : Nat) := by omega
      have hl := J.len K Q
      by_cases hlt : R1.length < S1.length
      · obtain ⟨s, hs⟩ : ∃ s, S1[R1.length]? = some s := ⟨_, List.getElem?_eq_getElem hlt⟩
        obtain ⟨r, ns⟩ := s
        obtain ⟨z10, z11, z12, z13, z14, z15, z16, z17, hb⟩ := lbody (th := th) (W := whD M C th B) (co := .tup (C.map coR)) (x10 := y10) (x11 := y11) (x12 := y12) (x13 := y13) (x14 := y14) (x15 := y15) (x16 := y16) (x17 := y17) K Q hMl zM J hs
        simp only [put_v, stO_some, List.set_cons_succ, List.set_cons_zero, e0]
        rw [hb]
        exact ⟨_, _, _, _, _, _, _, _, _, _, _, _, J.step K Q hs, by rw [List.length_append, List.length_singleton], rfl⟩
      · have hfin := J.fin K Q (by omega)
        rw [hf] at hfin
        injection hfin with h1 h2
        injection h2 with h2 h3
        subst h1 h2 h3
        have zS := rp_L.fzs S
        have hle : S.length ≤ R.length := by omega
        have hb : s_28_10 (lo (whD M C th B) ps (.tup (M.map rt)) (.tup (C.map coR)) th (bkD B) S A R (some (nD R.length)) y10 y11 y12 y13 y14 y15 y16 y17) = .bk (lo (whD M C th B) ps (.tup (M.map rt)) (.tup (C.map coR)) th (bkD B) S A R (some (nD R.length)) y10 y11 y12 y13 y14 y15 y16 y17) := by
          unfold s_28_10
          simp [zS, hle]
        simp only [put_v, stO_some, List.set_cons_succ, List.set_cons_zero, e0]
        rw [hb]
        exact ⟨_, _, _, _, _, _, _, _, _, rfl⟩
    · rintro e ⟨S1, A1, R1, y9, y10, y11, y12, y13, y14, y15, y16, y17, J, hR, rfl⟩
      have hl := J.len K Q
      have hrs := J.rs
      rw [rg_len] at hR
      have : (400 : Int).toNat = 400 := rfl
      omega
  obtain ⟨y9, y10, y11, y12, y13, y14, y15, y16, y17, H⟩ := H
  have hal := J0'.al
  have hrs := J0'.rs
  have hl := J0'.len K Q
  have zC := cosr_fz C
  have fC := frzs_of zC
  have zB := rms_fz B
  have fB := frzs_of zB
  have zR := rms_fz R
  have fR := frzs_of zR
  have zA := rp_L.fzs A
  have fA := frzs_of zA
  have zp := plys_fz ps
  have fp := frzs_of zp
  have fth := frz_of _ hth
  have hC : ∀ a ∈ A, atI (C.map coR) (a.1 : Nat) = some (coR (C.getD a.1 [])) ∧ (C.getD a.1 []).length < 1000 := fun a ha => by
    have h1 := (J0'.iv.ao a ha).1
    have h2 : C[a.1]? = some (C.getD a.1 []) := getD_at (by rw [K.sv.tl]; exact h1)
    refine ⟨atI_at (by rw [List.getElem?_map, h2]; rfl), ?_⟩
    have := (K.sv.co _ (List.mem_of_getElem? h2)).1
    have := K.m1
    omega
  have lc1 := map_lc (own := [20, 21]) (tg := .t [.v 20, .v 21]) (elt := q_28_3) (E := [some (whD M C th B), some (psD ps), some (.tup (M.map rt)), some (.tup (C.map coR)), some th, some (bkD B), some (.lst true (S.map stL)), none, some (.lst true (R.map rmD)), y9, y10, y11, y12, y13, y14, y15, y16, y17, none, none, none, none, none, none, none, none, none]) (fun a => [some (whD M C th B), some (psD ps), some (.tup (M.map rt)), some (.tup (C.map coR)), some th, some (bkD B), some (.lst true (S.map stL)), none, some (.lst true (R.map rmD)), y9, y10, y11, y12, y13, y14, y15, y16, y17, none, none, some (nD a.1), some (.lst false (iL a.2)), none, none, none, none, none]) stL (fun a => coR (C.getD a.1 [])) A [] (by simp; omega) (fun a ha => by
    obtain ⟨h1, _⟩ := hC a ha
    have zr := cos_fz (C.getD a.1 [])
    refine ⟨by simp [stL], ?_, rfl⟩
    generalize C.getD a.1 [] = row at *
    unfold q_28_3
    simp [zC, h1, zr])
  have lc2 := fun (x18 : Option D) => map_lc (own := [20, 21]) (tg := .t [.v 20, .v 21]) (elt := q_28_2) (E := [some (whD M C th B), some (psD ps), some (.tup (M.map rt)), some (.tup (C.map coR)), some th, some (bkD B), some (.lst true (S.map stL)), none, some (.lst true (R.map rmD)), y9, y10, y11, y12, y13, y14, y15, y16, y17, x18, none, none, none, none, none, none, none, none]) (fun a => [some (whD M C th B), some (psD ps), some (.tup (M.map rt)), some (.tup (C.map coR)), some th, some (bkD B), some (.lst true (S.map stL)), none, some (.lst true (R.map rmD)), y9, y10, y11, y12, y13, y14, y15, y16, y17, x18, none, some (nD a.1), some (.lst false (iL a.2)), none, none, none, none, none]) stL (fun a => coR (wi a.2 0 (C.getD a.1 []))) A [] (by simp; omega) (fun a ha => by
    obtain ⟨h1, h2⟩ := hC a ha
    have zr := cos_fz (C.getD a.1 [])
    have fr := frzs_of zr
    have zw := cos_fz (wi a.2 0 (C.getD a.1 []))
    have fw := frzs_of zw
    have wl := wiL_lc (e0 := some (whD M C th B)) (e1 := some (psD ps)) (e2 := some (.tup (M.map rt))) (e3 := some (.tup (C.map coR))) (e4 := some th) (e5 := some (bkD B)) (e6 := some (.lst true (S.map stL))) (e7 := none) (e8 := some (.lst true (R.map rmD))) (e9 := y9) (e10 := y10) (e11 := y11) (e12 := y12) (e13 := y13) (e14 := y14) (e15 := y15) (e16 := y16) (e17 := y17) (e18 := x18) (e19 := none) (e20 := some (nD a.1)) (e22 := none) (e23 := none) (e25 := none) (lot := a.2) (C.getD a.1 []) 0 [] (by simp only [List.length_nil]; omega)
    rw [List.nil_append] at wl
    refine ⟨by simp [stL], ?_, rfl⟩
    generalize wi a.2 0 (C.getD a.1 []) = wr at *
    generalize C.getD a.1 [] = row at *
    unfold q_28_2
    simp [zC, h1, zr, fr, wl, zw, fw, tupleD])
  rw [List.nil_append] at lc1
  simp only [List.nil_append] at lc2
  have e1 : (A.map fun a => coR (C.getD a.1 [])) = (mineC C A).map coR := by unfold mineC; rw [List.map_map]; rfl
  have e2 : (A.map fun a => coR (wi a.2 0 (C.getD a.1 []))) = (theirC C A).map coR := by unfold theirC; rw [List.map_map]; rfl
  rw [e1] at lc1
  simp only [e2] at lc2
  have z1 := cosr_fz (mineC C A)
  have f1 := frzs_of z1
  have z2 := cosr_fz (theirC C A)
  have f2 := frzs_of z2
  have hpl : ps.length ≤ 4 := Q.p4
  have hrep := rep_zero ps
  have zz := iL_fz (zeros ps)
  have fzz := frzs_of zz
  have es0 : ([(0, zeros ps)] : List St).map stL = [.tup [.int 0, .lst false (iL (zeros ps))]] := rfl
  show _ = RC.ok (.tup [svD M (mineC C A), svD M (theirC C A), bkD R]) []
  generalize mineC C A = C1 at *
  generalize theirC C A = C2 at *
  simp only [lo, es0, List.map_nil] at H
  simp only [whD, svD, bkD, psD] at lc1 lc2 H ⊢
  have r4 : rngOk 400 = true := rfl
  have hb1 : ps.length ≤ 9223372036854775807 := by omega
  have hb2 : ps.length ≤ 1000000 := by omega
  unfold c_28 callF m_28
  simp [zM, fM, zC, fC, zB, fB, zp, fp, hth, fth, mulD, hb1, hb2, hrep, zz, fzz, r4, H, zR, fR, zA, fA, lc1, lc2, tupleD, z1, f1, z2, f2]
end
end LW

namespace LW
open PySem PySem.Spec L2 EV
section
variable {m tk rooms : Nat} {M : List (List Int)} {C : List (List (Option Int))} {th : D} {B : List Rm} {asks : List Nat} {ps : List Ply}
/-- what counsel's book tells at a sign -/
def Ent (ps : List Ply) (m : Nat) (S A : List St) (ns : List Nat) (k : Nat) (s e : Sg) : Prop := match s with
  | none => e = none
  | some (t, w, g) => ∃ ai si, e = some (ai, w, si) ∧ A[ai]? = some (t, lotN m (told ps ns k)) ∧ S[si]? = some (g, (told ps ns k).map (·.2))
theorem pre_get {α : Type} {a b : List α} (h : a <+: b) {k : Nat} {x : α} (hk : a[k]? = some x) : b[k]? = some x := by
  obtain ⟨t, rfl⟩ := h
  rw [List.getElem?_append_left (List.getElem?_eq_some_iff.mp hk).1]
  exact hk
theorem Ent.mono {S A S' A' : List St} {ns : List Nat} {k : Nat} {s e : Sg} (h : Ent ps m S A ns k s e) (h1 : S <+: S') (h2 : A <+: A') : Ent ps m S' A' ns k s e := by
  cases s with
  | none => exact h
  | some x =>
    obtain ⟨t, w, g⟩ := x
    obtain ⟨ai, si, e1, e2, e3⟩ := h
    exact ⟨ai, si, e1, pre_get h2 e2, pre_get h1 e3⟩
theorem idx_get {l : List St} {x : St} (h : x ∈ l) : l[l.idxOf x]? = some x := by
  have hl := List.idxOf_lt_length_iff.mpr h
  rw [List.getElem?_eq_getElem hl]
  congr 1
  exact List.getElem_idxOf hl
theorem cst_ent {S A : List St} {ns : List Nat} {k : Nat} {s : Sg} : S <+: (cst ps m ns k S A s).1 ∧ A <+: (cst ps m ns k S A s).2.1 ∧ Ent ps m (cst ps m ns k S A s).1 (cst ps m ns k S A s).2.1 ns k s (cst ps m ns k S A s).2.2 := by
  cases s with
  | none => exact ⟨List.prefix_refl _, List.prefix_refl _, rfl⟩
  | some x =>
    obtain ⟨t, w, g⟩ := x
    exact ⟨add_pre _ _, add_pre _ _, _, _, rfl, idx_get (add_mem _ _), idx_get (add_mem _ _)⟩
theorem crow_ent {ns : List Nat} : ∀ (r : Rm) (k : Nat) (S A : List St) (acc : Rm), S <+: (crow ps m ns k r S A acc).1 ∧ A <+: (crow ps m ns k r S A acc).2.1 ∧ acc <+: (crow ps m ns k r S A acc).2.2 ∧ (crow ps m ns k r S A acc).2.2.length = acc.length + r.length ∧
    ∀ (j : Nat) s e, r[j]? = some s → (crow ps m ns k r S A acc).2.2[acc.length + j]? = some e → Ent ps m (crow ps m ns k r S A acc).1 (crow ps m ns k r S A acc).2.1 ns (k + j) s e
  | [], k, S, A, acc => ⟨List.prefix_refl _, List.prefix_refl _, List.prefix_refl _, rfl, fun j s e h => by simp at h⟩
  | s :: r, k, S, A, acc => by
    obtain ⟨c1, c2, c3⟩ := cst_ent (ps := ps) (m := m) (S := S) (A := A) (ns := ns) (k := k) (s := s)
    obtain ⟨h1, h2, h3, h4, h5⟩ := crow_ent (ns := ns) r (k + 1) (cst ps m ns k S A s).1 (cst ps m ns k S A s).2.1 (acc ++ [(cst ps m ns k S A s).2.2])
    refine ⟨c1.trans h1, c2.trans h2, (List.prefix_append _ _).trans h3, ?_, fun j s' e hj he => ?_⟩
    · refine Eq.trans h4 ?_; simp; omega
    · cases j with
      | zero =>
        injection hj with hj
        subst hj
        have : (acc ++ [(cst ps m ns k S A s).2.2])[acc.length]? = some (cst ps m ns k S A s).2.2 := by simp
        have h6 := pre_get h3 this
        rw [Nat.add_zero] at he
        have he : (crow ps m ns (k + 1) r (cst ps m ns k S A s).1 (cst ps m ns k S A s).2.1 (acc ++ [(cst ps m ns k S A s).2.2])).2.2[acc.length]? = some e := he
        rw [h6] at he
        injection he with he
        subst he
        exact c3.mono h1 h2
      | succ j =>
        have e1 : acc.length + (j + 1) = (acc ++ [(cst ps m ns k S A s).2.2]).length + j := by simp; omega
        have e2 : k + (j + 1) = k + 1 + j := by omega
        rw [e1] at he
        rw [e2]
        exact h5 j s' e hj he
/-- each room of counsel's book -/
def Fr (B : List Rm) (ps : List Ply) (m : Nat) (S A : List St) (R : List Rm) : Prop := ∀ (i : Nat) row, R[i]? = some row → ∃ r ns, S[i]? = some (r, ns) ∧ row.length = (B.getD r []).length ∧ ∀ (k : Nat) s e, (B.getD r [])[k]? = some s → row[k]? = some e → Ent ps m S A ns k s e
theorem crun_fr : ∀ (n : Nat) (S A : List St) (R : List Rm), Fr B ps m S A R → Fr B ps m (crun B ps m n S A R).1 (crun B ps m n S A R).2.1 (crun B ps m n S A R).2.2
  | 0, S, A, R, h => h
  | n + 1, S, A, R, h => by
    unfold crun
    cases q : S[R.length]? with
    | none => exact h
    | some s =>
      obtain ⟨r, ns⟩ := s
      simp only
      obtain ⟨h1, h2, h3, h4, h5⟩ := crow_ent (ps := ps) (m := m) (ns := ns) (B.getD r []) 0 S A []
      refine crun_fr n _ _ _ fun i row hi => ?_
      rcases snoc_get hi with hi | ⟨rfl, rfl⟩
      · obtain ⟨r', ns', g1, g2, g3⟩ := h i row hi
        exact ⟨r', ns', pre_get h1 g1, g2, fun k s e hk he => (g3 k s e hk he).mono h1 h2⟩
      · refine ⟨r, ns, pre_get h1 q, by rw [h4]; simp, fun k s e hk he => ?_⟩
        have := h5 k s e hk (by rw [List.length_nil, Nat.zero_add]; exact he)
        rw [Nat.zero_add] at this
        exact this
theorem fin_fr {S A : List St} {R : List Rm} (h : fin_ B ps m = (S, A, R)) : Fr B ps m S A R := by
  have := crun_fr (B := B) (ps := ps) (m := m) 400 [(0, zeros ps)] [] [] (fun i row hi => by simp at hi)
  unfold fin_ at h
  rw [h] at this
  exact this
theorem crun_pre : ∀ (n : Nat) (S A : List St) (R : List Rm), S <+: (crun B ps m n S A R).1
  | 0, S, A, R => List.prefix_refl _
  | n + 1, S, A, R => by
    unfold crun
    cases q : S[R.length]? with
    | none => exact List.prefix_refl _
    | some s =>
      obtain ⟨r, ns⟩ := s
      simp only
      exact (crow_ent (ps := ps) (m := m) (ns := ns) (B.getD r []) 0 S A []).1.trans (crun_pre n _ _ _)
theorem fin_0 {S A : List St} {R : List Rm} (h : fin_ B ps m = (S, A, R)) : S[0]? = some (0, zeros ps) := by
  have := crun_pre (B := B) (ps := ps) (m := m) 400 [(0, zeros ps)] [] []
  unfold fin_ at h
  rw [h] at this
  exact pre_get this rfl
/-- counsel's book, done -/
structure Fx (B : List Rm) (rooms m tk : Nat) (C : List (List (Option Int))) (asks : List Nat) (ps : List Ply) (S A : List St) (R : List Rm) : Prop where
  fr : ∀ (i r : Nat) ns, S[i]? = some (r, ns) → ∃ row, R[i]? = some row ∧ row.length = asks.length ∧ ∀ (k : Nat) s, (B.getD r [])[k]? = some s → ∃ e, row[k]? = some e ∧ Ent ps m S A ns k s e
  s0 : S[0]? = some (0, zeros ps)
  so : ∀ s ∈ S, sOk rooms ps s
theorem fx_of (K : Cw m tk rooms M C B asks) {S A : List St} {R : List Rm} (h : fin_ B ps m = (S, A, R)) (J : Jn B rooms m tk C ps S A R) (hl : R.length = S.length) : Fx B rooms m tk C asks ps S A R where
  fr := fun i r ns hi => by
    have hil := (List.getElem?_eq_some_iff.mp hi).1
    have hr : R[i]? = some R[i] := List.getElem?_eq_getElem (by omega)
    obtain ⟨r', ns', g1, g2, g3⟩ := fin_fr h i _ hr
    rw [hi] at g1
    injection g1 with g1
    injection g1 with g1 g1'
    subst g1 g1'
    have hs := J.iv.so _ (List.mem_of_getElem? hi)
    have hrr : r < rooms := hs.1
    obtain ⟨b1, b2, b3⟩ := room_rw K hrr
    refine ⟨R[i], hr, by omega, fun k s hk => ?_⟩
    have hkl := (List.getElem?_eq_some_iff.mp hk).1
    have he : (R[i])[k]? = some (R[i])[k] := List.getElem?_eq_getElem (by omega)
    exact ⟨_, he, g3 k s _ hk he⟩
  s0 := fin_0 h
  so := J.iv.so
/-- a row that can come -/
def Wk (B : List Rm) : Nat → List Nat → Prop
  | _, [] => True
  | r, k :: l => ∃ t w g, (B.getD r [])[k]? = some (some (t, w, g)) ∧ Wk B g l
/-- the steps along a row -/
def sts (R : List Rm) : Nat → List Nat → List (Nat × Int × Nat)
  | _, [] => []
  | i, k :: l => match (R.getD i [])[k]? with
    | some (some (a, w, j)) => (a, w, j) :: sts R j l
    | _ => []
/-- where a row ends -/
def endR (B : List Rm) : Nat → List Nat → Nat
  | r, [] => r
  | r, k :: l => match (B.getD r [])[k]? with
    | some (some (_, _, g)) => endR B g l
    | _ => r
end
end LW

namespace LW
open PySem PySem.Spec L2 EV
section
variable {m tk rooms : Nat} {M : List (List Int)} {C : List (List (Option Int))} {th : D} {B : List Rm} {asks : List Nat} {ps : List Ply}
theorem getD_some {R : List Rm} {i k : Nat} {s : Sg} (h : (R.getD i [])[k]? = some s) : R[i]? = some (R.getD i []) := by
  refine getD_at ?_
  by_cases hi : i < R.length
  · exact hi
  · have e : R.getD i [] = [] := by rw [List.getD_eq_getElem?_getD, List.getElem?_eq_none (Nat.le_of_not_lt hi)]; rfl
    rw [e] at h
    simp at h
/-- a sign's step, none beyond -/
def stAt (row : Rm) (k : Nat) : Sg := (row[k]?).getD none
theorem step4 {R : List Rm} {i k : Nat} {row : Rm} (h : R[i]? = some row) : c_4 [bkD R, nD i, nD k] = .ok (sgD (stAt row k)) [] := by
  have zR := rms_fz R
  have ai : atI (R.map rmD) (i : Nat) = some (rmD row) := atI_at (by rw [List.getElem?_map, h]; rfl)
  have zr := sgs_fz row
  have fr := frzs_of zr
  unfold stAt
  by_cases hk : k < row.length
  · have hg : row[k]? = some row[k] := List.getElem?_eq_getElem hk
    have ak : atI (row.map sgD) (k : Nat) = some (sgD row[k]) := atI_at (by rw [List.getElem?_map, hg]; rfl)
    rw [hg]
    simp only [Option.getD_some]
    have zs := sg_fz row[k]
    have fs := frz_of _ zs
    generalize row[k] = s at *
    unfold c_4 callF m_4
    simp [zR, ai, zr, fr, hk, ak, zs, fs]
  · rw [List.getElem?_eq_none (by omega)]
    unfold c_4 callF m_4
    simp [zR, ai, zr, fr, hk, sgD]
abbrev s3D (x : Nat × Int × Nat) : D := sgD (some x)
theorem s3s_fz (l : List (Nat × Int × Nat)) : fzs (l.map s3D) = true := fzs_of fun d hd => by
  obtain ⟨s, _, rfl⟩ := List.mem_map.mp hd
  exact sg_fz _
abbrev rf (R : List Rm) (row : D) (st : List (Nat × Int × Nat)) (i : Nat) (x4 x5 x6 : Option D) : DEnv := [some (bkD R), some row, some (.lst true (st.map s3D)), some (nD i), x4, x5, x6]
theorem row_go {R : List Rm} {rd : D} : ∀ (l : List Nat) (p i : Nat) (st : List (Nat × Int × Nat)) (x4 x5 x6 : Option D), st.length + l.length < 1000 → Wk R i l → ∃ y4 y5 y6, forL (.t [.v 4, .v 5]) s_5_1 (numD p (iL l)) (rf R rd st i x4 x5 x6) = .nx (rf R rd (st ++ sts R i l) (endR R i l) y4 y5 y6)
  | [], p, i, st, x4, x5, x6, _, _ => ⟨x4, x5, x6, by simp [sts, endR, numD, forL]⟩
  | k :: l, p, i, st, x4, x5, x6, hl, ⟨a, w, j, h1, h2⟩ => by
    simp only [List.length_cons] at hl
    have hR := getD_some h1
    have h4 := step4 (k := k) hR
    have e1 : stAt (R.getD i []) k = some (a, w, j) := by unfold stAt; rw [h1]; rfl
    rw [e1] at h4
    obtain ⟨y4, y5, y6, ih⟩ := row_go (R := R) (rd := rd) l (p + 1) j (st ++ [(a, w, j)]) (some (nD p)) (some (nD k)) (some (s3D (a, w, j))) (by rw [List.length_append, List.length_singleton]; omega) h2
    refine ⟨y4, y5, y6, ?_⟩
    have zR := rms_fz R
    have fR := frzs_of zR
    have hst : st.length < 1000000 := by omega
    have hs : s_5_1 (rf R rd st i (some (nD p)) (some (nD k)) x6) = .nx (rf R rd (st ++ [(a, w, j)]) j (some (nD p)) (some (nD k)) (some (s3D (a, w, j)))) := by
      simp only [bkD, sgD] at h4
      unfold s_5_1
      simp [zR, fR, h4, hst, at2, sgD]
    show forL _ _ (.tup [nD p, nD k] :: numD (p + 1) (iL l)) _ = _
    conv => lhs; unfold forL
    simp only [put_t, puts_cons, put_v, Option.bind_some, puts_nil, List.set_cons_succ, List.set_cons_zero]
    rw [hs]
    have e2 : sts R i (k :: l) = (a, w, j) :: sts R j l := by
      show (match (R.getD i [])[k]? with | some (some (a, w, j)) => (a, w, j) :: sts R j l | _ => []) = _
      rw [h1]
    have e3 : endR R i (k :: l) = endR R j l := by
      show (match (R.getD i [])[k]? with | some (some (_, _, g)) => endR R g l | _ => i) = _
      rw [h1]
    rw [e2, e3]
    have e4 : st ++ (a, w, j) :: sts R j l = (st ++ [(a, w, j)]) ++ sts R j l := by simp
    rw [e4]
    exact ih
theorem row_bad {R : List Rm} {rd : D} {row : Rm} : ∀ (l post : List Nat) (k p i : Nat) (st : List (Nat × Int × Nat)) (x4 x5 x6 : Option D), st.length + l.length < 1000 → Wk R i l → R[endR R i l]? = some row → stAt row k = none → ∃ e, forL (.t [.v 4, .v 5]) s_5_1 (numD p (iL (l ++ k :: post))) (rf R rd st i x4 x5 x6) = .ex 1 (nD (p + l.length)) e ∧ e.length = 7
  | [], post, k, p, i, st, x4, x5, x6, _, _, hR, hs => by
    have h4 := step4 (k := k) hR
    rw [hs] at h4
    have zR := rms_fz R
    have fR := frzs_of zR
    have hi : endR R i [] = i := rfl
    rw [hi] at h4
    refine ⟨rf R rd st i (some (nD p)) (some (nD k)) (some .non), ?_, rfl⟩
    have hs : s_5_1 (rf R rd st i (some (nD p)) (some (nD k)) x6) = .ex 1 (nD p) (rf R rd st i (some (nD p)) (some (nD k)) (some .non)) := by
      simp only [bkD, sgD] at h4
      unfold s_5_1
      simp [zR, fR, h4]
    show forL _ _ (.tup [nD p, nD k] :: numD (p + 1) (iL post)) _ = _
    conv => lhs; unfold forL
    simp only [put_t, puts_cons, put_v, Option.bind_some, puts_nil, List.set_cons_succ, List.set_cons_zero]
    rw [hs]
    rfl
  | k0 :: l, post, k, p, i, st, x4, x5, x6, hl, ⟨a, w, j, h1, h2⟩, hR, hs => by
    simp only [List.length_cons] at hl
    have hR0 := getD_some h1
    have h4 := step4 (k := k0) hR0
    have e1 : stAt (R.getD i []) k0 = some (a, w, j) := by unfold stAt; rw [h1]; rfl
    rw [e1] at h4
    have e3 : endR R i (k0 :: l) = endR R j l := by
      show (match (R.getD i [])[k0]? with | some (some (_, _, g)) => endR R g l | _ => i) = _
      rw [h1]
    rw [e3] at hR
    obtain ⟨e, ih, ihl⟩ := row_bad (R := R) (rd := rd) l post k (p + 1) j (st ++ [(a, w, j)]) (some (nD p)) (some (nD k0)) (some (s3D (a, w, j))) (by rw [List.length_append, List.length_singleton]; omega) h2 hR hs
    refine ⟨e, ?_, ihl⟩
    have zR := rms_fz R
    have fR := frzs_of zR
    have hst : st.length < 1000000 := by omega
    have hs : s_5_1 (rf R rd st i (some (nD p)) (some (nD k0)) x6) = .nx (rf R rd (st ++ [(a, w, j)]) j (some (nD p)) (some (nD k0)) (some (s3D (a, w, j)))) := by
      simp only [bkD, sgD] at h4
      unfold s_5_1
      simp [zR, fR, h4, hst, at2, sgD]
    show forL _ _ (.tup [nD p, nD k0] :: numD (p + 1) (iL (l ++ k :: post))) _ = _
    conv => lhs; unfold forL
    simp only [put_t, puts_cons, put_v, Option.bind_some, puts_nil, List.set_cons_succ, List.set_cons_zero]
    rw [hs]
    have e5 : p + (k0 :: l).length = p + 1 + l.length := by simp; omega
    rw [e5]
    exact ih
theorem steps_ok {R : List Rm} {l : List Nat} (hl : l.length < 1000) (h : Wk R 0 l) : c_5 [bkD R, .tup (iL l)] = .ok (.lst true ((sts R 0 l).map s3D)) [] := by
  have zR := rms_fz R
  have zl := iL_fz l
  have fl := frzs_of zl
  obtain ⟨y4, y5, y6, hg⟩ := row_go (R := R) (rd := .tup (iL l)) l 0 0 [] none none none (by simp; omega) h
  simp only [rf, bkD, List.map_nil, List.nil_append] at hg
  have c0 : nD 0 = .int 0 := rfl
  rw [c0] at hg
  unfold c_5 callF m_5
  simp [zR, zl, fl, hg]
theorem steps_bad {R : List Rm} {l post : List Nat} {k : Nat} {row : Rm} (hl : l.length < 1000) (h : Wk R 0 l) (hR : R[endR R 0 l]? = some row) (hs : stAt row k = none) : c_5 [bkD R, .tup (iL (l ++ k :: post))] = .ex 1 (nD l.length) [] := by
  have zR := rms_fz R
  have zl := iL_fz (l ++ k :: post)
  have fl := frzs_of zl
  obtain ⟨e, hg, he⟩ := row_bad (R := R) (rd := .tup (iL (l ++ k :: post))) l post k 0 0 [] none none none (by simp; omega) h hR hs
  generalize l ++ k :: post = ll at *
  simp only [rf, bkD, List.map_nil, Nat.zero_add] at hg
  have c0 : nD 0 = .int 0 := rfl
  rw [c0] at hg
  have hf : fins mask_5 e = some [] := match e, he with | [_, _, _, _, _, _, _], _ => rfl
  unfold c_5 callF m_5
  simp [zR, zl, fl, hg, hf]
theorem tasks_ok {R : List Rm} {l : List Nat} (hl : l.length < 1000) (h : Wk R 0 l) (hsl : (sts R 0 l).length < 1000) : c_6 [bkD R, .tup (iL l)] = .ok (.tup (iL ((sts R 0 l).map (·.1)))) [] := by
  have zR := rms_fz R
  have fR := frzs_of zR
  have zl := iL_fz l
  have fl := frzs_of zl
  have h5 := steps_ok hl h
  have lc := map_lc (own := [2]) (tg := .v 2) (elt := q_6_1) (E := [some (bkD R), some (.tup (iL l)), none]) (fun x => [some (bkD R), some (.tup (iL l)), some (s3D x)]) s3D (fun x => nD x.1) (sts R 0 l) [] (by simp; omega) (fun x _ => by
    obtain ⟨a, w, j⟩ := x
    refine ⟨by simp, ?_, rfl⟩
    unfold q_6_1
    simp [sgD, at0])
  rw [List.nil_append] at lc
  have e : ((sts R 0 l).map fun x => nD x.1) = iL ((sts R 0 l).map (·.1)) := by
    show _ = ((sts R 0 l).map (·.1)).map nD
    rw [List.map_map]; rfl
  rw [e] at lc
  have z3 := s3s_fz (sts R 0 l)
  have f3 := frzs_of z3
  have zi := iL_fz ((sts R 0 l).map (·.1))
  have fi := frzs_of zi
  generalize (sts R 0 l).map (·.1) = T at *
  generalize sts R 0 l = X at *
  simp only [bkD] at h5 lc ⊢
  unfold c_6 callF m_6
  simp [zR, fR, zl, fl, h5, lc, z3, f3, zi, fi, tupleD]
theorem tasks_bad {R : List Rm} {l post : List Nat} {k : Nat} {row : Rm} (hl : l.length < 1000) (h : Wk R 0 l) (hR : R[endR R 0 l]? = some row) (hs : stAt row k = none) : c_6 [bkD R, .tup (iL (l ++ k :: post))] = .ex 1 (nD l.length) [] := by
  have zR := rms_fz R
  have fR := frzs_of zR
  have h5 := steps_bad (post := post) hl h hR hs
  generalize l ++ k :: post = ll at *
  have zl := iL_fz ll
  have fl := frzs_of zl
  simp only [bkD] at h5 ⊢
  unfold c_6 callF m_6
  simp [zR, fR, zl, fl, h5]
end
end LW

namespace LW
open PySem PySem.Spec L2 EV
/-! ### ends, pure -/
abbrev Ls := List (Nat × Int)
def eL (M : List (List Int)) (L : Ls) (s : Nat) : Int := minL (L.map fun x => x.2 + ent M x.1 s)
def eRow (M : List (List Int)) (m : Nat) (L : Ls) : List Int := (List.range m).map (eL M L)
def nxt (M : List (List Int)) (L : Ls) : Nat → List (Option Int) → Ls
  | _, [] => []
  | k, none :: r => nxt M L (k + 1) r
  | k, some c :: r => (k, eL M L k + c) :: nxt M L (k + 1) r
def sm3 : List Int → List (Option Int) → List (List Int) → List (Int × List Int)
  | _ :: E, none :: r, _ :: Ms => sm3 E r Ms
  | e :: E, some c :: r, p :: Ms => (e + c, p) :: sm3 E r Ms
  | _, _, _ => []
abbrev ipD (x : Int × List Int) : D := .tup [.int x.1, rt x.2]
theorem ips_fz (l : List (Int × List Int)) : fzs (l.map ipD) = true := fzs_of fun d hd => by
  obtain ⟨s, _, rfl⟩ := List.mem_map.mp hd
  show (true && (fzs (s.2.map D.int) && true)) = true
  rw [fzs_ints]; rfl
theorem sm3_len : ∀ (E : List Int) (r : List (Option Int)) (Ms : List (List Int)), (sm3 E r Ms).length ≤ r.length
  | _ :: E, none :: r, _ :: Ms => by
    have := sm3_len E r Ms
    simp only [sm3, List.length_cons]; omega
  | e :: E, some c :: r, p :: Ms => by
    have := sm3_len E r Ms
    simp only [sm3, List.length_cons]; omega
  | [], _, _ => by simp [sm3]
  | _ :: _, [], _ => by simp [sm3]
  | _ :: _, none :: _, [] => by simp [sm3]
  | _ :: _, some _ :: _, [] => by simp [sm3]
theorem sm3_lc {e0 e1 e2 e3 e4 e5 e9 e10 : Option D} : ∀ (E : List Int) (r : List (Option Int)) (Ms : List (List Int)) (acc : List D), acc.length + r.length ≤ 1000 →
    lcL [6, 7, 8] (.t [.v 6, .v 7, .v 8]) t_8_4 q_8_3 (zip3L (E.map D.int) (r.map coV) (Ms.map rt)) acc [e0, e1, e2, e3, e4, e5, none, none, none, e9, e10] = .ok (acc ++ (sm3 E r Ms).map ipD) [e0, e1, e2, e3, e4, e5, none, none, none, e9, e10]
  | e :: E, none :: r, p :: Ms, acc, hl => by
    simp only [List.length_cons] at hl
    have ih := sm3_lc (e0 := e0) (e1 := e1) (e2 := e2) (e3 := e3) (e4 := e4) (e5 := e5) (e9 := e9) (e10 := e10) E r Ms acc (by omega)
    have ht : t_8_4 [e0, e1, e2, e3, e4, e5, some (.int e), some .non, some (rt p), e9, e10] = .ok (.bl false) [e0, e1, e2, e3, e4, e5, some (.int e), some .non, some (rt p), e9, e10] := by
      unfold t_8_4; simp
    show lcL _ _ _ _ (.tup [.int e, .non, rt p] :: zip3L (E.map D.int) (r.map coV) (Ms.map rt)) _ _ = _
    unfold lcL
    simp only [put_t, puts_cons, put_v, Option.bind_some, puts_nil, List.set_cons_succ, List.set_cons_zero, ht, wipe_cons, wipe_nil]
    exact ih
  | e :: E, some c :: r, p :: Ms, acc, hl => by
    simp only [List.length_cons] at hl
    have ih := sm3_lc (e0 := e0) (e1 := e1) (e2 := e2) (e3 := e3) (e4 := e4) (e5 := e5) (e9 := e9) (e10 := e10) E r Ms (acc ++ [ipD (e + c, p)]) (by simp; omega)
    have hlt : acc.length < LIM := by rw [LIM_is]; omega
    have zp := fzs_ints p
    have ht : t_8_4 [e0, e1, e2, e3, e4, e5, some (.int e), some (.int c), some (rt p), e9, e10] = .ok (.bl true) [e0, e1, e2, e3, e4, e5, some (.int e), some (.int c), some (rt p), e9, e10] := by
      unfold t_8_4; simp
    have hq : q_8_3 [e0, e1, e2, e3, e4, e5, some (.int e), some (.int c), some (rt p), e9, e10] = .ok (ipD (e + c, p)) [e0, e1, e2, e3, e4, e5, some (.int e), some (.int c), some (rt p), e9, e10] := by
      unfold q_8_3; simp [zp]
    show lcL _ _ _ _ (.tup [.int e, .int c, rt p] :: zip3L (E.map D.int) (r.map coV) (Ms.map rt)) _ _ = _
    unfold lcL
    simp only [put_t, puts_cons, put_v, Option.bind_some, puts_nil, List.set_cons_succ, List.set_cons_zero, ht, hq, hlt, if_true, wipe_cons, wipe_nil]
    rw [ih]
    simp [sm3]
  | [], _, _, acc, _ => by simp [sm3, zip3L, lcL]
  | _ :: _, [], _, acc, _ => by simp [sm3, zip3L, lcL]
  | _ :: _, none :: _, [], acc, _ => by simp [sm3, zip3L, lcL]
  | _ :: _, some _ :: _, [], acc, _ => by simp [sm3, zip3L, lcL]
theorem ints_map (c : List Int) : intsD (c.map D.int) = some c := by
  induction c with
  | nil => rfl
  | cons i c ih =>
    show (intsD (c.map D.int)).map (i :: ·) = _
    rw [ih]; rfl
theorem sm3_mem : ∀ (E : List Int) (r : List (Option Int)) (Ms : List (List Int)) (x : Int × List Int), x ∈ sm3 E r Ms → x.2 ∈ Ms
  | _ :: E, none :: r, _ :: Ms, x, h => List.mem_cons_of_mem _ (sm3_mem E r Ms x h)
  | e :: E, some c :: r, p :: Ms, x, h => by
    rcases List.mem_cons.mp h with rfl | h
    · exact List.mem_cons_self ..
    · exact List.mem_cons_of_mem _ (sm3_mem E r Ms x h)
  | [], _, _, _, h => by simp [sm3] at h
  | _ :: _, [], _, _, h => by simp [sm3] at h
  | _ :: _, none :: _, [], _, h => by simp [sm3] at h
  | _ :: _, some _ :: _, [], _, h => by simp [sm3] at h
section
variable {m : Nat} {M : List (List Int)} {C : List (List (Option Int))}
theorem behind_ok {E : List Int} {t : Nat} {r : List (Option Int)} (hM : Sq m M) (hm0 : 0 < m) (hm1 : m < 100) (hr : C[t]? = some r) (hrl : r.length = m) (hne : sm3 E r M ≠ []) :
    c_8 [svD M C, .tup (E.map D.int), nD t] = .ok (.tup (((List.range m).map fun s => minL ((sm3 E r M).map fun x => x.1 + x.2.getD s 0)).map D.int)) [] := by
  have zM := fz_tups M
  have fM := frzs_of zM
  have zC := cosr_fz C
  have fC := frzs_of zC
  have zE := fzs_ints E
  have fE := frzs_of zE
  have ai : atI (C.map coR) (t : Nat) = some (coR r) := atI_at (by rw [List.getElem?_map, hr]; rfl)
  have zr := cos_fz r
  have fr := frzs_of zr
  have lc := sm3_lc (e0 := some (svD M C)) (e1 := some (.tup (E.map D.int))) (e2 := some (nD t)) (e3 := some (.tup (M.map rt))) (e4 := some (.tup (C.map coR))) (e5 := none) (e9 := none) (e10 := none) E r M [] (by simp; omega)
  rw [List.nil_append] at lc
  have hsl := sm3_len E r M
  have hmem := sm3_mem E r M
  have hMl : M.length = m := hM.1
  generalize sm3 E r M = X at *
  have zX := ips_fz X
  have fX := frzs_of zX
  have rg : rngOk (m : Nat) = true := rngOk_s (by omega) (by omega)
  have hXp : 0 < X.length := List.length_pos_iff.mpr hne
  have out := fun (o : Bool) => map_lc (own := [9]) (tg := .v 9) (elt := q_8_2) (E := [some (svD M C), some (.tup (E.map D.int)), some (nD t), some (.tup (M.map rt)), some (.tup (C.map coR)), some (.lst o (X.map ipD)), none, none, none, none, none]) (fun s => [some (svD M C), some (.tup (E.map D.int)), some (nD t), some (.tup (M.map rt)), some (.tup (C.map coR)), some (.lst o (X.map ipD)), none, none, none, some (nD s), none]) nD (fun s => D.int (minL (X.map fun x => x.1 + x.2.getD s 0)))
  have inner : ∀ s, s < m → lcL [10, 8] (.t [.v 10, .v 8]) mTrue q_8_1 (X.map ipD) [] [some (svD M C), some (.tup (E.map D.int)), some (nD t), some (.tup (M.map rt)), some (.tup (C.map coR)), some (.lst false (X.map ipD)), none, none, none, some (nD s), none] = .ok ((X.map fun x => x.1 + x.2.getD s 0).map D.int) [some (svD M C), some (.tup (E.map D.int)), some (nD t), some (.tup (M.map rt)), some (.tup (C.map coR)), some (.lst false (X.map ipD)), none, none, none, some (nD s), none] := fun s hs => by
    have := map_lc (own := [10, 8]) (tg := .t [.v 10, .v 8]) (elt := q_8_1) (E := [some (svD M C), some (.tup (E.map D.int)), some (nD t), some (.tup (M.map rt)), some (.tup (C.map coR)), some (.lst false (X.map ipD)), none, none, none, some (nD s), none]) (fun x => [some (svD M C), some (.tup (E.map D.int)), some (nD t), some (.tup (M.map rt)), some (.tup (C.map coR)), some (.lst false (X.map ipD)), none, none, some (rt x.2), some (nD s), some (.int x.1)]) ipD (fun x => D.int (x.1 + x.2.getD s 0)) X [] (by simp; omega) (fun x hx => by
      have hpl : x.2.length = m := hM.2 _ (hmem x hx)
      have hat : atI (x.2.map D.int) (s : Nat) = some (.int (x.2.getD s 0)) := atI_at (by rw [List.getElem?_map, getD_at (d := 0) (by omega)]; rfl)
      have zp := fzs_ints x.2
      refine ⟨by simp, ?_, rfl⟩
      generalize x.2.getD s 0 = v at *
      unfold q_8_1
      simp [zp, hat])
    rw [List.nil_append] at this
    rw [this, List.map_map]
    rfl
  have hq : ∀ (o : Bool) s, s < m → q_8_2 [some (svD M C), some (.tup (E.map D.int)), some (nD t), some (.tup (M.map rt)), some (.tup (C.map coR)), some (.lst o (X.map ipD)), none, none, none, some (nD s), none] = .ok (.int (minL (X.map fun x => x.1 + x.2.getD s 0))) [some (svD M C), some (.tup (E.map D.int)), some (nD t), some (.tup (M.map rt)), some (.tup (C.map coR)), some (.lst false (X.map ipD)), none, none, none, some (nD s), none] := fun o s hs => by
    have hi := inner s hs
    have hYl : (X.map fun x => x.1 + x.2.getD s 0).length = X.length := List.length_map ..
    generalize (X.map fun x => x.1 + x.2.getD s 0) = Y at *
    have zY := fzs_ints Y
    have fY := frzs_of zY
    have iY := ints_map Y
    have hYp : 0 < Y.length := by omega
    unfold q_8_2
    cases o <;> simp [zX, fX, hi, fY, min1A, seqI, iY, hYp]
  have fin1 : lcL [9] (.v 9) mTrue q_8_2 (rangeD 0 (m : Nat)) [] [some (svD M C), some (.tup (E.map D.int)), some (nD t), some (.tup (M.map rt)), some (.tup (C.map coR)), some (.lst true (X.map ipD)), none, none, none, none, none] = .ok (((List.range m).map fun s => minL (X.map fun x => x.1 + x.2.getD s 0)).map D.int) [some (svD M C), some (.tup (E.map D.int)), some (nD t), some (.tup (M.map rt)), some (.tup (C.map coR)), some (.lst false (X.map ipD)), none, none, none, none, none] := by
    rw [rangeD_eq]
    obtain ⟨n, rfl⟩ : ∃ n, m = n + 1 := ⟨m - 1, by omega⟩
    rw [List.range_succ_eq_map]
    have hlt : ([] : List D).length < LIM := by rw [LIM_is]; decide
    show lcL _ _ _ _ (nD 0 :: iL ((List.range n).map Nat.succ)) _ _ = _
    unfold lcL
    simp only [put_v, List.set_cons_succ, List.set_cons_zero, ap_true, hq true 0 hm0, hlt, if_true, wipe_cons, wipe_nil]
    have := out false ((List.range n).map Nat.succ) [.int (minL (X.map fun x => x.1 + x.2.getD 0 0))] (by simp; omega) (fun s hs => ⟨by simp, hq false s (by
      obtain ⟨j, hj, rfl⟩ := List.mem_map.mp hs
      have := List.mem_range.mp hj
      omega), rfl⟩)
    rw [List.nil_append]
    refine Eq.trans this ?_
    simp
  have zF := fzs_ints ((List.range m).map fun s => minL (X.map fun x => x.1 + x.2.getD s 0))
  have fF := frzs_of zF
  generalize ((List.range m).map fun s => minL (X.map fun x => x.1 + x.2.getD s 0)) = F at *
  simp only [svD] at lc fin1 ⊢
  unfold c_8 callF m_8
  simp [zM, fM, zC, fC, zE, fE, ai, zr, fr, lc, hMl, rg, fin1, zF, fF, tupleD]
end
end LW

namespace LW
open PySem PySem.Spec L2 EV
theorem sm3_nxt {M : List (List Int)} {L : Ls} : ∀ (r : List (Option Int)) (k : Nat), k + r.length = M.length → sm3 ((List.range' k r.length).map (eL M L)) r (M.drop k) = (nxt M L k r).map fun x => (x.2, M.getD x.1 [])
  | [], k, h => by simp [sm3, nxt]
  | none :: r, k, h => by
    simp only [List.length_cons] at h
    have hk : k < M.length := by omega
    rw [List.length_cons, List.range'_succ, List.map_cons, List.drop_eq_getElem_cons hk]
    show sm3 ((List.range' (k + 1) r.length).map (eL M L)) r (M.drop (k + 1)) = _
    rw [sm3_nxt r (k + 1) (by omega)]
    rfl
  | some c :: r, k, h => by
    simp only [List.length_cons] at h
    have hk : k < M.length := by omega
    rw [List.length_cons, List.range'_succ, List.map_cons, List.drop_eq_getElem_cons hk]
    show (eL M L k + c, M[k]) :: sm3 ((List.range' (k + 1) r.length).map (eL M L)) r (M.drop (k + 1)) = _
    rw [sm3_nxt r (k + 1) (by omega)]
    have e : M.getD k [] = M[k] := by rw [List.getD_eq_getElem?_getD, List.getElem?_eq_getElem hk]; rfl
    show _ = (eL M L k + c, M.getD k []) :: _
    rw [e]
theorem nxt_mem {M : List (List Int)} {L : Ls} : ∀ (r : List (Option Int)) (k : Nat) (x : Nat × Int), x ∈ nxt M L k r → k ≤ x.1 ∧ x.1 < k + r.length
  | [], _, _, h => nomatch h
  | none :: r, k, x, h => by
    have := nxt_mem r (k + 1) x h
    simp only [List.length_cons]; omega
  | some c :: r, k, x, h => by
    rcases List.mem_cons.mp h with rfl | h
    · simp
    · have := nxt_mem r (k + 1) x h
      simp only [List.length_cons]; omega
theorem nxt_ne {M : List (List Int)} {L : Ls} : ∀ (r : List (Option Int)) (k : Nat) (i : Int), some i ∈ r → nxt M L k r ≠ []
  | [], _, _, h => nomatch h
  | none :: r, k, i, h => by
    rcases List.mem_cons.mp h with e | h
    · cases e
    · exact nxt_ne r (k + 1) i h
  | some c :: r, k, i, h => by simp [nxt]
section
variable {m : Nat} {M : List (List Int)} {C : List (List (Option Int))}
theorem behind_L {L : Ls} {t : Nat} {r : List (Option Int)} (hM : Sq m M) (hm0 : 0 < m) (hm1 : m < 100) (hr : C[t]? = some r) (hrl : r.length = m) (hi : ∃ i, some i ∈ r) :
    c_8 [svD M C, .tup ((eRow M m L).map D.int), nD t] = .ok (.tup ((eRow M m (nxt M L 0 r)).map D.int)) [] := by
  have hMl : M.length = m := hM.1
  have hs := sm3_nxt (M := M) (L := L) r 0 (by omega)
  rw [List.drop_zero, hrl, ← List.range_eq_range'] at hs
  obtain ⟨i, hi⟩ := hi
  have hne := nxt_ne (M := M) (L := L) r 0 i hi
  have h := behind_ok (E := eRow M m L) hM hm0 hm1 hr hrl (by
    show sm3 ((List.range m).map (eL M L)) r M ≠ []
    rw [hs]
    intro e
    rw [List.map_eq_nil_iff] at e
    exact hne e)
  rw [h]
  congr 3
  show _ = (List.range m).map (eL M (nxt M L 0 r))
  refine List.map_congr_left fun s _ => ?_
  show minL ((sm3 ((List.range m).map (eL M L)) r M).map _) = minL ((nxt M L 0 r).map _)
  rw [hs, List.map_map]
  rfl
/-- along the tasks -/
def lrun (M : List (List Int)) (C : List (List (Option Int))) : List Nat → Ls → Ls
  | [], L => L
  | t :: ts, L => lrun M C ts (nxt M L 0 (C.getD t []))
def tOk (C : List (List (Option Int))) (m : Nat) (t : Nat) : Prop := ∃ r, C[t]? = some r ∧ r.length = m ∧ ∃ i, some i ∈ r
theorem ends_go (hM : Sq m M) (hm0 : 0 < m) (hm1 : m < 100) {td : D} : ∀ (ts : List Nat) (L : Ls) (x3 : Option D), (∀ t ∈ ts, tOk C m t) → ∃ y3, forL (.v 3) s_9_1 (iL ts) [some (svD M C), some td, some (.tup ((eRow M m L).map D.int)), x3] = .nx [some (svD M C), some td, some (.tup ((eRow M m (lrun M C ts L)).map D.int)), y3]
  | [], L, x3, _ => ⟨x3, rfl⟩
  | t :: ts, L, x3, h => by
    obtain ⟨r, h1, h2, h3⟩ := h t (List.mem_cons_self ..)
    have hb := behind_L (L := L) hM hm0 hm1 h1 h2 h3
    have e : C.getD t [] = r := by rw [List.getD_eq_getElem?_getD, h1]; rfl
    obtain ⟨y3, ih⟩ := ends_go hM hm0 hm1 (td := td) ts (nxt M L 0 (C.getD t [])) (some (nD t)) (fun x hx => h x (List.mem_cons_of_mem _ hx))
    rw [e] at ih
    refine ⟨y3, ?_⟩
    have zs := sv_fz M C
    have fs := frz_of _ zs
    have ze := fzs_ints (eRow M m L)
    have fe := frzs_of ze
    have ze2 := fzs_ints (eRow M m (nxt M L 0 r))
    have fe2 := frzs_of ze2
    have el : lrun M C (t :: ts) L = lrun M C ts (nxt M L 0 r) := by show lrun M C ts (nxt M L 0 (C.getD t [])) = _; rw [e]
    rw [el]
    show forL _ _ (nD t :: iL ts) _ = _
    conv => lhs; unfold forL
    simp only [put_v, List.set_cons_succ, List.set_cons_zero]
    have st : s_9_1 [some (svD M C), some td, some (.tup ((eRow M m L).map D.int)), some (nD t)] = .nx [some (svD M C), some td, some (.tup ((eRow M m (nxt M L 0 r)).map D.int)), some (nD t)] := by
      generalize svD M C = sd at *
      generalize eRow M m L = E1 at *
      generalize eRow M m (nxt M L 0 r) = E2 at *
      unfold s_9_1
      simp [zs, fs, ze, fe, hb]
    rw [st]
    exact ih
theorem eRow0 (hM : Sq m M) (hm0 : 0 < m) : M[0]? = some (eRow M m [(0, 0)]) := by
  have hl : 0 < M.length := by rw [hM.1]; exact hm0
  rw [List.getElem?_eq_getElem hl]
  congr 1
  have hrl : (M[0]).length = m := hM.2 _ (List.getElem_mem hl)
  refine List.ext_getElem? fun s => ?_
  unfold eRow
  rw [List.getElem?_map]
  by_cases hs : s < m
  · rw [List.getElem?_eq_getElem (by omega), List.getElem?_range hs]
    show some _ = some (minL [0 + ent M 0 s])
    rw [ent_get hl (by omega)]
    show _ = some (0 + ent M 0 s)
    rw [Int.zero_add]
  · rw [List.getElem?_eq_none (by omega), List.getElem?_eq_none (by rw [List.length_range]; omega)]
    rfl
theorem ends_ok (hM : Sq m M) (hm0 : 0 < m) (hm1 : m < 100) {ts : List Nat} (h : ∀ t ∈ ts, tOk C m t) : c_9 [svD M C, .tup (iL ts)] = .ok (.tup ((eRow M m (lrun M C ts [(0, 0)])).map D.int)) [] := by
  obtain ⟨y3, hg⟩ := ends_go hM hm0 hm1 (td := .tup (iL ts)) ts [(0, 0)] none h
  have zM := fz_tups M
  have fM := frzs_of zM
  have zC := cosr_fz C
  have zt := iL_fz ts
  have ft := frzs_of zt
  have a0 : atI (M.map rt) 0 = some (rt (eRow M m [(0, 0)])) := atI_at (k := 0) (by rw [List.getElem?_map, eRow0 hM hm0]; rfl)
  have ze := fzs_ints (eRow M m [(0, 0)])
  have fe := frzs_of ze
  have ze2 := fzs_ints (eRow M m (lrun M C ts [(0, 0)]))
  have fe2 := frzs_of ze2
  generalize eRow M m [(0, 0)] = E1 at *
  generalize eRow M m (lrun M C ts [(0, 0)]) = E2 at *
  simp only [svD] at hg ⊢
  unfold c_9 callF m_9
  simp [zM, fM, zC, frzs_of zC, at0, a0, ze, fe, zt, ft, hg, ze2, fe2]
theorem min_eq {a b : List Int} (ha : 0 < a.length) (hb : 0 < b.length) (h1 : ∀ x ∈ a, ∃ y ∈ b, y ≤ x) (h2 : ∀ y ∈ b, ∃ x ∈ a, x ≤ y) : minL a = minL b := by
  obtain ⟨m1, m2⟩ := minL_ok a ha
  obtain ⟨n1, n2⟩ := minL_ok b hb
  obtain ⟨y, hy, hy2⟩ := h1 _ m1
  obtain ⟨x, hx, hx2⟩ := h2 _ n1
  have := n2 y hy
  have := m2 x hx
  omega
theorem min_ends (hM : Mx m M) (hm0 : 0 < m) {L : Ls} (hL : L ≠ []) (hx : ∀ x ∈ L, x.1 < m) : minL (eRow M m L) = minL (L.map (·.2)) := by
  have hLl : 0 < L.length := List.length_pos_iff.mpr hL
  refine min_eq (by unfold eRow; rw [List.length_map, List.length_range]; exact hm0) (by rw [List.length_map]; exact hLl) (fun v hv => ?_) (fun v hv => ?_)
  · obtain ⟨s, _, rfl⟩ := List.mem_map.mp hv
    obtain ⟨n1, n2⟩ := minL_ok (L.map fun x => x.2 + ent M x.1 s) (by rw [List.length_map]; exact hLl)
    obtain ⟨x, hx, he⟩ := List.mem_map.mp n1
    refine ⟨x.2, List.mem_map_of_mem hx, ?_⟩
    show x.2 ≤ minL _
    rw [← he]
    have := hM.nn x.1 s
    omega
  · obtain ⟨x, hxm, rfl⟩ := List.mem_map.mp hv
    refine ⟨eL M L x.1, List.mem_map_of_mem (List.mem_range.mpr (hx x hxm)), ?_⟩
    obtain ⟨n1, n2⟩ := minL_ok (L.map fun y => y.2 + ent M y.1 x.1) (by rw [List.length_map]; exact hLl)
    have := n2 _ (List.mem_map_of_mem hxm)
    have hd := hM.dg x.1
    show minL _ ≤ x.2
    omega
theorem lrun_ok {L : Ls} : ∀ {ts : List Nat}, (∀ t ∈ ts, tOk C m t) → L ≠ [] → (∀ x ∈ L, x.1 < m) → lrun M C ts L ≠ [] ∧ ∀ x ∈ lrun M C ts L, x.1 < m := by
  intro ts
  induction ts generalizing L with
  | nil => exact fun _ h1 h2 => ⟨h1, h2⟩
  | cons t ts ih =>
    intro h h1 h2
    obtain ⟨r, g1, g2, i, g3⟩ := h t (List.mem_cons_self ..)
    have e : C.getD t [] = r := by rw [List.getD_eq_getElem?_getD, g1]; rfl
    show lrun M C ts (nxt M L 0 (C.getD t [])) ≠ [] ∧ _
    rw [e]
    have := ih (L := nxt M L 0 r) (fun x hx => h x (List.mem_cons_of_mem _ hx)) (nxt_ne r 0 i g3) (fun x hx => by have := nxt_mem r 0 x hx; omega)
    refine ⟨this.1, fun x hx => this.2 x ?_⟩
    show x ∈ lrun M C ts (nxt M L 0 r)
    have hx : x ∈ lrun M C ts (nxt M L 0 (C.getD t [])) := hx
    rw [e] at hx
    exact hx
theorem least_ok (hM : Mx m M) (hm0 : 0 < m) (hm1 : m < 100) {ts : List Nat} (h : ∀ t ∈ ts, tOk C m t) : c_10 [svD M C, .tup (iL ts)] = .ok (.int (minL ((lrun M C ts [(0, 0)]).map (·.2)))) [] := by
  have h9 := ends_ok (C := C) hM.sq hm0 hm1 h
  obtain ⟨l1, l2⟩ := lrun_ok (M := M) (L := [(0, 0)]) h (by simp) (fun x hx => by rw [List.mem_singleton.mp hx]; exact hm0)
  rw [← min_ends hM hm0 l1 l2]
  have zs := sv_fz M C
  have fs := frz_of _ zs
  have zt := iL_fz ts
  have ft := frzs_of zt
  have hEl : (eRow M m (lrun M C ts [(0, 0)])).length = m := by unfold eRow; rw [List.length_map, List.length_range]
  generalize eRow M m (lrun M C ts [(0, 0)]) = E at *
  have ze := fzs_ints E
  have fe := frzs_of ze
  have iE := ints_map E
  have hEp : 0 < E.length := by omega
  generalize svD M C = sd at *
  unfold c_10 callF m_10
  simp [zs, fs, zt, ft, h9, fe, min1A, seqI, iE, hEp]
end
end LW

namespace LW
open PySem PySem.Spec L2 EV
section
variable {m tk rooms : Nat} {M : List (List Int)} {C : List (List (Option Int))} {th : D} {B : List Rm} {asks : List Nat} {ps : List Ply}
/-- the law's own ends along a row -/
def wrun (B : List Rm) (ps : List Ply) (M : List (List Int)) (C : List (List (Option Int))) (m : Nat) : Nat → List Nat → List Nat → Ls → Ls
  | _, _, [], L => L
  | r, ns, k :: l, L => match (B.getD r [])[k]? with
    | some (some (t, _, g)) => wrun B ps M C m g ((told ps ns k).map (·.2)) l (nxt M L 0 (wi (lotN m (told ps ns k)) 0 (C.getD t [])))
    | _ => L
theorem wi_ok (K : Cw m tk rooms M C B asks) {a : St} (h : a.1 < tk ∧ a.2 ≠ [] ∧ (∀ x ∈ a.2, x < m ∧ ∃ (r : List (Option Int)) (i : Int), C[a.1]? = some r ∧ r[x]? = some (some i)) ∧ ∃ td, a.2 = lotN m td) : (wi a.2 0 (C.getD a.1 [])).length = m ∧ ∃ i, some i ∈ wi a.2 0 (C.getD a.1 []) := by
  obtain ⟨h1, h2, h3, _⟩ := h
  have hC : C[a.1]? = some (C.getD a.1 []) := getD_at (by rw [K.sv.tl]; exact h1)
  refine ⟨by rw [wi_len]; exact (K.sv.co _ (List.mem_of_getElem? hC)).1, ?_⟩
  cases hl : a.2 with
  | nil => exact absurd hl h2
  | cons x lot =>
    have hx : x ∈ a.2 := by rw [hl]; exact List.mem_cons_self ..
    obtain ⟨_, r, i, g1, g2⟩ := h3 x hx
    rw [hC] at g1
    injection g1 with g1
    rw [← hl]
    refine ⟨i, List.mem_of_getElem? (i := x) ?_⟩
    rw [wi_get, g1, g2, Nat.zero_add]
    simp [hx]
theorem run_eq (K : Cw m tk rooms M C B asks) {S A : List St} {R : List Rm} (X : Fx B rooms m tk C asks ps S A R) (I : Iv rooms m tk C ps S A) : ∀ (l : List Nat) (i r : Nat) (ns : List Nat) (L : Ls), S[i]? = some (r, ns) → Wk B r l →
    Wk R i l ∧ lrun M (theirC C A) ((sts R i l).map (·.1)) L = wrun B ps M C m r ns l L ∧ (∀ t ∈ (sts R i l).map (·.1), tOk (theirC C A) m t) ∧ (∃ ns', S[endR R i l]? = some (endR B r l, ns')) ∧ (sts R i l).length = l.length
  | [], i, r, ns, L, hi, _ => ⟨trivial, rfl, (fun t ht => nomatch ht), ⟨ns, hi⟩, rfl⟩
  | k :: l, i, r, ns, L, hi, ⟨t, w, g, h1, h2⟩ => by
    obtain ⟨row, g1, g2, g3⟩ := X.fr i r ns hi
    obtain ⟨e, he, hE⟩ := g3 k _ h1
    obtain ⟨ai, si, e1, e2, e3⟩ := hE
    subst e1
    have hRi : R.getD i [] = row := by rw [List.getD_eq_getElem?_getD, g1]; rfl
    obtain ⟨i1, i2, i3, i4, i5⟩ := run_eq K X I l si g ((told ps ns k).map (·.2)) (nxt M L 0 (wi (lotN m (told ps ns k)) 0 (C.getD t []))) e3 h2
    have es : sts R i (k :: l) = (ai, w, si) :: sts R si l := by
      show (match (R.getD i [])[k]? with | some (some (a, w, j)) => (a, w, j) :: sts R j l | _ => []) = _
      rw [hRi, he]
    have er : endR R i (k :: l) = endR R si l := by
      show (match (R.getD i [])[k]? with | some (some (_, _, g)) => endR R g l | _ => i) = _
      rw [hRi, he]
    have eb : endR B r (k :: l) = endR B g l := by
      show (match (B.getD r [])[k]? with | some (some (_, _, g)) => endR B g l | _ => r) = _
      rw [h1]
    have ew : wrun B ps M C m r ns (k :: l) L = wrun B ps M C m g ((told ps ns k).map (·.2)) l (nxt M L 0 (wi (lotN m (told ps ns k)) 0 (C.getD t []))) := by
      show (match (B.getD r [])[k]? with | some (some (t, _, g)) => wrun B ps M C m g ((told ps ns k).map Prod.snd) l (nxt M L 0 (wi (lotN m (told ps ns k)) 0 (C.getD t []))) | _ => L) = _
      rw [h1]
    have eC : (theirC C A)[ai]? = some (wi (lotN m (told ps ns k)) 0 (C.getD t [])) := by unfold theirC; rw [List.getElem?_map, e2]; rfl
    have eCg : (theirC C A).getD ai [] = wi (lotN m (told ps ns k)) 0 (C.getD t []) := by rw [List.getD_eq_getElem?_getD, eC]; rfl
    rw [es, er, eb, ew]
    refine ⟨⟨ai, w, si, by rw [hRi]; exact he, i1⟩, ?_, fun t' ht' => ?_, i4, by rw [List.length_cons, i5, List.length_cons]⟩
    · show lrun M (theirC C A) ((sts R si l).map (·.1)) (nxt M L 0 ((theirC C A).getD ai [])) = _
      rw [eCg, i2]
    · rcases List.mem_cons.mp ht' with rfl | ht'
      · obtain ⟨w1, w2⟩ := wi_ok K (I.ao _ (List.mem_of_getElem? e2))
        exact ⟨_, eC, w1, w2⟩
      · exact i3 t' ht'
/-- what counsel's players pay -/
def paidN (B : List Rm) (ps : List Ply) (M : List (List Int)) (C : List (List (Option Int))) (m : Nat) (l : List Nat) : Int := minL ((wrun B ps M C m 0 (zeros ps) l [(0, 0)]).map (·.2))
theorem paid_ok (K : Cw m tk rooms M C B asks) (hth : fz th = true) {S A : List St} {R : List Rm} (X : Fx B rooms m tk C asks ps S A R) (I : Iv rooms m tk C ps S A) (h17 : c_17 [whD M C th B, psD ps] = .ok (coD M C A R) []) {l : List Nat} (hl : l.length < 1000) (hw : Wk B 0 l) :
    c_18 [whD M C th B, psD ps, .tup (iL l)] = .ok (.int (paidN B ps M C m l)) [] := by
  obtain ⟨h1, h2, h3, h4, h5⟩ := run_eq K X I l 0 0 (zeros ps) [(0, 0)] X.s0 hw
  have hm1 := K.m1
  have ht := tasks_ok hl h1 (by omega)
  have hle := least_ok (C := theirC C A) K.sv.mx K.m0 (by omega) h3
  rw [h2] at hle
  have zw := wh_fz (M := M) (C := C) (B := B) hth
  have fw := frz_of _ zw
  have zp := plys_fz ps
  have fp := frzs_of zp
  have zl := iL_fz l
  have fl := frzs_of zl
  have z1 := sv_fz M (mineC C A)
  have z2 := sv_fz M (theirC C A)
  have f2 := frz_of _ z2
  have zR := rms_fz R
  have fR := frzs_of zR
  have zt := iL_fz ((sts R 0 l).map (·.1))
  have ft := frzs_of zt
  show _ = RC.ok (.int (minL ((wrun B ps M C m 0 (zeros ps) l [(0, 0)]).map (·.2)))) []
  have h17 : c_17 [whD M C th B, psD ps] = .ok (.tup [svD M (mineC C A), svD M (theirC C A), bkD R]) [] := h17
  generalize minL ((wrun B ps M C m 0 (zeros ps) l [(0, 0)]).map (·.2)) = v at *
  generalize (sts R 0 l).map (·.1) = T at *
  generalize svD M (mineC C A) = s1 at *
  generalize svD M (theirC C A) = s2 at *
  generalize whD M C th B = W at *
  simp only [psD, bkD] at h17 ht ⊢
  unfold c_18 callF m_18
  simp [zw, fw, zp, fp, h17, z2, f2, zR, fR, zl, fl, ht, zt, ft, hle]
theorem paid_bad (K : Cw m tk rooms M C B asks) (hth : fz th = true) {S A : List St} {R : List Rm} (X : Fx B rooms m tk C asks ps S A R) (I : Iv rooms m tk C ps S A) (h17 : c_17 [whD M C th B, psD ps] = .ok (coD M C A R) []) {l post : List Nat} {k : Nat} (hl : l.length < 1000) (hw : Wk B 0 l) (hk : stAt (B.getD (endR B 0 l) []) k = none) :
    c_18 [whD M C th B, psD ps, .tup (iL (l ++ k :: post))] = .ex 1 (nD l.length) [] := by
  obtain ⟨h1, h2, h3, ⟨ns', h4⟩, h5⟩ := run_eq (M := M) K X I l 0 0 (zeros ps) [(0, 0)] X.s0 hw
  obtain ⟨row, g1, g2, g3⟩ := X.fr _ _ _ h4
  have hs := X.so _ (List.mem_of_getElem? h4)
  have hrr : endR B 0 l < rooms := hs.1
  obtain ⟨b1, b2, b3⟩ := room_rw K hrr
  have hk2 : stAt row k = none := by
    unfold stAt at hk ⊢
    cases q : (B.getD (endR B 0 l) [])[k]? with
    | none =>
      have : row.length ≤ k := by
        have := List.getElem?_eq_none_iff.mp q
        omega
      rw [List.getElem?_eq_none this]
      rfl
    | some s =>
      rw [q] at hk
      have hk : s = none := hk
      subst hk
      obtain ⟨e, he, hE⟩ := g3 k _ q
      have hE : e = none := hE
      subst hE
      rw [he]
      rfl
  have ht := tasks_bad (post := post) hl h1 g1 hk2
  generalize l ++ k :: post = ll at *
  have zw := wh_fz (M := M) (C := C) (B := B) hth
  have fw := frz_of _ zw
  have zp := plys_fz ps
  have fp := frzs_of zp
  have zl := iL_fz ll
  have fl := frzs_of zl
  have z2 := sv_fz M (theirC C A)
  have f2 := frz_of _ z2
  have zR := rms_fz R
  have fR := frzs_of zR
  have h17 : c_17 [whD M C th B, psD ps] = .ok (.tup [svD M (mineC C A), svD M (theirC C A), bkD R]) [] := h17
  generalize svD M (mineC C A) = s1 at *
  generalize svD M (theirC C A) = s2 at *
  generalize whD M C th B = W at *
  simp only [psD, bkD] at h17 ht ⊢
  unfold c_18 callF m_18
  simp [zw, fw, zp, fp, h17, z2, f2, zR, fR, zl, fl, ht]
/-- tried -/
theorem tried_ok {W pd : D} {l : List Nat} {v : Int} (zw : fz W = true) (zp : fz pd = true) (h : c_18 [W, pd, .tup (iL l)] = .ok (.int v) []) : c_31 [W, pd, .tup (iL l)] = .ok (.tup [.str "told", .int v]) [] := by
  have zl := iL_fz l
  have fl := frzs_of zl
  have fw := frz_of _ zw
  have fp := frz_of _ zp
  unfold c_31 callF m_31
  simp [zw, fw, zp, fp, zl, fl, h]
theorem tried_bad {W pd : D} {l : List Nat} {v : Nat} (zw : fz W = true) (zp : fz pd = true) (h : c_18 [W, pd, .tup (iL l)] = .ex 1 (nD v) []) : c_31 [W, pd, .tup (iL l)] = .ok (.tup [.str "refused", nD v]) [] := by
  have zl := iL_fz l
  have fl := frzs_of zl
  have fw := frz_of _ zw
  have fp := frz_of _ zp
  unfold c_31 callF m_31
  simp [zw, fw, zp, fp, zl, fl, h, cg_1]
end
end LW

namespace LW
open PySem PySem.Spec L2 EV
/-! ### the law's dicts -/
def kvs (L : Ls) : List (Key × D) := L.map fun x => (.inl (x.1 : Int), .int x.2)
abbrev dkL (o : Bool) (L : Ls) : D := .dk o (kvs L)
def kOk (L : Ls) : Prop := (L.map (·.1)).Nodup
theorem kvs_get : ∀ {L : Ls}, kOk L → ∀ x ∈ L, getK (kvs L) (.inl (x.1 : Int)) = some (.int x.2)
  | [], _, _, h => nomatch h
  | y :: L, hk, x, hx => by
    have hk : (y.1 :: L.map (·.1)).Nodup := hk
    obtain ⟨h1, h2⟩ := List.nodup_cons.mp hk
    unfold getK kvs
    rw [List.map_cons, List.find?_cons]
    rcases List.mem_cons.mp hx with rfl | hx
    · simp
    · have hne : y.1 ≠ x.1 := fun e => h1 (e ▸ List.mem_map_of_mem hx)
      have hb : decide ((Sum.inl (y.1 : Int) : Key) = .inl (x.1 : Int)) = false := by
        rw [decide_eq_false_iff_not]
        intro e
        injection e with e
        exact hne (by omega)
      simp only [hb]
      exact kvs_get h2 x hx
theorem kvs_any : ∀ {L : Ls} {k : Nat}, k ∉ L.map (·.1) → ((kvs L).any fun kv => decide (kv.1 = (.inl (k : Int) : Key))) = false
  | [], _, _ => rfl
  | y :: L, k, h => by
    have h1 : k ≠ y.1 := fun e => h (by rw [e]; exact List.mem_cons_self ..)
    have h2 : k ∉ L.map (·.1) := fun e => h (List.mem_cons_of_mem _ e)
    show (decide ((Sum.inl (y.1 : Int) : Key) = .inl (k : Int)) || (kvs L).any _) = false
    rw [kvs_any h2, Bool.or_false, decide_eq_false_iff_not]
    intro e
    injection e with e
    omega
theorem kvs_set {L : Ls} {k : Nat} {v : Int} (h : k ∉ L.map (·.1)) (hl : L.length < 1000) : setD (dkL true L) (nD k) (.int v) = some (dkL true (L ++ [(k, v)])) := by
  have e : setD (dkL true L) (nD k) (.int v) = if (kvs L).length < LIM then some (.dk true (putD (kvs L) (.inl (k : Int)) (.int v))) else none := rfl
  have hl2 : (kvs L).length < LIM := by unfold kvs; rw [List.length_map, LIM_is]; omega
  rw [e, if_pos hl2]
  unfold putD
  rw [kvs_any h]
  simp [kvs]
theorem kvs_keys (L : Ls) : ((kvs L).map fun kv => keyK kv.1) = iL (L.map (·.1)) := by
  unfold kvs
  rw [List.map_map]
  show _ = (L.map (·.1)).map nD
  rw [List.map_map]
  rfl
theorem nxt_keys {M : List (List Int)} {L : Ls} : ∀ (r : List (Option Int)) (k : Nat), kOk (nxt M L k r)
  | [], _ => List.Pairwise.nil
  | none :: r, k => nxt_keys r (k + 1)
  | some c :: r, k => by
    refine List.nodup_cons.mpr ⟨fun h => ?_, nxt_keys r (k + 1)⟩
    obtain ⟨x, hx, e⟩ := List.mem_map.mp h
    have := nxt_mem r (k + 1) x hx
    have e : x.1 = k := e
    omega
def one1 (M : List (List Int)) (L : Ls) (k : Nat) : Option Int → Ls
  | none => []
  | some i => [(k, eL M L k + i)]
/-- the frame of lots_paid -/
abbrev pfr (W : D) (ps : List Ply) (rd pr co : D) (x5 x6 x7 x8 : Option D) (oe : Bool) (L : Ls) (ofr : Bool) (Fr : Ls) (x11 x12 x13 x14 x15 x16 x17 x18 x19 x20 : Option D) : DEnv :=
  [some W, some (psD ps), some rd, some pr, some co, x5, x6, x7, x8, some (dkL oe L), some (dkL ofr Fr), x11, x12, x13, x14, x15, x16, x17, x18, x19, x20, none, none, none, none, none]
section
variable {m : Nat} {M : List (List Int)} {W co rd : D} {ps : List Ply}
theorem ent_at (hM : Sq m M) {i j : Nat} (hi : i < m) (hj : j < m) : atI (M.map rt) (i : Nat) = some (rt (M.getD i [])) ∧ atI ((M.getD i []).map D.int) (j : Nat) = some (.int (ent M i j)) := by
  have h1 : M[i]? = some (M.getD i []) := getD_at (by rw [hM.1]; exact hi)
  have hl : (M.getD i []).length = m := hM.2 _ (List.mem_of_getElem? h1)
  have h2 : (M.getD i [])[j]? = some ((M.getD i []).getD j 0) := getD_at (by omega)
  exact ⟨atI_at (by rw [List.getElem?_map, h1]; rfl), atI_at (by rw [List.getElem?_map, h2]; rfl)⟩
theorem min_free (hM : Sq m M) {x5 x6 x7 x8 x11 x12 x13 x14 x15 x16 x17 x18 x20 : Option D} {oe ofr : Bool} {L Fr : Ls} {k : Nat} (hk : k < m) (hL : ∀ x ∈ L, x.1 < m) (hF : ∀ x ∈ Fr, x.1 < m) (hkL : kOk L) (hkF : kOk Fr) (hl : L.length ≤ 100) (hfl : Fr.length ≤ 100) :
    lcL [25] (.v 25) mTrue q_30_4 (iL (Fr.map (·.1))) [] (pfr W ps rd (.tup (M.map rt)) co x5 x6 x7 x8 oe L ofr Fr x11 x12 x13 x14 x15 x16 x17 x18 (some (nD k)) x20) = .ok ((Fr.map fun x => x.2 + ent M x.1 k).map D.int) (pfr W ps rd (.tup (M.map rt)) co x5 x6 x7 x8 oe L ofr Fr x11 x12 x13 x14 x15 x16 x17 x18 (some (nD k)) x20) ∧
    lcL [25] (.v 25) mTrue q_30_3 (iL (L.map (·.1))) [] (pfr W ps rd (.tup (M.map rt)) co x5 x6 x7 x8 oe L ofr Fr x11 x12 x13 x14 x15 x16 x17 x18 (some (nD k)) x20) = .ok ((L.map fun x => x.2 + ent M x.1 k).map D.int) (pfr W ps rd (.tup (M.map rt)) co x5 x6 x7 x8 oe L ofr Fr x11 x12 x13 x14 x15 x16 x17 x18 (some (nD k)) x20) := by
  have zM := fz_tups M
  have fM := frzs_of zM
  have h1 := map_lc (own := [25]) (tg := .v 25) (elt := q_30_4) (E := pfr W ps rd (.tup (M.map rt)) co x5 x6 x7 x8 oe L ofr Fr x11 x12 x13 x14 x15 x16 x17 x18 (some (nD k)) x20) (fun x => [some W, some (psD ps), some rd, some (.tup (M.map rt)), some co, x5, x6, x7, x8, some (dkL oe L), some (dkL ofr Fr), x11, x12, x13, x14, x15, x16, x17, x18, some (nD k), x20, none, none, none, none, some (nD x.1)]) (fun (x : Nat × Int) => nD x.1) (fun x => D.int (x.2 + ent M x.1 k)) Fr [] (by simp; omega) (fun x hx => by
    obtain ⟨g1, g2⟩ := ent_at hM (hF x hx) hk
    have g3 := kvs_get hkF x hx
    have g4 : ixD (.dk false (kvs Fr)) (nD x.1) = some (.int x.2) := g3
    have zr := fzs_ints (M.getD x.1 [])
    have fr := frzs_of zr
    refine ⟨by simp, ?_, rfl⟩
    generalize ent M x.1 k = v at *
    generalize M.getD x.1 [] = row at *
    unfold q_30_4
    simp [g4, zM, g1, zr, fr, g2])
  have h2 := map_lc (own := [25]) (tg := .v 25) (elt := q_30_3) (E := pfr W ps rd (.tup (M.map rt)) co x5 x6 x7 x8 oe L ofr Fr x11 x12 x13 x14 x15 x16 x17 x18 (some (nD k)) x20) (fun x => [some W, some (psD ps), some rd, some (.tup (M.map rt)), some co, x5, x6, x7, x8, some (dkL oe L), some (dkL ofr Fr), x11, x12, x13, x14, x15, x16, x17, x18, some (nD k), x20, none, none, none, none, some (nD x.1)]) (fun (x : Nat × Int) => nD x.1) (fun x => D.int (x.2 + ent M x.1 k)) L [] (by simp; omega) (fun x hx => by
    obtain ⟨g1, g2⟩ := ent_at hM (hL x hx) hk
    have g3 := kvs_get hkL x hx
    have g4 : ixD (.dk false (kvs L)) (nD x.1) = some (.int x.2) := g3
    have zr := fzs_ints (M.getD x.1 [])
    have fr := frzs_of zr
    refine ⟨by simp, ?_, rfl⟩
    generalize ent M x.1 k = v at *
    generalize M.getD x.1 [] = row at *
    unfold q_30_3
    simp [g4, zM, g1, zr, fr, g2])
  rw [List.nil_append] at h1 h2
  constructor
  · show lcL _ _ _ _ ((Fr.map (·.1)).map nD) _ _ = _
    rw [List.map_map, List.map_map]
    exact h1
  · show lcL _ _ _ _ ((L.map (·.1)).map nD) _ _ = _
    rw [List.map_map, List.map_map]
    exact h2
theorem later_step (hM : Sq m M) {x5 x6 x7 x8 x11 x12 x13 x14 x15 : Option D} {oe ofr ol : Bool} {L Fr Lt Ft : Ls} {lot : List Nat} {k : Nat} {c : Option Int} (hk : k < m) (hL : ∀ x ∈ L, x.1 < m) (hF : ∀ x ∈ Fr, x.1 < m) (hkL : kOk L) (hkF : kOk Fr) (hl : L.length ≤ 100) (hfl : Fr.length ≤ 100) (hLn : 0 < L.length) (hFn : 0 < Fr.length) (hc : k ∈ lot → c ≠ none)
    (h1 : k ∉ Lt.map (·.1)) (h2 : k ∉ Ft.map (·.1)) (h3 : Lt.length < 100) (h4 : Ft.length < 100) :
    s_30_5 (pfr W ps rd (.tup (M.map rt)) co x5 x6 x7 x8 oe L ofr Fr x11 x12 x13 x14 x15 (some (.lst ol (iL lot))) (some (dkL true Lt)) (some (dkL true Ft)) (some (nD k)) (some (coV c))) =
      .nx (pfr W ps rd (.tup (M.map rt)) co x5 x6 x7 x8 oe L ofr Fr x11 x12 x13 x14 x15 (some (.lst ol (iL lot))) (some (dkL true (Lt ++ one1 M L k (if k ∈ lot then c else none)))) (some (dkL true (Ft ++ one1 M Fr k c))) (some (nD k)) (some (coV c))) := by
  have hin := in_iL (g := k) (o := false) (L := lot)
  have zl := iL_fz lot
  have hkL2 := kvs_keys L
  have hkF2 := kvs_keys Fr
  cases c with
  | none =>
    have hm : k ∉ lot := fun e => hc e rfl
    simp only [hm, decide_false] at hin
    simp only [hm, if_false, one1, List.append_nil]
    unfold s_30_5
    simp [coV, hin, zl]
  | some i =>
    have mf := fun (x17 x18 : Option D) => min_free (W := W) (co := co) (rd := rd) (ps := ps) hM (x5 := x5) (x6 := x6) (x7 := x7) (x8 := x8) (x11 := x11) (x12 := x12) (x13 := x13) (x14 := x14) (x15 := x15) (x16 := some (.lst ol (iL lot))) (x17 := x17) (x18 := x18) (x20 := some (.int i)) (oe := oe) (ofr := ofr) hk hL hF hkL hkF hl hfl
    have hs1 := kvs_set (v := eL M L k + i) h1 (by omega)
    have hs2 := kvs_set (v := eL M Fr k + i) h2 (by omega)
    have zk1 := iL_fz (L.map (·.1))
    have fk1 := frzs_of zk1
    have zk2 := iL_fz (Fr.map (·.1))
    have fk2 := frzs_of zk2
    have q1 : min1A (.lst false ((L.map fun x => x.2 + ent M x.1 k).map D.int)) = some (.int (eL M L k)) := by
      show (intsD _).bind _ = _
      rw [ints_map]
      show (if 0 < (L.map fun x => x.2 + ent M x.1 k).length then some (D.int (minL _)) else none) = _
      rw [List.length_map, if_pos hLn]
      rfl
    have q2 : min1A (.lst false ((Fr.map fun x => x.2 + ent M x.1 k).map D.int)) = some (.int (eL M Fr k)) := by
      show (intsD _).bind _ = _
      rw [ints_map]
      show (if 0 < (Fr.map fun x => x.2 + ent M x.1 k).length then some (D.int (minL _)) else none) = _
      rw [List.length_map, if_pos hFn]
      rfl
    have zY1 := fzs_ints (L.map fun x => x.2 + ent M x.1 k)
    have fY1 := frzs_of zY1
    have zY2 := fzs_ints (Fr.map fun x => x.2 + ent M x.1 k)
    have fY2 := frzs_of zY2
    simp only [one1]
    generalize (L.map fun x => x.2 + ent M x.1 k) = Y1 at *
    generalize (Fr.map fun x => x.2 + ent M x.1 k) = Y2 at *
    generalize eL M L k = v1 at *
    generalize eL M Fr k = v2 at *
    generalize hg1 : L.map (·.1) = K1 at *
    generalize hg2 : Fr.map (·.1) = K2 at *
    have mf1 := fun x17 x18 => (mf x17 x18).1
    have mf2 := fun x17 x18 => (mf x17 x18).2
    simp only [pfr, dkL] at mf1 mf2 hs1 hs2 ⊢
    by_cases hm : k ∈ lot
    · simp only [hm, decide_true] at hin
      simp only [hm, if_true, one1]
      unfold s_30_5
      simp [coV, hkF2, zk2, fk2, mf1, fY2, q2, hs2, hin, zl, hkL2, zk1, fk1, mf2, fY1, q1, hs1]
    · simp only [hm, decide_false] at hin
      simp only [hm, if_false, one1, List.append_nil]
      unfold s_30_5
      simp [coV, hkF2, zk2, fk2, mf1, fY2, q2, hs2, hin, zl]
end
end LW

namespace LW
open PySem PySem.Spec L2 EV
theorem wi_eq {m : Nat} {td : List (Nat × Nat)} : ∀ (r : List (Option Int)) (k : Nat), k + r.length ≤ m → wi (td.map (·.1)) k r = wi (lotN m td) k r
  | [], _, _ => rfl
  | c :: r, k, h => by
    simp only [List.length_cons] at h
    have e : (k ∈ td.map (·.1)) ↔ (k ∈ lotN m td) := by
      rw [lot_mem]
      exact ⟨fun h' => ⟨by omega, h'⟩, fun h' => h'.2⟩
    unfold wi
    rw [wi_eq (m := m) r (k + 1) (by omega)]
    congr 1
    simp only [e]
section
variable {m : Nat} {M : List (List Int)} {W co rd : D} {ps : List Ply}
theorem nxt_cons {L : Ls} {c : Option Int} {r : List (Option Int)} {k : Nat} : nxt M L k (c :: r) = one1 M L k c ++ nxt M L (k + 1) r := by
  cases c <;> rfl
theorem later_loop (hM : Sq m M) {x5 x6 x7 x8 x11 x12 x13 x14 x15 : Option D} {oe ofr ol : Bool} {L Fr : Ls} {lot : List Nat} (hL : ∀ x ∈ L, x.1 < m) (hF : ∀ x ∈ Fr, x.1 < m) (hkL : kOk L) (hkF : kOk Fr) (hl : L.length ≤ 100) (hfl : Fr.length ≤ 100) (hLn : 0 < L.length) (hFn : 0 < Fr.length) (hm : m < 50) : ∀ (r : List (Option Int)) (k : Nat) (Lt Ft : Ls) (x19 x20 : Option D), k + r.length ≤ m → (∀ j : Nat, r[j]? = some none → k + j ∉ lot) → (∀ x ∈ Lt, x.1 < k) → (∀ x ∈ Ft, x.1 < k) → Lt.length ≤ k → Ft.length ≤ k →
    ∃ y19 y20, forL (.t [.v 19, .v 20]) s_30_5 (numD k (r.map coV)) (pfr W ps rd (.tup (M.map rt)) co x5 x6 x7 x8 oe L ofr Fr x11 x12 x13 x14 x15 (some (.lst ol (iL lot))) (some (dkL true Lt)) (some (dkL true Ft)) x19 x20) =
      .nx (pfr W ps rd (.tup (M.map rt)) co x5 x6 x7 x8 oe L ofr Fr x11 x12 x13 x14 x15 (some (.lst ol (iL lot))) (some (dkL true (Lt ++ nxt M L k (wi lot k r)))) (some (dkL true (Ft ++ nxt M Fr k r))) y19 y20)
  | [], k, Lt, Ft, x19, x20, _, _, _, _, _, _ => ⟨x19, x20, by simp [wi, nxt, numD, forL]⟩
  | c :: r, k, Lt, Ft, x19, x20, hk, hc, h1, h2, h3, h4 => by
    simp only [List.length_cons] at hk
    have st := later_step (W := W) (co := co) (rd := rd) (ps := ps) hM (x5 := x5) (x6 := x6) (x7 := x7) (x8 := x8) (x11 := x11) (x12 := x12) (x13 := x13) (x14 := x14) (x15 := x15) (oe := oe) (ofr := ofr) (ol := ol) (L := L) (Fr := Fr) (Lt := Lt) (Ft := Ft) (lot := lot) (k := k) (c := c) (by omega) hL hF hkL hkF hl hfl hLn hFn (fun e1 e2 => by
      have := hc 0 (by rw [e2]; rfl)
      exact this e1) (fun e => by
      obtain ⟨x, hx, e2⟩ := List.mem_map.mp e
      have := h1 x hx
      have e2 : x.1 = k := e2
      omega) (fun e => by
      obtain ⟨x, hx, e2⟩ := List.mem_map.mp e
      have := h2 x hx
      have e2 : x.1 = k := e2
      omega) (by omega) (by omega)
    have n1 : ∀ (L : Ls) (Z : Ls) (d : Option Int), Z.length ≤ k → (∀ x ∈ Z, x.1 < k) → (Z ++ one1 M L k d).length ≤ k + 1 ∧ ∀ x ∈ (Z ++ one1 M L k d), x.1 < k + 1 := fun L Z d hz hz2 => by
      cases d with
      | none => simp only [one1, List.append_nil]; exact ⟨by omega, fun x hx => by have := hz2 x hx; omega⟩
      | some i =>
        refine ⟨by simp [one1]; omega, fun x hx => ?_⟩
        rcases List.mem_append.mp hx with hx | hx
        · have := hz2 x hx; omega
        · rw [List.mem_singleton.mp hx]; simp
    obtain ⟨a1, a2⟩ := n1 L Lt (if k ∈ lot then c else none) h3 h1
    obtain ⟨b1, b2⟩ := n1 Fr Ft c h4 h2
    obtain ⟨y19, y20, ih⟩ := later_loop hM (x5 := x5) (x6 := x6) (x7 := x7) (x8 := x8) (x11 := x11) (x12 := x12) (x13 := x13) (x14 := x14) (x15 := x15) (oe := oe) (ofr := ofr) (ol := ol) (lot := lot) hL hF hkL hkF hl hfl hLn hFn hm r (k + 1) _ _ (some (nD k)) (some (coV c)) (by omega) (fun j hj => by
      have := hc (j + 1) hj
      have e : k + (j + 1) = k + 1 + j := by omega
      rw [e] at this
      exact this) a2 b2 a1 b1
    refine ⟨y19, y20, ?_⟩
    show forL _ _ (.tup [nD k, coV c] :: numD (k + 1) (r.map coV)) _ = _
    conv => lhs; unfold forL
    simp only [put_t, puts_cons, put_v, Option.bind_some, puts_nil, List.set_cons_succ, List.set_cons_zero]
    rw [st]
    show forL _ _ _ _ = _
    rw [ih]
    have e1 : Lt ++ nxt M L k (wi lot k (c :: r)) = (Lt ++ one1 M L k (if k ∈ lot then c else none)) ++ nxt M L (k + 1) (wi lot (k + 1) r) := by
      show Lt ++ nxt M L k ((if k ∈ lot then c else none) :: wi lot (k + 1) r) = _
      rw [nxt_cons, List.append_assoc]
    have e2 : Ft ++ nxt M Fr k (c :: r) = (Ft ++ one1 M Fr k c) ++ nxt M Fr (k + 1) r := by
      rw [nxt_cons, List.append_assoc]
    rw [e1, e2]
/-- what each player pays -/
def pstep (M : List (List Int)) (cr : List (Option Int)) : List Int → List Nat → List (Nat × Nat) → List Int
  | p :: pd, a :: at_, q :: td => (p + ent M a q.1 + ((cr[q.1]?).getD none).getD 0) :: pstep M cr pd at_ td
  | _, _, _ => []
theorem paid_lc (hM : Sq m M) {C : List (List (Option Int))} {t : Nat} {cr : List (Option Int)} (hC : C[t]? = some cr) {e0 e1 e2 e5 e6 e7 e8 e9 e10 e11 e13 e14 e15 e16 e17 e18 e19 e20 e21 e22 : Option D} : ∀ (pd : List Int) (at_ : List Nat) (td : List (Nat × Nat)) (acc : List D), acc.length + pd.length ≤ 1000 → pd.length = td.length → at_.length = td.length → (∀ a ∈ at_, a < m) → (∀ q ∈ td, q.1 < m ∧ ∃ i, cr[q.1]? = some (some i)) →
    lcL [24, 25, 23] (.t [.v 24, .v 25, .v 23]) mTrue q_30_7 (zip3L (pd.map D.int) (iL at_) (td.map prD)) acc [e0, e1, e2, some (.tup (M.map rt)), some (.tup (C.map coR)), e5, e6, e7, e8, e9, e10, e11, some (nD t), e13, e14, e15, e16, e17, e18, e19, e20, e21, e22, none, none, none] = .ok (acc ++ (pstep M cr pd at_ td).map D.int) [e0, e1, e2, some (.tup (M.map rt)), some (.tup (C.map coR)), e5, e6, e7, e8, e9, e10, e11, some (nD t), e13, e14, e15, e16, e17, e18, e19, e20, e21, e22, none, none, none]
  | [], [], [], acc, _, _, _, _, _ => by simp [zip3L, lcL, pstep]
  | p :: pd, a :: at_, q :: td, acc, hl, h1, h2, h3, h4 => by
    simp only [List.length_cons] at hl h1 h2
    have ih := paid_lc hM hC (e0 := e0) (e1 := e1) (e2 := e2) (e5 := e5) (e6 := e6) (e7 := e7) (e8 := e8) (e9 := e9) (e10 := e10) (e11 := e11) (e13 := e13) (e14 := e14) (e15 := e15) (e16 := e16) (e17 := e17) (e18 := e18) (e19 := e19) (e20 := e20) (e21 := e21) (e22 := e22) pd at_ td (acc ++ [.int (p + ent M a q.1 + ((cr[q.1]?).getD none).getD 0)]) (by simp; omega) (by omega) (by omega) (fun x hx => h3 x (List.mem_cons_of_mem _ hx)) (fun x hx => h4 x (List.mem_cons_of_mem _ hx))
    obtain ⟨hq, i, hi⟩ := h4 q (List.mem_cons_self ..)
    obtain ⟨g1, g2⟩ := ent_at hM (h3 a (List.mem_cons_self ..)) hq
    have g3 : atI (C.map coR) (t : Nat) = some (coR cr) := atI_at (by rw [List.getElem?_map, hC]; rfl)
    have g4 : atI (cr.map coV) (q.1 : Nat) = some (.int i) := atI_at (by rw [List.getElem?_map, hi]; rfl)
    have zM := fz_tups M
    have zC := cosr_fz C
    have zr := fzs_ints (M.getD a [])
    have fr := frzs_of zr
    have zc := cos_fz cr
    have fc := frzs_of zc
    have hlt : acc.length < LIM := by rw [LIM_is]; omega
    have ev : ((cr[q.1]?).getD none).getD 0 = i := by rw [hi]; rfl
    have hst : q_30_7 [e0, e1, e2, some (.tup (M.map rt)), some (.tup (C.map coR)), e5, e6, e7, e8, e9, e10, e11, some (nD t), e13, e14, e15, e16, e17, e18, e19, e20, e21, e22, some (prD q), some (.int p), some (nD a)] = .ok (.int (p + ent M a q.1 + i)) [e0, e1, e2, some (.tup (M.map rt)), some (.tup (C.map coR)), e5, e6, e7, e8, e9, e10, e11, some (nD t), e13, e14, e15, e16, e17, e18, e19, e20, e21, e22, some (prD q), some (.int p), some (nD a)] := by
      generalize ent M a q.1 = v at *
      generalize M.getD a [] = row at *
      unfold q_30_7
      simp [zM, g1, zr, fr, at0, g2, zC, g3, zc, fc, g4]
    rw [ev] at ih
    show lcL _ _ _ _ (.tup [.int p, nD a, prD q] :: zip3L (pd.map D.int) (iL at_) (td.map prD)) _ _ = _
    unfold lcL
    simp only [put_t, puts_cons, put_v, Option.bind_some, puts_nil, List.set_cons_succ, List.set_cons_zero, ap_true, hst, hlt, if_true, wipe_cons, wipe_nil]
    rw [ih]
    simp [pstep, ev]
  | [], [], _ :: _, _, _, h1, _, _, _ => by simp at h1
  | [], _ :: _, [], _, _, _, h2, _, _ => by simp at h2
  | [], _ :: _, _ :: _, _, _, h1, _, _, _ => by simp at h1
  | _ :: _, [], [], _, _, h1, _, _, _ => by simp at h1
  | _ :: _, [], _ :: _, _, _, _, h2, _, _ => by simp at h2
  | _ :: _, _ :: _, [], _, _, h1, _, _, _ => by simp at h1
end
end LW

namespace LW
open PySem PySem.Spec L2 EV
section
variable {m tk rooms : Nat} {M : List (List Int)} {C : List (List (Option Int))} {th : D} {B : List Rm} {asks : List Nat} {ps : List Ply}
abbrev wfr (M : List (List Int)) (C : List (List (Option Int))) (th : D) (B : List Rm) (ps : List Ply) (rd : D) (o6 o7 o8 : Bool) (r : Nat) (ns at_ : List Nat) (pd : List Int) (oe : Bool) (L : Ls) (ofr : Bool) (Fr : Ls) (x11 x12 x13 x14 x15 x16 x17 x18 x19 x20 : Option D) : DEnv :=
  pfr (whD M C th B) ps rd (.tup (M.map rt)) (.tup (C.map coR)) (some (nD r)) (some (.lst o6 (iL ns))) (some (.lst o7 (iL at_))) (some (.lst o8 (pd.map D.int))) oe L ofr Fr x11 x12 x13 x14 x15 x16 x17 x18 x19 x20
theorem nxt_len {M : List (List Int)} {L : Ls} : ∀ (r : List (Option Int)) (k : Nat), (nxt M L k r).length ≤ r.length
  | [], _ => Nat.le_refl _
  | none :: r, k => Nat.le_trans (nxt_len r (k + 1)) (by simp)
  | some c :: r, k => by simp only [nxt, List.length_cons]; exact Nat.succ_le_succ (nxt_len r (k + 1))
/-- the law's ends -/
structure Lk (m : Nat) (L : Ls) : Prop where
  lt : ∀ x ∈ L, x.1 < m
  ky : kOk L
  ln : L.length ≤ 100
  ne : 0 < L.length
theorem Lk.nxt {M : List (List Int)} {L : Ls} {r : List (Option Int)} {m : Nat} (hr : r.length = m) (hm : m < 50) (hi : ∃ i, some i ∈ r) : Lk m (nxt M L 0 r) := by
  obtain ⟨i, hi⟩ := hi
  refine ⟨fun x hx => by have := nxt_mem r 0 x hx; omega, nxt_keys r 0, by have := nxt_len (M := M) (L := L) r 0; omega, List.length_pos_iff.mpr (nxt_ne r 0 i hi)⟩
theorem lots_step (K : Cw m tk rooms M C B asks) (hth : fz th = true) (Q : Cr C m asks ps) {rd : D} {o6 o7 o8 oe ofr : Bool} {r k t g : Nat} {w : Int} {ns at_ : List Nat} {pd : List Int} {L Fr : Ls} {x12 x13 x14 x15 x16 x17 x18 x19 x20 : Option D}
    (hs : sOk rooms ps (r, ns)) (hk : (B.getD r [])[k]? = some (some (t, w, g))) (hpl : pd.length = ps.length) (hal : at_.length = ps.length) (ham : ∀ a ∈ at_, a < m) (hL : Lk m L) (hF : Lk m Fr) :
    ∃ y12 y13 y14 y15 y16 y17 y18 y19 y20, s_30_10 (wfr M C th B ps rd o6 o7 o8 r ns at_ pd oe L ofr Fr (some (nD k)) x12 x13 x14 x15 x16 x17 x18 x19 x20) = .nx (wfr M C th B ps rd true false true g ((told ps ns k).map (·.2)) ((told ps ns k).map (·.1)) (pstep M (C.getD t []) pd at_ (told ps ns k)) false (nxt M L 0 (wi (lotN m (told ps ns k)) 0 (C.getD t []))) false (nxt M Fr 0 (C.getD t [])) (some (nD k)) y12 y13 y14 y15 y16 y17 y18 y19 y20) := by
  have hrr : r < rooms := hs.1
  obtain ⟨b1, b2, b3⟩ := room_rw K hrr
  obtain ⟨s1, s2⟩ := b3 k _ hk
  rw [Nat.zero_add] at s1 s2
  obtain ⟨s3, s4, s5⟩ := s2 t w g rfl
  have ho := told_ok Q s3 (fun p hp => hp) hs.2
  have htl : (told ps ns k).length = ps.length := ho.len
  have hv := ans_of Q (sg := k) (by omega) (fun p hp => hp) hs.2
  have hC : C[t]? = some (C.getD t []) := getD_at (by rw [K.sv.tl]; exact s4)
  obtain ⟨c1, i0, c2⟩ := K.sv.co _ (List.mem_of_getElem? hC)
  have hm1 := K.m1
  have hp4 := Q.p4
  have htd : ∀ q ∈ told ps ns k, q.1 < m ∧ ∃ i, (C.getD t [])[q.1]? = some (some i) := fun q hq => by
    have := al2_mem (Z := fun q => q.1 < m ∧ ∃ (r : List (Option Int)) (i : Int), C[t]? = some r ∧ r[q.1]? = some (some i)) (fun a b hb => ⟨hb.1, hb.2.2⟩) ho q hq
    obtain ⟨h1, rr, i, h2, h3⟩ := this
    rw [hC] at h2
    injection h2 with h2
    rw [← h2] at h3
    exact ⟨h1, i, h3⟩
  have wl := wi_eq (m := m) (td := told ps ns k) (C.getD t []) 0 (by omega)
  rw [← wl]
  generalize htd2 : told ps ns k = td at *
  have zM := fz_tups M
  have fM := frzs_of zM
  have zC := cosr_fz C
  have fC := frzs_of zC
  have zB := rms_fz B
  have fB := frzs_of zB
  have fth := frz_of _ hth
  have zp := plys_fz ps
  have fp := frzs_of zp
  have zn := iL_fz ns
  have fn := frzs_of zn
  have za := iL_fz at_
  have fa := frzs_of za
  have zd := fzs_ints pd
  have fd := frzs_of zd
  have ab : atI (B.map rmD) (r : Nat) = some (rmD (B.getD r [])) := atI_at (by rw [List.getElem?_map, b1]; rfl)
  have ak : atI ((B.getD r []).map sgD) (k : Nat) = some (.tup [nD t, .int w, nD g]) := atI_at (by rw [List.getElem?_map, hk]; rfl)
  have zrow := sgs_fz (B.getD r [])
  have frow := frzs_of zrow
  generalize B.getD r [] = brow at *
  have aC : atI (C.map coR) (t : Nat) = some (coR (C.getD t [])) := atI_at (by rw [List.getElem?_map, hC]; rfl)
  generalize hcr : C.getD t [] = cr at *
  have zcr := cos_fz cr
  have fcr := frzs_of zcr
  -- the answers
  have lc1 := fun (x7 x8 : Option D) => zip_lc (own := [21, 22]) (tg := .t [.v 21, .v 22]) (elt := q_30_9) (E := [some (whD M C th B), some (psD ps), some rd, some (.tup (M.map rt)), some (.tup (C.map coR)), some (nD r), some (.lst false (iL ns)), x7, x8, some (dkL oe L), some (dkL ofr Fr), some (nD k), some (nD t), some (.int w), some (nD g), x15, x16, x17, x18, x19, x20, none, none, none, none, none]) (fun p n => [some (whD M C th B), some (psD ps), some rd, some (.tup (M.map rt)), some (.tup (C.map coR)), some (nD r), some (.lst false (iL ns)), x7, x8, some (dkL oe L), some (dkL ofr Fr), some (nD k), some (nD t), some (.int w), some (nD g), x15, x16, x17, x18, x19, x20, some (plyD p), some (nD n), none, none, none]) k ps ns [] (by simp; omega) hv (fun p n hn => by
    obtain ⟨h1, h2⟩ := ans_at hn
    have z1 := nrs_fz p
    have z2 := prs_fz (p.getD n [])
    have f2 := frzs_of z2
    refine ⟨by simp, ?_, rfl⟩
    generalize p.getD n [] = row at *
    unfold q_30_9
    simp [z1, h1, z2, f2, h2])
  simp only [List.nil_append, htd2] at lc1
  have zt := prs_fz td
  have ft := frzs_of zt
  have lc2 := fun (x7 x8 : Option D) => fst_lc (own := [23]) (tg := .v 23) (elt := q_30_8) (E := [some (whD M C th B), some (psD ps), some rd, some (.tup (M.map rt)), some (.tup (C.map coR)), some (nD r), some (.lst false (iL ns)), x7, x8, some (dkL oe L), some (dkL ofr Fr), some (nD k), some (nD t), some (.int w), some (nD g), some (.lst false (td.map prD)), x16, x17, x18, x19, x20, none, none, none, none, none]) (fun q => [some (whD M C th B), some (psD ps), some rd, some (.tup (M.map rt)), some (.tup (C.map coR)), some (nD r), some (.lst false (iL ns)), x7, x8, some (dkL oe L), some (dkL ofr Fr), some (nD k), some (nD t), some (.int w), some (nD g), some (.lst false (td.map prD)), x16, x17, x18, x19, x20, none, none, some (prD q), none, none]) (·.1) td [] (by simp; omega) (fun q => ⟨by simp, by unfold q_30_8; simp [at0], rfl⟩)
  simp only [List.nil_append] at lc2
  have lc3 := fun (x16 : Option D) => paid_lc (t := t) K.sv.mx.sq hC (e0 := some (whD M C th B)) (e1 := some (psD ps)) (e2 := some rd) (e5 := some (nD r)) (e6 := some (.lst false (iL ns))) (e7 := some (.lst false (iL at_))) (e8 := some (.lst false (pd.map D.int))) (e9 := some (dkL oe L)) (e10 := some (dkL ofr Fr)) (e11 := some (nD k)) (e13 := some (.int w)) (e14 := some (nD g)) (e15 := some (.lst false (td.map prD))) (e16 := x16) (e17 := x17) (e18 := x18) (e19 := x19) (e20 := x20) (e21 := none) (e22 := none) pd at_ td [] (by simp; omega) (by omega) (by omega) ham htd
  simp only [List.nil_append] at lc3
  have lc4 := fun (x8 x16 : Option D) => fst_lc (own := [23]) (tg := .v 23) (elt := q_30_6) (E := [some (whD M C th B), some (psD ps), some rd, some (.tup (M.map rt)), some (.tup (C.map coR)), some (nD r), some (.lst false (iL ns)), some (.lst false (iL at_)), x8, some (dkL oe L), some (dkL ofr Fr), some (nD k), some (nD t), some (.int w), some (nD g), some (.lst false (td.map prD)), x16, x17, x18, x19, x20, none, none, none, none, none]) (fun q => [some (whD M C th B), some (psD ps), some rd, some (.tup (M.map rt)), some (.tup (C.map coR)), some (nD r), some (.lst false (iL ns)), some (.lst false (iL at_)), x8, some (dkL oe L), some (dkL ofr Fr), some (nD k), some (nD t), some (.int w), some (nD g), some (.lst false (td.map prD)), x16, x17, x18, x19, x20, none, none, some (prD q), none, none]) (·.2) td [] (by simp; omega) (fun q => ⟨by simp, by unfold q_30_6; simp [at1], rfl⟩)
  simp only [List.nil_append] at lc4
  obtain ⟨y19, y20, ll⟩ := later_loop (W := whD M C th B) (co := .tup (C.map coR)) (rd := rd) (ps := ps) K.sv.mx.sq (x5 := some (nD g)) (x6 := some (.lst true (iL (td.map (·.2))))) (x7 := some (.lst false (iL (td.map (·.1))))) (x8 := some (.lst true ((pstep M cr pd at_ td).map D.int))) (x11 := some (nD k)) (x12 := some (nD t)) (x13 := some (.int w)) (x14 := some (nD g)) (x15 := some (.lst false (td.map prD))) (oe := oe) (ofr := ofr) (ol := false) (lot := td.map (·.1)) hL.lt hF.lt hL.ky hF.ky hL.ln hF.ln hL.ne hF.ne (by omega) cr 0 [] [] x19 x20 (by omega) (fun j hj e => by
    rw [Nat.zero_add] at e
    obtain ⟨q, hq, e2⟩ := List.mem_map.mp e
    obtain ⟨_, i, h3⟩ := htd q hq
    have e2 : q.1 = j := e2
    rw [e2, hj] at h3
    cases h3) (fun x hx => nomatch hx) (fun x hx => nomatch hx) (Nat.le_refl _) (Nat.le_refl _)
  simp only [List.nil_append] at ll
  have zf1 := iL_fz (td.map (·.1))
  have ff1 := frzs_of zf1
  have zf2 := iL_fz (td.map (·.2))
  have ff2 := frzs_of zf2
  generalize td.map (·.1) = f1 at *
  generalize td.map (·.2) = f2 at *
  have zP := fzs_ints (pstep M cr pd at_ td)
  have fP := frzs_of zP
  generalize pstep M cr pd at_ td = P at *
  refine ⟨some (nD t), some (.int w), some (nD g), some (.lst false (td.map prD)), some (.lst false (iL f1)), some (dkL false (nxt M L 0 (wi f1 0 cr))), some (dkL false (nxt M Fr 0 cr)), y19, y20, ?_⟩
  generalize nxt M L 0 (wi f1 0 cr) = L2 at *
  generalize nxt M Fr 0 cr = F2 at *
  have ek : kvs [] = [] := rfl
  simp only [pfr, dkL, whD, svD, bkD, psD, ek] at lc1 lc2 lc3 lc4 ll
  simp only [wfr, pfr, dkL, whD, svD, bkD, psD]
  unfold s_30_10
  cases o6 <;> cases o7 <;> cases o8 <;> simp [zM, fM, zC, fC, zB, fB, hth, fth, zp, fp, zn, fn, za, fa, zd, fd, at2, ab, zrow, frow, ak, lc1, zt, ft, lc2, lc3, lc4, zf1, ff1, aC, zcr, fcr, ll, mDnew, show ∀ l, fz (.dk true l) = false from fun _ => rfl, show ∀ l, frz (.dk true l) = .dk false l from fun _ => rfl]
end
end LW

namespace LW
open PySem PySem.Spec L2 EV
section
variable {m tk rooms : Nat} {M : List (List Int)} {C : List (List (Option Int))} {th : D} {B : List Rm} {asks : List Nat} {ps : List Ply}
theorem pstep_len {M : List (List Int)} {cr : List (Option Int)} : ∀ (pd : List Int) (at_ : List Nat) (td : List (Nat × Nat)), pd.length = td.length → at_.length = td.length → (pstep M cr pd at_ td).length = pd.length
  | [], [], [], _, _ => rfl
  | p :: pd, a :: at_, q :: td, h1, h2 => by
    simp only [List.length_cons] at h1 h2
    show (_ :: pstep M cr pd at_ td).length = _
    rw [List.length_cons, List.length_cons, pstep_len pd at_ td (by omega) (by omega)]
  | [], _ :: _, [], _, h2 => by simp at h2
  | [], [], _ :: _, h1, _ => by simp at h1
  | [], _ :: _, _ :: _, h1, _ => by simp at h1
  | _ :: _, _, [], h1, _ => by simp at h1
  | _ :: _, [], _ :: _, _, h2 => by simp at h2
theorem lots_loop (K : Cw m tk rooms M C B asks) (hth : fz th = true) (Q : Cr C m asks ps) {rd : D} : ∀ (l : List Nat) (r : Nat) (ns at_ : List Nat) (pd : List Int) (L Fr : Ls) (o6 o7 o8 oe ofr : Bool) (x11 x12 x13 x14 x15 x16 x17 x18 x19 x20 : Option D),
    sOk rooms ps (r, ns) → Wk B r l → pd.length = ps.length → at_.length = ps.length → (∀ a ∈ at_, a < m) → Lk m L → Lk m Fr →
    ∃ r' ns' at' pd' Fr' p6 p7 p8 pe pfr' y11 y12 y13 y14 y15 y16 y17 y18 y19 y20, forL (.v 11) s_30_10 (iL l) (wfr M C th B ps rd o6 o7 o8 r ns at_ pd oe L ofr Fr x11 x12 x13 x14 x15 x16 x17 x18 x19 x20) = .nx (wfr M C th B ps rd p6 p7 p8 r' ns' at' pd' pe (wrun B ps M C m r ns l L) pfr' Fr' y11 y12 y13 y14 y15 y16 y17 y18 y19 y20) ∧
      Lk m (wrun B ps M C m r ns l L) ∧ Lk m Fr' ∧ pd'.length = ps.length
  | [], r, ns, at_, pd, L, Fr, o6, o7, o8, oe, ofr, x11, x12, x13, x14, x15, x16, x17, x18, x19, x20, hs, hw, hp, ha, ham, hL, hF =>
    ⟨r, ns, at_, pd, Fr, o6, o7, o8, oe, ofr, x11, x12, x13, x14, x15, x16, x17, x18, x19, x20, rfl, hL, hF, hp⟩
  | k :: l, r, ns, at_, pd, L, Fr, o6, o7, o8, oe, ofr, x11, x12, x13, x14, x15, x16, x17, x18, x19, x20, hs, ⟨t, w, g, h1, h2⟩, hp, ha, ham, hL, hF => by
    obtain ⟨y12, y13, y14, y15, y16, y17, y18, y19, y20, st⟩ := lots_step K hth Q (rd := rd) (o6 := o6) (o7 := o7) (o8 := o8) (oe := oe) (ofr := ofr) (x12 := x12) (x13 := x13) (x14 := x14) (x15 := x15) (x16 := x16) (x17 := x17) (x18 := x18) (x19 := x19) (x20 := x20) hs h1 hp ha ham hL hF
    have hrr : r < rooms := hs.1
    obtain ⟨b1, b2, b3⟩ := room_rw K hrr
    obtain ⟨s1, s2⟩ := b3 k _ h1
    rw [Nat.zero_add] at s1 s2
    obtain ⟨s3, s4, s5⟩ := s2 t w g rfl
    have ho := told_ok Q s3 (fun p hp => hp) hs.2
    have htl : (told ps ns k).length = ps.length := ho.len
    have hC : C[t]? = some (C.getD t []) := getD_at (by rw [K.sv.tl]; exact s4)
    obtain ⟨c1, i0, c2⟩ := K.sv.co _ (List.mem_of_getElem? hC)
    have hm1 := K.m1
    have hs' : sOk rooms ps (g, (told ps ns k).map (·.2)) := ⟨s5, al2_map (·.2) (fun p q hq => hq.2.1) ho⟩
    have ham' : ∀ a ∈ (told ps ns k).map (·.1), a < m := fun a ha => by
      obtain ⟨q, hq, rfl⟩ := List.mem_map.mp ha
      exact al2_mem (Z := fun q => q.1 < m) (fun a b hb => hb.1) ho q hq
    have hlot : (wi (lotN m (told ps ns k)) 0 (C.getD t [])).length = m ∧ ∃ i, some i ∈ wi (lotN m (told ps ns k)) 0 (C.getD t []) := by
      refine ⟨by rw [wi_len]; exact c1, ?_⟩
      have hp0 : 0 < (told ps ns k).length := by rw [htl]; exact Q.p0
      have hq0 : (told ps ns k)[0]? = some (told ps ns k)[0] := List.getElem?_eq_getElem hp0
      have hq := List.mem_of_getElem? hq0
      generalize (told ps ns k)[0] = q at *
      have hz := al2_mem (Z := fun q => q.1 < m ∧ ∃ (r : List (Option Int)) (i : Int), C[t]? = some r ∧ r[q.1]? = some (some i)) (fun a b hb => ⟨hb.1, hb.2.2⟩) ho q hq
      obtain ⟨g1, rr, i, g2, g3⟩ := hz
      rw [hC] at g2
      injection g2 with g2
      rw [← g2] at g3
      refine ⟨i, List.mem_of_getElem? (i := q.1) ?_⟩
      rw [wi_get, g3]
      have : q.1 ∈ lotN m (told ps ns k) := lot_mem.mpr ⟨g1, List.mem_map_of_mem hq⟩
      simp [this]
    have hL' : Lk m (nxt M L 0 (wi (lotN m (told ps ns k)) 0 (C.getD t []))) := Lk.nxt hlot.1 (by omega) hlot.2
    have hF' : Lk m (nxt M Fr 0 (C.getD t [])) := Lk.nxt c1 (by omega) ⟨i0, c2⟩
    have ew : wrun B ps M C m r ns (k :: l) L = wrun B ps M C m g ((told ps ns k).map (·.2)) l (nxt M L 0 (wi (lotN m (told ps ns k)) 0 (C.getD t []))) := by
      show (match (B.getD r [])[k]? with | some (some (t, _, g)) => wrun B ps M C m g ((told ps ns k).map Prod.snd) l (nxt M L 0 (wi (lotN m (told ps ns k)) 0 (C.getD t []))) | _ => L) = _
      rw [h1]
    rw [ew]
    obtain ⟨r', ns', at', pd', Fr', p6, p7, p8, pe, pf', z11, z12, z13, z14, z15, z16, z17, z18, z19, z20, hf, g1, g2, g3⟩ := lots_loop K hth Q (rd := rd) l g ((told ps ns k).map (·.2)) ((told ps ns k).map (·.1)) (pstep M (C.getD t []) pd at_ (told ps ns k)) (nxt M L 0 (wi (lotN m (told ps ns k)) 0 (C.getD t []))) (nxt M Fr 0 (C.getD t [])) true false true false false (some (nD k)) y12 y13 y14 y15 y16 y17 y18 y19 y20 hs' h2 (by rw [pstep_len _ _ _ (by omega) (by omega)]; exact hp) (by rw [List.length_map]; exact htl) ham' hL' hF'
    refine ⟨r', ns', at', pd', Fr', p6, p7, p8, pe, pf', z11, z12, z13, z14, z15, z16, z17, z18, z19, z20, ?_, g1, g2, g3⟩
    show forL _ _ (nD k :: iL l) _ = _
    conv => lhs; unfold forL
    simp only [put_v, stO_some, List.set_cons_succ, List.set_cons_zero]
    rw [st]
    exact hf
theorem min_lc {own : List Nat} {elt : ME} {E : DEnv} (E1 : Nat → DEnv) {L : Ls} (hl : L.length ≤ 100) (h : ∀ x ∈ L, put (.v 25) (nD x.1) E = some (E1 x.1) ∧ elt (E1 x.1) = .ok (.int x.2) (E1 x.1) ∧ wipeE own (E1 x.1) = E) :
    lcL own (.v 25) mTrue elt (iL (L.map (·.1))) [] E = .ok ((L.map (·.2)).map D.int) E := by
  have h1 := map_lc (own := own) (tg := .v 25) (elt := elt) (E := E) (fun x => E1 x.1) (fun (x : Nat × Int) => nD x.1) (fun x => D.int x.2) L [] (by simp; omega) h
  rw [List.nil_append] at h1
  show lcL _ _ _ _ ((L.map (·.1)).map nD) _ _ = _
  rw [List.map_map, List.map_map]
  exact h1
theorem min_of {L : Ls} (h : 0 < L.length) : min1A (.lst false ((L.map (·.2)).map D.int)) = some (.int (minL (L.map (·.2)))) := by
  show (intsD _).bind _ = _
  rw [show intsD ((L.map (·.2)).map D.int) = some (L.map (·.2)) from ints_map _]
  show (if 0 < (L.map (·.2)).length then some (D.int (minL _)) else none) = _
  rw [List.length_map, if_pos h]
theorem lots_ok (K : Cw m tk rooms M C B asks) (hth : fz th = true) (Q : Cr C m asks ps) {l : List Nat} (hw : Wk B 0 l) :
    ∃ d1 d2, fz d1 = true ∧ fz d2 = true ∧ c_30 [whD M C th B, psD ps, .tup (iL l)] = .ok (.tup [.int (paidN B ps M C m l), d1, d2]) [] := by
  have k0 : Lk m [(0, 0)] := ⟨fun x hx => by rw [List.mem_singleton.mp hx]; exact K.m0, by unfold kOk; simp, by simp, by simp⟩
  have hz : sOk rooms ps (0, zeros ps) := ⟨K.r0, zeros_ok Q fun p hp => hp⟩
  have zl2 : (zeros ps).length = ps.length := by unfold zeros; rw [List.length_map]
  obtain ⟨r', ns', at', pd', Fr', p6, p7, p8, pe, pf', y11, y12, y13, y14, y15, y16, y17, y18, y19, y20, hf, g1, g2, g3⟩ := lots_loop K hth Q (rd := .tup (iL l)) l 0 (zeros ps) (zeros ps) (ps.map fun _ => 0) [(0, 0)] [(0, 0)] true true true true true none none none none none none none none none none hz hw (by rw [List.length_map]) zl2 (fun a ha => by
    unfold zeros at ha
    obtain ⟨p, _, rfl⟩ := List.mem_map.mp ha
    exact K.m0) k0 k0
  have zp := plys_fz ps
  have fp := frzs_of zp
  have zM := fz_tups M
  have fM := frzs_of zM
  have zC := cosr_fz C
  have fC := frzs_of zC
  have zB := rms_fz B
  have fB := frzs_of zB
  have fth := frz_of _ hth
  have zl := iL_fz l
  have fl := frzs_of zl
  have zz := iL_fz (zeros ps)
  have fz_ := frzs_of zz
  have zP := fzs_ints pd'
  have fP := frzs_of zP
  have hpl : ps.length < 1000 := by have := Q.p4; omega
  have m1 := fun (o9 o10 : Bool) => min_lc (own := [25]) (elt := q_30_1) (E := wfr M C th B ps (.tup (iL l)) p6 p7 p8 r' ns' at' pd' o9 (wrun B ps M C m 0 (zeros ps) l [(0, 0)]) o10 Fr' y11 y12 y13 y14 y15 y16 y17 y18 y19 y20) (fun k => [some (whD M C th B), some (psD ps), some (.tup (iL l)), some (.tup (M.map rt)), some (.tup (C.map coR)), some (nD r'), some (.lst p6 (iL ns')), some (.lst p7 (iL at')), some (.lst p8 (pd'.map D.int)), some (dkL o9 (wrun B ps M C m 0 (zeros ps) l [(0, 0)])), some (dkL o10 Fr'), y11, y12, y13, y14, y15, y16, y17, y18, y19, y20, none, none, none, none, some (nD k)]) (L := wrun B ps M C m 0 (zeros ps) l [(0, 0)]) g1.ln (fun x hx => by
    have g3 := kvs_get g1.ky x hx
    have g4 : ixD (.dk false (kvs (wrun B ps M C m 0 (zeros ps) l [(0, 0)]))) (nD x.1) = some (.int x.2) := g3
    refine ⟨by simp, ?_, rfl⟩
    unfold q_30_1
    simp [g4])
  have m2 := fun (o9 o10 o8 : Bool) => min_lc (own := [25]) (elt := q_30_2) (E := wfr M C th B ps (.tup (iL l)) p6 p7 o8 r' ns' at' pd' o9 (wrun B ps M C m 0 (zeros ps) l [(0, 0)]) o10 Fr' y11 y12 y13 y14 y15 y16 y17 y18 y19 y20) (fun k => [some (whD M C th B), some (psD ps), some (.tup (iL l)), some (.tup (M.map rt)), some (.tup (C.map coR)), some (nD r'), some (.lst p6 (iL ns')), some (.lst p7 (iL at')), some (.lst o8 (pd'.map D.int)), some (dkL o9 (wrun B ps M C m 0 (zeros ps) l [(0, 0)])), some (dkL o10 Fr'), y11, y12, y13, y14, y15, y16, y17, y18, y19, y20, none, none, none, none, some (nD k)]) (L := Fr') g2.ln (fun x hx => by
    have g3 := kvs_get g2.ky x hx
    have g4 : ixD (.dk false (kvs Fr')) (nD x.1) = some (.int x.2) := g3
    refine ⟨by simp, ?_, rfl⟩
    unfold q_30_2
    simp [g4])
  have q1 := min_of g1.ne
  have q2 := min_of g2.ne
  have zY1 := fzs_ints ((wrun B ps M C m 0 (zeros ps) l [(0, 0)]).map (·.2))
  have fY1 := frzs_of zY1
  have zY2 := fzs_ints (Fr'.map (·.2))
  have fY2 := frzs_of zY2
  have k1 := kvs_keys (wrun B ps M C m 0 (zeros ps) l [(0, 0)])
  have k2 := kvs_keys Fr'
  have zk1 := iL_fz ((wrun B ps M C m 0 (zeros ps) l [(0, 0)]).map (·.1))
  have fk1 := frzs_of zk1
  have zk2 := iL_fz (Fr'.map (·.1))
  have fk2 := frzs_of zk2
  have hnn : 0 ≤ (ps.length : Int) := by omega
  have rz := rep_zero ps
  have ez : (ps.map fun _ => (0 : Int)).map D.int = iL (zeros ps) := by
    unfold zeros
    show _ = List.map nD (List.map _ ps)
    rw [List.map_map, List.map_map]
    rfl
  have c0 : nD 0 = .int 0 := rfl
  have ekv : kvs [(0, 0)] = [(.inl 0, .int 0)] := rfl
  refine ⟨.lst false (pd'.map D.int), .int (minL (Fr'.map (·.2))), zP, rfl, ?_⟩
  show _ = RC.ok (.tup [.int (minL ((wrun B ps M C m 0 (zeros ps) l [(0, 0)]).map (·.2))), _, _]) []
  simp only [wfr, pfr, dkL, whD, svD, bkD, psD, ez, ekv, c0] at hf m1 m2 ⊢
  generalize (wrun B ps M C m 0 (zeros ps) l [(0, 0)]).map (·.2) = Y1 at *
  generalize Fr'.map (·.2) = Y2 at *
  generalize (wrun B ps M C m 0 (zeros ps) l [(0, 0)]).map (·.1) = K1 at *
  generalize Fr'.map (·.1) = K2 at *
  generalize kvs (wrun B ps M C m 0 (zeros ps) l [(0, 0)]) = kw at *
  generalize kvs Fr' = kf at *
  have hb1 : ps.length ≤ 9223372036854775807 := by omega
  have hb2 : ps.length ≤ 1000000 := by omega
  unfold c_30 callF m_30
  cases p8 <;> simp [mulD, hb1, hb2, keyD, zp, fp, zM, fM, zC, fC, zB, fB, hth, fth, zl, fl, at0, at1, rz, zz, fz_, hf, k1, k2, zk1, fk1, zk2, fk2, m1, m2, q1, q2, zY1, fY1, zY2, fY2, zP, fP]
end
end LW

namespace LW
open PySem PySem.Spec L2 EV
def sgK (keep : Bool) : D → Bool
  | .tup [_, c] => isN c != keep
  | _ => false
/-- the signs that come (or don't) -/
def sgs (keep : Bool) : Nat → Rm → List Nat
  | _, [] => []
  | k, s :: r => if s.isSome = keep then k :: sgs keep (k + 1) r else sgs keep (k + 1) r
theorem isN_sg2 (s : Sg) : isN (sgD s) = !s.isSome := by cases s <;> rfl
theorem sgs_filter (keep : Bool) : ∀ (k : Nat) (r : Rm), ((numD k (r.map sgD)).filter (sgK keep)).map fFst = iL (sgs keep k r)
  | _, [] => rfl
  | k, s :: r => by
    have h : sgK keep (.tup [nD k, sgD s]) = (s.isSome == keep) := by
      show (isN (sgD s) != keep) = _
      rw [isN_sg2]
      cases s.isSome <;> cases keep <;> rfl
    rw [List.map_cons]
    show ((D.tup [nD k, sgD s] :: numD (k + 1) (r.map sgD)).filter (sgK keep)).map fFst = _
    unfold sgs
    by_cases hk : s.isSome = keep
    · rw [List.filter_cons_of_pos (by rw [h]; simpa using hk), List.map_cons, sgs_filter keep (k + 1) r, if_pos hk]
      rfl
    · rw [List.filter_cons_of_neg (by rw [h]; simpa using hk), sgs_filter keep (k + 1) r, if_neg hk]
theorem sgs_mem (keep : Bool) : ∀ (k : Nat) (r : Rm) (x : Nat), x ∈ sgs keep k r → ∃ s, r[x - k]? = some s ∧ k ≤ x ∧ s.isSome = keep
  | _, [], _, h => nomatch h
  | k, s :: r, x, h => by
    unfold sgs at h
    have rest : x ∈ sgs keep (k + 1) r → ∃ s', (s :: r)[x - k]? = some s' ∧ k ≤ x ∧ s'.isSome = keep := fun h => by
      obtain ⟨s', h1, h2, h3⟩ := sgs_mem keep (k + 1) r x h
      refine ⟨s', ?_, by omega, h3⟩
      have e : x - k = (x - (k + 1)) + 1 := by omega
      rw [e]; exact h1
    by_cases hk : s.isSome = keep
    · rw [if_pos hk] at h
      rcases List.mem_cons.mp h with rfl | h
      · exact ⟨s, by simp, Nat.le_refl _, hk⟩
      · exact rest h
    · rw [if_neg hk] at h
      exact rest h
theorem sgs_len (keep : Bool) : ∀ (k : Nat) (r : Rm), (sgs keep k r).length ≤ r.length
  | _, [] => Nat.le_refl _
  | k, s :: r => by
    have := sgs_len keep (k + 1) r
    unfold sgs
    split <;> simp only [List.length_cons] <;> omega
theorem eq_iLnil {o o2 : Bool} {r : List Nat} : eqD (.lst o (iL r)) (.lst o2 []) = some (.bl r.isEmpty) := by
  have h : eqOks 59 (iL r) = true := okS_iL (m := 58)
  show (if eqOks 59 (iL r) && eqOks 59 [] then some (D.bl (eqvDs (iL r) [])) else none) = _
  rw [h]
  cases r <;> rfl
theorem Wk.snoc {B : List Rm} : ∀ {l : List Nat} {r k t g : Nat} {w : Int}, Wk B r l → (B.getD (endR B r l) [])[k]? = some (some (t, w, g)) → Wk B r (l ++ [k]) ∧ endR B r (l ++ [k]) = g
  | [], r, k, t, g, w, _, h => by
    have h : (B.getD r [])[k]? = some (some (t, w, g)) := h
    refine ⟨⟨t, w, g, h, trivial⟩, ?_⟩
    show (match (B.getD r [])[k]? with | some (some (_, _, g)) => endR B g [] | _ => r) = g
    rw [h]
    rfl
  | k0 :: l, r, k, t, g, w, ⟨t', w', g', h1, h2⟩, h => by
    have e : ∀ l', endR B r (k0 :: l') = endR B g' l' := fun l' => by
      show (match (B.getD r [])[k0]? with | some (some (_, _, g)) => endR B g l' | _ => r) = _
      rw [h1]
    rw [e] at h
    obtain ⟨i1, i2⟩ := Wk.snoc h2 h
    refine ⟨⟨t', w', g', h1, i1⟩, ?_⟩
    rw [List.cons_append, e]
    exact i2
theorem Wk.pre {B : List Rm} : ∀ {l : List Nat} {r : Nat} (n : Nat), Wk B r l → Wk B r (l.take n)
  | [], r, n, _ => by rw [List.take_nil]; trivial
  | k :: l, r, 0, _ => trivial
  | k :: l, r, n + 1, ⟨t, w, g, h1, h2⟩ => ⟨t, w, g, h1, Wk.pre n h2⟩
theorem endR_lt {m tk rooms : Nat} {M : List (List Int)} {C : List (List (Option Int))} {B : List Rm} {asks : List Nat} (K : Cw m tk rooms M C B asks) : ∀ {l : List Nat} {r : Nat}, r < rooms → Wk B r l → endR B r l < rooms
  | [], r, h, _ => h
  | k :: l, r, h, ⟨t, w, g, h1, h2⟩ => by
    obtain ⟨_, _, b3⟩ := room_rw K h
    obtain ⟨_, s2⟩ := b3 k _ h1
    have := (s2 t w g rfl).2.2
    have e : endR B r (k :: l) = endR B g l := by
      show (match (B.getD r [])[k]? with | some (some (_, _, g)) => endR B g l | _ => r) = _
      rw [h1]
    rw [e]
    exact endR_lt K this h2
theorem at_last {ds : List D} {d : D} : atI (ds ++ [d]) (-1) = some d := by
  have h : ((ds ++ [d]).length : Int) = ds.length + 1 := by simp
  unfold atI ixN
  rw [h]
  have h2 : (-1 + ((ds.length : Int) + 1)).toNat = ds.length := by omega
  have h3 : (1 : Int) ≤ (ds.length : Int) + 1 := by omega
  simp [h2, h3]
section
variable {m tk rooms : Nat} {M : List (List Int)} {C : List (List (Option Int))} {th : D} {B : List Rm} {asks : List Nat} {ps : List Ply}
abbrev rf9 (a b : Int) (B : List Rm) (mo : D) (r : Nat) (l : List Nat) (x5 x6 : Option D) : DEnv := [some (bx a b), some (bkD B), some mo, some (nD r), some (.tup (iL l)), x5, x6, none, none]
theorem drawn_step (K : Cw m tk rooms M C B asks) {mo : D} {r : Nat} {l : List Nat} {x5 x6 : Option D} (hr : r < rooms) (hll : l.length < 1000) (hz : fz mo = true) (a b : Int) :
    (∃ y6, s_29_3 (rf9 a b B mo r l x5 x6) = .bk (rf9 a b B mo r l x5 y6)) ∨
    ∃ a' b' k t w g y6, (B.getD r [])[k]? = some (some (t, w, g)) ∧ s_29_3 (rf9 a b B mo r l x5 x6) = .nx (rf9 a' b' B mo g (l ++ [k]) x5 y6) := by
  obtain ⟨b1, b2, b3⟩ := room_rw K hr
  have ab : atI (B.map rmD) (r : Nat) = some (rmD (B.getD r [])) := atI_at (by rw [List.getElem?_map, b1]; rfl)
  have hs1 := K.s1
  generalize hrow : B.getD r [] = row at *
  have zB := rms_fz B
  have fB := frzs_of zB
  have zr := sgs_fz row
  have fr := frzs_of zr
  have lc := lc_gen (own := [7, 8]) (tg := .t [.v 7, .v 8]) (cond := t_29_2) (elt := q_29_1) (E := rf9 a b B mo r l x5 x6) (fun d => match d with
      | .tup [x, c] => [some (bx a b), some (bkD B), some mo, some (nD r), some (.tup (iL l)), x5, x6, some x, some c]
      | _ => []) (sgK true) fFst (numD 0 (row.map sgD)) [] (by rw [numD_len]; simp; omega) (fun d hd => by
    obtain ⟨k, hk⟩ := List.getElem?_of_mem hd
    obtain ⟨x, hx, rfl⟩ := numD_nth hk
    obtain ⟨c, _, rfl⟩ := List.mem_map.mp (List.mem_of_getElem? hx)
    refine ⟨by simp, ?_, fun _ => ?_, rfl⟩
    · show t_29_2 [_, _, _, _, _, _, _, _, some (sgD c)] = .ok (.bl (isN (sgD c) != true)) _
      unfold t_29_2
      cases c <;> simp [sgD]
    · show q_29_1 [_, _, _, _, _, _, _, some (.int (k : Nat)), _] = .ok (.int (k : Nat)) _
      unfold q_29_1
      simp)
  rw [List.nil_append, sgs_filter] at lc
  have hsl := sgs_len true 0 row
  have zs := iL_fz (sgs true 0 row)
  have fs := frzs_of zs
  have he := fun (o o2 : Bool) => eq_iLnil (o := o) (o2 := o2) (r := sgs true 0 row)
  cases hc : sgs true 0 row with
  | nil =>
    rw [hc] at lc he
    left
    refine ⟨some (.lst true []), ?_⟩
    simp only [rf9, bkD, List.map_nil] at lc he ⊢
    unfold s_29_3
    simp [zB, fB, ab, zr, fr, lc, he]
  | cons y ys =>
    right
    obtain ⟨x, a1, b1', hx, p1⟩ := pick_ok a b false (iL (sgs true 0 row)) (by rw [hc]; simp) (by rw [List.length_map]; omega) zs
    obtain ⟨k, hk, rfl⟩ := List.mem_map.mp hx
    obtain ⟨s, g1, _, g3⟩ := sgs_mem true 0 row k hk
    rw [Nat.sub_zero] at g1
    cases s with
    | none => cases g3
    | some s =>
    obtain ⟨t, w, g⟩ := s
    refine ⟨a1, b1', k, t, w, g, some (.lst false (iL (sgs true 0 row))), g1, ?_⟩
    have ak : atI (row.map sgD) (k : Nat) = some (.tup [nD t, .int w, nD g]) := atI_at (by rw [List.getElem?_map, g1]; rfl)
    have hne : (sgs true 0 row).isEmpty = false := by rw [hc]; rfl
    rw [hne] at he
    generalize sgs true 0 row = L at *
    have zl := iL_fz l
    have hil : (iL l).length ≤ 999999 := by rw [List.length_map]; omega
    have el : iL (l ++ [k]) = iL l ++ [nD k] := by simp
    have la := at_last (ds := iL l) (d := nD k)
    have zl2 := iL_fz (l ++ [k])
    rw [el] at zl2
    have fl2 := frzs_of zl2
    simp only [rf9, bkD, el] at lc ⊢
    generalize iL l = il at *
    unfold s_29_3
    simp [zB, fB, ab, zr, fr, lc, he, zs, fs, p1, ak, at2, la, negD, zl, frzs_of zl, hil, zl2, fl2, hz]
theorem drawn_ok (K : Cw m tk rooms M C B asks) {n : Nat} (hn : n < 1000) (a b : Int) : ∃ a' b' l, Wk B 0 l ∧ l.length ≤ n ∧ c_29 [bx a b, bkD B, nD n] = .ok (.tup (iL l)) [bx a' b'] := by
  have H := forL_rule (tg := .v 5) (m := s_29_3) (fun R => ∃ a' b' r l y5 y6, Wk B 0 l ∧ l.length ≤ n ∧ R = .nx (rf9 a' b' B (nD n) r l y5 y6)) (ds := rangeD 0 (n : Nat))
    (fun j e => ∃ a' b' l y5 y6, Wk B 0 l ∧ l.length = j ∧ endR B 0 l < rooms ∧ e = rf9 a' b' B (nD n) (endR B 0 l) l y5 y6)
    (e := rf9 a b B (nD n) 0 [] none none) ⟨a, b, [], none, none, trivial, rfl, K.r0, rfl⟩ ?_ ?_
  · obtain ⟨a', b', r, l, y5, y6, h1, h2, h3⟩ := H
    refine ⟨a', b', l, h1, h2, ?_⟩
    have zB := rms_fz B
    have zl := iL_fz l
    have fl := frzs_of zl
    have rg : rngOk (n : Nat) = true := rngOk_s (by omega) (by omega)
    have c0 : nD 0 = .int 0 := rfl
    simp only [rf9, bkD, List.map_nil, c0] at h3 ⊢
    unfold c_29 callF m_29
    simp [zB, rg, h3, zl, fl]
  · rintro j d e hd ⟨a1, b1, l, y5, y6, h1, h2, h3, rfl⟩
    obtain ⟨hd', hlt⟩ := rg_get hd
    subst hd'
    simp only [put_v, stO_some, List.set_cons_succ, List.set_cons_zero]
    rcases drawn_step K (mo := nD n) (l := l) (x5 := some (.int (0 + (j : Nat)))) (x6 := y6) h3 (by omega) rfl a1 b1 with ⟨z6, st⟩ | ⟨a2, b2, k, t, w, g, z6, hk, st⟩
    · rw [st]
      exact ⟨a1, b1, _, l, _, z6, h1, by omega, rfl⟩
    · rw [st]
      obtain ⟨i1, i2⟩ := h1.snoc hk
      exact ⟨a2, b2, l ++ [k], some (.int (0 + (j : Nat))), z6, i1, by simp [h2], endR_lt K K.r0 i1, by rw [i2]⟩
  · rintro e ⟨a1, b1, l, y5, y6, h1, h2, h3, rfl⟩
    rw [rg_len] at h2
    exact ⟨a1, b1, _, l, y5, y6, h1, by omega, rfl⟩
/-! ### a spoilt row -/
theorem cut_toI {l : List Nat} {n : Nat} (h : n ≤ l.length) : cutD (iL l) none (some (n : Nat)) = iL (l.take n) := by
  rw [cut_to (by rw [List.length_map]; exact h)]
  exact List.map_take.symm
theorem cut_fromI {l : List Nat} {n : Nat} (h : n ≤ l.length) : cutD (iL l) (some (n : Nat)) none = iL (l.drop n) := by
  rw [cut_from (by rw [List.length_map]; exact h)]
  exact List.map_drop.symm
abbrev sf8 (a b : Int) (B : List Rm) (row : D) (n r : Nat) (x5 : Option D) : DEnv := [some (bx a b), some (bkD B), some row, some (nD n), some (nD r), x5, none, none]
theorem spoilt_loop {a b : Int} {row : D} {n : Nat} : ∀ (l : List Nat) (r : Nat) (x5 : Option D), (x5 = none ∨ ∃ i : Int, x5 = some (.int i)) → Wk B r l → ∃ y5, (y5 = none ∨ ∃ i : Int, y5 = some (.int i)) ∧ forL (.v 5) s_32_3 (iL l) (sf8 a b B row n r x5) = .nx (sf8 a b B row n (endR B r l) y5)
  | [], r, x5, h, _ => ⟨x5, h, rfl⟩
  | k :: l, r, x5, _, ⟨t, w, g, h1, h2⟩ => by
    obtain ⟨y5, hy, ih⟩ := spoilt_loop (a := a) (b := b) (row := row) (n := n) l g (some (nD k)) (.inr ⟨_, rfl⟩) h2
    refine ⟨y5, hy, ?_⟩
    have hR := getD_some h1
    have ab : atI (B.map rmD) (r : Nat) = some (rmD (B.getD r [])) := atI_at (by rw [List.getElem?_map, hR]; rfl)
    have ak : atI ((B.getD r []).map sgD) (k : Nat) = some (.tup [nD t, .int w, nD g]) := atI_at (by rw [List.getElem?_map, h1]; rfl)
    have e : endR B r (k :: l) = endR B g l := by
      show (match (B.getD r [])[k]? with | some (some (_, _, g)) => endR B g l | _ => r) = _
      rw [h1]
    rw [e]
    have zr := sgs_fz (B.getD r [])
    generalize B.getD r [] = rw_ at *
    have zB := rms_fz B
    have st : s_32_3 (sf8 a b B row n r (some (nD k))) = .nx (sf8 a b B row n g (some (nD k))) := by
      unfold s_32_3
      simp [zB, frzs_of zB, ab, zr, frzs_of zr, ak, at2]
    show forL _ _ (nD k :: iL l) _ = _
    conv => lhs; unfold forL
    simp only [put_v, List.set_cons_succ, List.set_cons_zero]
    rw [st]
    exact ih
theorem spoilt_ok (K : Cw m tk rooms M C B asks) {l : List Nat} (hl : l.length < 1000) (hw : Wk B 0 l) (a b : Int) : ∃ a' b' n k, n ≤ l.length ∧ stAt (B.getD (endR B 0 (l.take n)) []) k = none ∧
    c_32 [bx a b, bkD B, .tup (iL l)] = .ok (.tup [.tup (iL (l.take n ++ k :: l.drop n)), nD n]) [bx a' b'] := by
  obtain ⟨v, a1, b1, h1, h2, t1⟩ := take_ok a b ((l.length : Int) + 1) (by omega) (by omega)
  obtain ⟨n, rfl⟩ : ∃ q : Nat, v = (q : Nat) := ⟨v.toNat, by omega⟩
  have hn : n ≤ l.length := by omega
  have wk := hw.pre n
  obtain ⟨y5, hy, hf⟩ := spoilt_loop (a := a1) (b := b1) (row := .tup (iL l)) (n := n) (l.take n) 0 none (.inl rfl) wk
  have hend := endR_lt K K.r0 wk
  generalize hr' : endR B 0 (l.take n) = r at *
  obtain ⟨b1', b2, b3⟩ := room_rw K hend
  have ab : atI (B.map rmD) (r : Nat) = some (rmD (B.getD r [])) := atI_at (by rw [List.getElem?_map, b1']; rfl)
  have hs1 := K.s1
  have hB : B.length ≤ 2 := by have := K.bl; have := K.r1; omega
  generalize hrow : B.getD r [] = row at *
  have zB := rms_fz B
  have fB := frzs_of zB
  have zr := sgs_fz row
  have fr := frzs_of zr
  have lc := lc_gen (own := [5, 7]) (tg := .t [.v 5, .v 7]) (cond := t_32_2) (elt := q_32_1) (E := [some (bx a1 b1), some (bkD B), some (.tup (iL l)), some (nD n), some (nD r), none, none, none]) (fun d => match d with
      | .tup [x, c] => [some (bx a1 b1), some (bkD B), some (.tup (iL l)), some (nD n), some (nD r), some x, none, some c]
      | _ => []) (sgK false) fFst (numD 0 (row.map sgD)) [] (by rw [numD_len]; simp; omega) (fun d hd => by
    obtain ⟨k, hk⟩ := List.getElem?_of_mem hd
    obtain ⟨x, hx, rfl⟩ := numD_nth hk
    obtain ⟨c, _, rfl⟩ := List.mem_map.mp (List.mem_of_getElem? hx)
    refine ⟨by simp, ?_, fun _ => ?_, rfl⟩
    · show t_32_2 [_, _, _, _, _, _, _, some (sgD c)] = .ok (.bl (isN (sgD c) != false)) _
      unfold t_32_2
      cases c <;> simp [sgD]
    · show q_32_1 [_, _, _, _, _, some (.int (k : Nat)), _, _] = .ok (.int (k : Nat)) _
      unfold q_32_1
      simp)
  rw [List.nil_append, sgs_filter] at lc
  have hsl := sgs_len false 0 row
  have hL : ∀ k ∈ sgs false 0 row ++ [row.length, row.length + 3], stAt row k = none := fun k hk => by
    unfold stAt
    rcases List.mem_append.mp hk with hk | hk
    · obtain ⟨s, g1, _, g3⟩ := sgs_mem false 0 row k hk
      rw [Nat.sub_zero] at g1
      rw [g1]
      cases s with
      | none => rfl
      | some s => cases g3
    · rw [List.getElem?_eq_none]
      · rfl
      · rcases List.mem_cons.mp hk with e | hk
        · omega
        · rw [List.mem_singleton.mp hk]; omega
  obtain ⟨x, a2, b2', hx, p1⟩ := pick_ok a1 b1 false (iL (sgs false 0 row ++ [row.length, row.length + 3])) (by simp) (by rw [List.length_map, List.length_append]; simp; omega) (iL_fz _)
  obtain ⟨k, hk, rfl⟩ := List.mem_map.mp hx
  refine ⟨a2, b2', n, k, hn, by rw [hr', hrow]; exact hL k hk, ?_⟩
  have zs := iL_fz (sgs false 0 row ++ [row.length, row.length + 3])
  have eL : iL (sgs false 0 row ++ [row.length, row.length + 3]) = iL (sgs false 0 row) ++ [nD row.length, .int ((row.length : Int) + 3)] := by simp
  rw [eL] at zs p1
  have fs := frzs_of zs
  have zs1 := iL_fz (sgs false 0 row)
  have zl := iL_fz l
  have fl := frzs_of zl
  have c1 := cut_toI hn
  have c2 := cut_fromI hn
  have e3 : iL (l.take n ++ k :: l.drop n) = iL (l.take n) ++ nD k :: iL (l.drop n) := by simp
  have zt := iL_fz (l.take n)
  have zd := iL_fz (l.drop n)
  rw [e3]
  have hll : ((l.length : Nat) : Int) = (((iL l).length : Nat) : Int) := by rw [List.length_map]
  have lL : (iL (sgs false 0 row)).length ≤ 999998 := by rw [List.length_map]; omega
  have l1 : (iL (l.take n)).length ≤ 1000 := by rw [List.length_map, List.length_take]; omega
  have l2 : (iL (l.drop n)).length ≤ 1000 := by rw [List.length_map, List.length_drop]; omega
  have l1' : (iL (l.take n)).length ≤ 999999 := by omega
  generalize iL (l.take n) = T1 at *
  generalize iL (l.drop n) = T2 at *
  generalize iL (sgs false 0 row) = L at *
  rw [hll] at t1
  have hlk : (iL l).length = l.length := List.length_map ..
  generalize hil : iL l = il at *
  have ft0 : fzs (T1 ++ [D.int (k : Nat)]) = true := by
    rw [fzs_all, List.all_append, ← fzs_all, zt]
    rfl
  have ft1 : frzs (T1 ++ [D.int (k : Nat)]) = T1 ++ [D.int (k : Nat)] := frzs_of ft0
  have l3 : (T1 ++ [D.int (k : Nat)]).length + T2.length ≤ 1000000 := by simp; omega
  have l4 : T1.length + (T2.length + 1) ≤ 1000000 := by omega
  have l5 : T1.length + 1 + T2.length ≤ 1000000 := by omega
  have c0 : nD 0 = .int 0 := rfl
  simp only [sf8, bkD, c0] at lc hf ⊢
  unfold c_32 callF m_32
  rcases hy with rfl | ⟨i5, rfl⟩ <;> simp [zB, fB, zl, fl, t1, c1, zt, frzs_of zt, hf, ab, zr, fr, lc, zs1, frzs_of zs1, zs, fs, lL, l1', ft1, l4, l5, p1, c2, zd, frzs_of zd]
end
end LW

namespace LW
open PySem PySem.Spec L2 EV
theorem eq_strs {s : Str} (h : PyData.strOk s = true) : eqD (.str s) (.str s) = some (.bl true) := by
  unfold eqD
  simp [eqOk, h, eqvD]
theorem so_told : PyData.strOk "told" = true := by decide +kernel
theorem so_ref : PyData.strOk "refused" = true := by decide +kernel
theorem same_str {n : Nat} {s : Str} (h : PyData.strOk s = true) : c_23 (n + 1) [.str s, .str s] = .ok (.bl true) [] := by
  have e := eq_strs h
  unfold c_23 callF m_23
  simp [e]
theorem same_two {s : Str} {v : Int} (h : PyData.strOk s = true) : c_23 40 [.tup [.str s, .int v], .tup [.str s, .int v]] = .ok (.bl true) [] := by
  have e1 := same_str (n := 38) h
  have e2 := same_ok 38 (.int v) rfl
  have l1 : ∀ o2 o3, forL (.t [.v 2, .v 3]) (s_23_1 (c_23 39)) [.tup [.str s, .str s], .tup [.int v, .int v]] [some (.tup [.str s, .int v]), some (.tup [.str s, .int v]), o2, o3] = .nx [some (.tup [.str s, .int v]), some (.tup [.str s, .int v]), some (.int v), some (.int v)] := fun o2 o3 => by
    simp [forL, s_23_1, e1, e2]
  show callF 4 mask_23 (m_23 (c_23 39)) _ = _
  unfold callF m_23
  simp [l1]
section
variable {m tk rooms : Nat} {M : List (List Int)} {C : List (List (Option Int))} {th : D} {B : List Rm} {asks : List Nat} {ps : List Ply}
abbrev lw (sc : D) (k : Option D) (a b : Int) (W as pl due tld : D) (x8 x9 x10 x11 x12 x13 x14 x15 : Option D) : DEnv := [some sc, k, some (bx a b), some W, some as, some pl, some due, some tld, x8, x9, x10, x11, x12, x13, x14, x15]
theorem tasks_loop {sc W as pl s1 s2 tld : D} (h1 : fz s1 = true) (h2 : fz s2 = true) {k x8 x9 x10 x11 x12 : Option D} {a b : Int} {R : List Rm} : ∀ (l T : List Nat) (i : Nat) (x15 : Option D), T.length + l.length < 1000 → Wk R i l →
    ∃ y15, forL (.v 15) s_33_1 (iL l) (lw sc k a b W as pl (.tup [s1, s2, bkD R]) tld x8 x9 x10 x11 x12 (some (.tup (iL T))) (some (nD i)) x15) = .nx (lw sc k a b W as pl (.tup [s1, s2, bkD R]) tld x8 x9 x10 x11 x12 (some (.tup (iL (T ++ (sts R i l).map (·.1))))) (some (nD (endR R i l))) y15)
  | [], T, i, x15, _, _ => ⟨x15, by simp [sts, endR, forL]⟩
  | q :: l, T, i, x15, hT, ⟨t, w, g, g1, g2⟩ => by
    simp only [List.length_cons] at hT
    obtain ⟨y15, ih⟩ := tasks_loop (sc := sc) (W := W) (as := as) (pl := pl) (tld := tld) h1 h2 (k := k) (x8 := x8) (x9 := x9) (x10 := x10) (x11 := x11) (x12 := x12) (a := a) (b := b) l (T ++ [t]) g (some (nD q)) (by simp; omega) g2
    refine ⟨y15, ?_⟩
    have e1 : sts R i (q :: l) = (t, w, g) :: sts R g l := by
      show (match (R.getD i [])[q]? with | some (some (a, w, j)) => (a, w, j) :: sts R j l | _ => []) = _
      rw [g1]
    have e2 : endR R i (q :: l) = endR R g l := by
      show (match (R.getD i [])[q]? with | some (some (_, _, g)) => endR R g l | _ => i) = _
      rw [g1]
    have e3 : T ++ List.map (·.1) ((t, w, g) :: sts R g l) = (T ++ [t]) ++ (sts R g l).map (·.1) := by simp
    rw [e1, e2, e3]
    have hR := getD_some g1
    have ab : atI (R.map rmD) (i : Nat) = some (rmD (R.getD i [])) := atI_at (by rw [List.getElem?_map, hR]; rfl)
    have ak : atI ((R.getD i []).map sgD) (q : Nat) = some (.tup [nD t, .int w, nD g]) := atI_at (by rw [List.getElem?_map, g1]; rfl)
    have zr := sgs_fz (R.getD i [])
    generalize R.getD i [] = row at *
    have zR := rms_fz R
    have fR := frzs_of zR
    have f1 := frz_of _ h1
    have f2 := frz_of _ h2
    have zT := iL_fz T
    have fT := frzs_of zT
    have eT : iL (T ++ [t]) = iL T ++ [nD t] := by simp
    have hTl : T.length ≤ 999999 := by omega
    have st : s_33_1 (lw sc k a b W as pl (.tup [s1, s2, bkD R]) tld x8 x9 x10 x11 x12 (some (.tup (iL T))) (some (nD i)) (some (nD q))) = .nx (lw sc k a b W as pl (.tup [s1, s2, bkD R]) tld x8 x9 x10 x11 x12 (some (.tup (iL (T ++ [t])))) (some (nD g)) (some (nD q))) := by
      rw [eT]
      unfold s_33_1
      simp [h1, h2, zR, fR, f1, f2, at0, at2, ab, zr, frzs_of zr, ak, zT, fT, hTl]
    show forL _ _ (nD q :: iL l) _ = _
    conv => lhs; unfold forL
    simp only [put_v, List.set_cons_succ, List.set_cons_zero]
    rw [st]
    exact ih
theorem turn_ok (K : Cw m tk rooms M C B asks) (hth : fz th = true) (Q : Cr C m asks ps) {S A : List St} {R : List Rm} (X : Fx B rooms m tk C asks ps S A R) (I : Iv rooms m tk C ps S A) (h17 : c_17 [whD M C th B, psD ps] = .ok (coD M C A R) []) {sc : D} {k x8 x9 x10 x11 x12 x13 x14 x15 : Option D} (a b : Int) :
    ∃ a' b' y9 y10 y11 y12 y13 y14 y15, s_33_2 (lw sc k a b (whD M C th B) (.lst false (iL asks)) (psD ps) (coD M C A R) (coD M C A R) x8 x9 x10 x11 x12 x13 x14 x15) = .nx (lw sc k a' b' (whD M C th B) (.lst false (iL asks)) (psD ps) (coD M C A R) (coD M C A R) x8 y9 y10 y11 y12 y13 y14 y15) := by
  obtain ⟨x, a1, b1, hx, p1⟩ := pick_ok a b true (iL [0, 3, 8, 30]) (by simp) (by simp) rfl
  obtain ⟨n, hn, rfl⟩ := List.mem_map.mp hx
  have hn2 : n < 1000 := by
    simp only [List.mem_cons, List.not_mem_nil, or_false] at hn
    omega
  obtain ⟨a2, b2, l, hw, hl, p2⟩ := drawn_ok K hn2 a1 b1
  obtain ⟨d1, d2, g1, g2, p3⟩ := lots_ok K hth Q hw
  have zw := wh_fz (M := M) (C := C) (B := B) hth
  have zp : fz (psD ps) = true := plys_fz ps
  have p4 := tried_ok zw zp (paid_ok K hth X I h17 (by omega) hw)
  obtain ⟨a3, b3, n3, k3, hn3, hk3, p5⟩ := spoilt_ok K (by omega) hw a2 b2
  have hw3 := hw.pre n3
  have p6 := tried_bad zw zp (paid_bad (C := C) (M := M) K hth X I h17 (l := l.take n3) (post := l.drop n3) (k := k3) (by rw [List.length_take]; omega) hw3 hk3)
  have hlen : (l.take n3).length = n3 := by rw [List.length_take]; omega
  rw [hlen] at p6
  obtain ⟨e1, e2, e3, e4, e5⟩ := run_eq K X I l 0 0 (zeros ps) [(0, 0)] X.s0 hw
  have hm1 := K.m1
  have p7 := least_ok (C := theirC C A) K.sv.mx K.m0 (by omega) e3
  rw [e2] at p7
  have s1 := same_two (v := paidN B ps M C m l) so_told
  have s2 := same_two (v := ((n3 : Nat) : Int)) so_ref
  have s3 := same_ok 39 (.int (paidN B ps M C m l)) rfl
  have p7 : c_10 [svD M (theirC C A), .tup (iL ((sts R 0 l).map (·.1)))] = .ok (.int (paidN B ps M C m l)) [] := p7
  have z1 := sv_fz M (mineC C A)
  have z2 := sv_fz M (theirC C A)
  obtain ⟨y15, lt⟩ := tasks_loop (sc := sc) (W := whD M C th B) (as := .lst false (iL asks)) (pl := psD ps) (tld := coD M C A R) z1 z2 (k := k) (x8 := x8) (x9 := some (.tup (iL l))) (x10 := some (.int (paidN B ps M C m l))) (x11 := some (.tup (iL (l.take n3 ++ k3 :: l.drop n3)))) (x12 := some (nD n3)) (a := a3) (b := b3) l [] 0 x15 (by simp; omega) e1
  refine ⟨a3, b3, some (.tup (iL l)), some (.int (paidN B ps M C m l)), some (.tup (iL (l.take n3 ++ k3 :: l.drop n3))), some (nD n3), some (.tup (iL ([] ++ (sts R 0 l).map (·.1)))), some (nD (endR R 0 l)), y15, ?_⟩
  have zB := rms_fz B
  have fB := frzs_of zB
  have zl := iL_fz l
  have fl := frzs_of zl
  have zl3 := iL_fz (l.take n3 ++ k3 :: l.drop n3)
  have fl3 := frzs_of zl3
  have zt := iL_fz ([] ++ (sts R 0 l).map (·.1))
  have ft := frzs_of zt
  rw [← List.nil_append ((sts R 0 l).map (·.1))] at p7
  have zR := rms_fz R
  have fR := frzs_of zR
  have f1 := frz_of _ z1
  have f2 := frz_of _ z2
  have fw := frz_of _ zw
  have fp := frz_of _ zp
  have fg1 := frz_of _ g1
  have fg2 := frz_of _ g2
  have c0 : nD 0 = .int 0 := rfl
  have ei : iL [0, 3, 8, 30] = [.int 0, .int 3, .int 8, .int 30] := rfl
  have eW : ∃ w0 w1, whD M C th B = .tup [w0, w1, bkD B] := ⟨_, _, rfl⟩
  obtain ⟨w0, w1, eW⟩ := eW
  have zw' : (fz w0 && (fz w1 && (fz (bkD B) && true))) = true := by
    have := zw
    rw [eW] at this
    exact this
  simp only [Bool.and_eq_true] at zw'
  have fw0 := frz_of _ zw'.1
  have fw1 := frz_of _ zw'.2.1
  have zw0 := zw'.1
  have zw1 := zw'.2.1
  rw [eW] at p3 p4 p6 lt ⊢
  simp only [lw, bkD, coD, c0, ei, List.map_nil] at p1 p2 p3 p4 p5 p6 lt p7 ⊢
  generalize psD ps = PD at *
  generalize svD M (mineC C A) = S1 at *
  generalize svD M (theirC C A) = S2 at *
  generalize paidN B ps M C m l = pv at *
  generalize iL ([] ++ (sts R 0 l).map (·.1)) = TT at *
  generalize iL (l.take n3 ++ k3 :: l.drop n3) = L3 at *
  unfold s_33_2
  simp [zB, fB, zl, fl, zl3, fl3, zt, ft, zR, fR, f1, f2, fw0, fw1, zw0, zw1, zp, fp, z1, z2, g1, g2, fg1, fg2, at0, at1, at2, p1, p2, p3, p4, p5, p6, p7, lt, s1, s2, s3]
theorem turns_ok (K : Cw m tk rooms M C B asks) (hth : fz th = true) (Q : Cr C m asks ps) {S A : List St} {R : List Rm} (X : Fx B rooms m tk C asks ps S A R) (I : Iv rooms m tk C ps S A) (h17 : c_17 [whD M C th B, psD ps] = .ok (coD M C A R) []) {sc : D} {k x8 x9 x10 x11 x12 x13 x14 x15 : Option D} (h8 : x8 = none ∨ ∃ i : Int, x8 = some (.int i)) (a b : Int) :
    ∃ a' b' y8 y9 y10 y11 y12 y13 y14 y15, (y8 = none ∨ ∃ i : Int, y8 = some (.int i)) ∧ forL (.v 8) s_33_2 (rangeD 0 3) (lw sc k a b (whD M C th B) (.lst false (iL asks)) (psD ps) (coD M C A R) (coD M C A R) x8 x9 x10 x11 x12 x13 x14 x15) = .nx (lw sc k a' b' (whD M C th B) (.lst false (iL asks)) (psD ps) (coD M C A R) (coD M C A R) y8 y9 y10 y11 y12 y13 y14 y15) := by
  refine forL_rule (tg := .v 8) (m := s_33_2) (fun Z => ∃ a' b' y8 y9 y10 y11 y12 y13 y14 y15, (y8 = none ∨ ∃ i : Int, y8 = some (.int i)) ∧ Z = .nx (lw sc k a' b' (whD M C th B) (.lst false (iL asks)) (psD ps) (coD M C A R) (coD M C A R) y8 y9 y10 y11 y12 y13 y14 y15)) (ds := rangeD 0 3)
    (fun _ e => ∃ a' b' y8 y9 y10 y11 y12 y13 y14 y15, (y8 = none ∨ ∃ i : Int, y8 = some (.int i)) ∧ e = lw sc k a' b' (whD M C th B) (.lst false (iL asks)) (psD ps) (coD M C A R) (coD M C A R) y8 y9 y10 y11 y12 y13 y14 y15) ⟨_, _, _, _, _, _, _, _, _, _, h8, rfl⟩ ?_ ?_
  · rintro j d e hd ⟨a1, b1, y8, y9, y10, y11, y12, y13, y14, y15, g8, rfl⟩
    obtain ⟨rfl, _⟩ := rg_get hd
    obtain ⟨a2, b2, z9, z10, z11, z12, z13, z14, z15, h⟩ := turn_ok K hth Q X I h17 (sc := sc) (k := k) (x8 := some (.int (0 + (j : Nat)))) (x9 := y9) (x10 := y10) (x11 := y11) (x12 := y12) (x13 := y13) (x14 := y14) (x15 := y15) a1 b1
    simp only [put_v, stO_some, List.set_cons_succ, List.set_cons_zero]
    rw [h]
    exact ⟨_, _, _, _, _, _, _, _, _, _, .inr ⟨_, rfl⟩, rfl⟩
  · rintro e ⟨a1, b1, y8, y9, y10, y11, y12, y13, y14, y15, g8, rfl⟩
    exact ⟨_, _, _, _, _, _, _, _, _, _, g8, rfl⟩
end
end LW

namespace LW
open PySem PySem.Spec L2 EV
theorem pl_tup {n : Nat} {ds : List D} (h : ∀ d ∈ ds, plD n d = true) : plD (n + 1) (.tup ds) = true := by
  show ds.all (plD n) = true
  rw [List.all_eq_true]
  exact h
theorem pl_mapt {α : Type} {n : Nat} {f : α → D} {xs : List α} (h : ∀ x ∈ xs, plD n (f x) = true) : plD (n + 1) (.tup (xs.map f)) = true := pl_tup fun d hd => by
  obtain ⟨x, hx, rfl⟩ := List.mem_map.mp hd
  exact h x hx
theorem pl_int {n : Nat} {i : Int} : plD n (.int i) = true := by cases n <;> rfl
theorem pl_non {n : Nat} : plD n .non = true := by cases n <;> rfl
theorem pl_sv {n : Nat} (M : List (List Int)) (C : List (List (Option Int))) : plD (n + 3) (svD M C) = true := pl_tup fun d hd => by
  rcases List.mem_cons.mp hd with rfl | hd
  · exact pl_mapt fun r _ => pl_mapt fun i _ => pl_int
  · rw [List.mem_singleton.mp hd]
    exact pl_mapt fun r _ => pl_mapt fun c _ => by cases c <;> first | exact pl_non | exact pl_int
theorem pl_sg {n : Nat} (s : Sg) : plD (n + 1) (sgD s) = true := by
  cases s with
  | none => exact pl_non
  | some s =>
    obtain ⟨t, w, g⟩ := s
    exact pl_tup fun d hd => by
      simp only [List.mem_cons, List.not_mem_nil, or_false] at hd
      rcases hd with rfl | rfl | rfl <;> exact pl_int
theorem pl_bk {n : Nat} (B : List Rm) : plD (n + 3) (bkD B) = true := pl_mapt fun r _ => pl_mapt fun s _ => pl_sg s
theorem pl_coD {n : Nat} {M : List (List Int)} {C : List (List (Option Int))} {A : List St} {R : List Rm} : plD (n + 4) (coD M C A R) = true := pl_tup fun d hd => by
  simp only [List.mem_cons, List.not_mem_nil, or_false] at hd
  rcases hd with rfl | rfl | rfl
  · exact pl_sv _ _
  · exact pl_sv _ _
  · exact pl_bk _
theorem round_ok {ns : List Int} {k : Nat} {x2 x3 x4 x5 x6 x7 x8 x9 x10 x11 x12 x13 x14 x15 : Option D} (h8 : x8 = none ∨ ∃ i : Int, x8 = some (.int i)) : ∃ W P : D, fz W = true ∧ fz P = true ∧ c_18 [W, P, .tup []] = .ok (.int 0) [] ∧ ∃ y2 y4 y6 y7 y8 y9 y10 y11 y12 y13 y14 y15, (y8 = none ∨ ∃ i : Int, y8 = some (.int i)) ∧
    s_33_4 [some (.scr ns), some (nD k), x2, x3, x4, x5, x6, x7, x8, x9, x10, x11, x12, x13, x14, x15] = .nx [some (.scr ns), some (nD k), y2, some W, y4, some P, y6, y7, y8, y9, y10, y11, y12, y13, y14, y15] := by
  obtain ⟨a1, b1, bx1⟩ := box_ok ns (k : Int) (by omega)
  obtain ⟨a2, b2, m, tk, rooms, M, C, th, B, asks, K, hth, p1⟩ := case_ok a1 b1
  obtain ⟨v, a3, b3, h3, g3, t3⟩ := take_ok a2 b2 3 (by omega) (by omega)
  obtain ⟨v, rfl⟩ : ∃ n : Nat, v = (n : Nat) := ⟨v.toNat, by omega⟩
  have e3 : (1 + (v : Int)) = ((1 + v : Nat) : Int) := by omega
  have zw := wh_fz (M := M) (C := C) (B := B) hth
  have fw := frz_of _ zw
  have za := iL_fz asks
  have fa := frzs_of za
  obtain ⟨a4, b4, ps, hP, lc⟩ := lc_rel (own := [8]) (tg := .v 8) (elt := q_33_3) (E := fun a b => [some (.scr ns), some (nD k), some (bx a b), some (whD M C th B), some (.lst false (iL asks)), x5, x6, x7, none, x9, x10, x11, x12, x13, x14, x15]) (fun a b j => [some (.scr ns), some (nD k), some (bx a b), some (whD M C th B), some (.lst false (iL asks)), x5, x6, x7, some (nD j), x9, x10, x11, x12, x13, x14, x15]) (fun (_ : Nat) (p : Ply) => Py C m asks p) nD plyD (List.range (1 + v)) [] a3 b3 (by simp; omega) (fun j _ a b => ⟨rfl, by
    obtain ⟨u, c1, d1, u1, u2, u3⟩ := take_ok a b 3 (by omega) (by omega)
    obtain ⟨u, rfl⟩ : ∃ n : Nat, u = (n : Nat) := ⟨u.toNat, by omega⟩
    have e4 : (1 + (u : Int)) = ((1 + u : Nat) : Int) := by omega
    obtain ⟨c2, d2, p, q1, q2, q3⟩ := player_ok K hth (nt := 1 + u) (by omega) (by omega) c1 d1
    refine ⟨p, c2, d2, [some (.scr ns), some (nD k), some (bx c2 d2), some (whD M C th B), some (.lst false (iL asks)), x5, x6, x7, some (nD j), x9, x10, x11, x12, x13, x14, x15], q2, ?_, rfl⟩
    have zpl : fz (plyD p) = true := nrs_fz p
    have fpl := frz_of _ zpl
    generalize whD M C th B = W at *
    generalize plyD p = pd at *
    unfold q_33_3
    simp [-Int.natCast_add, u3, e4, q3, zw, fw, za, fa, zpl, fpl]⟩)
  rw [show List.map nD (List.range (1 + v)) = rangeD 0 ((1 + v : Nat) : Int) from (rangeD_eq _).symm, List.nil_append] at lc
  have hpl : ps.length = 1 + v := by rw [hP.len, List.length_range]
  have Q : Cr C m asks ps := ⟨fun p hp => by
    obtain ⟨i, hi⟩ := List.getElem?_of_mem hp
    have hil := (List.getElem?_eq_some_iff.mp hi).1
    exact hP.get (List.getElem?_range (by omega)) hi, by omega, by omega⟩
  obtain ⟨S, A, R, hf, J, hl, h15⟩ := book_ok K Q
  have h17 := case17 K hth Q J h15
  have h28 := law28 K hth Q hf J
  have X := fx_of K hf J hl
  have hsame := same_ok 39 (coD M C A R) pl_coD
  obtain ⟨a5, b5, y8, y9, y10, y11, y12, y13, y14, y15, g8, lt⟩ := turns_ok K hth Q X J.iv h17 (sc := .scr ns) (k := some (nD k)) (x8 := x8) (x9 := x9) (x10 := x10) (x11 := x11) (x12 := x12) (x13 := x13) (x14 := x14) (x15 := x15) h8 a4 b4
  have hlast := paid_ok K hth X J.iv h17 (l := []) (by simp) trivial
  have hzero : paidN B ps M C m [] = 0 := by rfl
  rw [hzero] at hlast
  have zp : fz (psD ps) = true := plys_fz ps
  have fp := frz_of _ zp
  have zc : fz (coD M C A R) = true := plD_fz _ (pl_coD (n := 35))
  have fc := frz_of _ zc
  refine ⟨whD M C th B, psD ps, zw, zp, hlast, some (bx a5 b5), some (.lst false (iL asks)), some (coD M C A R), some (coD M C A R), y8, y9, y10, y11, y12, y13, y14, y15, g8, ?_⟩
  have rg : rngOk ((1 + v : Nat) : Int) = true := rngOk_s (by omega) (by omega)
  have rg3 : rngOk 3 = true := rfl
  have ef : frzs (ps.map plyD) = ps.map plyD := frzs_of (plys_fz ps)
  have zps : fzs (ps.map plyD) = true := plys_fz ps
  clear g8
  generalize coD M C A R = CD at *
  generalize whD M C th B = W at *
  simp only [lw, psD] at lt h17 h28 fp ⊢
  by_cases hk : k = 0
  · subst hk
    unfold s_33_4
    rcases h8 with rfl | ⟨i8, rfl⟩ <;> simp [-Int.natCast_add, bx1, p1, t3, e3, rg, lc, zw, fw, za, fa, tupleD, zps, ef, h28, h17, zc, fc, hsame, rg3, lt, genL]
  · have hk2 : (0 : Int) < (k : Int) := by omega
    unfold s_33_4
    rcases h8 with rfl | ⟨i8, rfl⟩ <;> simp [-Int.natCast_add, bx1, p1, t3, e3, rg, lc, zw, fw, za, fa, tupleD, zps, ef, h28, h17, zc, fc, hsame, rg3, lt, genL, hk2, Nat.pos_of_ne_zero hk]
abbrev e16 (ns : List Int) (x1 x2 x3 x4 x5 x6 x7 x8 x9 x10 x11 x12 x13 x14 x15 : Option D) : DEnv := [some (.scr ns), x1, x2, x3, x4, x5, x6, x7, x8, x9, x10, x11, x12, x13, x14, x15]
theorem rounds (ns : List Int) (j : Int) (hj : 0 < j) : ∃ W P : D, fz W = true ∧ fz P = true ∧ c_18 [W, P, .tup []] = .ok (.int 0) [] ∧ ∃ x1 x2 x4 x6 x7 x8 x9 x10 x11 x12 x13 x14 x15, forL (.v 1) s_33_4 (rangeD 0 j) (e16 ns none none none none none none none none none none none none none none none) = .nx (e16 ns x1 x2 (some W) x4 (some P) x6 x7 x8 x9 x10 x11 x12 x13 x14 x15) := by
  refine forL_rule (tg := .v 1) (m := s_33_4) (fun r => ∃ W P : D, fz W = true ∧ fz P = true ∧ c_18 [W, P, .tup []] = .ok (.int 0) [] ∧ ∃ x1 x2 x4 x6 x7 x8 x9 x10 x11 x12 x13 x14 x15, r = .nx (e16 ns x1 x2 (some W) x4 (some P) x6 x7 x8 x9 x10 x11 x12 x13 x14 x15)) (ds := rangeD 0 j)
    (fun i e => ∃ x1 x2 x3 x4 x5 x6 x7 x8 x9 x10 x11 x12 x13 x14 x15, (x8 = none ∨ ∃ i : Int, x8 = some (.int i)) ∧ (0 < i → ∃ W P : D, x3 = some W ∧ x5 = some P ∧ fz W = true ∧ fz P = true ∧ c_18 [W, P, .tup []] = .ok (.int 0) []) ∧ e = e16 ns x1 x2 x3 x4 x5 x6 x7 x8 x9 x10 x11 x12 x13 x14 x15) ⟨_, _, _, _, _, _, _, _, _, _, _, _, _, _, _, .inl rfl, fun h => absurd h (Nat.lt_irrefl 0), rfl⟩ ?_ ?_
  · rintro k d e hk ⟨x1, x2, x3, x4, x5, x6, x7, x8, x9, x10, x11, x12, x13, x14, x15, q8, _, rfl⟩
    obtain ⟨rfl, _⟩ := rg_get hk
    obtain ⟨W, P, h1, h2, h3, y2, y4, y6, y7, y8, y9, y10, y11, y12, y13, y14, y15, g8, h⟩ := round_ok (ns := ns) (k := k) (x2 := x2) (x3 := x3) (x4 := x4) (x5 := x5) (x6 := x6) (x7 := x7) (x8 := x8) (x9 := x9) (x10 := x10) (x11 := x11) (x12 := x12) (x13 := x13) (x14 := x14) (x15 := x15) q8
    simp only [put_v, stO_some, List.set_cons_succ, List.set_cons_zero]
    have e0 : ((0 : Int) + (k : Nat)) = (k : Nat) := by omega
    rw [e0, h]
    exact ⟨_, _, _, _, _, _, _, _, _, _, _, _, _, _, _, g8, fun _ => ⟨W, P, rfl, rfl, h1, h2, h3⟩, rfl⟩
  · rintro e ⟨x1, x2, x3, x4, x5, x6, x7, x8, x9, x10, x11, x12, x13, x14, x15, _, hh, rfl⟩
    obtain ⟨W, P, rfl, rfl, h1, h2, h3⟩ := hh (by rw [rg_len]; omega)
    exact ⟨W, P, h1, h2, h3, _, _, _, _, _, _, _, _, _, _, _, _, _, rfl⟩
theorem plain0 (ns : List Int) (h : ns.length ≤ 63) : ∃ e, m_33 (e16 ns none none none none none none none none none none none none none none none) = .rt (.bl true) e := by
  obtain ⟨j, hj1, hj2, hj⟩ : ∃ j : Int, 0 < j ∧ j < 1000 ∧ (mOp2 max2D (.e (mC (.int 4))) (.e (mOp2 min2D (.e (mOp1 lenD (.v 0))) (.e (mC (.int 8)))))) (e16 ns none none none none none none none none none none none none none none none) = .ok (.int j) (e16 ns none none none none none none none none none none none none none none none) := by
    by_cases h1 : (8 : Int) < (ns.length : Int)
    · exact ⟨8, by omega, by omega, by simp [h1, lenD]⟩
    · by_cases h2 : (ns.length : Int) > 4
      · exact ⟨ns.length, by omega, by omega, by simp [h1, h2, lenD]⟩
      · exact ⟨4, by omega, by omega, by simp [h1, h2, lenD]⟩
  obtain ⟨W, P, z1, z2, z3, x1, x2, x4, x6, x7, x8, x9, x10, x11, x12, x13, x14, x15, he⟩ := rounds ns j hj1
  have rg : rngOk j = true := rngOk_s (by omega) (by omega)
  have s1 := same_ok 39 (.int 0) rfl
  have f1 := frz_of _ z1
  have f2 := frz_of _ z2
  simp only [e16] at he hj ⊢
  unfold m_33
  simp [hj, rg, he, -ap_op2, z1, z2, z3, f1, f2, genL, s1]
theorem plain (ns : List Int) (h : ns.length ≤ 63) : ∃ fin, c_33 [.scr ns] = .ok (.bl true) fin := by
  obtain ⟨e, he⟩ := plain0 ns h
  unfold c_33 callF
  simp [he]
end LW

namespace LW
open PySem PySem.Spec PyProof.Rows L2 EV
def fn : List He.DefD := [d4, d5, d6, d8, d9, d10, d12, d13, d14, d15, d16, d17, d18, d20, d21, d22, d23, d24, d25, d26, d27, d28, d29, d30, d31, d32, d33]
def fa : List He.Fa := [.glo "step_at", .glo "row_steps", .glo "row_tasks", .glo "ends_behind", .glo "ends_of", .glo "least_cost", .glo "entries_at", .glo "number_among", .glo "counsel_step", .glo "counsel_book", .glo "costs_within", .glo "counsel_case", .glo "counsel_paid", .glo "_law_box", .glo "_law_take", .glo "_law_pick", .glo "_law_same", .glo "_law_closed", .glo "_law_service", .glo "_law_crowd_case", .glo "_law_player", .glo "_law_counsel", .glo "_law_drawn_row", .glo "_law_lots_paid", .glo "_law_tried", .glo "_law_spoilt", .glo "law", .free "super", .free "len", .free "abs"] ++ [.free "int", .free "tuple", .free "list", .free "max", .free "min", .free "isinstance", .free "range", .free "zip", .free "enumerate", .free "bool", .free "str", .free "sorted", .glo "OwnError", .glo "Refused", .exm "Refused" "Refused" true]
abbrev theRow : PySem.W.OpenRow := PySem.W.OpenLaw.row PySem.Challenge.rw_fairanyprice_k86_the_case_of_counsel
def cs : List ClD := [k1]
def kx : List (Str × Str × Bool) := []
abbrev theFile : Str := PySem.Challenge.pw_fairanyprice_k86_the_case_of_counsel.main.file
abbrev theHook : PySem.W.Hook := hookC theFile 4 fa fn cs kx
def seen (s : PySem.W.SharedT) : AlC :=
  obsCG theFile 4 fa fn cs kx (HandSHeadRun.getT s)
theorem seen_eq (s : PySem.W.SharedT) : seen s = theHook.obs s.abs := obsCG_eq (HandSHeadRun.getT_eq s)
theorem runs (w : World) : HandSHeadRun.RunEq theRow (PySem.W.view theRow.prog [33]) theHook seen 8000
    ((["OwnError", "Refused", "step_at", "row_steps", "row_tasks", "ends_behind", "ends_of", "least_cost", "entries_at", "number_among", "counsel_step", "counsel_book", "costs_within", "counsel_case", "counsel_paid", "_law_box", "_law_take", "_law_pick", "_law_same", "_law_closed", "_law_service", "_law_crowd_case", "_law_player", "_law_counsel", "_law_drawn_row", "_law_lots_paid", "_law_tried", "_law_spoilt"] : List Str)) w := by
  intro os
  kernel_rfl
theorem dn {w : World} {K : PySem.W.Frag} {h : Heap} {mg : Str → Option Value} (X : K.In h) (G : h.Ns mainGlobals mg) (cc : SaysC theFile fa fn cs kx K) : ∃ fd, Dn theRow.prog w K mg fd := by
  have c := cc.d
  obtain ⟨e4, F4⟩ := c.def_ 0 (d := d4) rfl
  obtain ⟨e5, F5⟩ := c.def_ 1 (d := d5) rfl
  obtain ⟨e6, F6⟩ := c.def_ 2 (d := d6) rfl
  obtain ⟨e8, F8⟩ := c.def_ 3 (d := d8) rfl
  obtain ⟨e9, F9⟩ := c.def_ 4 (d := d9) rfl
  obtain ⟨e10, F10⟩ := c.def_ 5 (d := d10) rfl
  obtain ⟨e12, F12⟩ := c.def_ 6 (d := d12) rfl
  obtain ⟨e13, F13⟩ := c.def_ 7 (d := d13) rfl
  obtain ⟨e14, F14⟩ := c.def_ 8 (d := d14) rfl
  obtain ⟨e15, F15⟩ := c.def_ 9 (d := d15) rfl
  obtain ⟨e16, F16⟩ := c.def_ 10 (d := d16) rfl
  obtain ⟨e17, F17⟩ := c.def_ 11 (d := d17) rfl
  obtain ⟨e18, F18⟩ := c.def_ 12 (d := d18) rfl
  obtain ⟨e20, F20⟩ := c.def_ 13 (d := d20) rfl
  obtain ⟨e21, F21⟩ := c.def_ 14 (d := d21) rfl
  obtain ⟨e22, F22⟩ := c.def_ 15 (d := d22) rfl
  obtain ⟨e23, F23⟩ := c.def_ 16 (d := d23) rfl
  obtain ⟨e24, F24⟩ := c.def_ 17 (d := d24) rfl
  obtain ⟨e25, F25⟩ := c.def_ 18 (d := d25) rfl
  obtain ⟨e26, F26⟩ := c.def_ 19 (d := d26) rfl
  obtain ⟨e27, F27⟩ := c.def_ 20 (d := d27) rfl
  obtain ⟨e28, F28⟩ := c.def_ 21 (d := d28) rfl
  obtain ⟨e29, F29⟩ := c.def_ 22 (d := d29) rfl
  obtain ⟨e30, F30⟩ := c.def_ 23 (d := d30) rfl
  obtain ⟨e31, F31⟩ := c.def_ 24 (d := d31) rfl
  obtain ⟨e32, F32⟩ := c.def_ 25 (d := d32) rfl
  obtain ⟨e33, F33⟩ := c.def_ 26 (d := d33) rfl
  refine ⟨fun n => match n with
    | 4 => e4
    | 5 => e5
    | 6 => e6
    | 8 => e8
    | 9 => e9
    | 10 => e10
    | 12 => e12
    | 13 => e13
    | 14 => e14
    | 15 => e15
    | 16 => e16
    | 17 => e17
    | 18 => e18
    | 20 => e20
    | 21 => e21
    | 22 => e22
    | 23 => e23
    | 24 => e24
    | 25 => e25
    | 26 => e26
    | 27 => e27
    | 28 => e28
    | 29 => e29
    | 30 => e30
    | 31 => e31
    | 32 => e32
    | 33 => e33
    | _ => e4, ?_⟩
  exact {
    f4 := F4
    m4 := He.glo_ok X G (c.fact 0 (f := .glo "step_at") rfl)
    f5 := F5
    m5 := He.glo_ok X G (c.fact 1 (f := .glo "row_steps") rfl)
    f6 := F6
    m6 := He.glo_ok X G (c.fact 2 (f := .glo "row_tasks") rfl)
    f8 := F8
    m8 := He.glo_ok X G (c.fact 3 (f := .glo "ends_behind") rfl)
    f9 := F9
    m9 := He.glo_ok X G (c.fact 4 (f := .glo "ends_of") rfl)
    f10 := F10
    m10 := He.glo_ok X G (c.fact 5 (f := .glo "least_cost") rfl)
    f12 := F12
    m12 := He.glo_ok X G (c.fact 6 (f := .glo "entries_at") rfl)
    f13 := F13
    m13 := He.glo_ok X G (c.fact 7 (f := .glo "number_among") rfl)
    f14 := F14
    m14 := He.glo_ok X G (c.fact 8 (f := .glo "counsel_step") rfl)
    f15 := F15
    m15 := He.glo_ok X G (c.fact 9 (f := .glo "counsel_book") rfl)
    f16 := F16
    m16 := He.glo_ok X G (c.fact 10 (f := .glo "costs_within") rfl)
    f17 := F17
    m17 := He.glo_ok X G (c.fact 11 (f := .glo "counsel_case") rfl)
    f18 := F18
    m18 := He.glo_ok X G (c.fact 12 (f := .glo "counsel_paid") rfl)
    f20 := F20
    m20 := He.glo_ok X G (c.fact 13 (f := .glo "_law_box") rfl)
    f21 := F21
    m21 := He.glo_ok X G (c.fact 14 (f := .glo "_law_take") rfl)
    f22 := F22
    m22 := He.glo_ok X G (c.fact 15 (f := .glo "_law_pick") rfl)
    f23 := F23
    m23 := He.glo_ok X G (c.fact 16 (f := .glo "_law_same") rfl)
    f24 := F24
    m24 := He.glo_ok X G (c.fact 17 (f := .glo "_law_closed") rfl)
    f25 := F25
    m25 := He.glo_ok X G (c.fact 18 (f := .glo "_law_service") rfl)
    f26 := F26
    m26 := He.glo_ok X G (c.fact 19 (f := .glo "_law_crowd_case") rfl)
    f27 := F27
    m27 := He.glo_ok X G (c.fact 20 (f := .glo "_law_player") rfl)
    f28 := F28
    m28 := He.glo_ok X G (c.fact 21 (f := .glo "_law_counsel") rfl)
    f29 := F29
    m29 := He.glo_ok X G (c.fact 22 (f := .glo "_law_drawn_row") rfl)
    f30 := F30
    m30 := He.glo_ok X G (c.fact 23 (f := .glo "_law_lots_paid") rfl)
    f31 := F31
    m31 := He.glo_ok X G (c.fact 24 (f := .glo "_law_tried") rfl)
    f32 := F32
    m32 := He.glo_ok X G (c.fact 25 (f := .glo "_law_spoilt") rfl)
    f33 := F33
    m33 := He.glo_ok X G (c.fact 26 (f := .glo "law") rfl)
    fr := fun x hx => by
      rcases List.mem_cons.mp hx with hx | hx
      · subst hx; exact He.free_ok X G (c.fact 27 (f := .free "super") rfl)
      rcases List.mem_cons.mp hx with hx | hx
      · subst hx; exact He.free_ok X G (c.fact 28 (f := .free "len") rfl)
      rcases List.mem_cons.mp hx with hx | hx
      · subst hx; exact He.free_ok X G (c.fact 29 (f := .free "abs") rfl)
      rcases List.mem_cons.mp hx with hx | hx
      · subst hx; exact He.free_ok X G (c.fact 30 (f := .free "int") rfl)
      rcases List.mem_cons.mp hx with hx | hx
      · subst hx; exact He.free_ok X G (c.fact 31 (f := .free "tuple") rfl)
      rcases List.mem_cons.mp hx with hx | hx
      · subst hx; exact He.free_ok X G (c.fact 32 (f := .free "list") rfl)
      rcases List.mem_cons.mp hx with hx | hx
      · subst hx; exact He.free_ok X G (c.fact 33 (f := .free "max") rfl)
      rcases List.mem_cons.mp hx with hx | hx
      · subst hx; exact He.free_ok X G (c.fact 34 (f := .free "min") rfl)
      rcases List.mem_cons.mp hx with hx | hx
      · subst hx; exact He.free_ok X G (c.fact 35 (f := .free "isinstance") rfl)
      rcases List.mem_cons.mp hx with hx | hx
      · subst hx; exact He.free_ok X G (c.fact 36 (f := .free "range") rfl)
      rcases List.mem_cons.mp hx with hx | hx
      · subst hx; exact He.free_ok X G (c.fact 37 (f := .free "zip") rfl)
      rcases List.mem_cons.mp hx with hx | hx
      · subst hx; exact He.free_ok X G (c.fact 38 (f := .free "enumerate") rfl)
      rcases List.mem_cons.mp hx with hx | hx
      · subst hx; exact He.free_ok X G (c.fact 39 (f := .free "bool") rfl)
      rcases List.mem_cons.mp hx with hx | hx
      · subst hx; exact He.free_ok X G (c.fact 40 (f := .free "str") rfl)
      rcases List.mem_cons.mp hx with hx | hx
      · subst hx; exact He.free_ok X G (c.fact 41 (f := .free "sorted") rfl)
      cases hx
    mx0 := He.glo_ok X G (c.fact 42 (f := .glo "OwnError") rfl)
    mx1 := He.glo_ok X G (c.fact 43 (f := .glo "Refused") rfl)
    x1 := cl_ok (n := 1) (c := k1) kok1 (cc.cl 0 (d := k1) rfl).1 (cc.cl 0 (d := k1) rfl).2 (by decide +kernel) (He.glo_ok X G (c.fact 43 (f := .glo "Refused") rfl)) rfl rfl
    xf1 := (cl_ok (prog := theRow.prog) (w := w) (mg := mg) (g := g0 K) (n := 1) (c := k1) kok1 (cc.cl 0 (d := k1) rfl).1 (cc.cl 0 (d := k1) rfl).2 (by decide +kernel) (He.glo_ok X G (c.fact 43 (f := .glo "Refused") rfl)) rfl rfl).xf
    xe1 := exc_of (cc.cl 0 (d := k1) rfl).2
    xo1 := (cl_ok (prog := theRow.prog) (w := w) (mg := mg) (g := g0 K) (n := 1) (c := k1) kok1 (cc.cl 0 (d := k1) rfl).1 (cc.cl 0 (d := k1) rfl).2 (by decide +kernel) (He.glo_ok X G (c.fact 43 (f := .glo "Refused") rfl)) rfl rfl).no
    em1_1 := He.exm_ok (c.fact 44 (f := .exm "Refused" "Refused" true) rfl)
  }
end LW
open PySem PySem.W PySem.Calls PyProof.Rows
theorem PySem.Challenge.cw_fairanyprice_k86_the_case_of_counsel_holds : PySem.Challenge.rw_fairanyprice_k86_the_case_of_counsel.Holds := by
  w_on; o_law
  refine HandSHeadRun.head_any (r := LW.theRow) (q := view LW.theRow.prog [33]) (H := LW.theHook) (ob := LW.seen)
    (M := 8000) (loose := ((["OwnError", "Refused", "step_at", "row_steps", "row_tasks", "ends_behind", "ends_of", "least_cost", "entries_at", "number_among", "counsel_step", "counsel_book", "costs_within", "counsel_case", "counsel_paid", "_law_box", "_law_take", "_law_pick", "_law_same", "_law_closed", "_law_service", "_law_crowd_case", "_law_player", "_law_counsel", "_law_drawn_row", "_law_lots_paid", "_law_tried", "_law_spoilt"] : List PySem.Str)))
    (d := HandSHeadRun.topDef LW.theRow.prog 33) (kwd := []) LW.seen_eq
    (by kernel_rfl) (fun s => by kernel_rfl) LW.runs (by kernel_rfl) (by kernel_rfl) (by kernel_rfl)
    (by rfl) (by first | assumption | decide +kernel) (by decide +kernel)
    ⟨rfl, rfl, rfl, rfl, rfl, by decide +kernel⟩ ?hw ?hc
  case hw => w_witness2
  case hc =>
    refine L2.walk_ofE (l := PySem.Challenge.rw_fairanyprice_k86_the_case_of_counsel) (n := 63) (k := 41) (x := "script")
      (CX := fun o H s E u s' => ∃ w, L2.CX PySem.Challenge.rw_fairanyprice_k86_the_case_of_counsel.prog w o H s E u s')
      rfl (by decide) (by kernel_rfl) ⟨rfl, by decide, by decide⟩ ?F (fun _ _ _ _ ⟨_, _, _, _, _, _, _, _, _, _, _, _, _, z⟩ => z)
    intro w mg fa h Y G hmg0
    obtain ⟨K, KX, c⟩ := Y
    obtain ⟨fd, T⟩ := LW.dn (w := w) KX G c
    have hmg : mg ("law" : PySem.Str) = some (.ref fa) := by
      have e : (HandSHeadRun.topDef LW.theRow.prog 33).name = ("law" : PySem.Str) := by kernel_rfl
      rw [← e]; exact hmg0
    have e := hmg.symm.trans T.m33
    injection e with e
    injection e with e
    subst e
    refine ⟨K, fd 33, EV.Prom ⟨LW.g0 K, K⟩ LW.mask_33 LW.c_33, KX, fun s u => ?_, fun H a ns hl _ hS => ?_, fun base _ _ => ?_⟩
    · exact L2.FunD.bindsA (ps := ["script"]) T.f33 (fun _ _ _ _ _ _ us hl => match us, hl with | [_], _ => rfl) s [u] rfl
    · obtain ⟨fin, hp⟩ := LW.plain ns hl
      refine ⟨rfl, H, [], [.scr ns], EV.ROs.consZ (.scr hS) .nil, List.nodup_nil, (fun _ z => nomatch z), (fun _ _ z => z), ?_⟩
      rw [hp]
      exact fun v F' H' q r ro _ _ _ _ _ => ro.bl_inv
    · exact EV.weakCX (fun o H s E u s' z => ⟨w, z⟩) (LW.ok_33 T)
