import PyProof.Rows.All
import HandS.ForMost
import HandS.Deep
import HandS.IsInst
import HandS.Zip
import HandS.TupAny
import HandS.Conv
import HandS.Style
import HandS.Flow
import HandS.Exc
import HandS.Wide
import HandS.CallSlots
import HandS.Defaults
import HandS.List
import HandS.ExcInit
import HandS.ExcField
import HandS.ExcSuper
import HandS.TryOnly
import KE.KExcSuper
import KE.KSuper
import HandS.ExcIs
import HandS.HeadHook2
import KE.GoesMore
import KE.KExcIs
import Wide.All
import OpenK.AllK
import Wide.FinOn
import KE.KStateDown
import Lean
import HandS.Base
import HandS.Call
import HandS.Ends
import HandS.More
import HandS.Words
import HandS.WordsExc
import HandS.Head0
import HandS.Head1
import HandS.Head2
import HandS.HeadEnd
import HandS.HeadHook1
import PySem.Challenge.RW_fairanyprice_k71_what_is_a_source
set_option Elab.async false
set_option linter.all false
set_option maxRecDepth 100000
set_option maxHeartbeats 0
/-! EvA: the data of the plain reading, what it stands for on the heap. -/
namespace EV
open PySem PySem.Spec PyProof.Rows L2

/-- plain data: a list or a dict bears a flag: true, it is its holder's alone and may be written; false, it is shared and never written again -/
inductive D where
  | non | bl (b : Bool) | int (i : Int) | str (s : Str)
  | tup (xs : List D) | lst (o : Bool) (xs : List D) | scr (ns : List Int)
  | dk (o : Bool) (kvs : List (Key × D)) | dt (o : Bool) (kvs : List (List Key × D)) | fn (i : Nat)
instance : Inhabited D := ⟨.non⟩

mutual
/-- shared from now on -/
def frz : D → D
  | .tup xs => .tup (frzs xs)
  | .lst _ xs => .lst false (frzs xs)
  | .dk _ kvs => .dk false kvs
  | .dt _ kvs => .dt false kvs
  | d => d
def frzs : List D → List D
  | [] => []
  | d :: ds => frz d :: frzs ds
end
mutual
/-- nothing in it may be written -/
def fz : D → Bool
  | .tup xs => fzs xs
  | .lst o xs => !o && fzs xs
  | .dk o _ => !o
  | .dt o _ => !o
  | _ => true
def fzs : List D → Bool
  | [] => true
  | d :: ds => fz d && fzs ds
end
mutual
theorem frz_of : ∀ d : D, fz d = true → frz d = d
  | .non, _ => rfl
  | .bl _, _ => rfl
  | .int _, _ => rfl
  | .str _, _ => rfl
  | .scr _, _ => rfl
  | .fn _, _ => rfl
  | .tup xs, h => congrArg D.tup (frzs_of xs h)
  | .lst o xs, h => by
    have h2 : (!o && fzs xs) = true := h
    rw [Bool.and_eq_true] at h2
    show D.lst false (frzs xs) = D.lst o xs
    rw [frzs_of xs h2.2]
    cases o
    · rfl
    · exact absurd h2.1 (by decide)
  | .dk o kvs, h => by
    cases o
    · rfl
    · cases h
  | .dt o kvs, h => by
    cases o
    · rfl
    · cases h
theorem frzs_of : ∀ ds : List D, fzs ds = true → frzs ds = ds
  | [], _ => rfl
  | d :: ds, h => by
    have h2 : (fz d && fzs ds) = true := h
    rw [Bool.and_eq_true] at h2
    show frz d :: frzs ds = d :: ds
    rw [frz_of d h2.1, frzs_of ds h2.2]
end
mutual
theorem fz_frz : ∀ d : D, fz (frz d) = true
  | .non => rfl
  | .bl _ => rfl
  | .int _ => rfl
  | .str _ => rfl
  | .scr _ => rfl
  | .fn _ => rfl
  | .tup xs => fzs_frzs xs
  | .lst o xs => by
    show (!false && fzs (frzs xs)) = true
    rw [fzs_frzs xs]; rfl
  | .dk o kvs => rfl
  | .dt o kvs => rfl
theorem fzs_frzs : ∀ ds : List D, fzs (frzs ds) = true
  | [] => rfl
  | d :: ds => by
    show (fz (frz d) && fzs (frzs ds)) = true
    rw [fz_frz d, fzs_frzs ds]; rfl
end
theorem frzs_map : ∀ ds : List D, frzs ds = ds.map frz
  | [] => rfl
  | d :: ds => by
    show frz d :: frzs ds = _
    rw [frzs_map ds]; rfl
theorem fzs_all : ∀ ds : List D, fzs ds = ds.all fz
  | [] => rfl
  | d :: ds => by
    show (fz d && fzs ds) = _
    rw [fzs_all ds]; rfl

/-! ### what data stand for -/
/-- global facts that data lean on: the functions by number -/
structure GF where
  fa : Nat → Addr
  ca : Nat → Addr
  xn : Nat → Str
structure GI extends GF where
  K : PySem.W.Frag

mutual
/-- v is d: F the shared heap, H all of it; the list: whose alone -/
inductive RO (G : GI) (F H : Hp) : List Addr → V → D → Prop
  | non : RO G F H [] .non .non
  | bl (b : Bool) : RO G F H [] (.bl b) (.bl b)
  | int (i : Int) : RO G F H [] (.int i) (.int i)
  | str (s : Str) : RO G F H [] (.str s) (.str s)
  | tup {a : Addr} {vs : List V} {ds : List D} {fs : List Addr} : F a = some (.tup vs) → ROs G F H fs vs ds → RO G F H fs (.ref a) (.tup ds)
  | lz {a : Addr} {vs : List V} {ds : List D} : F a = some (.lst vs) → ROs G F H [] vs ds → RO G F H [] (.ref a) (.lst false ds)
  | lo {a : Addr} {vs : List V} {ds : List D} {fs : List Addr} : H a = some (.lst vs) → ROs G F H fs vs ds → RO G F H (a :: fs) (.ref a) (.lst true ds)
  | scr {a : Addr} {ns : List Int} : SqL G.K F a (ns.map V.int) → RO G F H [] (.ref a) (.scr ns)
  | dkz {a : Addr} {kvs : List (Key × V)} {kds : List (Key × D)} : F a = some (.dK kvs) → kvs.map (·.1) = kds.map (·.1) → ROs G F H [] (kvs.map (·.2)) (kds.map (·.2)) → RO G F H [] (.ref a) (.dk false kds)
  | dko {a : Addr} {kvs : List (Key × V)} {kds : List (Key × D)} : H a = some (.dK kvs) → kvs.map (·.1) = kds.map (·.1) → ROs G F H [] (kvs.map (·.2)) (kds.map (·.2)) → RO G F H [a] (.ref a) (.dk true kds)
  | dtz {a : Addr} {kvs : List (List Key × V)} {kds : List (List Key × D)} : F a = some (.dT kvs) → kvs.map (·.1) = kds.map (·.1) → ROs G F H [] (kvs.map (·.2)) (kds.map (·.2)) → RO G F H [] (.ref a) (.dt false kds)
  | dto {a : Addr} {kvs : List (List Key × V)} {kds : List (List Key × D)} : H a = some (.dT kvs) → kvs.map (·.1) = kds.map (·.1) → ROs G F H [] (kvs.map (·.2)) (kds.map (·.2)) → RO G F H [a] (.ref a) (.dt true kds)
  | fn (i : Nat) : RO G F H [] (.ref (G.fa i)) (.fn i)
inductive ROs (G : GI) (F H : Hp) : List Addr → List V → List D → Prop
  | nil : ROs G F H [] [] []
  | cons {f fs : List Addr} {v : V} {vs : List V} {d : D} {ds : List D} : RO G F H f v d → ROs G F H fs vs ds → ROs G F H (f ++ fs) (v :: vs) (d :: ds)
end
section
variable {G : GI} {F H F' H' : Hp}
theorem SqL.le {K : PySem.W.Frag} {a : Addr} {xs : List V} (h : SqL K F a xs) (hF : ∀ a o, F a = some o → F' a = some o) : SqL K F' a xs := by
  rcases h with (h | ⟨o, h⟩) | h
  · exact .inl (.inl (hF _ _ h))
  · exact .inl (.inr ⟨o, hF _ _ h⟩)
  · exact .inr h
mutual
theorem RO.mono (hF : ∀ a o, F a = some o → F' a = some o) : ∀ {p : List Addr} {v : V} {d : D}, RO G F H p v d → (∀ a, a ∈ p → ∀ o, H a = some o → H' a = some o) → RO G F' H' p v d
  | _, _, _, .non, _ => .non
  | _, _, _, .bl b, _ => .bl b
  | _, _, _, .int i, _ => .int i
  | _, _, _, .str i, _ => .str i
  | _, _, _, .fn i, _ => .fn i
  | _, _, _, .tup e r, h => .tup (hF _ _ e) (ROs.mono hF r h)
  | _, _, _, .lz e r, h => .lz (hF _ _ e) (ROs.mono hF r fun a z => nomatch z)
  | _, _, _, .lo e r, h => .lo (h _ (List.mem_cons_self ..) _ e) (ROs.mono hF r fun a z => h a (List.mem_cons_of_mem _ z))
  | _, _, _, .scr e, _ => .scr (SqL.le e hF)
  | _, _, _, .dkz e k r, h => .dkz (hF _ _ e) k (ROs.mono hF r fun a z => nomatch z)
  | _, _, _, .dko e k r, h => .dko (h _ (List.mem_cons_self ..) _ e) k (ROs.mono hF r fun a z => nomatch z)
  | _, _, _, .dtz e k r, h => .dtz (hF _ _ e) k (ROs.mono hF r fun a z => nomatch z)
  | _, _, _, .dto e k r, h => .dto (h _ (List.mem_cons_self ..) _ e) k (ROs.mono hF r fun a z => nomatch z)
theorem ROs.mono (hF : ∀ a o, F a = some o → F' a = some o) : ∀ {p : List Addr} {v : List V} {d : List D}, ROs G F H p v d → (∀ a, a ∈ p → ∀ o, H a = some o → H' a = some o) → ROs G F' H' p v d
  | _, _, _, .nil, _ => .nil
  | _, _, _, .cons r rs, h => .cons (RO.mono hF r fun a z => h a (List.mem_append_left _ z)) (ROs.mono hF rs fun a z => h a (List.mem_append_right _ z))
end
theorem RO.monoZ (hF : ∀ a o, F a = some o → F' a = some o) {v : V} {d : D} (r : RO G F H [] v d) : RO G F' H' [] v d := r.mono hF fun a z => nomatch z
theorem ROs.monoZ (hF : ∀ a o, F a = some o → F' a = some o) {v : List V} {d : List D} (r : ROs G F H [] v d) : ROs G F' H' [] v d := r.mono hF fun a z => nomatch z
theorem RO.cast {p q : List Addr} {v : V} {d : D} (r : RO G F H p v d) (e : p = q) : RO G F H q v d := e ▸ r
theorem ROs.cast {p q : List Addr} {v : List V} {d : List D} (r : ROs G F H p v d) (e : p = q) : ROs G F H q v d := e ▸ r
mutual
/-- all of it becomes shared -/
theorem RO.frz (hF : ∀ a o, F a = some o → F' a = some o) : ∀ {p : List Addr} {v : V} {d : D}, RO G F H p v d → (∀ a, a ∈ p → ∀ o, H a = some o → F' a = some o) → RO G F' H' [] v (frz d)
  | _, _, _, .non, _ => .non
  | _, _, _, .bl b, _ => .bl b
  | _, _, _, .int i, _ => .int i
  | _, _, _, .str i, _ => .str i
  | _, _, _, .fn i, _ => .fn i
  | _, _, _, .tup e r, h => .tup (hF _ _ e) (ROs.frz hF r h)
  | _, _, _, .lz e r, h => .lz (hF _ _ e) (ROs.frz hF r fun a z => nomatch z)
  | _, _, _, .lo e r, h => .lz (h _ (List.mem_cons_self ..) _ e) (ROs.frz hF r fun a z => h a (List.mem_cons_of_mem _ z))
  | _, _, _, .scr e, _ => .scr (SqL.le e hF)
  | _, _, _, .dkz e k r, h => .dkz (hF _ _ e) k (r.monoZ hF)
  | _, _, _, .dko e k r, h => .dkz (h _ (List.mem_cons_self ..) _ e) k (r.monoZ hF)
  | _, _, _, .dtz e k r, h => .dtz (hF _ _ e) k (r.monoZ hF)
  | _, _, _, .dto e k r, h => .dtz (h _ (List.mem_cons_self ..) _ e) k (r.monoZ hF)
theorem ROs.frz (hF : ∀ a o, F a = some o → F' a = some o) : ∀ {p : List Addr} {v : List V} {d : List D}, ROs G F H p v d → (∀ a, a ∈ p → ∀ o, H a = some o → F' a = some o) → ROs G F' H' [] v (frzs d)
  | _, _, _, .nil, _ => .nil
  | _, _, _, .cons r rs, h => .cons (RO.frz hF r fun a z => h a (List.mem_append_left _ z)) (ROs.frz hF rs fun a z => h a (List.mem_append_right _ z))
end
mutual
theorem RO.nil_of_fz : ∀ {p : List Addr} {v : V} {d : D}, RO G F H p v d → fz d = true → p = []
  | _, _, _, .non, _ => rfl
  | _, _, _, .bl b, _ => rfl
  | _, _, _, .int i, _ => rfl
  | _, _, _, .str i, _ => rfl
  | _, _, _, .fn i, _ => rfl
  | _, _, _, .tup e r, h => ROs.nil_of_fz r h
  | _, _, _, .lz e r, h => rfl
  | _, _, _, .lo e r, h => by cases h
  | _, _, _, .scr e, _ => rfl
  | _, _, _, .dkz e k r, h => rfl
  | _, _, _, .dko e k r, h => by cases h
  | _, _, _, .dtz e k r, h => rfl
  | _, _, _, .dto e k r, h => by cases h
theorem ROs.nil_of_fz : ∀ {p : List Addr} {v : List V} {d : List D}, ROs G F H p v d → fzs d = true → p = []
  | _, _, _, .nil, _ => rfl
  | _, _, _, .cons (d := d) (ds := ds) r rs, h => by
    have h2 : (fz d && fzs ds) = true := h
    rw [Bool.and_eq_true] at h2
    rw [RO.nil_of_fz r h2.1, ROs.nil_of_fz rs h2.2]; rfl
end
mutual
theorem RO.fz_of_nil : ∀ {p : List Addr} {v : V} {d : D}, RO G F H p v d → p = [] → fz d = true
  | _, _, _, .non, _ => rfl
  | _, _, _, .bl b, _ => rfl
  | _, _, _, .int i, _ => rfl
  | _, _, _, .str i, _ => rfl
  | _, _, _, .fn i, _ => rfl
  | _, _, _, .tup e r, h => ROs.fz_of_nil r h
  | _, _, _, .lz (ds := ds) e r, h => by
    show (!false && fzs ds) = true
    rw [ROs.fz_of_nil r rfl]; rfl
  | _, _, _, .lo e r, h => by cases h
  | _, _, _, .scr e, _ => rfl
  | _, _, _, .dkz e k r, h => rfl
  | _, _, _, .dko e k r, h => by cases h
  | _, _, _, .dtz e k r, h => rfl
  | _, _, _, .dto e k r, h => by cases h
theorem ROs.fz_of_nil : ∀ {p : List Addr} {v : List V} {d : List D}, ROs G F H p v d → p = [] → fzs d = true
  | _, _, _, .nil, _ => rfl
  | _, _, _, .cons (d := d) (ds := ds) r rs, h => by
    have h2 := List.append_eq_nil_iff.mp h
    show (fz d && fzs ds) = true
    rw [RO.fz_of_nil r h2.1, ROs.fz_of_nil rs h2.2]; rfl
end
theorem RO.z {v : V} {d : D} (r : RO G F H [] v d) : EV.frz d = d := frz_of d (r.fz_of_nil rfl)
theorem ROs.z {v : List V} {d : List D} (r : ROs G F H [] v d) : frzs d = d := frzs_of d (r.fz_of_nil rfl)
mutual
/-- what is one's own is tracked -/
theorem RO.there : ∀ {p : List Addr} {v : V} {d : D}, RO G F H p v d → ∀ a, a ∈ p → ∃ o, H a = some o
  | _, _, _, .non, _, z => nomatch z
  | _, _, _, .bl b, _, z => nomatch z
  | _, _, _, .int i, _, z => nomatch z
  | _, _, _, .str i, _, z => nomatch z
  | _, _, _, .fn i, _, z => nomatch z
  | _, _, _, .tup e r, a, z => ROs.there r a z
  | _, _, _, .lz e r, _, z => nomatch z
  | _, _, _, .lo e r, a, z => by
    rcases List.mem_cons.mp z with q | q
    · exact q ▸ ⟨_, e⟩
    · exact ROs.there r a q
  | _, _, _, .scr e, _, z => nomatch z
  | _, _, _, .dkz e k r, _, z => nomatch z
  | _, _, _, .dko e k r, a, z => by
    rcases List.mem_cons.mp z with q | q
    · exact q ▸ ⟨_, e⟩
    · cases q
  | _, _, _, .dtz e k r, _, z => nomatch z
  | _, _, _, .dto e k r, a, z => by
    rcases List.mem_cons.mp z with q | q
    · exact q ▸ ⟨_, e⟩
    · cases q
theorem ROs.there : ∀ {p : List Addr} {v : List V} {d : List D}, ROs G F H p v d → ∀ a, a ∈ p → ∃ o, H a = some o
  | _, _, _, .nil, _, z => nomatch z
  | _, _, _, .cons r rs, a, z => (List.mem_append.mp z).elim (RO.there r a) (ROs.there rs a)
end
theorem ROs.length : ∀ {p : List Addr} {v : List V} {d : List D}, ROs G F H p v d → v.length = d.length
  | _, _, _, .nil => rfl
  | _, _, _, .cons r rs => congrArg (· + 1) (ROs.length rs)
theorem ROs.inv {p : List Addr} {v : V} {vs : List V} {d : D} {ds : List D} (r : ROs G F H p (v :: vs) (d :: ds)) : ∃ f fs, p = f ++ fs ∧ RO G F H f v d ∧ ROs G F H fs vs ds := by
  cases r with
  | cons r rs => exact ⟨_, _, rfl, r, rs⟩
theorem ROs.invD {p : List Addr} {vs : List V} {d : D} {ds : List D} (r : ROs G F H p vs (d :: ds)) : ∃ v ws f fs, vs = v :: ws ∧ p = f ++ fs ∧ RO G F H f v d ∧ ROs G F H fs ws ds := by
  cases r with
  | cons r rs => exact ⟨_, _, _, _, rfl, rfl, r, rs⟩
theorem ROs.invN {p : List Addr} {vs : List V} (r : ROs G F H p vs []) : vs = [] ∧ p = [] := by
  cases r
  exact ⟨rfl, rfl⟩
theorem ROs.unconsZ {v : V} {vs : List V} {d : D} {ds : List D} (r : ROs G F H [] (v :: vs) (d :: ds)) : RO G F H [] v d ∧ ROs G F H [] vs ds := by
  obtain ⟨f, fs, e, r1, r2⟩ := r.inv
  obtain ⟨e1, e2⟩ := List.append_eq_nil_iff.mp e.symm
  subst e1 e2
  exact ⟨r1, r2⟩
theorem ROs.get : ∀ {d : List D} {v : List V} {i : Nat} {x : D}, ROs G F H [] v d → d[i]? = some x → ∃ u, v[i]? = some u ∧ RO G F H [] u x
  | [], _, _, _, _, h => by simp at h
  | d :: ds, [], _, _, r, _ => nomatch (r.length)
  | d :: ds, v :: vs, 0, x, r, h => by
    simp at h; subst h
    exact ⟨v, by simp, r.unconsZ.1⟩
  | d :: ds, v :: vs, i + 1, x, r, h => by
    obtain ⟨u, h1, h2⟩ := ROs.get (i := i) (x := x) r.unconsZ.2 (by simpa using h)
    exact ⟨u, by simpa using h1, h2⟩
theorem ROs.consZ {v : V} {vs : List V} {d : D} {ds : List D} (r : RO G F H [] v d) (rs : ROs G F H [] vs ds) : ROs G F H [] (v :: vs) (d :: ds) := ROs.cons r rs
theorem ROs.append : ∀ {p q : List Addr} {v w : List V} {d e : List D}, ROs G F H p v d → ROs G F H q w e → ROs G F H (p ++ q) (v ++ w) (d ++ e)
  | _, _, _, _, _, _, .nil, s => s
  | _, _, _, _, _, _, .cons r rs, s => (ROs.cons r (ROs.append rs s)).cast (List.append_assoc ..).symm
theorem ROs.one {p : List Addr} {v : V} {d : D} (r : RO G F H p v d) : ROs G F H p [v] [d] := (ROs.cons r .nil).cast (List.append_nil _)
end
end EV

/-! EvB: the state, its steps, the readings. -/
namespace EV
open PySem PySem.Spec PyProof.Rows L2

abbrev DEnv := List (Option D)
/-- how an expression ends, a statement, a call -/
inductive RE where
  | ok (d : D) (e : DEnv) | ex (c : Nat) (d : D) (e : DEnv) | no
inductive RS where
  | nx (e : DEnv) | rt (d : D) (e : DEnv) | bk (e : DEnv) | ct (e : DEnv) | ex (c : Nat) (d : D) (e : DEnv) | no
inductive RC where
  | ok (d : D) (fin : List D) | ex (c : Nat) (d : D) (fin : List D) | no
abbrev ME := DEnv → RE
abbrev MS := DEnv → RS

def own (fp : Nat → List Addr) (a : Addr) : Prop := ∃ i, a ∈ fp i
structure SO (G : GI) (F H : Hp) (fp : Nat → List Addr) (σ : L2.St) (e : DEnv) : Prop where
  sub : ∀ a o, F a = some o → H a = some o
  rep : ∀ i d, e[i]? = some (some d) → ∃ v, σ[i]? = some (some v) ∧ RO G F H (fp i) v d
  nd : ∀ i, (fp i).Nodup
  dj : ∀ i j a, a ∈ fp i → a ∈ fp j → i = j
  sep : ∀ i a, a ∈ fp i → F a = none
  th : ∀ i a, a ∈ fp i → ∃ o, H a = some o
  len : σ.length = e.length
structure Tr (F H : Hp) (O : Addr → Prop) (F' H' : Hp) (O' : Addr → Prop) : Prop where
  ff : ∀ a o, F a = some o → F' a = some o
  fr : ∀ a o, ¬ O a → H a = some o → H' a = some o
  ow : ∀ a, O' a → O a ∨ H a = none
  fz : ∀ a o, F' a = some o → F a = some o ∨ O a ∨ H a = none
structure TO (G : GI) (F H : Hp) (fp : Nat → List Addr) (p : List Addr) (v : V) (d : D) : Prop where
  r : RO G F H p v d
  nd : p.Nodup
  sep : ∀ a, a ∈ p → F a = none
  dj : ∀ a, a ∈ p → ¬ own fp a
structure TOs (G : GI) (F H : Hp) (fp : Nat → List Addr) (p : List Addr) (v : List V) (d : List D) : Prop where
  r : ROs G F H p v d
  nd : p.Nodup
  sep : ∀ a, a ∈ p → F a = none
  dj : ∀ a, a ∈ p → ¬ own fp a
section
variable {G : GI} {F H F1 H1 F2 H2 : Hp} {O O1 O2 : Addr → Prop} {fp fp1 fp2 : Nat → List Addr} {p q : List Addr} {v : V} {d : D} {vs : List V} {ds : List D} {σ : L2.St} {e : DEnv}
theorem Tr.refl : Tr F H O F H O := ⟨fun _ _ h => h, fun _ _ _ h => h, fun _ h => .inl h, fun _ _ h => .inl h⟩
theorem Tr.trans (a : Tr F H O F1 H1 O1) (b : Tr F1 H1 O1 F2 H2 O2) : Tr F H O F2 H2 O2 where
  ff := fun c o h => b.ff c o (a.ff c o h)
  fr := fun c o n h => by
    refine b.fr c o (fun z => ?_) (a.fr c o n h)
    rcases a.ow c z with q | q
    · exact n q
    · rw [h] at q; cases q
  ow := fun c h => by
    rcases b.ow c h with q | q
    · exact a.ow c q
    · by_cases z : O c
      · exact .inl z
      · cases r : H c with
        | none => exact .inr rfl
        | some o =>
          have := a.fr c o z r
          rw [q] at this; cases this
  fz := fun c o h => by
    rcases b.fz c o h with q | q | q
    · exact a.fz c o q
    · exact .inr (a.ow c q)
    · by_cases z : O c
      · exact .inr (.inl z)
      · cases r : H c with
        | none => exact .inr (.inr rfl)
        | some o =>
          have := a.fr c o z r
          rw [q] at this; cases this
theorem Tr.weak {P P1 : Addr → Prop} (a : Tr F H O F1 H1 O1) (h : ∀ c, O c → P c) (h1 : ∀ c, P1 c → O1 c ∨ P c) : Tr F H P F1 H1 P1 :=
  ⟨a.ff, fun c o n => a.fr c o fun z => n (h c z), fun c z => (h1 c z).elim (fun z => (a.ow c z).imp (h c) id) .inl, fun c o z => (a.fz c o z).imp id (Or.imp (h c) id)⟩
theorem Tr.drop {P1 : Addr → Prop} (a : Tr F H O F1 H1 O1) (h1 : ∀ c, P1 c → O1 c) : Tr F H O F1 H1 P1 := a.weak (fun _ z => z) fun c z => .inl (h1 c z)
/-- a value held meanwhile -/
theorem TO.keep (t : TO G F H fp p v d) (a : Tr F H (own fp) F1 H1 O1) (h : ∀ c, own fp1 c → O1 c) : TO G F1 H1 fp1 p v d where
  r := t.r.mono a.ff fun c z o => a.fr c o (t.dj c z)
  nd := t.nd
  sep := fun c z => by
    cases r : F1 c with
    | none => rfl
    | some o =>
      obtain ⟨u, hu⟩ := t.r.there c z
      rcases a.fz c o r with q | q | q
      · rw [t.sep c z] at q; cases q
      · exact absurd q (t.dj c z)
      · rw [hu] at q; cases q
  dj := fun c z w => by
    obtain ⟨u, hu⟩ := t.r.there c z
    rcases a.ow c (h c w) with q | q
    · exact t.dj c z q
    · rw [hu] at q; cases q
theorem TOs.keep (t : TOs G F H fp p vs ds) (a : Tr F H (own fp) F1 H1 O1) (h : ∀ c, own fp1 c → O1 c) : TOs G F1 H1 fp1 p vs ds where
  r := t.r.mono a.ff fun c z o => a.fr c o (t.dj c z)
  nd := t.nd
  sep := fun c z => by
    cases r : F1 c with
    | none => rfl
    | some o =>
      obtain ⟨u, hu⟩ := t.r.there c z
      rcases a.fz c o r with q | q | q
      · rw [t.sep c z] at q; cases q
      · exact absurd q (t.dj c z)
      · rw [hu] at q; cases q
  dj := fun c z w => by
    obtain ⟨u, hu⟩ := t.r.there c z
    rcases a.ow c (h c w) with q | q
    · exact t.dj c z q
    · rw [hu] at q; cases q
/-- what is not held either -/
theorem TO.apart (t : TO G F H fp p v d) (a : Tr F H (own fp) F1 H1 O1) (h : ∀ c, c ∈ q → O1 c) : ∀ c, c ∈ p → c ∈ q → False := fun c z w => by
  obtain ⟨u, hu⟩ := t.r.there c z
  rcases a.ow c (h c w) with r | r
  · exact t.dj c z r
  · rw [hu] at r; cases r
theorem TOs.apart (t : TOs G F H fp p vs ds) (a : Tr F H (own fp) F1 H1 O1) (h : ∀ c, c ∈ q → O1 c) : ∀ c, c ∈ p → c ∈ q → False := fun c z w => by
  obtain ⟨u, hu⟩ := t.r.there c z
  rcases a.ow c (h c w) with r | r
  · exact t.dj c z r
  · rw [hu] at r; cases r
/-- shared heap with one's own too -/
def addF (F H : Hp) (p : List Addr) : Hp := fun a => if a ∈ p then H a else F a
theorem addF_le (hs : ∀ a, a ∈ p → F a = none) : ∀ a o, F a = some o → addF F H p a = some o := fun a o h => by
  unfold addF
  split
  · rename_i z; rw [hs a z] at h; cases h
  · exact h
theorem addF_at : ∀ a, a ∈ p → ∀ o, H a = some o → addF F H p a = some o := fun a z o h => by
  unfold addF; rw [if_pos z]; exact h
theorem addF_sub (hF : ∀ a o, F a = some o → H a = some o) : ∀ a o, addF F H p a = some o → H a = some o := fun a o h => by
  unfold addF at h
  split at h
  · exact h
  · exact hF a o h
/-- a value becomes shared: the state then -/
theorem SO.share (s : SO G F H fp σ e) (hp : ∀ a, a ∈ p → F a = none) (hd : ∀ a, a ∈ p → ¬ own fp a) : SO G (addF F H p) H fp σ e where
  sub := addF_sub s.sub
  rep := fun i d h => by
    obtain ⟨v, h1, r⟩ := s.rep i d h
    exact ⟨v, h1, r.mono (addF_le hp) fun _ _ _ z => z⟩
  nd := s.nd
  dj := s.dj
  sep := fun i a z => by
    unfold addF
    rw [if_neg fun w => hd a w ⟨i, z⟩]
    exact s.sep i a z
  th := s.th
  len := s.len
theorem TO.share (t : TO G F H fp p v d) : RO G (addF F H p) H [] v (frz d) := t.r.frz (addF_le t.sep) fun a z o => addF_at a z o
theorem Tr.share (hp : ∀ a, a ∈ p → F a = none) : Tr F H (fun a => O a ∨ a ∈ p) (addF F H p) H O where
  ff := addF_le hp
  fr := fun _ _ _ h => h
  ow := fun _ h => .inl (.inl h)
  fz := fun a o h => by
    unfold addF at h
    split at h
    · rename_i z; exact .inr (.inl (.inr z))
    · exact .inl h
theorem TO.z {v : V} {d : D} (r : RO G F H [] v d) : TO G F H fp [] v d := ⟨r, List.nodup_nil, fun _ z => (nomatch z), fun _ z => (nomatch z)⟩
theorem TOs.z {v : List V} {d : List D} (r : ROs G F H [] v d) : TOs G F H fp [] v d := ⟨r, List.nodup_nil, fun _ z => (nomatch z), fun _ z => (nomatch z)⟩

/-! ### slots -/
/-- a slot's content becomes shared -/
theorem SO.shareAt {i : Nat} {d : D} (s : SO G F H fp σ e) (h : e[i]? = some (some d)) : SO G (addF F H (fp i)) H (fun j => if j = i then [] else fp j) σ (e.set i (some (frz d))) where
  sub := addF_sub s.sub
  rep := fun j x hx => by
    by_cases hj : j = i
    · subst hj
      have hi : j < e.length := (List.getElem?_eq_some_iff.mp h).1
      rw [List.getElem?_set_self hi] at hx
      cases hx
      obtain ⟨v, h1, r⟩ := s.rep j d h
      refine ⟨v, h1, ?_⟩
      rw [if_pos rfl]
      exact r.frz (addF_le (s.sep j)) fun a z o => addF_at a z o
    · rw [List.getElem?_set_ne (Ne.symm hj)] at hx
      obtain ⟨v, h1, r⟩ := s.rep j x hx
      refine ⟨v, h1, ?_⟩
      rw [if_neg hj]
      exact r.mono (addF_le (s.sep i)) fun _ _ _ z => z
  nd := fun j => by
    split
    · exact List.nodup_nil
    · exact s.nd j
  dj := fun j k a h1 h2 => by
    split at h1
    · cases h1
    · split at h2
      · cases h2
      · exact s.dj j k a h1 h2
  sep := fun j a z => by
    split at z
    · cases z
    · rename_i hj
      unfold addF
      rw [if_neg fun w => hj (s.dj j i a z w)]
      exact s.sep j a z
  th := fun j a z => by
    split at z
    · cases z
    · exact s.th j a z
  len := by rw [List.length_set]; exact s.len
theorem Tr.shareAt {i : Nat} (hp : ∀ a, a ∈ fp i → F a = none) : Tr F H (own fp) (addF F H (fp i)) H (own fun j => if j = i then [] else fp j) where
  ff := addF_le hp
  fr := fun _ _ _ h => h
  ow := fun a ⟨j, h⟩ => by
    dsimp only at h
    split at h
    · cases h
    · exact .inl ⟨j, h⟩
  fz := fun a o h => by
    unfold addF at h
    split at h
    · rename_i z; exact .inr (.inl ⟨i, z⟩)
    · exact .inl h
/-- a slot is forgotten -/
theorem SO.forget {i : Nat} (s : SO G F H fp σ e) : SO G F H (fun j => if j = i then [] else fp j) σ (e.set i none) where
  sub := s.sub
  rep := fun j x hx => by
    by_cases hj : j = i
    · subst hj
      by_cases hi : j < e.length
      · rw [List.getElem?_set_self hi] at hx; cases hx
      · rw [List.getElem?_eq_none (by simpa using hi)] at hx; cases hx
    · rw [List.getElem?_set_ne (Ne.symm hj)] at hx
      obtain ⟨v, h1, r⟩ := s.rep j x hx
      exact ⟨v, h1, by rw [if_neg hj]; exact r⟩
  nd := fun j => by
    split
    · exact List.nodup_nil
    · exact s.nd j
  dj := fun j k a h1 h2 => by
    split at h1
    · cases h1
    · split at h2
      · cases h2
      · exact s.dj j k a h1 h2
  sep := fun j a z => by
    split at z
    · cases z
    · exact s.sep j a z
  th := fun j a z => by
    split at z
    · cases z
    · exact s.th j a z
  len := by rw [List.length_set]; exact s.len
/-- .. and handed on -/
theorem SO.take {i : Nat} {d : D} (s : SO G F H fp σ e) (h : e[i]? = some (some d)) : ∃ v, σ[i]? = some (some v) ∧ TO G F H (fun j => if j = i then [] else fp j) (fp i) v d := by
  obtain ⟨v, h1, r⟩ := s.rep i d h
  refine ⟨v, h1, r, s.nd i, s.sep i, fun a z ⟨j, w⟩ => ?_⟩
  dsimp only at w
  split at w
  · cases w
  · rename_i hj
    exact hj (s.dj j i a w z)
theorem own_take {i : Nat} : ∀ a, (own (fun j => if j = i then [] else fp j) a ∨ a ∈ fp i) → own fp a := fun a h => by
  rcases h with ⟨j, h⟩ | h
  · dsimp only at h
    split at h
    · cases h
    · exact ⟨j, h⟩
  · exact ⟨i, h⟩
/-- a value is stored in a slot -/
theorem SO.store {i : Nat} (s : SO G F H fp σ e) (t : TO G F H fp p v d) : SO G F H (fun j => if j = i then p else fp j) (σ.set i (some v)) (e.set i (some d)) where
  sub := s.sub
  rep := fun j x hx => by
    by_cases hj : j = i
    · subst hj
      have hl : j < e.length := by
        have := (List.getElem?_eq_some_iff.mp hx).1
        simpa using this
      rw [List.getElem?_set_self hl] at hx
      cases hx
      exact ⟨v, List.getElem?_set_self (by rw [s.len]; exact hl), by rw [if_pos rfl]; exact t.r⟩
    · rw [List.getElem?_set_ne (Ne.symm hj)] at hx
      obtain ⟨w, h1, r⟩ := s.rep j x hx
      exact ⟨w, by rw [List.getElem?_set_ne (Ne.symm hj)]; exact h1, by rw [if_neg hj]; exact r⟩
  nd := fun j => by
    split
    · exact t.nd
    · exact s.nd j
  dj := fun j k a h1 h2 => by
    split at h1
    · rename_i hj
      split at h2
      · rename_i hk; rw [hj, hk]
      · exact absurd ⟨k, h2⟩ (t.dj a h1)
    · split at h2
      · exact absurd ⟨j, h1⟩ (t.dj a h2)
      · exact s.dj j k a h1 h2
  sep := fun j a z => by
    split at z
    · exact t.sep a z
    · exact s.sep j a z
  th := fun j a z => by
    split at z
    · exact t.r.there a z
    · exact s.th j a z
  len := by rw [List.length_set, List.length_set]; exact s.len
theorem own_store {i : Nat} : ∀ a, own (fun j => if j = i then p else fp j) a → own fp a ∨ a ∈ p := fun a ⟨j, h⟩ => by
  dsimp only at h
  split at h
  · exact .inr h
  · exact .inl ⟨j, h⟩
end

/-! ### readings -/
abbrev gOf (X : Cx) (g : GF) : GI := ⟨g, X.K⟩
def RdE (G : GI) (W : WX) (m : ME) : TE := fun σ H Q => ∃ F fp e, SO G F H fp σ e ∧ match m e with
  | .ok d e' => ∀ v F' H' fp' p, SO G F' H' fp' σ e' → TO G F' H' fp' p v d → Tr F H (own fp) F' H' (fun a => own fp' a ∨ a ∈ p) → Q v H'
  | .ex c d e' => ∀ dx v F' H' fp' p, SO G F' H' fp' σ e' → TO G F' H' fp' p v d → Tr F H (own fp) F' H' (fun a => own fp' a ∨ a ∈ p) → H' dx = some (.xd [(G.xn c, v)]) → W (.ref (G.ca c)) (some dx) σ H'
  | .no => False
/-- .. its value shared -/
def RdZ (G : GI) (W : WX) (m : ME) : TE := fun σ H Q => ∃ F fp e, SO G F H fp σ e ∧ match m e with
  | .ok d e' => ∀ v F' H' fp', SO G F' H' fp' σ e' → RO G F' H' [] v (frz d) → Tr F H (own fp) F' H' (own fp') → Q v H'
  | .ex c d e' => ∀ dx v F' H' fp' p, SO G F' H' fp' σ e' → TO G F' H' fp' p v d → Tr F H (own fp) F' H' (fun a => own fp' a ∨ a ∈ p) → H' dx = some (.xd [(G.xn c, v)]) → W (.ref (G.ca c)) (some dx) σ H'
  | .no => False
theorem RdZ.to {G : GI} {W : WX} {m : ME} {σ : L2.St} {H : Hp} {Q : VK} (h : RdZ G W m σ H Q) : RdE G W m σ H Q := by
  obtain ⟨F, fp, e, s, h⟩ := h
  refine ⟨F, fp, e, s, ?_⟩
  cases q : m e with
  | ok d e' =>
    rw [q] at h
    intro v F' H' fp' p s' t tr
    exact h v (addF F' H' p) H' fp' (s'.share t.sep t.dj) t.share (tr.trans (Tr.share t.sep))
  | ex c d e' => rw [q] at h; exact h
  | no => rw [q] at h; exact h
theorem PE.imp {X : Cx} {e : Expr} {t u : TE} (h : PE X e t) (i : ∀ σ H Q, u σ H Q → t σ H Q) : PE X e u := ⟨fun pins s σ H Q I q => h.run pins s σ H Q I (i σ H Q q)⟩
theorem PT.imp {X : Cx} {e : Expr} {t u : TT} (h : PT X e t) (i : ∀ σ H Q, u σ H Q → t σ H Q) : PT X e u := ⟨fun pins s σ H Q I q => h.run pins s σ H Q I (i σ H Q q)⟩
theorem PA.imp {X : Cx} {e : List Expr} {t u : TA} (h : PA X e t) (i : ∀ σ H Q, u σ H Q → t σ H Q) : PA X e u := ⟨fun pos pins s σ H Q I q => h.run pos pins s σ H Q I (i σ H Q q)⟩
theorem PS.imp {X : Cx} {e : Stmt} {t u : TS} (h : PS X e t) (i : ∀ D σ H, u D σ H → t D σ H) : PS X e u := ⟨fun pins s σ H D I q => h.run pins s σ H D I (i D σ H q)⟩
theorem PSs.imp {X : Cx} {e : List Stmt} {t u : TS} (h : PSs X e t) (i : ∀ D σ H, u D σ H → t D σ H) : PSs X e u := ⟨fun pins s σ H D I q => h.run pins s σ H D I (i D σ H q)⟩
abbrev SE (X : Cx) (g : GF) (W : WX) (e : Expr) (m : ME) : Prop := PE X e (RdE (gOf X g) W m)
abbrev SZ (X : Cx) (g : GF) (W : WX) (e : Expr) (m : ME) : Prop := PE X e (RdZ (gOf X g) W m)
theorem SE.z {X : Cx} {g : GF} {W : WX} {e : Expr} {m : ME} (h : SE X g W e m) : SZ X g W e m := PE.imp h fun _ _ _ q => q.to

def RE.bind (r : RE) (k : D → DEnv → RE) : RE := match r with
  | .ok d e => k d e
  | .ex c d e => .ex c d e
  | .no => .no
@[simp] theorem RE.bind_ok {d e k} : (RE.ok d e).bind k = k d e := rfl
@[simp] theorem RE.bind_ex {c d e k} : (RE.ex c d e).bind k = .ex c d e := rfl
@[simp] theorem RE.bind_no {k} : RE.no.bind k = .no := rfl
def RE.of (o : Option D) (e : DEnv) : RE := match o with
  | some d => .ok d e
  | none => .no
@[simp] theorem RE.of_some {d e} : RE.of (some d) e = .ok d e := rfl
@[simp] theorem RE.of_none {e} : RE.of none e = .no := rfl
end EV

/-! EvC: operators by plain data, their readings. -/
namespace EV
open PySem PySem.Spec PyProof.Rows L2

/-! ### plain operators -/
def LIM : Nat := 1000000
theorem LIM_line {n : Nat} (h : n ≤ LIM) : n ≤ sizeLine := by rw [sizeLine_eq]; unfold LIM at h; omega
theorem LIM_lineS {n : Nat} (h : n ≤ LIM) : n < sizeLine := by rw [sizeLine_eq]; unfold LIM at h; omega
def mulOk (i j : Int) : Bool := Nat.ble i.natAbs 18446744073709551615 || (Nat.ble j.natAbs 18446744073709551615 || decide (i.natAbs.log2 + j.natAbs.log2 < 1000000))
def divOk (j : Int) : Bool := decide (j.natAbs < 1073741824) || decide (j.natAbs.log2 < 9000)
def addD : D → D → Option D
  | .int i, .int j => some (.int (i + j))
  | .lst _ xs, .lst _ ys => if xs.length + ys.length ≤ LIM then some (.lst true (xs ++ ys)) else none
  | .tup xs, .tup ys => if xs.length + ys.length ≤ LIM then some (.tup (xs ++ ys)) else none
  | _, _ => none
def subD : D → D → Option D
  | .int i, .int j => some (.int (i - j))
  | _, _ => none
def mulD : D → D → Option D
  | .int i, .int j => if mulOk i j then some (.int (i * j)) else none
  | .lst _ xs, .int k => if Nat.ble k.natAbs 9223372036854775807 = true ∧ xs.length * k.toNat ≤ LIM then some (.lst true (List.replicate k.toNat xs).flatten) else none
  | _, _ => none
def fdivD : D → D → Option D
  | .int i, .int j => if 0 < j then (if divOk j then some (.int (i / j)) else none) else if j = 0 then none else if divOk j then some (.int (i.fdiv j)) else none
  | _, _ => none
def modD : D → D → Option D
  | .int i, .int j => if 0 < j then some (.int (i % j)) else if j = 0 then none else some (.int (i.fmod j))
  | _, _ => none
def powD : D → D → Option D
  | .int i, .int j => if 0 ≤ j ∧ Nat.ble j.natAbs 1000000 = true ∧ Nat.ble i.natAbs 18446744073709551615 = true then some (.int (i ^ j.toNat)) else none
  | _, _ => none
def negD : D → Option D
  | .int i => some (.int (-i))
  | _ => none
def cmpD (f : Int → Int → Bool) : D → D → Option D
  | .int i, .int j => some (.bl (f i j))
  | _, _ => none
def isN : D → Bool
  | .non => true
  | _ => false
def isB (b : Bool) : D → Bool
  | .bl c => c == b
  | _ => false
/-! equality of data -/
mutual
def eqOk : Nat → D → Bool
  | 0, _ => false
  | n + 1, .tup xs => eqOks n xs
  | n + 1, .lst _ xs => eqOks n xs
  | n + 1, .str s => PyData.strOk s
  | n + 1, .non => true
  | n + 1, .bl _ => true
  | n + 1, .int _ => true
  | n + 1, _ => false
def eqOks : Nat → List D → Bool
  | _, [] => true
  | n, d :: ds => eqOk n d && eqOks n ds
end
mutual
def pd : D → PyData
  | .non => .none
  | .bl b => .bool b
  | .int i => .int i
  | .str s => .str s
  | .tup xs => .tuple (pds xs)
  | .lst _ xs => .list (pds xs)
  | _ => .none
def pds : List D → List PyData
  | [] => []
  | d :: ds => pd d :: pds ds
end
mutual
def eqvD : D → D → Bool
  | .non, .non => true
  | .bl a, .bl b => a == b
  | .bl a, .int j => (if a then 1 else 0) == j
  | .int i, .bl b => i == (if b then 1 else 0)
  | .int i, .int j => i == j
  | .str x, .str y => x == y
  | .lst _ xs, .lst _ ys => eqvDs xs ys
  | .tup xs, .tup ys => eqvDs xs ys
  | _, _ => false
def eqvDs : List D → List D → Bool
  | [], [] => true
  | x :: xs, y :: ys => eqvD x y && eqvDs xs ys
  | _, _ => false
end
def eqD (a b : D) : Option D := if eqOk 60 a && eqOk 60 b then some (.bl (eqvD a b)) else none
def neD (a b : D) : Option D := if eqOk 60 a && eqOk 60 b then some (.bl (!eqvD a b)) else none
def keyD : D → Option Key
  | .int i => some (.inl i)
  | .str s => some (.inr s)
  | _ => none
def keysD : List D → Option (List Key)
  | [] => some []
  | d :: ds => (keyD d).bind fun k => (keysD ds).map (k :: ·)
def getK {κ : Type} [DecidableEq κ] (kvs : List (κ × D)) (k : κ) : Option D := (kvs.find? fun kv => decide (kv.1 = k)).map (·.2)
def inD : D → D → Option D
  | a, .lst _ ys => if eqOk 60 a && eqOks 59 ys then some (.bl (ys.any fun z => eqvD z a)) else none
  | a, .dk _ kvs => (keyD a).map fun k => .bl (getK kvs k).isSome
  | .tup ks, .dt _ kvs => (keysD ks).map fun k => .bl (getK kvs k).isSome
  | a, .tup ys => match a with
    | .int i => if ys.all (fun y => match y with | .int _ => true | _ => false) then some (.bl (ys.any fun y => eqvD y (.int i))) else none
    | _ => none
  | _, _ => none
def notD : D → Option D
  | .bl b => some (.bl (!b))
  | _ => none
def ixD : D → D → Option D
  | .tup xs, .int i => atI xs i
  | .lst _ xs, .int i => atI xs i
  | .scr ns, .int i => (atI ns i).map .int
  | .dk _ kvs, a => (keyD a).bind fun k => getK kvs k
  | .dt _ kvs, .tup ks => (keysD ks).bind fun k => getK kvs k
  | _, _ => none
def lenD : D → Option D
  | .tup xs => some (.int xs.length)
  | .lst _ xs => some (.int xs.length)
  | .scr xs => some (.int xs.length)
  | _ => none
def absD : D → Option D
  | .int i => some (.int (if i < 0 then -i else i))
  | _ => none
def intD : D → Option D
  | .int i => some (.int i)
  | .bl k => some (.int (if k then 1 else 0))
  | _ => none
def max2D : D → D → Option D
  | .int i, .int j => some (.int (if j > i then j else i))
  | _, _ => none
def min2D : D → D → Option D
  | .int i, .int j => some (.int (if j < i then j else i))
  | _, _ => none
def tupleD : D → Option D
  | .tup xs => some (.tup xs)
  | .lst _ xs => some (.tup xs)
  | _ => none
def listD : D → Option D
  | .tup xs => some (.lst true xs)
  | .lst _ xs => some (.lst true xs)
  | .scr xs => some (.lst true (xs.map .int))
  | _ => none
def intsD : List D → Option (List Int)
  | [] => some []
  | .int i :: ds => (intsD ds).map (i :: ·)
  | _ :: _ => none
def blsD : List D → Option (List Bool)
  | [] => some []
  | .bl i :: ds => (blsD ds).map (i :: ·)
  | _ :: _ => none
def sumD : D → Option D
  | .lst _ xs => (intsD xs).map fun ns => .int ns.sum
  | .tup xs => none
  | _ => none
def maxL : List Int → Int
  | [] => 0
  | [a] => a
  | a :: b :: r => if maxL (b :: r) < a then a else maxL (b :: r)
def minL : List Int → Int
  | [] => 0
  | [a] => a
  | a :: b :: r => if a < minL (b :: r) then a else minL (b :: r)
def max1D : D → Option D
  | .lst _ xs => (intsD xs).bind fun ns => if 0 < ns.length then some (.int (maxL ns)) else none
  | _ => none
def min1D : D → Option D
  | .lst _ xs => (intsD xs).bind fun ns => if 0 < ns.length then some (.int (minL ns)) else none
  | _ => none
def allD : D → Option D
  | .lst _ xs => (blsD xs).map fun bs => .bl (bs.all id)
  | _ => none
def anyD : D → Option D
  | .lst _ xs => (blsD xs).map fun bs => .bl (bs.any id)
  | _ => none
inductive Ty where
  | int | bool | tuple | list | str
def isiD : Ty → D → Option Bool
  | .int, .int _ => some true
  | .int, .bl _ => some true
  | .bool, .bl _ => some true
  | .tuple, .tup _ => some true
  | .list, .lst _ _ => some true
  | .str, .str _ => some true
  | _, .non => some false
  | _, .bl _ => some false
  | _, .int _ => some false
  | _, .str _ => some false
  | _, .tup _ => some false
  | _, .lst _ _ => some false
  | _, _ => none
def truD : D → Option Bool
  | .non => some false
  | .bl b => some b
  | .int i => some (i != 0)
  | .tup xs => some (!xs.isEmpty)
  | .lst _ xs => some (!xs.isEmpty)
  | _ => none

/-! ### what a pure operator hands on -/
structure KR (G : GI) (F H : Hp) (d : D) (Q : VK) : Prop where
  go : ∀ v F' H' p, (∀ a o, F a = some o → F' a = some o) → (∀ a o, H a = some o → H' a = some o) → (∀ a o, F' a = some o → H' a = some o) → (∀ a o, F' a = some o → F a = some o ∨ H a = none) →
    RO G F' H' p v d → p.Nodup → (∀ a, a ∈ p → F' a = none ∧ H a = none) → Q v H'
section
variable {G : GI} {F H F' H' : Hp} {d : D} {Q : VK} {fp : Nat → List Addr} {σ : L2.St} {e : DEnv} {W : WX}
theorem KR.z (k : KR G F H d Q) (s : ∀ a o, F a = some o → H a = some o) {v : V} (r : RO G F H [] v d) : Q v H :=
  k.go v F H [] (fun _ _ h => h) (fun _ _ h => h) s (fun _ _ h => .inl h) r List.nodup_nil fun _ z => nomatch z
theorem upd_le {H : Hp} {a : Addr} {o : HO} (h : H a = none) : ∀ b u, H b = some u → upd H a o b = some u := fun b u e => by rw [upd_ne (ne_of_none e h)]; exact e
/-- a new tuple of shared data -/
theorem KR.tup {ds : List D} (k : KR G F H (.tup ds) Q) (s : ∀ a o, F a = some o → H a = some o) {vs : List V} (r : ROs G F H [] vs ds) {a : Addr} (h : H a = none) : Q (.ref a) (upd H a (.tup vs)) := by
  have hF : F a = none := by
    cases q : F a with
    | none => rfl
    | some o => rw [s a o q] at h; cases h
  refine k.go _ (upd F a (.tup vs)) _ [] (upd_le hF) (upd_le h) (fun b o q => ?_) (fun b o q => ?_) (.tup upd_same (r.monoZ (upd_le hF))) List.nodup_nil fun _ z => nomatch z
  · by_cases e : b = a
    · subst e; rw [upd_same] at q ⊢; exact q
    · rw [upd_ne e] at q ⊢; exact s b o q
  · by_cases e : b = a
    · subst e; exact .inr h
    · rw [upd_ne e] at q; exact .inl q
/-- a new list of shared data -/
theorem KR.lst {ds : List D} (k : KR G F H (.lst true ds) Q) (s : ∀ a o, F a = some o → H a = some o) {vs : List V} (r : ROs G F H [] vs ds) {a : Addr} (h : H a = none) : Q (.ref a) (upd H a (.lst vs)) := by
  have hF : F a = none := by
    cases q : F a with
    | none => rfl
    | some o => rw [s a o q] at h; cases h
  refine k.go _ F _ [a] (fun _ _ h => h) (upd_le h) (fun b o q => upd_le h b o (s b o q)) (fun b o q => .inl q) (RO.lo upd_same (r.monoZ fun _ _ h => h)) (by simp) fun b z => ?_
  have e : b = a := by simpa using z
  subst e
  exact ⟨hF, h⟩
theorem SO.grow (s : SO G F H fp σ e) (h1 : ∀ a o, F a = some o → F' a = some o) (h2 : ∀ a o, H a = some o → H' a = some o) (h3 : ∀ a o, F' a = some o → H' a = some o) (h4 : ∀ a o, F' a = some o → F a = some o ∨ H a = none) : SO G F' H' fp σ e where
  sub := h3
  rep := fun i d h => by
    obtain ⟨v, q, r⟩ := s.rep i d h
    exact ⟨v, q, r.mono h1 fun a _ o z => h2 a o z⟩
  nd := s.nd
  dj := s.dj
  sep := fun i a z => by
    cases q : F' a with
    | none => rfl
    | some o =>
      obtain ⟨u, hu⟩ := s.th i a z
      rcases h4 a o q with w | w
      · rw [s.sep i a z] at w; cases w
      · rw [hu] at w; cases w
  th := fun i a z => by
    obtain ⟨u, hu⟩ := s.th i a z
    exact ⟨u, h2 a u hu⟩
  len := s.len
/-- from a state's wish to a pure operator's -/
theorem SO.kr (s : SO G F H fp σ e) (k : ∀ v F' H' fp' p, SO G F' H' fp' σ e → TO G F' H' fp' p v d → Tr F H (own fp) F' H' (fun a => own fp' a ∨ a ∈ p) → Q v H') : KR G F H d Q := by
  refine ⟨fun v F' H' p h1 h2 h3 h4 r nd np => ?_⟩
  refine k v F' H' fp p (s.grow h1 h2 h3 h4) ⟨r, nd, fun a z => (np a z).1, fun a z ⟨i, w⟩ => ?_⟩ ⟨h1, fun a o _ => h2 a o, fun a z => ?_, fun a o z => (h4 a o z).imp id .inr⟩
  · obtain ⟨u, hu⟩ := s.th i a w
    rw [(np a z).2] at hu; cases hu
  · exact z.imp id fun z => (np a z).2
end

/-! ### a view: shared data, or a list or dict of one's own that is only looked at -/
inductive RB (G : GI) (F H : Hp) : V → D → Prop
  | z {v : V} {d : D} : RO G F H [] v d → RB G F H v d
  | l {a : Addr} {vs : List V} {ds : List D} : H a = some (.lst vs) → ROs G F H [] vs ds → RB G F H (.ref a) (.lst false ds)
  | k {a : Addr} {kvs : List (Key × V)} {kds : List (Key × D)} : H a = some (.dK kvs) → kvs.map (·.1) = kds.map (·.1) → ROs G F H [] (kvs.map (·.2)) (kds.map (·.2)) → RB G F H (.ref a) (.dk false kds)
  | t {a : Addr} {kvs : List (List Key × V)} {kds : List (List Key × D)} : H a = some (.dT kvs) → kvs.map (·.1) = kds.map (·.1) → ROs G F H [] (kvs.map (·.2)) (kds.map (·.2)) → RB G F H (.ref a) (.dt false kds)
/-- may it be looked at as it is -/
def vwOk : D → Bool
  | .lst _ xs => fzs xs
  | .dk _ _ => true
  | .dt _ _ => true
  | d => fz d
def vw : D → D
  | .lst _ xs => .lst false xs
  | .dk _ kvs => .dk false kvs
  | .dt _ kvs => .dt false kvs
  | d => d
theorem ROs.toZ {G : GI} {F H : Hp} {p : List Addr} {vs : List V} {ds : List D} (r : ROs G F H p vs ds) (h : fzs ds = true) : ROs G F H [] vs ds := r.cast (r.nil_of_fz h)
theorem RB.of {G : GI} {F H : Hp} {p : List Addr} {v : V} {d : D} (r : RO G F H p v d) (h : vwOk d = true) : RB G F H v (vw d) := by
  cases r with
  | lz e r => exact .z (.lz e r)
  | lo e r => exact .l e (r.toZ h)
  | dkz e k r => exact .z (.dkz e k r)
  | dko e k r => exact .k e k r
  | dtz e k r => exact .z (.dtz e k r)
  | dto e k r => exact .t e k r
  | tup e r => exact .z (.tup e (r.toZ h))
  | non => exact .z .non
  | bl b => exact .z (.bl b)
  | int b => exact .z (.int b)
  | str b => exact .z (.str b)
  | fn b => exact .z (.fn b)
  | scr e => exact .z (.scr e)
theorem RB.mono {G : GI} {F F' H H' : Hp} (hF : ∀ a o, F a = some o → F' a = some o) (hH : ∀ a o, H a = some o → H' a = some o) {v : V} {d : D} (r : RB G F H v d) : RB G F' H' v d := by
  cases r with
  | z r => exact .z (r.monoZ hF)
  | l e r => exact .l (hH _ _ e) (r.monoZ hF)
  | k e q r => exact .k (hH _ _ e) q (r.monoZ hF)
  | t e q r => exact .t (hH _ _ e) q (r.monoZ hF)
inductive Op where
  | v (i : Nat) | e (m : ME)
inductive PV where
  | d (d : D) | v (i : Nat)
inductive RP where
  | ok (p : PV) (e : DEnv) | ex (c : Nat) (d : D) (e : DEnv) | no
def runV (i : Nat) (en : DEnv) : RP := match en[i]? with
    | some (some _) => .ok (.v i) en
    | _ => .no
def runE (m : ME) (en : DEnv) : RP := match m en with
    | .ok x e1 => .ok (.d (frz x)) e1
    | .ex c x e1 => .ex c x e1
    | .no => .no
def Op.run : Op → DEnv → RP
  | .v i => runV i
  | .e m => runE m
def RP.bind (r : RP) (k : PV → DEnv → RE) : RE := match r with
  | .ok p e => k p e
  | .ex c d e => .ex c d e
  | .no => .no
@[simp] theorem RP.bind_ok {d e k} : (RP.ok d e).bind k = k d e := rfl
@[simp] theorem RP.bind_ex {c d e k} : (RP.ex c d e).bind k = .ex c d e := rfl
@[simp] theorem RP.bind_no {k} : RP.no.bind k = .no := rfl
def seeAt (i : Nat) (e : DEnv) (k : D → DEnv → RE) : RE := match e[i]? with
  | some (some d) => if vwOk d = true then k (vw d) e else k (frz d) (e.set i (some (frz d)))
  | _ => .no
def PV.see : PV → DEnv → (D → DEnv → RE) → RE
  | .d x, en, k => k x en
  | .v i, en, k => seeAt i en k
def RdO (G : GI) (W : WX) : Op → TE
  | .v i => tVar i
  | .e m => RdZ G W m
def PVis (G : GI) (F H : Hp) (σ : L2.St) : PV → V → Prop
  | .d dd, x => RO G F H [] x dd
  | .v i, x => σ[i]? = some (some x)
section
variable {G : GI} {F H F' H' : Hp} {fp : Nat → List Addr} {σ : L2.St} {e : DEnv} {W : WX} {Q : VK}
theorem PVis.mono {p : PV} {x : V} (hF : ∀ a o, F a = some o → F' a = some o) (h : PVis G F H σ p x) : PVis G F' H' σ p x := by
  cases p with
  | d d => exact RO.monoZ hF h
  | v i => exact h
/-- what is asked of the ways out by an exception -/
def XOut (G : GI) (W : WX) (σ : L2.St) (F H : Hp) (fp : Nat → List Addr) (c : Nat) (d : D) (e' : DEnv) : Prop :=
  ∀ dx v F' H' fp' p, SO G F' H' fp' σ e' → TO G F' H' fp' p v d → Tr F H (own fp) F' H' (fun a => own fp' a ∨ a ∈ p) → H' dx = some (.xd [(G.xn c, v)]) → W (.ref (G.ca c)) (some dx) σ H'
theorem XOut.trans {F1 H1 : Hp} {fp1 : Nat → List Addr} {c : Nat} {d : D} {e' : DEnv} (h : XOut G W σ F H fp c d e') (t : Tr F H (own fp) F1 H1 (own fp1)) : XOut G W σ F1 H1 fp1 c d e' :=
  fun dx v F' H' fp' p s' t' tr hx => h dx v F' H' fp' p s' t' (t.trans tr) hx
theorem RdO.step (o : Op) (s : SO G F H fp σ e) (k : match o.run e with
    | .ok p e1 => ∀ x F1 H1 fp1, SO G F1 H1 fp1 σ e1 → Tr F H (own fp) F1 H1 (own fp1) → PVis G F1 H1 σ p x → Q x H1
    | .ex c d e1 => XOut G W σ F H fp c d e1
    | .no => False) : RdO G W o σ H Q := by
  cases o with
  | v i =>
    rw [show (Op.v i).run e = runV i e from rfl] at k
    unfold runV at k
    cases q : e[i]? with
    | none => rw [q] at k; exact k.elim
    | some o =>
      cases o with
      | none => rw [q] at k; exact k.elim
      | some d =>
        rw [q] at k
        obtain ⟨v, hv, _⟩ := s.rep i d q
        exact ⟨v, hv, k v F H fp s Tr.refl hv⟩
  | e m =>
    refine ⟨F, fp, e, s, ?_⟩
    rw [show (Op.e m).run e = runE m e from rfl] at k
    unfold runE at k
    cases q : m e with
    | ok d e1 =>
      rw [q] at k
      exact fun v F1 H1 fp1 s1 r1 tr1 => k v F1 H1 fp1 s1 tr1 r1
    | ex c d e1 => rw [q] at k; exact k
    | no => rw [q] at k; exact k
theorem PV.see_ok {p : PV} {x : V} {k : D → DEnv → RE} {R : RE} (s : SO G F H fp σ e) (h : PVis G F H σ p x) (q : p.see e k = R) (hR : R ≠ .no) :
    ∃ d e' F' fp', SO G F' H fp' σ e' ∧ RB G F' H x d ∧ Tr F H (own fp) F' H (own fp') ∧ k d e' = R := by
  cases p with
  | d d => exact ⟨d, e, F, fp, s, .z h, Tr.refl, q⟩
  | v i =>
    have q : seeAt i e k = R := q
    unfold seeAt at q
    cases q2 : e[i]? with
    | none => rw [q2] at q; exact absurd q.symm hR
    | some o =>
      cases o with
      | none => rw [q2] at q; exact absurd q.symm hR
      | some d =>
        rw [q2] at q
        obtain ⟨v, hv, r⟩ := s.rep i d q2
        have hv2 : σ[i]? = some (some x) := h
        rw [hv] at hv2
        cases hv2
        simp only at q
        split at q
        · rename_i hw
          exact ⟨_, _, F, fp, s, RB.of r hw, Tr.refl, q⟩
        · have s2 := s.shareAt q2
          exact ⟨_, _, _, _, s2, .z (r.frz (addF_le (s.sep i)) fun a z o => addF_at a z o), Tr.shareAt (s.sep i), q⟩
end
def mOp1 (f : D → Option D) (oa : Op) : ME := fun e => (oa.run e).bind fun p e1 => p.see e1 fun d e2 => RE.of (f d) e2
def mOp2 (f : D → D → Option D) (oa ob : Op) : ME := fun e => (oa.run e).bind fun p e1 => (ob.run e1).bind fun q e2 => p.see e2 fun d e3 => q.see e3 fun d2 e4 => RE.of (f d d2) e4
section
variable {G : GI} {W : WX} {oa ob : Op} {σ : L2.St} {H : Hp} {Q : VK}
/-- an expression's end -/
def EOut (G : GI) (W : WX) (σ : L2.St) (F H : Hp) (fp : Nat → List Addr) (Q : VK) : RE → Prop
  | .ok d e' => ∀ v F' H' fp' p, SO G F' H' fp' σ e' → TO G F' H' fp' p v d → Tr F H (own fp) F' H' (fun a => own fp' a ∨ a ∈ p) → Q v H'
  | .ex c d e' => XOut G W σ F H fp c d e'
  | .no => False
theorem EOut.trans {F F1 H1 : Hp} {fp fp1 : Nat → List Addr} {r : RE} (h : EOut G W σ F H fp Q r) (t : Tr F H (own fp) F1 H1 (own fp1)) : EOut G W σ F1 H1 fp1 Q r := by
  cases r with
  | ok d e => exact fun v F' H' fp' p s' t' tr => h v F' H' fp' p s' t' (t.trans tr)
  | ex c d e => exact XOut.trans h t
  | no => exact h
theorem EOut.ne {F : Hp} {fp : Nat → List Addr} {r : RE} (h : EOut G W σ F H fp Q r) : r ≠ .no := fun z => by rw [z] at h; exact h
theorem RdE.iff {m : ME} : RdE G W m σ H Q ↔ ∃ F fp e, SO G F H fp σ e ∧ EOut G W σ F H fp Q (m e) := by
  unfold RdE
  constructor
  · rintro ⟨F, fp, e, s, h⟩
    refine ⟨F, fp, e, s, ?_⟩
    cases q : m e with
    | ok d e' => rw [q] at h; exact h
    | ex c d e' => rw [q] at h; exact h
    | no => rw [q] at h; exact h
  · rintro ⟨F, fp, e, s, h⟩
    refine ⟨F, fp, e, s, ?_⟩
    cases q : m e with
    | ok d e' => rw [q] at h; exact h
    | ex c d e' => rw [q] at h; exact h
    | no => rw [q] at h; exact h
theorem rd_op1 {f : D → Option D} {r : V → Hp → VK → Prop} (hr : ∀ F H x d1 d Q, (∀ a o, F a = some o → H a = some o) → RB G F H x d1 → f d1 = some d → KR G F H d Q → r x H Q)
    (h : RdE G W (mOp1 f oa) σ H Q) : RdO G W oa σ H fun x H1 => r x H1 Q := by
  obtain ⟨F, fp, e, s, h⟩ := RdE.iff.mp h
  refine RdO.step oa s ?_
  unfold mOp1 at h
  cases q : oa.run e with
  | ok p e1 =>
    rw [q] at h
    intro x F1 H1 fp1 s1 tr1 v1
    obtain ⟨d1, e2, F2, fp2, s2, b2, tr2, k⟩ := PV.see_ok s1 v1 rfl h.ne
    rw [RP.bind_ok, ← k] at h
    cases q3 : f d1 with
    | none => rw [q3] at h; exact h.elim
    | some d =>
      rw [q3] at h
      exact hr F2 H1 x d1 d Q s2.sub b2 q3 (s2.kr (h.trans (tr1.trans tr2)))
  | ex c d e1 => rw [q] at h; exact h
  | no => rw [q] at h; exact h
theorem rd_op2 {f : D → D → Option D} {r : V → V → Hp → VK → Prop} (hr : ∀ F H x y d1 d2 d Q, (∀ a o, F a = some o → H a = some o) → RB G F H x d1 → RB G F H y d2 → f d1 d2 = some d → KR G F H d Q → r x y H Q)
    (h : RdE G W (mOp2 f oa ob) σ H Q) : RdO G W oa σ H fun x H1 => RdO G W ob σ H1 fun y H2 => r x y H2 Q := by
  obtain ⟨F, fp, e, s, h⟩ := RdE.iff.mp h
  refine RdO.step oa s ?_
  unfold mOp2 at h
  cases q : oa.run e with
  | ok p e1 =>
    rw [q] at h
    intro x F1 H1 fp1 s1 tr1 v1
    rw [RP.bind_ok] at h
    refine RdO.step ob s1 ?_
    cases q2 : ob.run e1 with
    | ok p2 e2 =>
      rw [q2] at h
      intro y F2 H2 fp2 s2 tr2 v2
      rw [RP.bind_ok] at h
      obtain ⟨d1, e3, F3, fp3, s3, b3, tr3, k⟩ := PV.see_ok s2 (v1.mono tr2.ff) rfl h.ne
      rw [← k] at h
      obtain ⟨d2, e4, F4, fp4, s4, b4, tr4, k4⟩ := PV.see_ok s3 (v2.mono tr3.ff) rfl h.ne
      rw [← k4] at h
      cases q3 : f d1 d2 with
      | none => rw [q3] at h; exact h.elim
      | some d =>
        rw [q3] at h
        exact hr F4 H2 x y d1 d2 d Q s4.sub (b3.mono tr4.ff fun _ _ z => z) b4 q3 (s4.kr (h.trans (((tr1.trans tr2).trans tr3).trans tr4)))
    | ex c d e2 => rw [q2] at h; exact XOut.trans h tr1
    | no => rw [q2] at h; exact h
  | ex c d e1 => rw [q] at h; exact h
  | no => rw [q] at h; exact h
end
end EV

/-! EvD: each operator's rule serves its plain reading. -/
namespace EV
open PySem PySem.Spec PyProof.Rows L2
section
variable {X : Cx} {g : GF} {F H : Hp} {x y : V} {d1 d2 d : D} {Q : VK}
abbrev Sb (F H : Hp) : Prop := ∀ a o, F a = some o → H a = some o
theorem RO.int_inv {G : GI} {p : List Addr} {i : Int} (r : RO G F H p x (.int i)) : x = .int i := by cases r; rfl
theorem RO.bl_inv {G : GI} {p : List Addr} {i : Bool} (r : RO G F H p x (.bl i)) : x = .bl i := by cases r; rfl
theorem RO.non_inv {G : GI} {p : List Addr} (r : RO G F H p x .non) : x = .non := by cases r; rfl
theorem RO.str_inv {G : GI} {p : List Addr} {i : Str} (r : RO G F H p x (.str i)) : x = .str i := by cases r; rfl
theorem RO.tup_inv {G : GI} {ds : List D} (r : RO G F H [] x (.tup ds)) : ∃ a vs, x = .ref a ∧ F a = some (.tup vs) ∧ ROs G F H [] vs ds := by
  cases r with
  | tup e r => exact ⟨_, _, rfl, e, r⟩
theorem RO.lst_inv {G : GI} {o : Bool} {ds : List D} (r : RO G F H [] x (.lst o ds)) : o = false ∧ ∃ a vs, x = .ref a ∧ F a = some (.lst vs) ∧ ROs G F H [] vs ds := by
  cases r with
  | lz e r => exact ⟨rfl, _, _, rfl, e, r⟩
theorem RO.scr_inv {G : GI} {ns : List Int} (r : RO G F H [] x (.scr ns)) : ∃ a, x = .ref a ∧ SqL G.K F a (ns.map V.int) := by
  cases r with
  | scr e => exact ⟨_, rfl, e⟩
theorem RO.dk_inv {G : GI} {o : Bool} {kds : List (Key × D)} (r : RO G F H [] x (.dk o kds)) : o = false ∧ ∃ a kvs, x = .ref a ∧ F a = some (.dK kvs) ∧ kvs.map (·.1) = kds.map (·.1) ∧ ROs G F H [] (kvs.map (·.2)) (kds.map (·.2)) := by
  cases r with
  | dkz e k r => exact ⟨rfl, _, _, rfl, e, k, r⟩
theorem RO.dt_inv {G : GI} {o : Bool} {kds : List (List Key × D)} (r : RO G F H [] x (.dt o kds)) : o = false ∧ ∃ a kvs, x = .ref a ∧ F a = some (.dT kvs) ∧ kvs.map (·.1) = kds.map (·.1) ∧ ROs G F H [] (kvs.map (·.2)) (kds.map (·.2)) := by
  cases r with
  | dtz e k r => exact ⟨rfl, _, _, rfl, e, k, r⟩
theorem RB.int_inv {G : GI} {i : Int} (r : RB G F H x (.int i)) : x = .int i := by cases r with | z r => exact r.int_inv
theorem RB.bl_inv {G : GI} {i : Bool} (r : RB G F H x (.bl i)) : x = .bl i := by cases r with | z r => exact r.bl_inv
theorem RB.non_inv {G : GI} (r : RB G F H x .non) : x = .non := by cases r with | z r => exact r.non_inv
theorem RB.str_inv {G : GI} {i : Str} (r : RB G F H x (.str i)) : x = .str i := by cases r with | z r => exact r.str_inv
theorem RB.tup_inv {G : GI} {ds : List D} (r : RB G F H x (.tup ds)) : ∃ a vs, x = .ref a ∧ F a = some (.tup vs) ∧ ROs G F H [] vs ds := by
  cases r with
  | z r => exact r.tup_inv
theorem RB.lst_inv {G : GI} {o : Bool} {ds : List D} (s : Sb F H) (r : RB G F H x (.lst o ds)) : o = false ∧ ∃ a vs, x = .ref a ∧ H a = some (.lst vs) ∧ ROs G F H [] vs ds := by
  cases r with
  | z r =>
    obtain ⟨h1, a, vs, h2, h3, h4⟩ := r.lst_inv
    exact ⟨h1, a, vs, h2, s _ _ h3, h4⟩
  | l e r => exact ⟨rfl, _, _, rfl, e, r⟩
theorem RB.scr_inv {G : GI} {ns : List Int} (r : RB G F H x (.scr ns)) : ∃ a, x = .ref a ∧ SqL G.K F a (ns.map V.int) := by
  cases r with
  | z r => exact r.scr_inv
theorem RB.dk_inv {G : GI} {o : Bool} {kds : List (Key × D)} (s : Sb F H) (r : RB G F H x (.dk o kds)) : o = false ∧ ∃ a kvs, x = .ref a ∧ H a = some (.dK kvs) ∧ kvs.map (·.1) = kds.map (·.1) ∧ ROs G F H [] (kvs.map (·.2)) (kds.map (·.2)) := by
  cases r with
  | z r =>
    obtain ⟨h1, a, vs, h2, h3, h4⟩ := r.dk_inv
    exact ⟨h1, a, vs, h2, s _ _ h3, h4⟩
  | k e q r => exact ⟨rfl, _, _, rfl, e, q, r⟩
theorem RB.dt_inv {G : GI} {o : Bool} {kds : List (List Key × D)} (s : Sb F H) (r : RB G F H x (.dt o kds)) : o = false ∧ ∃ a kvs, x = .ref a ∧ H a = some (.dT kvs) ∧ kvs.map (·.1) = kds.map (·.1) ∧ ROs G F H [] (kvs.map (·.2)) (kds.map (·.2)) := by
  cases r with
  | z r =>
    obtain ⟨h1, a, vs, h2, h3, h4⟩ := r.dt_inv
    exact ⟨h1, a, vs, h2, s _ _ h3, h4⟩
  | t e q r => exact ⟨rfl, _, _, rfl, e, q, r⟩
theorem ints_rep {G : GI} : ∀ {ds : List D} {vs : List V} {ns : List Int}, ROs G F H [] vs ds → intsD ds = some ns → vs = ns.map V.int
  | [], _, ns, r, h => by
    obtain ⟨e, _⟩ := r.invN
    have : ns = [] := by injection h with h; exact h.symm
    rw [e, this]; rfl
  | d :: ds, [], _, r, _ => nomatch r.length
  | d :: ds, v :: vs, ns, r, h => by
    obtain ⟨r1, r2⟩ := r.unconsZ
    cases d with
    | int i =>
      have h2 : (intsD ds).map (i :: ·) = some ns := h
      cases q : intsD ds with
      | none => rw [q] at h2; cases h2
      | some ms =>
        rw [q] at h2
        injection h2 with h2
        rw [← h2, r1.int_inv, ints_rep r2 q]; rfl
    | _ => cases h
theorem bls_rep {G : GI} : ∀ {ds : List D} {vs : List V} {ns : List Bool}, ROs G F H [] vs ds → blsD ds = some ns → vs = ns.map V.bl
  | [], _, ns, r, h => by
    obtain ⟨e, _⟩ := r.invN
    have : ns = [] := by injection h with h; exact h.symm
    rw [e, this]; rfl
  | d :: ds, [], _, r, _ => nomatch r.length
  | d :: ds, v :: vs, ns, r, h => by
    obtain ⟨r1, r2⟩ := r.unconsZ
    cases d with
    | bl i =>
      have h2 : (blsD ds).map (i :: ·) = some ns := h
      cases q : blsD ds with
      | none => rw [q] at h2; cases h2
      | some ms =>
        rw [q] at h2
        injection h2 with h2
        rw [← h2, r1.bl_inv, bls_rep r2 q]; rfl
    | _ => cases h
/-! ### arithmetic -/
theorem hr_cmp {G : GI} {f : Int → Int → Bool} (s : Sb F H) (r1 : RB G F H x d1) (r2 : RB G F H y d2) (h : cmpD f d1 d2 = some d) (k : KR G F H d Q) : rI0 (fun i j => .bl (f i j)) x y H Q := by
  cases d1 <;> first | (cases h; done) | skip
  cases d2 <;> first | (cases h; done) | skip
  injection h with h; subst h
  exact ⟨_, _, r1.int_inv, r2.int_inv, k.z s (.bl _)⟩
theorem hr_add {G : GI} (s : Sb F H) (r1 : RB G F H x d1) (r2 : RB G F H y d2) (h : addD d1 d2 = some d) (k : KR G F H d Q) :
    rI0 (fun i j => .int (i + j)) x y H Q ∨ (rCat x y H Q ∨ rCatA G.K x y H Q) := by
  cases d1 with
  | int i =>
    cases d2 <;> first | (cases h; done) | skip
    injection h with h; subst h
    exact .inl ⟨_, _, r1.int_inv, r2.int_inv, k.z s (.int _)⟩
  | lst o xs =>
    cases d2 <;> first | (cases h; done) | skip
    rename_i o2 ys
    have h : (if xs.length + ys.length ≤ LIM then some (D.lst true (xs ++ ys)) else none) = some d := h
    split at h
    · rename_i hl
      injection h with h; subst h
      obtain ⟨_, a, vs, rfl, ha, ra⟩ := r1.lst_inv s
      obtain ⟨_, b, ws, rfl, hb, rb⟩ := r2.lst_inv s
      refine .inr (.inl ⟨a, b, vs, ws, rfl, rfl, ha, hb, ?_, fun p hp => k.lst s (ra.append rb) hp⟩)
      rw [ra.length, rb.length]; exact LIM_line hl
    · cases h
  | tup xs =>
    cases d2 <;> first | (cases h; done) | skip
    rename_i ys
    have h : (if xs.length + ys.length ≤ LIM then some (D.tup (xs ++ ys)) else none) = some d := h
    split at h
    · rename_i hl
      injection h with h; subst h
      obtain ⟨a, vs, rfl, ha, ra⟩ := r1.tup_inv
      obtain ⟨b, ws, rfl, hb, rb⟩ := r2.tup_inv
      refine .inr (.inr ⟨a, b, vs, ws, rfl, rfl, SqT.of (s _ _ ha), SqT.of (s _ _ hb), ?_, fun e => ?_, fun _ e => ?_, fun _ _ p hp => k.tup s (ra.append rb) hp⟩)
      · rw [ra.length, rb.length]; exact LIM_line hl
      · have hx : xs = [] := by
          have := ra.length
          rw [e] at this
          exact List.length_eq_zero_iff.mp this.symm
        subst hx
        exact k.z s (.tup hb rb)
      · have hx : ys = [] := by
          have := rb.length
          rw [e] at this
          exact List.length_eq_zero_iff.mp this.symm
        subst hx
        rw [List.append_nil] at k
        exact k.z s (.tup ha ra)
    · cases h
  | _ => cases h
theorem hr_sub {G : GI} (s : Sb F H) (r1 : RB G F H x d1) (r2 : RB G F H y d2) (h : subD d1 d2 = some d) (k : KR G F H d Q) : rI0 (fun i j => .int (i - j)) x y H Q := by
  cases d1 <;> first | (cases h; done) | skip
  cases d2 <;> first | (cases h; done) | skip
  injection h with h; subst h
  exact ⟨_, _, r1.int_inv, r2.int_inv, k.z s (.int _)⟩
theorem ROs.rep {G : GI} {ds : List D} {vs : List V} (r : ROs G F H [] vs ds) : ∀ n : Nat, ROs G F H [] (List.replicate n vs).flatten (List.replicate n ds).flatten
  | 0 => .nil
  | n + 1 => by
    rw [List.replicate_succ, List.replicate_succ, List.flatten_cons, List.flatten_cons]
    exact (r.append (ROs.rep r n)).cast rfl
theorem hr_mul {G : GI} (s : Sb F H) (r1 : RB G F H x d1) (r2 : RB G F H y d2) (h : mulD d1 d2 = some d) (k : KR G F H d Q) :
    rI CMul (fun i j => .int (i * j)) x y H Q ∨ (rI CMulW (fun i j => .int (i * j)) x y H Q ∨ rRep x y H Q) := by
  cases d1 with
  | int i =>
    cases d2 <;> first | (cases h; done) | skip
    rename_i j
    have h : (if mulOk i j = true then some (D.int (i * j)) else none) = some d := h
    split at h
    · rename_i hm
      injection h with h; subst h
      have q : Q (.int (i * j)) H := k.z s (.int _)
      unfold mulOk at hm
      rw [Bool.or_eq_true, Bool.or_eq_true, decide_eq_true_eq] at hm
      rcases hm with hm | hm | hm
      · have hm := Nat.le_of_ble_eq_true hm
        exact .inl ⟨_, _, r1.int_inv, r2.int_inv, .inl (by omega), q⟩
      · have hm := Nat.le_of_ble_eq_true hm
        exact .inl ⟨_, _, r1.int_inv, r2.int_inv, .inr (by omega), q⟩
      · exact .inr (.inl ⟨_, _, r1.int_inv, r2.int_inv, hm, q⟩)
    · cases h
  | lst o xs =>
    cases d2 <;> first | (cases h; done) | skip
    rename_i n
    have h : (if Nat.ble n.natAbs 9223372036854775807 = true ∧ xs.length * n.toNat ≤ LIM then some (D.lst true (List.replicate n.toNat xs).flatten) else none) = some d := h
    split at h
    · rename_i hl
      injection h with h; subst h
      obtain ⟨_, a, vs, rfl, ha, ra⟩ := r1.lst_inv s
      have hb := Nat.le_of_ble_eq_true hl.1
      refine .inr (.inr ⟨a, n, vs, rfl, r2.int_inv, ha, by omega, by omega, ?_, fun p hp => k.lst s (ra.rep _) hp⟩)
      rw [ra.length]; exact LIM_line hl.2
    · cases h
  | _ => cases h
theorem divOk_log {j : Int} (h : divOk j = true) : j.natAbs < 1073741824 ∨ j.natAbs.log2 < 9000 := by
  unfold divOk at h
  rw [Bool.or_eq_true, decide_eq_true_eq, decide_eq_true_eq] at h
  exact h
def CDivA (_ j : Int) : Prop := j ≠ 0 ∧ (j.natAbs < 1073741824 ∨ j.natAbs.log2 < 9000)
theorem op_fdivA : OpR X (binaryOp .FloorDiv) (rI CDivA fun i j => .int (i.fdiv j)) := opI fun i j _ _ _ _ _ hc q => by
  rcases hc.2 with h | h
  · exact floordiv_int hc.1 q (.inl (PyProof.noPylong_small h))
  · exact floordiv_int hc.1 q (.inl (PyProof.noPylong_of_log2 h))
theorem hr_fdiv {G : GI} (s : Sb F H) (r1 : RB G F H x d1) (r2 : RB G F H y d2) (h : fdivD d1 d2 = some d) (k : KR G F H d Q) : rI CDivA (fun i j => .int (i.fdiv j)) x y H Q := by
  cases d1 <;> first | (cases h; done) | skip
  cases d2 <;> first | (cases h; done) | skip
  rename_i i j
  have h : (if 0 < j then (if divOk j = true then some (D.int (i / j)) else none) else if j = 0 then none else if divOk j = true then some (D.int (i.fdiv j)) else none) = some d := h
  split at h
  · rename_i hj
    split at h
    · rename_i hd
      injection h with h; subst h
      refine ⟨_, _, r1.int_inv, r2.int_inv, ⟨by omega, divOk_log hd⟩, ?_⟩
      show Q (.int (i.fdiv j)) H
      rw [Int.fdiv_eq_ediv_of_nonneg i (by omega)]
      exact k.z s (.int _)
    · cases h
  · split at h
    · cases h
    · rename_i hj
      split at h
      · rename_i hd
        injection h with h; subst h
        exact ⟨_, _, r1.int_inv, r2.int_inv, ⟨hj, divOk_log hd⟩, k.z s (.int _)⟩
      · cases h
theorem hr_mod {G : GI} (s : Sb F H) (r1 : RB G F H x d1) (r2 : RB G F H y d2) (h : modD d1 d2 = some d) (k : KR G F H d Q) : rI (fun _ j => j ≠ 0) (fun i j => .int (i.fmod j)) x y H Q := by
  cases d1 <;> first | (cases h; done) | skip
  cases d2 <;> first | (cases h; done) | skip
  rename_i i j
  have h : (if 0 < j then some (D.int (i % j)) else if j = 0 then none else some (D.int (i.fmod j))) = some d := h
  split at h
  · injection h with h; subst h
    refine ⟨_, _, r1.int_inv, r2.int_inv, by omega, ?_⟩
    show Q (.int (i.fmod j)) H
    rw [Int.fmod_eq_emod_of_nonneg i (by omega)]
    exact k.z s (.int _)
  · split at h
    · cases h
    · rename_i hj
      injection h with h; subst h
      exact ⟨_, _, r1.int_inv, r2.int_inv, hj, k.z s (.int _)⟩
theorem hr_pow {G : GI} (s : Sb F H) (r1 : RB G F H x d1) (r2 : RB G F H y d2) (h : powD d1 d2 = some d) (k : KR G F H d Q) : rI CPow (fun i j => .int (i ^ j.toNat)) x y H Q := by
  cases d1 <;> first | (cases h; done) | skip
  cases d2 <;> first | (cases h; done) | skip
  rename_i i j
  have h : (if 0 ≤ j ∧ Nat.ble j.natAbs 1000000 = true ∧ Nat.ble i.natAbs 18446744073709551615 = true then some (D.int (i ^ j.toNat)) else none) = some d := h
  split at h
  · rename_i hp
    injection h with h; subst h
    have h1 := Nat.le_of_ble_eq_true hp.2.1
    have h2 := Nat.le_of_ble_eq_true hp.2.2
    exact ⟨_, _, r1.int_inv, r2.int_inv, ⟨hp.1, by omega, by omega⟩, k.z s (.int _)⟩
  · cases h
theorem hr_neg {G : GI} (s : Sb F H) (r1 : RB G F H x d1) (h : negD d1 = some d) (k : KR G F H d Q) : rU (fun i => .int (-i)) x H Q := by
  cases d1 <;> first | (cases h; done) | skip
  injection h with h; subst h
  exact ⟨_, r1.int_inv, k.z s (.int _)⟩
/-! ### is -/
theorem isN_rep {G : GI} (r : RB G F H x d1) : decide (x = .non) = isN d1 := by
  cases r with
  | z r => cases r <;> rfl
  | _ => rfl
theorem hr_isN {G : GI} (s : Sb F H) (r1 : RB G F H x d1) (h : some (D.bl (isN d1)) = some d) (k : KR G F H d Q) : Q (.bl (decide (x = .non))) H := by
  injection h with h; subst h
  rw [isN_rep r1]
  exact k.z s (.bl _)
theorem hr_notN {G : GI} (s : Sb F H) (r1 : RB G F H x d1) (h : some (D.bl (!isN d1)) = some d) (k : KR G F H d Q) : Q (.bl (!decide (x = .non))) H := by
  injection h with h; subst h
  rw [isN_rep r1]
  exact k.z s (.bl _)
theorem op_isC {b : Bool} : OpR X (compareOp .Is) (fun x y H Q => y = .bl b ∧ Q (.bl (decide (x = .bl b))) H) := by
  intro pins s σ H x y v u Q I rx ry h
  obtain ⟨rfl, q⟩ := h
  cases ry
  cases x with
  | bl c =>
    cases (show v = Value.bool c from rx)
    by_cases e : c = b
    · subst e
      exact wpAny_is_self rfl ⟨.bl true, H, I, rfl, by simpa using q⟩
    · exact wpAny_is_other rfl (fun z => e (Value.bool.inj z)) ⟨.bl false, H, I, rfl, by simpa [e] using q⟩
  | non => cases rx; exact wpAny_pure ⟨.bl false, H, I, rfl, by simpa using q⟩
  | int i => obtain ⟨t, rfl⟩ := rx; exact wpAny_pure ⟨.bl false, H, I, rfl, by simpa using q⟩
  | str i => obtain ⟨t, rfl⟩ := rx; exact wpAny_pure ⟨.bl false, H, I, rfl, by simpa using q⟩
  | byt i => obtain ⟨t, rfl⟩ := rx; exact wpAny_pure ⟨.bl false, H, I, rfl, by simpa using q⟩
  | flt i => obtain ⟨t, rfl⟩ := rx; exact wpAny_pure ⟨.bl false, H, I, rfl, by simpa using q⟩
  | ref a => cases rx; exact wpAny_pure ⟨.bl false, H, I, rfl, by simpa using q⟩
  | ty n => cases rx; exact wpAny_pure ⟨.bl false, H, I, rfl, by simpa using q⟩
theorem op_isnotC {b : Bool} : OpR X (compareOp .IsNot) (fun x y H Q => y = .bl b ∧ Q (.bl (!decide (x = .bl b))) H) := by
  intro pins s σ H x y v u Q I rx ry h
  obtain ⟨rfl, q⟩ := h
  cases ry
  cases x with
  | bl c =>
    cases (show v = Value.bool c from rx)
    by_cases e : c = b
    · subst e
      exact wpAny_isNot_self rfl ⟨.bl false, H, I, rfl, by simpa using q⟩
    · exact wpAny_isNot_other rfl (fun z => e (Value.bool.inj z)) ⟨.bl true, H, I, rfl, by simpa [e] using q⟩
  | non => cases rx; exact wpAny_pure ⟨.bl true, H, I, rfl, by simpa using q⟩
  | int i => obtain ⟨t, rfl⟩ := rx; exact wpAny_pure ⟨.bl true, H, I, rfl, by simpa using q⟩
  | str i => obtain ⟨t, rfl⟩ := rx; exact wpAny_pure ⟨.bl true, H, I, rfl, by simpa using q⟩
  | byt i => obtain ⟨t, rfl⟩ := rx; exact wpAny_pure ⟨.bl true, H, I, rfl, by simpa using q⟩
  | flt i => obtain ⟨t, rfl⟩ := rx; exact wpAny_pure ⟨.bl true, H, I, rfl, by simpa using q⟩
  | ref a => cases rx; exact wpAny_pure ⟨.bl true, H, I, rfl, by simpa using q⟩
  | ty n => cases rx; exact wpAny_pure ⟨.bl true, H, I, rfl, by simpa using q⟩
theorem isB_rep {G : GI} {b : Bool} (r : RB G F H x d1) : decide (x = .bl b) = isB b d1 := by
  cases r with
  | z r =>
    cases r <;> first
      | rfl
      | (rename_i c; cases c <;> cases b <;> rfl)
  | _ => rfl
/-! ### equality -/
mutual
theorem dp_of {G : GI} (s : Sb F H) : ∀ (n : Nat) (d : D) {x : V}, RO G F H [] x d → eqOk n d = true → Dp G.K H x (pd d)
  | 0, d, _, _, h => by cases d <;> cases h
  | n + 1, .non, _, r, _ => by rw [r.non_inv]; exact .non
  | n + 1, .bl b, _, r, _ => by rw [r.bl_inv]; exact .bl b
  | n + 1, .int b, _, r, _ => by rw [r.int_inv]; exact .int b
  | n + 1, .str b, _, r, _ => by rw [r.str_inv]; exact .str b
  | n + 1, .tup ds, _, r, h => by
    obtain ⟨a, vs, rfl, e, r⟩ := r.tup_inv
    exact .tup (SqT.of (s _ _ e)) (dps_of s n ds r h)
  | n + 1, .lst o ds, _, r, h => by
    obtain ⟨_, a, vs, rfl, e, r⟩ := r.lst_inv
    exact .lst (SqL.of (s _ _ e)) (dps_of s n ds r h)
  | n + 1, .scr _, _, _, h => by cases h
  | n + 1, .dk _ _, _, _, h => by cases h
  | n + 1, .dt _ _, _, _, h => by cases h
  | n + 1, .fn _, _, _, h => by cases h
theorem dps_of {G : GI} (s : Sb F H) : ∀ (n : Nat) (ds : List D) {vs : List V}, ROs G F H [] vs ds → eqOks n ds = true → DpAll G.K H vs (pds ds)
  | n, [], vs, r, _ => by
    obtain ⟨rfl, _⟩ := r.invN
    exact .nil
  | n, d :: ds, [], r, _ => nomatch r.length
  | n, d :: ds, v :: vs, r, h => by
    have h2 : (eqOk n d && eqOks n ds) = true := by
      cases n <;> exact h
    rw [Bool.and_eq_true] at h2
    obtain ⟨r1, r2⟩ := r.unconsZ
    exact .cons (dp_of s n d r1 h2.1) (dps_of s n ds r2 h2.2)
end
mutual
theorem lay_of : ∀ (n : Nat) (d : D), eqOk n d = true → (pd d).canLay0 = true ∧ (pd d).depth ≤ n
  | 0, d, h => by cases d <;> cases h
  | n + 1, .non, _ => ⟨by simp [pd, PyData.canLay0], by simp [pd, PyData.depth]⟩
  | n + 1, .bl b, _ => ⟨by simp [pd, PyData.canLay0], by simp [pd, PyData.depth]⟩
  | n + 1, .int b, _ => ⟨by simp [pd, PyData.canLay0], by simp [pd, PyData.depth]⟩
  | n + 1, .str b, h => ⟨by simp only [pd, PyData.canLay0]; exact h, by simp [pd, PyData.depth]⟩
  | n + 1, .tup ds, h => by
    obtain ⟨h1, h2⟩ := lays_of n ds h
    refine ⟨by simp only [pd, PyData.canLay0]; exact h1, ?_⟩
    simp only [pd, PyData.depth]
    omega
  | n + 1, .lst o ds, h => by
    obtain ⟨h1, h2⟩ := lays_of n ds h
    refine ⟨by simp only [pd, PyData.canLay0]; exact h1, ?_⟩
    simp only [pd, PyData.depth]
    omega
  | n + 1, .scr _, h => by cases h
  | n + 1, .dk _ _, h => by cases h
  | n + 1, .dt _ _, h => by cases h
  | n + 1, .fn _, h => by cases h
theorem lays_of : ∀ (n : Nat) (ds : List D), eqOks n ds = true → PyData.canLayAll0 (pds ds) = true ∧ PyData.depthAll (pds ds) ≤ n
  | n, [], _ => ⟨by simp [pds, PyData.canLayAll0], by simp [pds, PyData.depthAll]⟩
  | n, d :: ds, h => by
    have h2 : (eqOk n d && eqOks n ds) = true := by
      cases n <;> exact h
    rw [Bool.and_eq_true] at h2
    obtain ⟨a1, a2⟩ := lay_of n d h2.1
    obtain ⟨b1, b2⟩ := lays_of n ds h2.2
    refine ⟨by simp only [pds, PyData.canLayAll0, a1, b1, Bool.and_self], ?_⟩
    simp only [pds, PyData.depthAll]
    omega
end
theorem shaped_of {n : Nat} {d : D} (h : eqOk n d = true) (hn : n ≤ 64) : SeqAt.shaped (pd d) = true := by
  obtain ⟨h1, h2⟩ := lay_of n d h
  unfold SeqAt.shaped
  rw [h1, Bool.true_and, decide_eq_true_eq]
  omega
mutual
theorem eqv_of : ∀ (n : Nat) (a b : D) (m : Nat), eqOk n a = true → eqOk m b = true → PyData.eqv (pd a) (pd b) = eqvD a b
  | 0, d, _, _, h, _ => by cases d <;> cases h
  | _, _, d, 0, _, h => by cases d <;> cases h
  | n + 1, .non, b, m + 1, _, h => by cases b <;> first | (cases h; done) | simp [pd, PyData.eqv, eqvD]
  | n + 1, .bl a, b, m + 1, _, h => by cases b <;> first | (cases h; done) | simp [pd, PyData.eqv, eqvD]
  | n + 1, .int a, b, m + 1, _, h => by cases b <;> first | (cases h; done) | simp [pd, PyData.eqv, eqvD]
  | n + 1, .str a, b, m + 1, _, h => by cases b <;> first | (cases h; done) | simp [pd, PyData.eqv, eqvD]
  | n + 1, .tup xs, b, m + 1, h1, h => by
    cases b with
    | tup ys => simp only [pd, PyData.eqv, eqvD]; exact eqvs_of n xs ys m h1 h
    | non => simp [pd, PyData.eqv, eqvD]
    | bl _ => simp [pd, PyData.eqv, eqvD]
    | int _ => simp [pd, PyData.eqv, eqvD]
    | str _ => simp [pd, PyData.eqv, eqvD]
    | lst _ _ => simp [pd, PyData.eqv, eqvD]
    | _ => cases h
  | n + 1, .lst o xs, b, m + 1, h1, h => by
    cases b with
    | lst o2 ys => simp only [pd, PyData.eqv, eqvD]; exact eqvs_of n xs ys m h1 h
    | non => simp [pd, PyData.eqv, eqvD]
    | bl _ => simp [pd, PyData.eqv, eqvD]
    | int _ => simp [pd, PyData.eqv, eqvD]
    | str _ => simp [pd, PyData.eqv, eqvD]
    | tup _ => simp [pd, PyData.eqv, eqvD]
    | _ => cases h
  | n + 1, .scr _, _, _, h, _ => by cases h
  | n + 1, .dk _ _, _, _, h, _ => by cases h
  | n + 1, .dt _ _, _, _, h, _ => by cases h
  | n + 1, .fn _, _, _, h, _ => by cases h
theorem eqvs_of : ∀ (n : Nat) (a b : List D) (m : Nat), eqOks n a = true → eqOks m b = true → PyData.eqvAll (pds a) (pds b) = eqvDs a b
  | n, [], [], m, _, _ => by simp [pds, PyData.eqvAll, eqvDs]
  | n, [], _ :: _, m, _, _ => by simp [pds, PyData.eqvAll, eqvDs]
  | n, _ :: _, [], m, _, _ => by simp [pds, PyData.eqvAll, eqvDs]
  | n, a :: as, b :: bs, m, h1, h2 => by
    have h3 : (eqOk n a && eqOks n as) = true := by
      cases n <;> exact h1
    have h4 : (eqOk m b && eqOks m bs) = true := by
      cases m <;> exact h2
    rw [Bool.and_eq_true] at h3 h4
    simp only [pds, PyData.eqvAll, eqvDs]
    rw [eqv_of n a b m h3.1 h4.1, eqvs_of n as bs m h3.2 h4.2]
end
theorem dp_ofB {G : GI} (s : Sb F H) {n : Nat} {d : D} (r : RB G F H x d) (h : eqOk n d = true) : Dp G.K H x (pd d) := by
  cases n with
  | zero => cases d <;> cases h
  | succ n =>
    cases r with
    | z r => exact dp_of s _ d r h
    | l e r => exact .lst (SqL.of e) (dps_of s n _ r h)
    | k _ _ _ => cases h
    | t _ _ _ => cases h
theorem hr_eq {G : GI} (s : Sb F H) (r1 : RB G F H x d1) (r2 : RB G F H y d2) (h : eqD d1 d2 = some d) (k : KR G F H d Q) : rEqD G.K x y H Q := by
  unfold eqD at h
  split at h
  · rename_i he
    injection h with h; subst h
    rw [Bool.and_eq_true] at he
    refine ⟨pd d1, pd d2, dp_ofB s r1 he.1, dp_ofB s r2 he.2, shaped_of he.1 (by decide), shaped_of he.2 (by decide), ?_⟩
    rw [eqv_of 60 d1 d2 60 he.1 he.2]
    exact k.z s (.bl _)
  · cases h
theorem hr_ne {G : GI} (s : Sb F H) (r1 : RB G F H x d1) (r2 : RB G F H y d2) (h : neD d1 d2 = some d) (k : KR G F H d Q) : rNeD G.K x y H Q := by
  unfold neD at h
  split at h
  · rename_i he
    injection h with h; subst h
    rw [Bool.and_eq_true] at he
    refine ⟨pd d1, pd d2, dp_ofB s r1 he.1, dp_ofB s r2 he.2, shaped_of he.1 (by decide), shaped_of he.2 (by decide), ?_⟩
    rw [eqv_of 60 d1 d2 60 he.1 he.2]
    exact k.z s (.bl _)
  · cases h
end
end EV

/-! EvE: items, membership, built-ins: each rule serves its plain reading. -/
namespace EV
open PySem PySem.Spec PyProof.Rows L2
section
variable {X : Cx} {g : GF} {F H : Hp} {x y : V} {d1 d2 d : D} {Q : VK}
theorem keyD_rep {G : GI} {k : Key} (r : RB G F H x d1) (h : keyD d1 = some k) : x = kV k := by
  cases d1 <;> first | (cases h; done) | skip
  · injection h with h; subst h; exact r.int_inv
  · injection h with h; subst h; exact r.str_inv
theorem keysD_rep {G : GI} : ∀ {ds : List D} {vs : List V} {ks : List Key}, ROs G F H [] vs ds → keysD ds = some ks → vs = ks.map kV
  | [], vs, ks, r, h => by
    obtain ⟨e, _⟩ := r.invN
    injection h with h; subst h; rw [e]; rfl
  | d :: ds, [], _, r, _ => nomatch r.length
  | d :: ds, v :: vs, ks, r, h => by
    obtain ⟨r1, r2⟩ := r.unconsZ
    have h2 : ((keyD d).bind fun k => (keysD ds).map (k :: ·)) = some ks := h
    cases q : keyD d with
    | none => rw [q] at h2; cases h2
    | some k =>
      rw [q] at h2
      cases q2 : keysD ds with
      | none => rw [q2] at h2; cases h2
      | some ms =>
        rw [q2] at h2
        injection h2 with h2; subst h2
        rw [keyD_rep (.z r1) q, keysD_rep r2 q2]; rfl
theorem getK_rep {κ : Type} [DecidableEq κ] {G : GI} : ∀ {kvs : List (κ × V)} {kds : List (κ × D)} (k : κ), kvs.map (·.1) = kds.map (·.1) → ROs G F H [] (kvs.map (·.2)) (kds.map (·.2)) →
    (valV kvs k = none ∧ getK kds k = none) ∨ ∃ v d, valV kvs k = some v ∧ getK kds k = some d ∧ RO G F H [] v d
  | [], [], k, _, _ => .inl ⟨rfl, rfl⟩
  | [], _ :: _, k, h, _ => by cases h
  | _ :: _, [], k, h, _ => by cases h
  | a :: kvs, b :: kds, k, h, r => by
    have h1 : a.1 = b.1 ∧ kvs.map (·.1) = kds.map (·.1) := by
      simpa using h
    obtain ⟨r1, r2⟩ := r.unconsZ
    by_cases e : b.1 = k
    · refine .inr ⟨a.2, b.2, valV_pos (h1.1.trans e), ?_, r1⟩
      unfold getK
      rw [List.find?_cons, decide_eq_true e]; rfl
    · rw [valV_neg (p := a) (fun z => e (h1.1.symm.trans z))]
      have e2 : getK (b :: kds) k = getK kds k := by
        unfold getK
        rw [List.find?_cons, decide_eq_false e]
      rw [e2]
      exact getK_rep k h1.2 r2
theorem getK_some {κ : Type} [DecidableEq κ] {G : GI} {kvs : List (κ × V)} {kds : List (κ × D)} {k : κ} (h : kvs.map (·.1) = kds.map (·.1)) (r : ROs G F H [] (kvs.map (·.2)) (kds.map (·.2))) : (valV kvs k).isSome = (getK kds k).isSome := by
  rcases getK_rep k h r with ⟨a, b⟩ | ⟨v, d, a, b, _⟩ <;> rw [a, b] <;> rfl
/-! ### in -/
theorem op_inDk (hu : X.A.units + 1 < cLine) : OpR X (compareOp .In) (fun x y H Q => ∃ a o, y = .ref a ∧ DGet H a x o ∧ Q (.bl o.isSome) H) := by
  intro pins s σ H x y v u Q I rx ry h
  obtain ⟨a, o, rfl, gd, q⟩ := h
  cases (show u = Value.ref a from ry)
  exact d_in hu I gd rx fun s' I' => ⟨.bl o.isSome, H, I', rfl, q⟩
theorem op_notinDk (hu : X.A.units + 1 < cLine) : OpR X (compareOp .NotIn) (fun x y H Q => ∃ a o, y = .ref a ∧ DGet H a x o ∧ Q (.bl (!o.isSome)) H) := by
  intro pins s σ H x y v u Q I rx ry h
  obtain ⟨a, o, rfl, gd, q⟩ := h
  cases (show u = Value.ref a from ry)
  exact d_notIn hu I gd rx fun s' I' => ⟨.bl (!o.isSome), H, I', rfl, q⟩
theorem any_eqv {n : Nat} (h1 : eqOk 60 d1 = true) : ∀ (ds : List D), eqOks n ds = true → (pds ds).any (fun z => PyData.eqv z (pd d1)) = ds.any fun z => eqvD z d1
  | [], _ => rfl
  | d :: ds, h => by
    have h2 : (eqOk n d && eqOks n ds) = true := by
      cases n <;> exact h
    rw [Bool.and_eq_true] at h2
    show (PyData.eqv (pd d) (pd d1) || (pds ds).any _) = (eqvD d d1 || ds.any _)
    rw [eqv_of n d d1 60 h2.1 h1, any_eqv h1 ds h2.2]
theorem flat_ints {G : GI} : ∀ {ds : List D} {vs : List V}, ROs G F H [] vs ds → (ds.all fun y => match y with | .int _ => true | _ => false) = true → vs.all flatV = true ∧ ∀ i, (vs.any fun y => eqV y (.int i)) = ds.any fun y => eqvD y (.int i)
  | [], vs, r, _ => by
    obtain ⟨e, _⟩ := r.invN
    subst e; exact ⟨rfl, fun _ => rfl⟩
  | d :: ds, [], r, _ => nomatch r.length
  | d :: ds, v :: vs, r, h => by
    obtain ⟨r1, r2⟩ := r.unconsZ
    cases d with
    | int j =>
      obtain ⟨h1, h2⟩ := flat_ints r2 (by simpa using h)
      rw [r1.int_inv]
      refine ⟨?_, fun i => ?_⟩
      · show (flatV (.int j) && vs.all flatV) = true
        rw [h1]; rfl
      · show (eqV (.int j) (.int i) || vs.any _) = (eqvD (.int j) (.int i) || ds.any _)
        rw [h2 i]
        congr 1
    | _ => simp at h
theorem hr_in {G : GI} {n : Bool} (s : Sb F H) (r1 : RB G F H x d1) (r2 : RB G F H y d2) (h : inD d1 d2 = some (.bl n)) :
    (∃ d ds, Dp G.K H x d ∧ Dp G.K H y (.list ds) ∧ SeqAt.shaped d = true ∧ SeqAt.shaped (.list ds) = true ∧ (ds.any fun z => PyData.eqv z d) = n) ∨
    ((∃ p xs, y = .ref p ∧ (SqL G.K H p xs ∨ SqT G.K H p xs) ∧ flatV x = true ∧ xs.all flatV = true ∧ inV x xs = n) ∨ ∃ a o, y = .ref a ∧ DGet H a x o ∧ o.isSome = n) := by
  cases d2 with
  | lst o ys =>
    have h : (if eqOk 60 d1 && eqOks 59 ys then some (D.bl (ys.any fun z => eqvD z d1)) else none) = some (.bl n) := by
      cases d1 <;> exact h
    split at h
    · rename_i he
      injection h with h
      injection h with h
      rw [Bool.and_eq_true] at he
      refine .inl ⟨pd d1, pds ys, dp_ofB s r1 he.1, ?_, shaped_of he.1 (by decide), shaped_of (n := 60) (d := .lst o ys) he.2 (by decide), (any_eqv he.1 ys he.2).trans h⟩
      exact dp_ofB (n := 60) (d := .lst o ys) s r2 he.2
    · cases h
  | dk o kds =>
    have h : ((keyD d1).map fun k => D.bl (getK kds k).isSome) = some (.bl n) := by
      cases d1 <;> exact h
    cases q : keyD d1 with
    | none => rw [q] at h; cases h
    | some k =>
      rw [q] at h
      injection h with h
      injection h with h
      obtain ⟨_, a, kvs, rfl, ha, hk, rk⟩ := r2.dk_inv s
      rw [keyD_rep r1 q]
      exact .inr (.inr ⟨a, _, rfl, DGet.k ha, by rw [getK_some hk rk]; exact h⟩)
  | dt o kds =>
    cases d1 with
    | tup ks =>
      have h : ((keysD ks).map fun k => D.bl (getK kds k).isSome) = some (.bl n) := h
      cases q : keysD ks with
      | none => rw [q] at h; cases h
      | some k =>
        rw [q] at h
        injection h with h
        injection h with h
        obtain ⟨_, a, kvs, rfl, ha, hk, rk⟩ := r2.dt_inv s
        obtain ⟨b, vs, rfl, hb, rb⟩ := r1.tup_inv
        rw [keysD_rep rb q] at hb
        exact .inr (.inr ⟨a, _, rfl, DGet.t ha (s _ _ hb), by rw [getK_some hk rk]; exact h⟩)
    | _ => cases h
  | tup ys =>
    cases d1 with
    | int i =>
      have h : (if ys.all (fun y => match y with | .int _ => true | _ => false) then some (D.bl (ys.any fun y => eqvD y (.int i))) else none) = some (.bl n) := h
      split at h
      · rename_i he
        injection h with h
        injection h with h
        obtain ⟨b, vs, rfl, hb, rb⟩ := r2.tup_inv
        obtain ⟨f1, f2⟩ := flat_ints rb he
        rw [r1.int_inv]
        exact .inr (.inl ⟨b, vs, rfl, .inr (SqT.of (s _ _ hb)), rfl, f1, (f2 i).trans h⟩)
      · cases h
    | _ => cases h
  | _ => cases d1 <;> cases h
/-! ### items -/
theorem ix_dict (hu : X.A.units + 1 < cLine) : IxR X (fun x y H Q => ∃ a v, x = .ref a ∧ DGet H a y (some v) ∧ Q v H) := by
  intro value slice pins s σ H x y v u Q I rx ry h hs
  obtain ⟨a, z, rfl, gd, q⟩ := h
  cases rx
  exact tail_any (dict_typeIs I gd) PySem.F.slot_dict_getitem.lookup (d_getItem hu I gd ry fun w' s3 I3 rw' => ⟨z, H, I3, rw', q⟩) hs
theorem ROs.at_ {G : GI} {vs : List V} {ds : List D} (r : ROs G F H [] vs ds) {i : Int} (h : atI ds i = some d) : ∃ u, atI vs i = some u ∧ RO G F H [] u d := by
  unfold atI at h ⊢
  rw [r.length]
  cases q : ixN ds.length i with
  | none => rw [q] at h; cases h
  | some j =>
    rw [q] at h
    exact r.get h
theorem atI_map {α β : Type} (f : α → β) (xs : List α) (i : Int) : atI (xs.map f) i = (atI xs i).map f := by
  unfold atI
  rw [List.length_map]
  cases ixN xs.length i with
  | none => rfl
  | some j => simp
theorem hr_ix {G : GI} (s : Sb F H) (r1 : RB G F H x d1) (r2 : RB G F H y d2) (h : ixD d1 d2 = some d) (k : KR G F H d Q) :
    rIxL G.K x y H Q ∨ (rIxT G.K x y H Q ∨ ∃ a v, x = .ref a ∧ DGet H a y (some v) ∧ Q v H) := by
  cases d1 with
  | tup xs =>
    cases d2 <;> first | (cases h; done) | skip
    rename_i i
    obtain ⟨a, vs, rfl, ha, ra⟩ := r1.tup_inv
    obtain ⟨u, hu, ru⟩ := ra.at_ (i := i) (d := d) h
    exact .inr (.inl ⟨a, vs, i, u, rfl, r2.int_inv, SqT.of (s _ _ ha), hu, k.z s ru⟩)
  | lst o xs =>
    cases d2 <;> first | (cases h; done) | skip
    rename_i i
    obtain ⟨_, a, vs, rfl, ha, ra⟩ := r1.lst_inv s
    obtain ⟨u, hu, ru⟩ := ra.at_ (i := i) (d := d) h
    exact .inl ⟨a, vs, i, u, rfl, r2.int_inv, SqL.of ha, hu, k.z s ru⟩
  | scr ns =>
    cases d2 <;> first | (cases h; done) | skip
    rename_i i
    obtain ⟨a, rfl, ha⟩ := r1.scr_inv
    have h : (atI ns i).map D.int = some d := h
    cases q : atI ns i with
    | none => rw [q] at h; cases h
    | some n =>
      rw [q] at h
      injection h with h; subst h
      exact .inl ⟨a, _, i, .int n, rfl, r2.int_inv, SqL.le ha s, by rw [atI_map, q]; rfl, k.z s (.int n)⟩
  | dk o kds =>
    have h : ((keyD d2).bind fun k => getK kds k) = some d := by
      cases d2 <;> exact h
    cases q : keyD d2 with
    | none => rw [q] at h; cases h
    | some key =>
      rw [q] at h
      have h : getK kds key = some d := h
      obtain ⟨_, a, kvs, rfl, ha, hk, rk⟩ := r1.dk_inv s
      rcases getK_rep key hk rk with ⟨_, z⟩ | ⟨u, e, z1, z2, ru⟩
      · rw [z] at h; cases h
      · rw [z2] at h
        injection h with h; subst h
        rw [keyD_rep r2 q]
        exact .inr (.inr ⟨a, u, rfl, by rw [← z1]; exact DGet.k ha, k.z s ru⟩)
  | dt o kds =>
    cases d2 <;> first | (cases h; done) | skip
    rename_i ks
    have h : ((keysD ks).bind fun k => getK kds k) = some d := h
    cases q : keysD ks with
    | none => rw [q] at h; cases h
    | some key =>
      rw [q] at h
      have h : getK kds key = some d := h
      obtain ⟨_, a, kvs, rfl, ha, hk, rk⟩ := r1.dt_inv s
      obtain ⟨b, vs, rfl, hb, rb⟩ := r2.tup_inv
      rw [keysD_rep rb q] at hb
      rcases getK_rep key hk rk with ⟨_, z⟩ | ⟨u, e, z1, z2, ru⟩
      · rw [z] at h; cases h
      · rw [z2] at h
        injection h with h; subst h
        exact .inr (.inr ⟨a, u, rfl, by rw [← z1]; exact DGet.t ha (s _ _ hb), k.z s ru⟩)
  | _ => cases d2 <;> cases h
/-! ### built-ins -/
theorem hr_len {G : GI} (s : Sb F H) (r1 : RB G F H x d1) (h : lenD d1 = some d) (k : KR G F H d Q) : ∃ n, LenV G.K x H n ∧ Q (.int n) H := by
  cases d1 <;> first | (cases h; done) | skip
  · injection h with h; subst h
    obtain ⟨a, vs, rfl, ha, ra⟩ := r1.tup_inv
    exact ⟨vs.length, .inr ⟨vs, SqT.of (s _ _ ha), rfl⟩, by rw [ra.length]; exact k.z s (.int _)⟩
  · injection h with h; subst h
    obtain ⟨_, a, vs, rfl, ha, ra⟩ := r1.lst_inv s
    exact ⟨vs.length, .inl ⟨vs, SqL.of ha, rfl⟩, by rw [ra.length]; exact k.z s (.int _)⟩
  · injection h with h; subst h
    obtain ⟨a, rfl, ha⟩ := r1.scr_inv
    exact ⟨_, .inl ⟨_, SqL.le ha s, rfl⟩, by rw [List.length_map]; exact k.z s (.int _)⟩
theorem hr_abs {G : GI} (s : Sb F H) (r1 : RB G F H x d1) (h : absD d1 = some d) (k : KR G F H d Q) : ∃ i, [x] = [.int i] ∧ Q (.int (if i < 0 then -i else i)) H := by
  cases d1 <;> first | (cases h; done) | skip
  injection h with h; subst h
  exact ⟨_, by rw [r1.int_inv], k.z s (.int _)⟩
theorem hr_int {G : GI} (s : Sb F H) (r1 : RB G F H x d1) (h : intD d1 = some d) (k : KR G F H d Q) : (∃ i, [x] = [V.int i] ∧ Q (.int i) H) ∨ ∃ k, [x] = [V.bl k] ∧ Q (.int (if k then 1 else 0)) H := by
  cases d1 <;> first | (cases h; done) | skip
  · injection h with h; subst h
    exact .inr ⟨_, by rw [r1.bl_inv], k.z s (.int _)⟩
  · injection h with h; subst h
    exact .inl ⟨_, by rw [r1.int_inv], k.z s (.int _)⟩
theorem hr_max2 {G : GI} (s : Sb F H) (r1 : RB G F H x d1) (r2 : RB G F H y d2) (h : max2D d1 d2 = some d) (k : KR G F H d Q) : ∃ i j, [x, y] = [V.int i, .int j] ∧ Q (.int (if j > i then j else i)) H := by
  cases d1 <;> first | (cases h; done) | skip
  cases d2 <;> first | (cases h; done) | skip
  injection h with h; subst h
  exact ⟨_, _, by rw [r1.int_inv, r2.int_inv], k.z s (.int _)⟩
theorem hr_min2 {G : GI} (s : Sb F H) (r1 : RB G F H x d1) (r2 : RB G F H y d2) (h : min2D d1 d2 = some d) (k : KR G F H d Q) : ∃ i j, [x, y] = [V.int i, .int j] ∧ Q (.int (if j < i then j else i)) H := by
  cases d1 <;> first | (cases h; done) | skip
  cases d2 <;> first | (cases h; done) | skip
  injection h with h; subst h
  exact ⟨_, _, by rw [r1.int_inv, r2.int_inv], k.z s (.int _)⟩
theorem hr_tuple {G : GI} (s : Sb F H) (r1 : RB G F H x d1) (h : tupleD d1 = some d) (k : KR G F H d Q) :
    ∃ p ys, [x] = [V.ref p] ∧ ((SqL G.K H p ys ∧ ∀ l, H l = none → Q (.ref l) (upd H l (.tup ys))) ∨ (SqT G.K H p ys ∧ Q (.ref p) H)) := by
  cases d1 <;> first | (cases h; done) | skip
  · injection h with h; subst h
    obtain ⟨a, vs, rfl, ha, ra⟩ := r1.tup_inv
    exact ⟨a, vs, rfl, .inr ⟨SqT.of (s _ _ ha), k.z s (.tup ha ra)⟩⟩
  · injection h with h; subst h
    obtain ⟨_, a, vs, rfl, ha, ra⟩ := r1.lst_inv s
    exact ⟨a, vs, rfl, .inl ⟨SqL.of ha, fun l hl => k.tup s ra hl⟩⟩
theorem ints_RO {G : GI} : ∀ ns : List Int, ROs G F H [] (ns.map V.int) (ns.map D.int)
  | [] => .nil
  | n :: ns => ROs.consZ (.int n) (ints_RO ns)
theorem hr_list {G : GI} (s : Sb F H) (r1 : RB G F H x d1) (h : listD d1 = some d) (k : KR G F H d Q) :
    ∃ p ys, [x] = [V.ref p] ∧ (SqL G.K H p ys ∨ SqT G.K H p ys) ∧ ∀ l, H l = none → Q (.ref l) (upd H l (.lst ys)) := by
  cases d1 <;> first | (cases h; done) | skip
  · injection h with h; subst h
    obtain ⟨a, vs, rfl, ha, ra⟩ := r1.tup_inv
    exact ⟨a, vs, rfl, .inr (SqT.of (s _ _ ha)), fun l hl => k.lst s ra hl⟩
  · injection h with h; subst h
    obtain ⟨_, a, vs, rfl, ha, ra⟩ := r1.lst_inv s
    exact ⟨a, vs, rfl, .inl (SqL.of ha), fun l hl => k.lst s ra hl⟩
  · injection h with h; subst h
    obtain ⟨a, rfl, ha⟩ := r1.scr_inv
    exact ⟨a, _, rfl, .inl (SqL.le ha s), fun l hl => k.lst s (ints_RO _) hl⟩
theorem hr_sum {G : GI} (s : Sb F H) (r1 : RB G F H x d1) (h : sumD d1 = some d) (k : KR G F H d Q) : rSum G.K [x] H Q := by
  cases d1 <;> first | (cases h; done) | skip
  rename_i o xs
  have h : ((intsD xs).map fun ns => D.int ns.sum) = some d := h
  cases q : intsD xs with
  | none => rw [q] at h; cases h
  | some ns =>
    rw [q] at h
    injection h with h; subst h
    obtain ⟨_, a, vs, rfl, ha, ra⟩ := r1.lst_inv s
    rw [ints_rep ra q] at ha
    exact ⟨a, ns, rfl, SqL.of ha, k.z s (.int _)⟩
theorem maxL_ok : ∀ ns : List Int, 0 < ns.length → maxL ns ∈ ns ∧ ∀ y, y ∈ ns → y ≤ maxL ns
  | [], h => nomatch h
  | [a], _ => ⟨by simp [maxL], fun y hy => by simp at hy; subst hy; exact Int.le_refl _⟩
  | a :: b :: r, _ => by
    obtain ⟨h1, h2⟩ := maxL_ok (b :: r) (by simp)
    unfold maxL
    split
    · rename_i hl
      refine ⟨List.mem_cons_self .., fun y hy => ?_⟩
      rcases List.mem_cons.mp hy with e | hy
      · omega
      · have := h2 y hy; omega
    · refine ⟨List.mem_cons_of_mem _ h1, fun y hy => ?_⟩
      rcases List.mem_cons.mp hy with e | hy
      · omega
      · exact h2 y hy
theorem minL_ok : ∀ ns : List Int, 0 < ns.length → minL ns ∈ ns ∧ ∀ y, y ∈ ns → minL ns ≤ y
  | [], h => nomatch h
  | [a], _ => ⟨by simp [minL], fun y hy => by simp at hy; subst hy; exact Int.le_refl _⟩
  | a :: b :: r, _ => by
    obtain ⟨h1, h2⟩ := minL_ok (b :: r) (by simp)
    unfold minL
    split
    · rename_i hl
      refine ⟨List.mem_cons_self .., fun y hy => ?_⟩
      rcases List.mem_cons.mp hy with e | hy
      · omega
      · have := h2 y hy; omega
    · refine ⟨List.mem_cons_of_mem _ h1, fun y hy => ?_⟩
      rcases List.mem_cons.mp hy with e | hy
      · omega
      · exact h2 y hy
theorem hr_max1 {G : GI} (s : Sb F H) (r1 : RB G F H x d1) (h : max1D d1 = some d) (k : KR G F H d Q) : rMax G.K [x] H Q := by
  cases d1 <;> first | (cases h; done) | skip
  rename_i o xs
  have h : ((intsD xs).bind fun ns => if 0 < ns.length then some (D.int (maxL ns)) else none) = some d := h
  cases q : intsD xs with
  | none => rw [q] at h; cases h
  | some ns =>
    rw [q] at h
    have h : (if 0 < ns.length then some (D.int (maxL ns)) else none) = some d := h
    split at h
    · rename_i hl
      injection h with h; subst h
      obtain ⟨_, a, vs, rfl, ha, ra⟩ := r1.lst_inv s
      rw [ints_rep ra q] at ha
      refine ⟨a, ns, rfl, SqL.of ha, hl, fun m h1 h2 => ?_⟩
      obtain ⟨h3, h4⟩ := maxL_ok ns hl
      rw [show m = maxL ns from Int.le_antisymm (h4 m h1) (h2 _ h3)]
      exact k.z s (.int _)
    · cases h
theorem hr_min1 {G : GI} (s : Sb F H) (r1 : RB G F H x d1) (h : min1D d1 = some d) (k : KR G F H d Q) : rMin G.K [x] H Q := by
  cases d1 <;> first | (cases h; done) | skip
  rename_i o xs
  have h : ((intsD xs).bind fun ns => if 0 < ns.length then some (D.int (minL ns)) else none) = some d := h
  cases q : intsD xs with
  | none => rw [q] at h; cases h
  | some ns =>
    rw [q] at h
    have h : (if 0 < ns.length then some (D.int (minL ns)) else none) = some d := h
    split at h
    · rename_i hl
      injection h with h; subst h
      obtain ⟨_, a, vs, rfl, ha, ra⟩ := r1.lst_inv s
      rw [ints_rep ra q] at ha
      refine ⟨a, ns, rfl, SqL.of ha, hl, fun m h1 h2 => ?_⟩
      obtain ⟨h3, h4⟩ := minL_ok ns hl
      rw [show m = minL ns from Int.le_antisymm (h2 _ h3) (h4 m h1)]
      exact k.z s (.int _)
    · cases h
theorem hr_all {G : GI} (s : Sb F H) (r1 : RB G F H x d1) (h : allD d1 = some d) (k : KR G F H d Q) : rAll G.K [x] H Q := by
  cases d1 <;> first | (cases h; done) | skip
  rename_i o xs
  have h : ((blsD xs).map fun ns => D.bl (ns.all id)) = some d := h
  cases q : blsD xs with
  | none => rw [q] at h; cases h
  | some ns =>
    rw [q] at h
    injection h with h; subst h
    obtain ⟨_, a, vs, rfl, ha, ra⟩ := r1.lst_inv s
    rw [bls_rep ra q] at ha
    exact ⟨a, ns, rfl, SqL.of ha, k.z s (.bl _)⟩
theorem hr_any {G : GI} (s : Sb F H) (r1 : RB G F H x d1) (h : anyD d1 = some d) (k : KR G F H d Q) : rAny G.K [x] H Q := by
  cases d1 <;> first | (cases h; done) | skip
  rename_i o xs
  have h : ((blsD xs).map fun ns => D.bl (ns.any id)) = some d := h
  cases q : blsD xs with
  | none => rw [q] at h; cases h
  | some ns =>
    rw [q] at h
    injection h with h; subst h
    obtain ⟨_, a, vs, rfl, ha, ra⟩ := r1.lst_inv s
    rw [bls_rep ra q] at ha
    exact ⟨a, ns, rfl, SqL.of ha, k.z s (.bl _)⟩
def Ty.nm : Ty → String
  | .int => "int"
  | .bool => "bool"
  | .tuple => "tuple"
  | .list => "list"
  | .str => "str"
theorem kit_ty {K : PySem.W.Frag} (t : String) (T : Ty) : PySem.W.kitOne K (.type t) (.type T.nm) = PySem.W.kitOne [] (.type t) (.type T.nm) := rfl
theorem hr_isi {G : GI} {T : Ty} {b : Bool} (s : Sb F H) (r1 : RB G F H x d1) (h : isiD T d1 = some b) (q : Q (.bl b) H) : rIsi G.K [x, .ty T.nm] H Q := by
  refine ⟨x, .ty T.nm, ?_⟩
  cases d1 with
  | non => exact ⟨.type "NoneType", .type T.nm, b, rfl, .ty _, .base (by rw [r1.non_inv]; exact .non), by rw [kit_ty]; cases T <;> (injection h with h; subst h; decide +kernel), q⟩
  | bl c => exact ⟨.type "bool", .type T.nm, b, rfl, .ty _, .base (by rw [r1.bl_inv]; exact .bl _), by rw [kit_ty]; cases T <;> (injection h with h; subst h; decide +kernel), q⟩
  | int c => exact ⟨.type "int", .type T.nm, b, rfl, .ty _, .base (by rw [r1.int_inv]; exact .int _), by rw [kit_ty]; cases T <;> (injection h with h; subst h; decide +kernel), q⟩
  | str c => exact ⟨.type "str", .type T.nm, b, rfl, .ty _, .base (by rw [r1.str_inv]; exact .str _), by rw [kit_ty]; cases T <;> (injection h with h; subst h; decide +kernel), q⟩
  | tup xs =>
    obtain ⟨a, vs, rfl, ha, _⟩ := r1.tup_inv
    exact ⟨.type "tuple", .type T.nm, b, rfl, .ty _, .base (.tup (s _ _ ha)), by rw [kit_ty]; cases T <;> (injection h with h; subst h; decide +kernel), q⟩
  | lst o xs =>
    obtain ⟨_, a, vs, rfl, ha, _⟩ := r1.lst_inv s
    exact ⟨.type "list", .type T.nm, b, rfl, .ty _, .base (.lst ha), by rw [kit_ty]; cases T <;> (injection h with h; subst h; decide +kernel), q⟩
  | _ => cases T <;> cases h
theorem isE {α β : Type} : ∀ {xs : List α} {ys : List β}, xs.length = ys.length → (!ys.isEmpty) = !xs.isEmpty
  | [], [], _ => rfl
  | [], _ :: _, h => nomatch h
  | _ :: _, [], h => nomatch h
  | _ :: _, _ :: _, _ => rfl
theorem hr_tru {G : GI} {b : Bool} (s : Sb F H) (r1 : RB G F H x d1) (h : truD d1 = some b) : TruV G.K x H b := by
  cases d1 <;> first | (cases h; done) | skip
  · injection h with h; subst h; rw [r1.non_inv]; rfl
  · injection h with h; subst h; rw [r1.bl_inv]; rfl
  · injection h with h; subst h; rw [r1.int_inv]; rfl
  · injection h with h; subst h
    obtain ⟨a, vs, rfl, ha, ra⟩ := r1.tup_inv
    exact .inr (.inl ⟨vs, SqT.of (s _ _ ha), isE ra.length⟩)
  · injection h with h; subst h
    obtain ⟨_, a, vs, rfl, ha, ra⟩ := r1.lst_inv s
    exact .inl ⟨vs, SqL.of ha, isE ra.length⟩
end
end EV

/-! EvF: expressions of the text have plain readings. -/
namespace EV
open PySem PySem.Spec PyProof.Rows L2

/-- what is known of where one stands -/
structure Cn (X : Cx) (N : List Str) (sc : Scope) (fr : List Str) : Prop where
  hN : X.N = N
  nd : N.Nodup
  hsc : X.env.scope = sc
  calm : X.calm = true
  hu : X.A.units + 200 < cLine
  hfr : ∀ x, x ∈ fr → X.mg x = none
def visB (sc : Scope) (x : Str) : Bool := match sc.names.lookup x with
  | some .local => true
  | some .cell => true
  | some .free => true
  | _ => false
def glB (sc : Scope) (x : Str) : Bool := match sc.names.lookup x with
  | some .globalImplicit => true
  | _ => false
theorem visB_ok {sc : Scope} {x : Str} (h : visB sc x = true) : Vis sc x := by
  unfold visB at h
  split at h
  · rename_i q; exact .inl q
  · rename_i q; exact .inr (.inl q)
  · rename_i q; exact .inr (.inr q)
  · cases h
theorem glB_ok {sc : Scope} {x : Str} (h : glB sc x = true) : sc.names.lookup x = some .globalImplicit := by
  unfold glB at h
  split at h
  · rename_i q; exact q
  · cases h
/-- a local name at its slot -/
def varB (N : List Str) (sc : Scope) (i : Nat) (x : Str) : Bool := decide (N[i]? = some x) && (visB sc x && (!(x == ("__debug__" : Str)) && !(x == ("__classdict__" : Str))))
section
variable {X : Cx} {N : List Str} {sc : Scope} {fr : List Str} {g : GF} {W : WX} {a b c : Expr} {pos p2 p3 : Pos} {oa ob : Op} {ma mb : ME}
theorem Cn.hu1 (C : Cn X N sc fr) : X.A.units + 1 < cLine := by have := C.hu; omega
theorem Cn.hu0 (C : Cn X N sc fr) : X.A.units < cLine := by have := C.hu; omega
theorem Cn.hu64 (C : Cn X N sc fr) : X.A.units + 64 < cLine := by have := C.hu; omega
theorem Cn.hu65 (C : Cn X N sc fr) : X.A.units + 65 < cLine := by have := C.hu; omega
theorem pv_ok (C : Cn X N sc fr) {i : Nat} {x : Str} (h : varB N sc i x = true) : PE X (.Name x pos) (tVar i) := by
  unfold varB at h
  rw [Bool.and_eq_true, Bool.and_eq_true, Bool.and_eq_true, decide_eq_true_eq] at h
  obtain ⟨h1, h2, h3, h4⟩ := h
  exact pe_var (by rw [C.hN]; exact h1) (by rw [C.hsc]; exact visB_ok h2) (by simpa using h3) (by simpa using h4)
theorem gl_ok (C : Cn X N sc fr) {x : Str} (h : glB sc x = true) : Gl X x := by
  show X.env.scope.names.lookup x = _
  rw [C.hsc]; exact glB_ok h
abbrev SOp (X : Cx) (g : GF) (W : WX) (e : Expr) (o : Op) : Prop := PE X e (RdO (gOf X g) W o)
theorem SOp.v (C : Cn X N sc fr) {i : Nat} {x : Str} (h : varB N sc i x = true) : SOp X g W (.Name x pos) (.v i) := pv_ok C h
theorem SOp.e (h : SE X g W a ma) : SOp X g W a (.e ma) := h.z
/-! ### constants, names -/
def mC (d : D) : ME := fun e => .ok d e
theorem Tr.nil {F H F' H' : Hp} {O O' : Addr → Prop} (t : Tr F H O F' H' O') : Tr F H O F' H' (fun a => O' a ∨ a ∈ ([] : List Addr)) := t.drop fun _ z => z.elim id fun z => nomatch z
theorem RdE.const {G : GI} {W : WX} {d : D} {v : V} (r : ∀ F H, RO G F H [] v d) {σ : L2.St} {H : Hp} {Q : VK} (h : RdE G W (mC d) σ H Q) : Q v H := by
  obtain ⟨F, fp, e, s, h⟩ := h
  exact h v F H fp [] s (TO.z (r F H)) Tr.refl.nil
theorem se_int {i : Int} {j : Nat} : SE X g W (.Constant (.int i) j pos) (mC (.int i)) := PE.imp pe_int fun _ _ _ h => RdE.const (fun _ _ => .int i) h
theorem se_bl {i : Bool} {j : Nat} : SE X g W (.Constant (.bool i) j pos) (mC (.bl i)) := PE.imp pe_bl fun _ _ _ h => RdE.const (fun _ _ => .bl i) h
theorem se_non {j : Nat} : SE X g W (.Constant .none j pos) (mC .non) := PE.imp pe_non fun _ _ _ h => RdE.const (fun _ _ => .non) h
theorem se_str {i : Str} {j : Nat} : SE X g W (.Constant (.str i) j pos) (mC (.str i)) := PE.imp pe_str fun _ _ _ h => RdE.const (fun _ _ => .str i) h
/-- a name's value: shared from now on if it is not yet -/
def mV (i : Nat) : ME := fun e => match e[i]? with
  | some (some d) => if fz d = true then .ok d e else .ok (frz d) (e.set i (some (frz d)))
  | _ => .no
/-- a name's value handed on: the name is forgotten -/
def mMv (i : Nat) : ME := fun e => match e[i]? with
  | some (some d) => .ok d (e.set i none)
  | _ => .no
theorem se_v (C : Cn X N sc fr) {i : Nat} {x : Str} (h : varB N sc i x = true) : SE X g W (.Name x pos) (mV i) := PE.imp (pv_ok C h) fun σ H Q h => by
  obtain ⟨F, fp, e, s, h⟩ := RdE.iff.mp h
  unfold mV at h
  cases q : e[i]? with
  | none => rw [q] at h; exact h.elim
  | some o =>
    cases o with
    | none => rw [q] at h; exact h.elim
    | some d =>
      rw [q] at h
      obtain ⟨v, hv, r⟩ := s.rep i d q
      refine ⟨v, hv, ?_⟩
      simp only at h
      split at h
      · rename_i hf
        rw [r.nil_of_fz hf] at r
        exact h v F H fp [] s (TO.z r) Tr.refl.nil
      · have s2 := s.shareAt q
        exact h v _ H _ [] s2 (TO.z (r.frz (addF_le (s.sep i)) fun a z o => addF_at a z o)) (Tr.shareAt (s.sep i)).nil
theorem se_mv (C : Cn X N sc fr) {i : Nat} {x : Str} (h : varB N sc i x = true) : SE X g W (.Name x pos) (mMv i) := PE.imp (pv_ok C h) fun σ H Q h => by
  obtain ⟨F, fp, e, s, h⟩ := RdE.iff.mp h
  unfold mMv at h
  cases q : e[i]? with
  | none => rw [q] at h; exact h.elim
  | some o =>
    cases o with
    | none => rw [q] at h; exact h.elim
    | some d =>
      rw [q] at h
      obtain ⟨v, hv, t⟩ := s.take q
      exact ⟨v, hv, h v F H _ _ s.forget t (Tr.refl.drop own_take)⟩
/-! ### operators -/
theorem se_add (ha : SOp X g W a oa) (hb : SOp X g W b ob) : SE X g W (.BinOp a .Add b pos) (mOp2 addD oa ob) := PE.imp (pe_op (op_add.or (op_cat.or op_catA)) ha hb) fun _ _ _ h => rd_op2 (fun _ _ _ _ _ _ _ _ s r1 r2 h k => hr_add s r1 r2 h k) h
theorem se_sub (ha : SOp X g W a oa) (hb : SOp X g W b ob) : SE X g W (.BinOp a .Sub b pos) (mOp2 subD oa ob) := PE.imp (pe_op op_sub ha hb) fun _ _ _ h => rd_op2 (fun _ _ _ _ _ _ _ _ s r1 r2 h k => hr_sub s r1 r2 h k) h
theorem se_mul (ha : SOp X g W a oa) (hb : SOp X g W b ob) : SE X g W (.BinOp a .Mult b pos) (mOp2 mulD oa ob) := PE.imp (pe_op (op_mul.or (op_mulW.or op_rep)) ha hb) fun _ _ _ h => rd_op2 (fun _ _ _ _ _ _ _ _ s r1 r2 h k => hr_mul s r1 r2 h k) h
theorem se_fdiv (ha : SOp X g W a oa) (hb : SOp X g W b ob) : SE X g W (.BinOp a .FloorDiv b pos) (mOp2 fdivD oa ob) := PE.imp (pe_op op_fdivA ha hb) fun _ _ _ h => rd_op2 (fun _ _ _ _ _ _ _ _ s r1 r2 h k => hr_fdiv s r1 r2 h k) h
theorem se_mod (ha : SOp X g W a oa) (hb : SOp X g W b ob) : SE X g W (.BinOp a .Mod b pos) (mOp2 modD oa ob) := PE.imp (pe_op op_modN ha hb) fun _ _ _ h => rd_op2 (fun _ _ _ _ _ _ _ _ s r1 r2 h k => hr_mod s r1 r2 h k) h
theorem se_pow (ha : SOp X g W a oa) (hb : SOp X g W b ob) : SE X g W (.BinOp a .Pow b pos) (mOp2 powD oa ob) := PE.imp (pe_op op_pow ha hb) fun _ _ _ h => rd_op2 (fun _ _ _ _ _ _ _ _ s r1 r2 h k => hr_pow s r1 r2 h k) h
theorem se_neg (ha : SOp X g W a oa) : SE X g W (.UnaryOp .USub a pos) (mOp1 negD oa) := PE.imp (pe_un un_neg ha) fun _ _ _ h => rd_op1 (r := fun x H Q => rU (fun i => .int (-i)) x H Q) (fun _ _ _ _ _ _ s r1 h k => hr_neg s r1 h k) h
theorem se_lt (ha : SOp X g W a oa) (hb : SOp X g W b ob) : SE X g W (.Compare a [.Lt] [b] pos) (mOp2 (cmpD fun i j => decide (i < j)) oa ob) := PE.imp (pe_cmpR op_lt ha hb (nomark _)) fun _ _ _ h => rd_op2 (fun _ _ _ _ _ _ _ _ s r1 r2 h k => hr_cmp s r1 r2 h k) h
theorem se_le (ha : SOp X g W a oa) (hb : SOp X g W b ob) : SE X g W (.Compare a [.LtE] [b] pos) (mOp2 (cmpD fun i j => decide (i ≤ j)) oa ob) := PE.imp (pe_cmpR op_le ha hb (nomark _)) fun _ _ _ h => rd_op2 (fun _ _ _ _ _ _ _ _ s r1 r2 h k => hr_cmp s r1 r2 h k) h
theorem se_gt (ha : SOp X g W a oa) (hb : SOp X g W b ob) : SE X g W (.Compare a [.Gt] [b] pos) (mOp2 (cmpD fun i j => decide (j < i)) oa ob) := PE.imp (pe_cmpR op_gt ha hb (nomark _)) fun _ _ _ h => rd_op2 (fun _ _ _ _ _ _ _ _ s r1 r2 h k => hr_cmp s r1 r2 h k) h
theorem se_ge (ha : SOp X g W a oa) (hb : SOp X g W b ob) : SE X g W (.Compare a [.GtE] [b] pos) (mOp2 (cmpD fun i j => decide (j ≤ i)) oa ob) := PE.imp (pe_cmpR op_ge ha hb (nomark _)) fun _ _ _ h => rd_op2 (fun _ _ _ _ _ _ _ _ s r1 r2 h k => hr_cmp s r1 r2 h k) h
theorem se_eq (C : Cn X N sc fr) (ha : SOp X g W a oa) (hb : SOp X g W b ob) : SE X g W (.Compare a [.Eq] [b] pos) (mOp2 eqD oa ob) := PE.imp (pe_cmpR (op_eqD C.hu64) ha hb (nomark _)) fun _ _ _ h => rd_op2 (fun _ _ _ _ _ _ _ _ s r1 r2 h k => hr_eq s r1 r2 h k) h
theorem se_ne (C : Cn X N sc fr) (ha : SOp X g W a oa) (hb : SOp X g W b ob) : SE X g W (.Compare a [.NotEq] [b] pos) (mOp2 neD oa ob) := PE.imp (pe_cmpR (op_neD C.hu64) ha hb (nomark _)) fun _ _ _ h => rd_op2 (fun _ _ _ _ _ _ _ _ s r1 r2 h k => hr_ne s r1 r2 h k) h
theorem se_isN (ha : SOp X g W a oa) {j : Nat} : SE X g W (.Compare a [.Is] [.Constant .none j p2] pos) (mOp1 (fun d => some (.bl (isN d))) oa) := PE.imp (pe_cmp (pc_isN ha) rfl) fun _ _ _ h => rd_op1 (r := fun x H Q => Q (.bl (decide (x = .non))) H) (fun _ _ _ _ _ _ s r1 h k => hr_isN s r1 h k) h
theorem se_notN (ha : SOp X g W a oa) {j : Nat} : SE X g W (.Compare a [.IsNot] [.Constant .none j p2] pos) (mOp1 (fun d => some (.bl (!isN d))) oa) := PE.imp (pe_cmp (pc_notN ha) rfl) fun _ _ _ h => rd_op1 (r := fun x H Q => Q (.bl (!decide (x = .non))) H) (fun _ _ _ _ _ _ s r1 h k => hr_notN s r1 h k) h
theorem se_isB {k : Bool} (ha : SOp X g W a oa) {j : Nat} : SE X g W (.Compare a [.Is] [.Constant (.bool k) j p2] pos) (mOp1 (fun d => some (.bl (isB k d))) oa) := PE.imp (pe_cmpR (op_isC (b := k)) ha pe_bl (nomark _)) fun _ _ _ h =>
  rd_op1 (r := fun x H Q => V.bl k = V.bl k ∧ Q (.bl (decide (x = .bl k))) H) (fun _ _ _ _ _ _ s r1 h kk => ⟨rfl, by injection h with h; subst h; rw [isB_rep r1]; exact kk.z s (.bl _)⟩) h
theorem se_notB {k : Bool} (ha : SOp X g W a oa) {j : Nat} : SE X g W (.Compare a [.IsNot] [.Constant (.bool k) j p2] pos) (mOp1 (fun d => some (.bl (!isB k d))) oa) := PE.imp (pe_cmpR (op_isnotC (b := k)) ha pe_bl (nomark _)) fun _ _ _ h =>
  rd_op1 (r := fun x H Q => V.bl k = V.bl k ∧ Q (.bl (!decide (x = .bl k))) H) (fun _ _ _ _ _ _ s r1 h kk => ⟨rfl, by injection h with h; subst h; rw [isB_rep r1]; exact kk.z s (.bl _)⟩) h
def inB : D → D → Option D := fun a b => match inD a b with
  | some (.bl n) => some (.bl n)
  | _ => none
def notinB : D → D → Option D := fun a b => match inD a b with
  | some (.bl n) => some (.bl (!n))
  | _ => none
theorem inB_some {d1 d2 d : D} (h : inB d1 d2 = some d) : ∃ n, inD d1 d2 = some (.bl n) ∧ d = .bl n := by
  unfold inB at h
  split at h
  · rename_i n q; injection h with h; exact ⟨n, q, h.symm⟩
  · cases h
theorem notinB_some {d1 d2 d : D} (h : notinB d1 d2 = some d) : ∃ n, inD d1 d2 = some (.bl n) ∧ d = .bl (!n) := by
  unfold notinB at h
  split at h
  · rename_i n q; injection h with h; exact ⟨n, q, h.symm⟩
  · cases h
theorem se_in (C : Cn X N sc fr) (ha : SOp X g W a oa) (hb : SOp X g W b ob) (hm : behindInMarks .In b = false) : SE X g W (.Compare a [.In] [b] pos) (mOp2 inB oa ob) :=
  PE.imp (pe_cmpR ((op_inD C.hu65).or (op_in_seq.or (op_inDk C.hu1))) ha hb hm) fun _ _ _ h => rd_op2 (r := fun x y H Q => rInD X.K x y H Q ∨ rIn X.K false x y H Q ∨ ∃ a o, y = V.ref a ∧ DGet H a x o ∧ Q (V.bl o.isSome) H) (fun _ _ _ _ _ _ _ _ s r1 r2 h k => by
    obtain ⟨n, q, rfl⟩ := inB_some h
    have z := k.z s (.bl n)
    rcases hr_in s r1 r2 q with ⟨d, ds, h1, h2, h3, h4, h5⟩ | ⟨p, xs, h1, h2, h3, h4, h5⟩ | ⟨a, o, h1, h2, h3⟩
    · exact .inl ⟨d, ds, h1, h2, h3, h4, by rw [h5]; exact z⟩
    · exact .inr (.inl ⟨p, xs, h1, h2, h3, h4, by first | (rw [if_neg Bool.false_ne_true, h5]; exact z) | (rw [if_pos rfl, h5]; exact z)⟩)
    · exact .inr (.inr ⟨a, o, h1, h2, by rw [h3]; exact z⟩)) h
theorem se_notin (C : Cn X N sc fr) (ha : SOp X g W a oa) (hb : SOp X g W b ob) (hm : behindInMarks .NotIn b = false) : SE X g W (.Compare a [.NotIn] [b] pos) (mOp2 notinB oa ob) :=
  PE.imp (pe_cmpR ((op_notInD C.hu65).or (op_notIn_seq.or (op_notinDk C.hu1))) ha hb hm) fun _ _ _ h => rd_op2 (r := fun x y H Q => rNotInD X.K x y H Q ∨ rIn X.K true x y H Q ∨ ∃ a o, y = V.ref a ∧ DGet H a x o ∧ Q (V.bl !o.isSome) H) (fun _ _ _ _ _ _ _ _ s r1 r2 h k => by
    obtain ⟨n, q, rfl⟩ := notinB_some h
    have z := k.z s (.bl !n)
    rcases hr_in s r1 r2 q with ⟨d, ds, h1, h2, h3, h4, h5⟩ | ⟨p, xs, h1, h2, h3, h4, h5⟩ | ⟨a, o, h1, h2, h3⟩
    · exact .inl ⟨d, ds, h1, h2, h3, h4, by rw [h5]; exact z⟩
    · exact .inr (.inl ⟨p, xs, h1, h2, h3, h4, by first | (rw [if_neg Bool.false_ne_true, h5]; exact z) | (rw [if_pos rfl, h5]; exact z)⟩)
    · exact .inr (.inr ⟨a, o, h1, h2, by rw [h3]; exact z⟩)) h
theorem se_ix (C : Cn X N sc fr) (ha : SOp X g W a oa) (hb : SOp X g W b ob) (hs : PlainIx b) : SE X g W (.Subscript a b pos) (mOp2 ixD oa ob) :=
  PE.imp (pe_ix (ix_list.or (ix_tup.or (ix_dict C.hu1))) ha hb hs) fun _ _ _ h => rd_op2 (fun _ _ _ _ _ _ _ _ s r1 r2 h k => hr_ix s r1 r2 h k) h
/-! ### built-ins of one argument, of two -/
theorem se_b1 {id : String} {nm : Str} {r : List V → Hp → VK → Prop} {f : D → Option D} (C : Cn X N sc fr) (hc : CallR X (.builtin id) r) (hv : bootBuiltins nm = some (.builtin id)) (hn : nm ≠ "__name__") (hdb : (nm == ("__debug__" : Str)) = false)
    (hr : ∀ F H x d1 d Q, Sb F H → RB (gOf X g) F H x d1 → f d1 = some d → KR (gOf X g) F H d Q → r [x] H Q)
    (h1 : nm ∈ fr) (h2 : glB sc nm = true) (ha : SOp X g W a oa) (hs : starEach [a] X.env = (false, eval a X.env) :: starEach [] X.env) : SE X g W (.Call (.Name nm p2) [a] [] pos) (mOp1 f oa) :=
  PE.imp (pe_callB hc (gl_ok C h2) (C.hfr _ h1) hv (pa_cons ha pa_nil hs) hn hdb hs) fun _ _ _ h => rd_op1 (r := fun x H Q => r [x] H Q) (fun F H x d1 d Q s r1 h k => hr F H x d1 d Q s r1 h k) h
theorem se_t1 {id : String} {nm : Str} {r : List V → Hp → VK → Prop} {f : D → Option D} (C : Cn X N sc fr) (hc : CallR X (.type id) r) (hv : bootBuiltins nm = some (.type id)) (hn : nm ≠ "__name__") (hdb : (nm == ("__debug__" : Str)) = false)
    (hr : ∀ F H x d1 d Q, Sb F H → RB (gOf X g) F H x d1 → f d1 = some d → KR (gOf X g) F H d Q → r [x] H Q)
    (h1 : nm ∈ fr) (h2 : glB sc nm = true) (ha : SOp X g W a oa) (hs : starEach [a] X.env = (false, eval a X.env) :: starEach [] X.env) : SE X g W (.Call (.Name nm p2) [a] [] pos) (mOp1 f oa) :=
  PE.imp (pe_callTy hc (gl_ok C h2) (C.hfr _ h1) hv (pa_cons ha pa_nil hs) hn hdb hs) fun _ _ _ h => rd_op1 (r := fun x H Q => r [x] H Q) (fun F H x d1 d Q s r1 h k => hr F H x d1 d Q s r1 h k) h
theorem se_b2 {id : String} {nm : Str} {r : List V → Hp → VK → Prop} {f : D → D → Option D} (C : Cn X N sc fr) (hc : CallR X (.builtin id) r) (hv : bootBuiltins nm = some (.builtin id)) (hn : nm ≠ "__name__") (hdb : (nm == ("__debug__" : Str)) = false)
    (hr : ∀ F H x y d1 d2 d Q, Sb F H → RB (gOf X g) F H x d1 → RB (gOf X g) F H y d2 → f d1 d2 = some d → KR (gOf X g) F H d Q → r [x, y] H Q)
    (h1 : nm ∈ fr) (h2 : glB sc nm = true) (ha : SOp X g W a oa) (hb : SOp X g W b ob) (hs : starEach [a, b] X.env = (false, eval a X.env) :: starEach [b] X.env) (hs2 : starEach [b] X.env = (false, eval b X.env) :: starEach [] X.env) (hpl : (backTo pos (starEach [b] X.env)).any (·.1) = false) :
    SE X g W (.Call (.Name nm p2) [a, b] [] pos) (mOp2 f oa ob) :=
  PE.imp (pe_callB hc (gl_ok C h2) (C.hfr _ h1) hv (pa_cons ha (pa_cons hb pa_nil hs2) hs) hn hdb hs hpl) fun _ _ _ h => rd_op2 (r := fun x y H Q => r [x, y] H Q) (fun F H x y d1 d2 d Q s r1 r2 h k => hr F H x y d1 d2 d Q s r1 r2 h k) h
/-- isinstance(x, T) -/
theorem se_isi {T : Ty} (C : Cn X N sc fr) (h1 : ("isinstance" : Str) ∈ fr) (h2 : glB sc "isinstance" = true) (hT : ((Str.ofString T.nm) : Str) ∈ fr) (hT2 : glB sc (Str.ofString T.nm) = true) (ha : SOp X g W a oa)
    (hs : starEach [a, .Name (Str.ofString T.nm) p3] X.env = (false, eval a X.env) :: starEach [.Name (Str.ofString T.nm) p3] X.env) :
    SE X g W (.Call (.Name "isinstance" p2) [a, .Name (Str.ofString T.nm) p3] [] pos) (mOp1 (fun d => (isiD T d).map .bl) oa) := by
  have ht : PE X (.Name (Str.ofString T.nm) p3) (tC (.ty T.nm)) := by
    cases T
    · exact pe_bltn (gl_ok C hT2) (C.hfr _ hT) (u := .type "int") (by decide +kernel) rfl (by decide) (by decide)
    · exact pe_bltn (gl_ok C hT2) (C.hfr _ hT) (u := .type "bool") (by decide +kernel) rfl (by decide) (by decide)
    · exact pe_bltn (gl_ok C hT2) (C.hfr _ hT) (u := .type "tuple") (by decide +kernel) rfl (by decide) (by decide)
    · exact pe_bltn (gl_ok C hT2) (C.hfr _ hT) (u := .type "list") (by decide +kernel) rfl (by decide) (by decide)
    · exact pe_bltn (gl_ok C hT2) (C.hfr _ hT) (u := .type "str") (by decide +kernel) rfl (by decide) (by decide)
  refine PE.imp (pe_callB call_isi (gl_ok C h2) (C.hfr _ h1) (by decide +kernel) (pa_cons ha (pa_cons ht pa_nil rfl) hs) (by decide) (by decide) hs rfl) fun _ _ _ h => rd_op1 (r := fun x H Q => rIsi X.K [x, .ty T.nm] H Q) (fun F H x d1 d Q s r1 h k => ?_) h
  cases q : isiD T d1 with
  | none => rw [q] at h; cases h
  | some b =>
    rw [q] at h
    injection h with h; subst h
    exact hr_isi s r1 q (k.z s (.bl _))
end
end EV

/-! EvG: argument lists, displays, tests, choices. -/
namespace EV
open PySem PySem.Spec PyProof.Rows L2

/-! ### argument lists: values, and names that are lent -/
inductive PA1 where
  | t (d : D) | l (j : Nat)
inductive RA where
  | ok (as : List PA1) (e : DEnv) | ex (c : Nat) (d : D) (e : DEnv) | no
inductive Ar where
  | t (m : ME) | l (j : Nat)
def RA.cons (a : PA1) : RA → RA
  | .ok as e => .ok (a :: as) e
  | .ex c d e => .ex c d e
  | .no => .no
def mA : List Ar → DEnv → RA
  | [], e => .ok [] e
  | .t m :: r, e => match m e with
    | .ok d e1 => (mA r e1).cons (.t d)
    | .ex c d e1 => .ex c d e1
    | .no => .no
  | .l j :: r, e => match e[j]? with
    | some (some _) => (mA r e).cons (.l j)
    | _ => .no
inductive AR (G : GI) (F H : Hp) (σ : L2.St) : List Addr → List V → List PA1 → Prop
  | nil : AR G F H σ [] [] []
  | t {p q : List Addr} {v : V} {vs : List V} {d : D} {as : List PA1} : RO G F H p v d → AR G F H σ q vs as → AR G F H σ (p ++ q) (v :: vs) (.t d :: as)
  | l {q : List Addr} {v : V} {vs : List V} {j : Nat} {as : List PA1} : σ[j]? = some (some v) → AR G F H σ q vs as → AR G F H σ q (v :: vs) (.l j :: as)
theorem AR.mono {G : GI} {F H F' H' : Hp} {σ : L2.St} (hF : ∀ a o, F a = some o → F' a = some o) : ∀ {p : List Addr} {vs : List V} {as : List PA1}, AR G F H σ p vs as → (∀ a, a ∈ p → ∀ o, H a = some o → H' a = some o) → AR G F' H' σ p vs as
  | _, _, _, .nil, _ => .nil
  | _, _, _, .t r rs, h => .t (r.mono hF fun a z => h a (List.mem_append_left _ z)) (AR.mono hF rs fun a z => h a (List.mem_append_right _ z))
  | _, _, _, .l e rs, h => .l e (AR.mono hF rs h)
theorem AR.there {G : GI} {F H : Hp} {σ : L2.St} : ∀ {p : List Addr} {vs : List V} {as : List PA1}, AR G F H σ p vs as → ∀ a, a ∈ p → ∃ o, H a = some o
  | _, _, _, .nil, _, z => nomatch z
  | _, _, _, .t r rs, a, z => (List.mem_append.mp z).elim (r.there a) (AR.there rs a)
  | _, _, _, .l e rs, a, z => AR.there rs a z
structure AO (G : GI) (F H : Hp) (σ : L2.St) (fp : Nat → List Addr) (p : List Addr) (vs : List V) (as : List PA1) : Prop where
  r : AR G F H σ p vs as
  nd : p.Nodup
  sep : ∀ a, a ∈ p → F a = none
  dj : ∀ a, a ∈ p → ¬ own fp a
def AOut (G : GI) (W : WX) (σ : L2.St) (F H : Hp) (fp : Nat → List Addr) (Q : List V → Hp → Prop) : RA → Prop
  | .ok as e' => ∀ vs F' H' fp' p, SO G F' H' fp' σ e' → AO G F' H' σ fp' p vs as → Tr F H (own fp) F' H' (fun a => own fp' a ∨ a ∈ p) → Q vs H'
  | .ex c d e' => XOut G W σ F H fp c d e'
  | .no => False
def RdA (G : GI) (W : WX) (m : List Ar) : TA := fun σ H Q => ∃ F fp e, SO G F H fp σ e ∧ AOut G W σ F H fp Q (mA m e)
def RdAr (G : GI) (W : WX) : Ar → TE
  | .t m => RdE G W m
  | .l j => tVar j
section
variable {X : Cx} {N : List Str} {sc : Scope} {fr : List Str} {g : GF} {G : GI} {W : WX} {a b c : Expr} {es : List Expr} {pos p2 p3 : Pos} {oa ob : Op} {ma mb : ME} {F H F1 H1 : Hp} {fp : Nat → List Addr} {σ : L2.St} {e e' : DEnv}
abbrev SA (X : Cx) (g : GF) (W : WX) (es : List Expr) (m : List Ar) : Prop := PA X es (RdA (gOf X g) W m)
abbrev SAr (X : Cx) (g : GF) (W : WX) (e : Expr) (m : Ar) : Prop := PE X e (RdAr (gOf X g) W m)
theorem sa_nil : SA X g W [] [] := PA.imp pa_nil fun σ H Q ⟨F, fp, e, s, h⟩ => h [] F H fp [] s ⟨.nil, List.nodup_nil, fun _ z => (nomatch z), fun _ z => (nomatch z)⟩ Tr.refl.nil
theorem XOut.weak (h : XOut G W σ F H fp c' d' e') {P : Addr → Prop} : XOut G W σ F H fp c' d' e' := h
theorem sa_cons {m : Ar} {ms : List Ar} (ha : SAr X g W a m) (hr : SA X g W es ms) (hs : starEach (a :: es) X.env = (false, eval a X.env) :: starEach es X.env) : SA X g W (a :: es) (m :: ms) := PA.imp (pa_cons ha hr hs) fun σ H Q ⟨F, fp, e, s, h⟩ => by
  cases m with
  | t m =>
    have h : AOut (gOf X g) W σ F H fp Q (match m e with
      | .ok d e1 => (mA ms e1).cons (.t d)
      | .ex c d e1 => .ex c d e1
      | .no => .no) := h
    refine RdE.iff.mpr ⟨F, fp, e, s, ?_⟩
    cases q : m e with
    | ok d e1 =>
      rw [q] at h
      intro v F1 H1 fp1 p1 s1 t1 tr1
      refine ⟨F1, fp1, e1, s1, ?_⟩
      simp only at h
      cases q2 : mA ms e1 with
      | ok as e2 =>
        rw [q2] at h
        have h : AOut (gOf X g) W σ F H fp Q (.ok (.t d :: as) e2) := h
        intro vs F2 H2 fp2 p2 s2 t2 tr2
        have k1 := t1.keep tr2 fun c z => Or.inl z
        refine h (v :: vs) F2 H2 fp2 (p1 ++ p2) s2 ⟨.t k1.r t2.r, ?_, ?_, ?_⟩ ((tr1.trans (tr2.weak (P := fun c => own fp1 c ∨ c ∈ p1) (P1 := fun c => (own fp2 c ∨ c ∈ p2) ∨ c ∈ p1) (fun _ z => .inl z) fun c z => z.imp id .inr)).drop fun c z => ?_)
        · exact List.nodup_append.mpr ⟨t1.nd, t2.nd, fun x hx y hy z => t1.apart tr2 (q := p2) (fun c z => Or.inr z) x hx (z ▸ hy)⟩
        · exact fun c z => (List.mem_append.mp z).elim (k1.sep c) (t2.sep c)
        · exact fun c z => (List.mem_append.mp z).elim (k1.dj c) (t2.dj c)
        · rcases z with z | z
          · exact .inl (.inl z)
          · exact (List.mem_append.mp z).elim .inr fun z => .inl (.inr z)
      | ex c d2 e2 =>
        rw [q2] at h
        have h : XOut (gOf X g) W σ F H fp c d2 e2 := h
        intro dx v2 F2 H2 fp2 p2 s2 t2 tr2 hx
        exact h dx v2 F2 H2 fp2 p2 s2 t2 ((tr1.trans (tr2.weak (P := fun c => own fp1 c ∨ c ∈ p1) (P1 := fun c => (own fp2 c ∨ c ∈ p2) ∨ c ∈ p1) (fun _ z => .inl z) fun c z => z.imp id .inr)).drop fun c z => .inl z) hx
      | no => rw [q2] at h; exact h.elim
    | ex c d e1 => rw [q] at h; exact h
    | no => rw [q] at h; exact h
  | l j =>
    have h : AOut (gOf X g) W σ F H fp Q (match e[j]? with
      | some (some _) => (mA ms e).cons (.l j)
      | _ => .no) := h
    cases q : e[j]? with
    | none => rw [q] at h; exact h.elim
    | some o =>
      cases o with
      | none => rw [q] at h; exact h.elim
      | some d =>
        rw [q] at h
        simp only at h
        obtain ⟨v, hv, _⟩ := s.rep j d q
        refine ⟨v, hv, F, fp, e, s, ?_⟩
        cases q2 : mA ms e with
        | ok as e2 =>
          rw [q2] at h
          have h : AOut (gOf X g) W σ F H fp Q (.ok (.l j :: as) e2) := h
          intro vs F2 H2 fp2 p2 s2 t2 tr2
          exact h (v :: vs) F2 H2 fp2 p2 s2 ⟨.l hv t2.r, t2.nd, t2.sep, t2.dj⟩ tr2
        | ex c d2 e2 => rw [q2] at h; exact h
        | no => rw [q2] at h; exact h
/-! ### displays -/
def allT : List PA1 → Option (List D)
  | [] => some []
  | .t d :: r => (allT r).map (d :: ·)
  | .l _ :: _ => none
theorem AR.all {p : List Addr} : ∀ {as : List PA1} {vs : List V} {ds : List D}, AR G F H σ p vs as → allT as = some ds → ROs G F H p vs ds := by
  intro as vs ds r
  induction r generalizing ds with
  | nil => intro h; injection h with h; subst h; exact .nil
  | @t p q v vs d as r rs ih =>
    intro h
    have h2 : (allT as).map (d :: ·) = some ds := h
    cases q2 : allT as with
    | none => rw [q2] at h2; cases h2
    | some es => rw [q2] at h2; injection h2 with h2; subst h2; exact .cons r (ih q2)
  | l e rs ih => intro h; cases h
def RA.fin (r : RA) (k : List D → DEnv → RE) : RE := match r with
  | .ok as e => match allT as with
    | some ds => if ds.length ≤ LIM then k ds e else .no
    | none => .no
  | .ex c d e => .ex c d e
  | .no => .no
def mTup (ms : List Ar) : ME := fun e => (mA ms e).fin fun ds e1 => .ok (.tup ds) e1
def mLst (ms : List Ar) : ME := fun e => (mA ms e).fin fun ds e1 => .ok (.lst true ds) e1
theorem SO.new {a : Addr} {o : HO} (s : SO G F H fp σ e) (h : H a = none) : SO G F (upd H a o) fp σ e := s.grow (fun _ _ z => z) (upd_le h) (fun b u z => upd_le h b u (s.sub b u z)) fun b u z => .inl z
theorem SO.newF {a : Addr} {o : HO} (s : SO G F H fp σ e) (h : H a = none) : SO G (upd F a o) (upd H a o) fp σ e := s.grow (upd_le (by
    cases q : F a with
    | none => rfl
    | some o => rw [s.sub a o q] at h; cases h)) (upd_le h) (fun b u z => by
    by_cases e : b = a
    · subst e; rw [upd_same] at z ⊢; exact z
    · rw [upd_ne e] at z ⊢; exact s.sub b u z) fun b u z => by
    by_cases e : b = a
    · subst e; exact .inr h
    · rw [upd_ne e] at z; exact .inl z
theorem SO.fnone {a : Addr} (s : SO G F H fp σ e) (h : H a = none) : F a = none := by
  cases q : F a with
  | none => rfl
  | some o => rw [s.sub a o q] at h; cases h
theorem SO.noown {a : Addr} (s : SO G F H fp σ e) (h : H a = none) : ¬ own fp a := fun ⟨i, z⟩ => by
  obtain ⟨o, q⟩ := s.th i a z
  rw [h] at q; cases q
theorem Tr.newF {a : Addr} {o : HO} {O : Addr → Prop} (s : ∀ a o, F a = some o → H a = some o) (h : H a = none) : Tr F H O (upd F a o) (upd H a o) O where
  ff := upd_le (by
    cases q : F a with
    | none => rfl
    | some o => rw [s a o q] at h; cases h)
  fr := fun b u _ z => upd_le h b u z
  ow := fun _ z => .inl z
  fz := fun b u z => by
    by_cases e : b = a
    · subst e; exact .inr (.inr h)
    · rw [upd_ne e] at z; exact .inl z
theorem Tr.new {a : Addr} {o : HO} {O : Addr → Prop} (h : H a = none) : Tr F H O F (upd H a o) (fun c => O c ∨ c = a) where
  ff := fun _ _ z => z
  fr := fun b u _ z => upd_le h b u z
  ow := fun b z => by
    rcases z with z | z
    · exact .inl z
    · exact .inr (by rw [z]; exact h)
  fz := fun b u z => .inl z
theorem se_tup {ms : List Ar} {k : Nat} (ha : SA X g W es ms) : SE X g W (.Tuple es k pos) (mTup ms) := PE.imp (pe_tup ha) fun σ H Q h => by
  obtain ⟨F, fp, e, s, h⟩ := RdE.iff.mp h
  refine ⟨F, fp, e, s, ?_⟩
  unfold mTup at h
  cases q : mA ms e with
  | ok as e1 =>
    rw [q] at h
    have h : EOut (gOf X g) W σ F H fp Q (match allT as with
      | some ds => if ds.length ≤ LIM then RE.ok (.tup ds) e1 else .no
      | none => .no) := h
    cases q2 : allT as with
    | none => rw [q2] at h; exact h.elim
    | some ds =>
      rw [q2] at h
      simp only at h
      split at h
      · rename_i hl
        intro vs F1 H1 fp1 p s1 t tr
        have r := t.r.all q2
        refine ⟨by rw [r.length]; exact LIM_line hl, fun b hb => ?_⟩
        have s2 := s1.newF (o := .tup vs) hb
        have nb : ∀ c, c ∈ p → c ≠ b := fun c z w => by
          obtain ⟨o, ho⟩ := t.r.there c z
          rw [w, hb] at ho; cases ho
        refine h (.ref b) _ _ fp1 p s2 ⟨.tup upd_same (r.mono (upd_le (s1.fnone hb)) fun c _ o z => upd_le hb c o z), t.nd, fun c z => ?_, t.dj⟩ ?_
        · rw [upd_ne (nb c z)]; exact t.sep c z
        · exact tr.trans (Tr.newF s1.sub hb)
      · exact h.elim
  | ex c d e1 => rw [q] at h; exact h
  | no => rw [q] at h; exact h
theorem se_lst {ms : List Ar} (ha : SA X g W es ms) : SE X g W (.List es pos) (mLst ms) := PE.imp (pe_lst ha) fun σ H Q h => by
  obtain ⟨F, fp, e, s, h⟩ := RdE.iff.mp h
  refine ⟨F, fp, e, s, ?_⟩
  unfold mLst at h
  cases q : mA ms e with
  | ok as e1 =>
    rw [q] at h
    have h : EOut (gOf X g) W σ F H fp Q (match allT as with
      | some ds => if ds.length ≤ LIM then RE.ok (.lst true ds) e1 else .no
      | none => .no) := h
    cases q2 : allT as with
    | none => rw [q2] at h; exact h.elim
    | some ds =>
      rw [q2] at h
      simp only at h
      split at h
      · rename_i hl
        intro vs F1 H1 fp1 p s1 t tr
        have r := t.r.all q2
        refine ⟨by rw [r.length]; exact LIM_line hl, fun b hb => ?_⟩
        have s2 := s1.new (o := .lst vs) hb
        have nb : ∀ c, c ∈ p → c ≠ b := fun c z w => by
          obtain ⟨o, ho⟩ := t.r.there c z
          rw [w, hb] at ho; cases ho
        refine h (.ref b) _ _ fp1 (b :: p) s2 ⟨.lo upd_same (r.mono (fun _ _ z => z) fun c _ o z => upd_le hb c o z), List.nodup_cons.mpr ⟨fun z => nb b z rfl, t.nd⟩, fun c z => ?_, fun c z => ?_⟩ ?_
        · rcases List.mem_cons.mp z with w | w
          · rw [w]; exact s1.fnone hb
          · exact t.sep c w
        · rcases List.mem_cons.mp z with w | w
          · rw [w]; exact s1.noown hb
          · exact t.dj c w
        · refine (tr.trans (Tr.new hb)).drop fun c z => ?_
          rcases z with z | z
          · exact .inl (.inl z)
          · exact (List.mem_cons.mp z).elim .inr fun z => .inl (.inr z)
      · exact h.elim
  | ex c d e1 => rw [q] at h; exact h
  | no => rw [q] at h; exact h
/-! ### tests -/
def TOut (G : GI) (W : WX) (σ : L2.St) (F H : Hp) (fp : Nat → List Addr) (Q : Bool → Hp → Prop) : RE → Prop
  | .ok (.bl b) e' => ∀ F' H' fp', SO G F' H' fp' σ e' → Tr F H (own fp) F' H' (own fp') → Q b H'
  | .ok _ _ => False
  | .ex c d e' => XOut G W σ F H fp c d e'
  | .no => False
def RdT (G : GI) (W : WX) (m : ME) : TT := fun σ H Q => ∃ F fp e, SO G F H fp σ e ∧ TOut G W σ F H fp Q (m e)
abbrev ST (X : Cx) (g : GF) (W : WX) (e : Expr) (m : ME) : Prop := PT X e (RdT (gOf X g) W m)
/-- a value, by its truth -/
def mTru (oa : Op) : ME := mOp1 (fun d => (truD d).map .bl) oa
theorem st_tru (h : SOp X g W a oa) (he : ∀ whole, isTrue a X.env whole = (do let v ← whole; standAt a.pos; holding [v] (truthy v))) : ST X g W a (mTru oa) := PT.imp (pt_truth h he) fun σ H Q h => by
  obtain ⟨F, fp, e, s, h⟩ := h
  refine RdO.step oa s ?_
  unfold mTru mOp1 at h
  cases q : oa.run e with
  | ok p e1 =>
    rw [q] at h
    intro x F1 H1 fp1 s1 tr1 v1
    have hne : (p.see e1 fun d e2 => RE.of ((truD d).map .bl) e2) ≠ .no := fun z => by
      rw [RP.bind_ok, z] at h; exact h
    obtain ⟨d1, e2, F2, fp2, s2, b2, tr2, k⟩ := PV.see_ok s1 v1 rfl hne
    rw [RP.bind_ok, ← k] at h
    cases q3 : truD d1 with
    | none => rw [q3] at h; exact h.elim
    | some b =>
      rw [q3] at h
      exact ⟨b, hr_tru s2.sub b2 q3, h F2 H1 fp2 s2 (tr1.trans tr2)⟩
  | ex c d e1 => rw [q] at h; exact h
  | no => rw [q] at h; exact h
def mTNot (m : ME) : ME := fun e => match m e with
  | .ok (.bl b) e1 => .ok (.bl (!b)) e1
  | .ok _ _ => .no
  | .ex c d e1 => .ex c d e1
  | .no => .no
def mTAnd (m n : ME) : ME := fun e => match m e with
  | .ok (.bl true) e1 => n e1
  | .ok (.bl false) e1 => .ok (.bl false) e1
  | .ok _ _ => .no
  | .ex c d e1 => .ex c d e1
  | .no => .no
def mTOr (m n : ME) : ME := fun e => match m e with
  | .ok (.bl true) e1 => .ok (.bl true) e1
  | .ok (.bl false) e1 => n e1
  | .ok _ _ => .no
  | .ex c d e1 => .ex c d e1
  | .no => .no
/-- a choice -/
def mIf (t m n : ME) : ME := fun e => match t e with
  | .ok (.bl true) e1 => m e1
  | .ok (.bl false) e1 => n e1
  | .ok _ _ => .no
  | .ex c d e1 => .ex c d e1
  | .no => .no
variable {m n t : ME}
theorem TOut.trans {F1 H1 : Hp} {fp1 : Nat → List Addr} {Q : Bool → Hp → Prop} {r : RE} (h : TOut G W σ F H fp Q r) (t : Tr F H (own fp) F1 H1 (own fp1)) : TOut G W σ F1 H1 fp1 Q r := by
  cases r with
  | ok d e =>
    cases d with
    | bl b => exact fun F' H' fp' s' tr => h F' H' fp' s' (t.trans tr)
    | _ => exact h.elim
  | ex c d e => exact XOut.trans h t
  | no => exact h
theorem st_not (h : ST X g W a m) : ST X g W (.UnaryOp .Not a pos) (mTNot m) := PT.imp (pt_not h) fun σ H Q h => by
  obtain ⟨F, fp, e, s, h⟩ := h
  refine ⟨F, fp, e, s, ?_⟩
  unfold mTNot at h
  cases q : m e with
  | ok d e1 =>
    rw [q] at h
    cases d with
    | bl b => exact fun F' H' fp' s' tr => h F' H' fp' s' tr
    | _ => exact h.elim
  | ex c d e1 => rw [q] at h; exact h
  | no => rw [q] at h; exact h
theorem RdT.and {σ : L2.St} {H : Hp} {Q : Bool → Hp → Prop} (h : RdT G W (mTAnd m n) σ H Q) : tAnd (RdT G W m) (RdT G W n) σ H Q := by
  obtain ⟨F, fp, e, s, h⟩ := h
  refine ⟨F, fp, e, s, ?_⟩
  unfold mTAnd at h
  cases q : m e with
  | ok d e1 =>
    rw [q] at h
    cases d with
    | bl b =>
      intro F1 H1 fp1 s1 tr1
      cases b with
      | true => rw [if_pos rfl]; exact ⟨F1, fp1, e1, s1, TOut.trans h tr1⟩
      | false => rw [if_neg Bool.false_ne_true]; exact h F1 H1 fp1 s1 tr1
    | _ => exact h.elim
  | ex c d e1 => rw [q] at h; exact h
  | no => rw [q] at h; exact h
theorem RdT.or {σ : L2.St} {H : Hp} {Q : Bool → Hp → Prop} (h : RdT G W (mTOr m n) σ H Q) : tOr (RdT G W m) (RdT G W n) σ H Q := by
  obtain ⟨F, fp, e, s, h⟩ := h
  refine ⟨F, fp, e, s, ?_⟩
  unfold mTOr at h
  cases q : m e with
  | ok d e1 =>
    rw [q] at h
    cases d with
    | bl b =>
      intro F1 H1 fp1 s1 tr1
      cases b with
      | true => rw [if_pos rfl]; exact h F1 H1 fp1 s1 tr1
      | false => rw [if_neg Bool.false_ne_true]; exact ⟨F1, fp1, e1, s1, TOut.trans h tr1⟩
    | _ => exact h.elim
  | ex c d e1 => rw [q] at h; exact h
  | no => rw [q] at h; exact h
abbrev SW (X : Cx) (g : GF) (W : WX) (e : Expr) (m : ME) : Prop := PW X e (RdT (gOf X g) W m)
theorem PW.imp {X : Cx} {e : Expr} {t u : TT} (h : PW X e t) (i : ∀ σ H Q, u σ H Q → t σ H Q) : PW X e u := ⟨fun whole pins s σ H Q I q => h.run whole pins s σ H Q I (i σ H Q q)⟩
theorem sw_and1 (h : ST X g W a m) : SW X g W (.BoolOp .And [a] pos) m := pw_and1 h
theorem sw_or1 (h : ST X g W a m) : SW X g W (.BoolOp .Or [a] pos) m := pw_or1 h
theorem sw_and (h : ST X g W a m) (hb : SW X g W (.BoolOp .And (b :: es) pos) n) : SW X g W (.BoolOp .And (a :: b :: es) pos) (mTAnd m n) := PW.imp (pw_and h hb) fun _ _ _ h => RdT.and h
theorem sw_or (h : ST X g W a m) (hb : SW X g W (.BoolOp .Or (b :: es) pos) n) : SW X g W (.BoolOp .Or (a :: b :: es) pos) (mTOr m n) := PW.imp (pw_or h hb) fun _ _ _ h => RdT.or h
theorem RdE.choose {σ : L2.St} {H : Hp} {Q : VK} (h : RdE G W (mIf t m n) σ H Q) : tIf (RdT G W t) (RdE G W m) (RdE G W n) σ H Q := by
  obtain ⟨F, fp, e, s, h⟩ := RdE.iff.mp h
  refine ⟨F, fp, e, s, ?_⟩
  unfold mIf at h
  cases q : t e with
  | ok d e1 =>
    rw [q] at h
    cases d with
    | bl b =>
      intro F1 H1 fp1 s1 tr1
      cases b with
      | true => rw [if_pos rfl]; exact RdE.iff.mpr ⟨F1, fp1, e1, s1, EOut.trans h tr1⟩
      | false => rw [if_neg Bool.false_ne_true]; exact RdE.iff.mpr ⟨F1, fp1, e1, s1, EOut.trans h tr1⟩
    | _ => exact h.elim
  | ex c d e1 => rw [q] at h; exact h
  | no => rw [q] at h; exact h
theorem se_if (hc : ST X g W c t) (ha : SE X g W a m) (hb : SE X g W b n) : SE X g W (.IfExp c a b pos) (mIf t m n) := PE.imp (pe_ifExp hc ha hb) fun _ _ _ h => RdE.choose h
/-! ### and, or, not as values -/
/-- x and y: the first if it is false (its value shared), else the second -/
def mAnd (oa : Op) (n : ME) : ME := fun e => match oa.run e with
  | .ok p e1 => p.see e1 fun d e2 => match truD d with
    | some true => n e2
    | some false => if isV d then .ok d e2 else .no
    | none => .no
  | .ex c d e1 => .ex c d e1
  | .no => .no
where isV : D → Bool
  | .bl _ => true
  | .non => true
  | .int _ => true
  | _ => false
def mOr (oa : Op) (n : ME) : ME := fun e => match oa.run e with
  | .ok p e1 => p.see e1 fun d e2 => match truD d with
    | some true => if mAnd.isV d then .ok d e2 else .no
    | some false => n e2
    | none => .no
  | .ex c d e1 => .ex c d e1
  | .no => .no
theorem RB.toZ {v : V} {d : D} (r : RB G F H v d) (h : mAnd.isV d = true) : RO G F H [] v d := by
  cases r with
  | z r => exact r
  | _ => cases h
theorem se_and1 {op : BoolOp} (h : SE X g W a m) : SE X g W (.BoolOp op [a] pos) m := pe_one h
theorem se_and (ha : SOp X g W a oa) (hb : SE X g W (.BoolOp .And (b :: es) pos) n) : SE X g W (.BoolOp .And (a :: b :: es) pos) (mAnd oa n) := PE.imp (pe_andT ha hb) fun σ H Q h => by
  obtain ⟨F, fp, e, s, h⟩ := RdE.iff.mp h
  refine RdO.step oa s ?_
  unfold mAnd at h
  cases q : oa.run e with
  | ok p e1 =>
    rw [q] at h
    intro x F1 H1 fp1 s1 tr1 v1
    simp only at h
    obtain ⟨d1, e2, F2, fp2, s2, b2, tr2, k⟩ := PV.see_ok s1 v1 rfl h.ne
    rw [← k] at h
    cases q3 : truD d1 with
    | none => rw [q3] at h; exact h.elim
    | some b =>
      rw [q3] at h
      refine ⟨b, hr_tru s2.sub b2 q3, ?_⟩
      cases b with
      | true => rw [if_pos rfl]; exact RdE.iff.mpr ⟨F2, fp2, e2, s2, EOut.trans h (tr1.trans tr2)⟩
      | false =>
        rw [if_neg Bool.false_ne_true]
        simp only at h
        split at h
        · rename_i hv
          exact h x F2 H1 fp2 [] s2 (TO.z (b2.toZ hv)) (tr1.trans tr2).nil
        · exact h.elim
  | ex c d e1 => rw [q] at h; exact h
  | no => rw [q] at h; exact h
theorem se_or (ha : SOp X g W a oa) (hb : SE X g W (.BoolOp .Or (b :: es) pos) n) : SE X g W (.BoolOp .Or (a :: b :: es) pos) (mOr oa n) := PE.imp (pe_orT ha hb) fun σ H Q h => by
  obtain ⟨F, fp, e, s, h⟩ := RdE.iff.mp h
  refine RdO.step oa s ?_
  unfold mOr at h
  cases q : oa.run e with
  | ok p e1 =>
    rw [q] at h
    intro x F1 H1 fp1 s1 tr1 v1
    simp only at h
    obtain ⟨d1, e2, F2, fp2, s2, b2, tr2, k⟩ := PV.see_ok s1 v1 rfl h.ne
    rw [← k] at h
    cases q3 : truD d1 with
    | none => rw [q3] at h; exact h.elim
    | some b =>
      rw [q3] at h
      refine ⟨b, hr_tru s2.sub b2 q3, ?_⟩
      cases b with
      | true =>
        rw [if_pos rfl]
        simp only at h
        split at h
        · rename_i hv
          exact h x F2 H1 fp2 [] s2 (TO.z (b2.toZ hv)) (tr1.trans tr2).nil
        · exact h.elim
      | false => rw [if_neg Bool.false_ne_true]; exact RdE.iff.mpr ⟨F2, fp2, e2, s2, EOut.trans h (tr1.trans tr2)⟩
  | ex c d e1 => rw [q] at h; exact h
  | no => rw [q] at h; exact h
def mNot (oa : Op) : ME := mOp1 (fun d => (truD d).map fun b => .bl (!b)) oa
theorem se_not (ha : SOp X g W a oa) : SE X g W (.UnaryOp .Not a pos) (mNot oa) := PE.imp (pe_notT ha) fun σ H Q h => rd_op1 (r := fun x H Q => ∃ k, TruV X.K x H k ∧ Q (.bl (!k)) H) (fun F H x d1 d Q s r1 h k => by
  cases q : truD d1 with
  | none => rw [q] at h; cases h
  | some b =>
    rw [q] at h
    injection h with h; subst h
    exact ⟨b, hr_tru s r1 q, k.z s (.bl _)⟩) h
end
end EV

/-! EvH: statements. -/
namespace EV
open PySem PySem.Spec PyProof.Rows L2

def SOut (G : GI) (W : WX) (L : List Nat) (D : Ends) (σ : L2.St) (F H : Hp) (fp : Nat → List Addr) : RS → Prop
  | .nx e' => ∀ σ' F' H' fp', SO G F' H' fp' σ' e' → (∀ i, i ∈ L → σ'[i]? = σ[i]?) → Tr F H (own fp) F' H' (own fp') → D.nx σ' H'
  | .bk e' => ∀ σ' F' H' fp', SO G F' H' fp' σ' e' → (∀ i, i ∈ L → σ'[i]? = σ[i]?) → Tr F H (own fp) F' H' (own fp') → D.bk σ' H'
  | .ct e' => ∀ σ' F' H' fp', SO G F' H' fp' σ' e' → (∀ i, i ∈ L → σ'[i]? = σ[i]?) → Tr F H (own fp) F' H' (own fp') → D.ct σ' H'
  | .rt d e' => ∀ v σ' F' H' fp' p, SO G F' H' fp' σ' e' → (∀ i, i ∈ L → σ'[i]? = σ[i]?) → TO G F' H' fp' p v d → Tr F H (own fp) F' H' (fun a => own fp' a ∨ a ∈ p) → D.rt v H'
  | .ex c d e' => ∀ dx v σ' F' H' fp' p, SO G F' H' fp' σ' e' → (∀ i, i ∈ L → σ'[i]? = σ[i]?) → TO G F' H' fp' p v d → Tr F H (own fp) F' H' (fun a => own fp' a ∨ a ∈ p) → H' dx = some (.xd [(G.xn c, v)]) → W (.ref (G.ca c)) (some dx) σ' H'
  | .no => False
def RdS (G : GI) (W : WX) (L : List Nat) (m : MS) : TS := fun D σ H => ∃ F fp e, SO G F H fp σ e ∧ SOut G W L D σ F H fp (m e)
section
variable {X : Cx} {N : List Str} {sc : Scope} {fr : List Str} {g : GF} {G : GI} {W : WX} {L : List Nat} {a b c : Expr} {es : List Expr} {st : Stmt} {sts : List Stmt} {pos p2 p3 : Pos} {oa ob : Op} {m n t : ME} {ms ns : MS} {F H F1 H1 F' H' : Hp} {fp fp1 fp' : Nat → List Addr} {σ σ1 : L2.St} {e e' : DEnv} {D : Ends}
abbrev SS (X : Cx) (g : GF) (W : WX) (L : List Nat) (s : Stmt) (m : MS) : Prop := PS X s (RdS (gOf X g) W L m)
abbrev SSs (X : Cx) (g : GF) (W : WX) (L : List Nat) (s : List Stmt) (m : MS) : Prop := PSs X s (RdS (gOf X g) W L m)
theorem SOut.trans {r : RS} (h : SOut G W L D σ F H fp r) (t : Tr F H (own fp) F1 H1 (own fp1)) (hL : ∀ i, i ∈ L → σ1[i]? = σ[i]?) : SOut G W L D σ1 F1 H1 fp1 r := by
  cases r with
  | nx e => exact fun σ' F' H' fp' s' l' tr => h σ' F' H' fp' s' (fun i z => (l' i z).trans (hL i z)) (t.trans tr)
  | bk e => exact fun σ' F' H' fp' s' l' tr => h σ' F' H' fp' s' (fun i z => (l' i z).trans (hL i z)) (t.trans tr)
  | ct e => exact fun σ' F' H' fp' s' l' tr => h σ' F' H' fp' s' (fun i z => (l' i z).trans (hL i z)) (t.trans tr)
  | rt d e => exact fun v σ' F' H' fp' p s' l' t' tr => h v σ' F' H' fp' p s' (fun i z => (l' i z).trans (hL i z)) t' (t.trans tr)
  | ex c d e => exact fun dx v σ' F' H' fp' p s' l' t' tr hx => h dx v σ' F' H' fp' p s' (fun i z => (l' i z).trans (hL i z)) t' (t.trans tr) hx
  | no => exact h
theorem SOut.x {c : Nat} {d : EV.D} (h : SOut G W L D σ F H fp (.ex c d e')) : XOut G W σ F H fp c d e' := fun dx v F' H' fp' p s' t' tr hx => h dx v σ F' H' fp' p s' (fun _ _ => rfl) t' tr hx
/-- behind a value -/
def RE.toS (r : RE) (k : EV.D → DEnv → RS) : RS := match r with
  | .ok d e => k d e
  | .ex c d e => .ex c d e
  | .no => .no
@[simp] theorem RE.toS_ok {d e k} : (RE.ok d e).toS k = k d e := rfl
@[simp] theorem RE.toS_ex {c d e k} : (RE.ex c d e).toS k = .ex c d e := rfl
@[simp] theorem RE.toS_no {k} : RE.no.toS k = .no := rfl
def RS.seq (r : RS) (k : DEnv → RS) : RS := match r with
  | .nx e => k e
  | .rt d e => .rt d e
  | .bk e => .bk e
  | .ct e => .ct e
  | .ex c d e => .ex c d e
  | .no => .no
@[simp] theorem RS.seq_nx {e k} : (RS.nx e).seq k = k e := rfl
@[simp] theorem RS.seq_rt {d e k} : (RS.rt d e).seq k = .rt d e := rfl
@[simp] theorem RS.seq_bk {e k} : (RS.bk e).seq k = .bk e := rfl
@[simp] theorem RS.seq_ct {e k} : (RS.ct e).seq k = .ct e := rfl
@[simp] theorem RS.seq_ex {c d e k} : (RS.ex c d e).seq k = .ex c d e := rfl
@[simp] theorem RS.seq_no {k} : RS.no.seq k = .no := rfl
def mSeq (m n : MS) : MS := fun e => (m e).seq n
theorem sss_nil : SSs X g W L [] RS.nx := PSs.imp pss_nil fun D σ H ⟨F, fp, e, s, h⟩ => h σ F H fp s (fun _ _ => rfl) Tr.refl
theorem sss_cons (h1 : SS X g W L st ms) (h2 : SSs X g W L sts ns) : SSs X g W L (st :: sts) (mSeq ms ns) := PSs.imp (pss_cons h1 h2) fun D σ H ⟨F, fp, e, s, h⟩ => by
  refine ⟨F, fp, e, s, ?_⟩
  unfold mSeq at h
  cases q : ms e with
  | nx e1 =>
    rw [q] at h
    exact fun σ' F' H' fp' s' l' tr => ⟨F', fp', e1, s', SOut.trans h tr l'⟩
  | rt d e1 => rw [q] at h; exact h
  | bk e1 => rw [q] at h; exact h
  | ct e1 => rw [q] at h; exact h
  | ex c d e1 => rw [q] at h; exact h
  | no => rw [q] at h; exact h
theorem ss_pass : SS X g W L (.Pass pos) RS.nx := PS.imp ps_pass fun D σ H ⟨F, fp, e, s, h⟩ => h σ F H fp s (fun _ _ => rfl) Tr.refl
theorem ss_break : SS X g W L (.Break pos) RS.bk := PS.imp ps_break fun D σ H ⟨F, fp, e, s, h⟩ => h σ F H fp s (fun _ _ => rfl) Tr.refl
theorem ss_continue : SS X g W L (.Continue pos) RS.ct := PS.imp ps_continue fun D σ H ⟨F, fp, e, s, h⟩ => h σ F H fp s (fun _ _ => rfl) Tr.refl
/-- no comprehension stands as the whole value -/
def noComp : Expr → Bool
  | .ListComp .. => false
  | .SetComp .. => false
  | .DictComp .. => false
  | _ => true
theorem noSwap {v : Expr} (h : noComp v = true) {t : Option Expr} {l : Nat} {env : Env} : swapsWith v t l env = pure false := by
  cases v <;> first | rfl | cases h
def mExpr (m : ME) : MS := fun e => (m e).toS fun _ e1 => .nx e1
theorem ss_expr (h : SE X g W a m) (hc : noComp a = true) : SS X g W L (.Expr a pos) (mExpr m) := PS.imp (ps_expr h (noSwap hc)) fun D σ H ⟨F, fp, e, s, h⟩ => by
  refine RdE.iff.mpr ⟨F, fp, e, s, ?_⟩
  unfold mExpr at h
  cases q : m e with
  | ok d e1 =>
    rw [q] at h
    exact fun v F' H' fp' p s' t' tr => h σ F' H' fp' s' (fun _ _ => rfl) (tr.drop fun c z => .inl z)
  | ex c d e1 => rw [q] at h; exact h.x
  | no => rw [q] at h; exact h
def mRet (m : ME) : MS := fun e => (m e).toS fun d e1 => .rt d e1
theorem ss_ret (h : SE X g W a m) : SS X g W L (.Return (some a) pos) (mRet m) := PS.imp (ps_ret h) fun D σ H ⟨F, fp, e, s, h⟩ => by
  refine RdE.iff.mpr ⟨F, fp, e, s, ?_⟩
  unfold mRet at h
  cases q : m e with
  | ok d e1 =>
    rw [q] at h
    exact fun v F' H' fp' p s' t' tr => h v σ F' H' fp' p s' (fun _ _ => rfl) t' tr
  | ex c d e1 => rw [q] at h; exact h.x
  | no => rw [q] at h; exact h
def mRetN : MS := fun e => .rt .non e
theorem ss_retN : SS X g W L (.Return none pos) mRetN := PS.imp ps_retN fun D σ H ⟨F, fp, e, s, h⟩ => h .non σ F H fp [] s (fun _ _ => rfl) (TO.z .non) Tr.refl.nil
def mIfS (t : ME) (m n : MS) : MS := fun e => match t e with
  | .ok (.bl true) e1 => m e1
  | .ok (.bl false) e1 => n e1
  | .ok _ _ => .no
  | .ex c d e1 => .ex c d e1
  | .no => .no
theorem ss_if {sa sb : List Stmt} (hc : ST X g W c t) (ha : SSs X g W L sa ms) (hb : SSs X g W L sb ns) : SS X g W L (.If c sa sb pos) (mIfS t ms ns) := PS.imp (ps_if hc ha hb) fun D σ H ⟨F, fp, e, s, h⟩ => by
  refine ⟨F, fp, e, s, ?_⟩
  unfold mIfS at h
  cases q : t e with
  | ok d e1 =>
    rw [q] at h
    cases d with
    | bl b =>
      intro F1 H1 fp1 s1 tr1
      cases b with
      | true => rw [if_pos rfl]; exact ⟨F1, fp1, e1, s1, SOut.trans h tr1 fun _ _ => rfl⟩
      | false => rw [if_neg Bool.false_ne_true]; exact ⟨F1, fp1, e1, s1, SOut.trans h tr1 fun _ _ => rfl⟩
    | _ => exact h.elim
  | ex c d e1 => rw [q] at h; exact h.x
  | no => rw [q] at h; exact h
/-! ### targets -/
inductive CT where
  | v (i : Nat) | t (ts : List CT)
mutual
def put : CT → EV.D → DEnv → Option DEnv
  | .v i, d, e => some (e.set i (some d))
  | .t ts, d, e => match d with
    | .tup ds => puts ts ds e
    | _ => none
def puts : List CT → List EV.D → DEnv → Option DEnv
  | [], [], e => some e
  | t :: ts, d :: ds, e => (put t d e).bind fun e1 => puts ts ds e1
  | _, _, _ => none
end
/-- what a target asks: v stored, the value's own parts go with it -/
def GOk (G : GI) (L : List Nat) (t : CT) (r : TG) : Prop := ∀ {F H fp σ e p v d e' Q}, SO G F H fp σ e → TO G F H fp p v d → put t d e = some e' →
  (∀ σ' fp', SO G F H fp' σ' e' → (∀ i, i ∈ L → σ'[i]? = σ[i]?) → (∀ a, own fp' a → own fp a ∨ a ∈ p) → Q σ' H) → r v σ H Q
def GsOk (G : GI) (L : List Nat) (ts : List CT) (r : TGs) : Prop := ∀ {F H fp σ e p vs ds e' Q}, SO G F H fp σ e → TOs G F H fp p vs ds → puts ts ds e = some e' →
  (∀ σ' fp', SO G F H fp' σ' e' → (∀ i, i ∈ L → σ'[i]? = σ[i]?) → (∀ a, own fp' a → own fp a ∨ a ∈ p) → Q σ' H) → r vs σ H Q
theorem gok_v {i : Nat} (hi : i ∉ L) : GOk G L (.v i) (gName i) := fun {F H fp σ e p v d e' Q} s t h k => by
  injection h with h; subst h
  refine k _ _ (s.store t) (fun j hj => ?_) own_store
  rw [List.getElem?_set_ne]
  intro z; subst z; exact hi hj
theorem gsok_nil : GsOk G L [] gNil := fun {F H fp σ e p vs ds e' Q} s t h k => by
  cases ds with
  | nil =>
    obtain ⟨e1, _⟩ := t.r.invN
    injection h with h; subst h
    exact ⟨e1, k σ fp s (fun _ _ => rfl) fun _ z => .inl z⟩
  | cons d ds => cases h
theorem gsok_cons {t : CT} {ts : List CT} {r : TG} {rs : TGs} (h1 : GOk G L t r) (h2 : GsOk G L ts rs) : GsOk G L (t :: ts) (gCons r rs) := fun {F H fp σ e p vs ds e' Q} s to h k => by
  cases ds with
  | nil => cases h
  | cons d ds =>
    have h : ((put t d e).bind fun e1 => puts ts ds e1) = some e' := h
    cases q : put t d e with
    | none => rw [q] at h; cases h
    | some e1 =>
      rw [q] at h
      have h : puts ts ds e1 = some e' := h
      obtain ⟨v, ws, f, fs, rfl, ep, r1, r2⟩ := to.r.invD
      subst ep
      obtain ⟨n1, n2, n3⟩ := List.nodup_append.mp to.nd
      refine ⟨v, ws, rfl, h1 s ⟨r1, n1, fun a z => to.sep a (List.mem_append_left _ z), fun a z => to.dj a (List.mem_append_left _ z)⟩ q fun σ1 fp1 s1 l1 o1 => ?_⟩
      refine h2 s1 ⟨r2, n2, fun a z => to.sep a (List.mem_append_right _ z), fun a z w => ?_⟩ h fun σ2 fp2 s2 l2 o2 => ?_
      · rcases o1 a w with w | w
        · exact to.dj a (List.mem_append_right _ z) w
        · exact n3 a w a z rfl
      · refine k σ2 fp2 s2 (fun i z => (l2 i z).trans (l1 i z)) fun a z => ?_
        rcases o2 a z with z | z
        · exact (o1 a z).imp id fun z => List.mem_append_left _ z
        · exact .inr (List.mem_append_right _ z)
theorem gok_t {K : PySem.W.Frag} (hK : G.K = K) {ts : List CT} {r : TGs} {n : Nat} (hn : ts.length = n) (h : GsOk G L ts r) : GOk G L (.t ts) (gTup K n r) := fun {F H fp σ e p v d e' Q} s to q k => by
  cases d with
  | tup ds =>
    have q : puts ts ds e = some e' := q
    have hl : ∀ (ts : List CT) (ds : List EV.D) (e e' : DEnv), puts ts ds e = some e' → ds.length = ts.length := by
      intro ts
      induction ts with
      | nil => intro ds e e' h; cases ds with
        | nil => rfl
        | cons _ _ => cases h
      | cons t ts ih =>
        intro ds e e' h
        cases ds with
        | nil => cases h
        | cons d ds =>
          have h : ((put t d e).bind fun e1 => puts ts ds e1) = some e' := h
          cases q : put t d e with
          | none => rw [q] at h; cases h
          | some e1 => rw [q] at h; exact congrArg (· + 1) (ih ds e1 e' h)
    cases to with
    | mk r nd sep dj =>
      cases r with
      | tup ea ra =>
        refine ⟨_, _, rfl, SqT.of (s.sub _ _ ea), ?_, h s ⟨ra, nd, sep, dj⟩ q k⟩
        rw [ra.length, hl ts ds e e' q, hn]
  | _ => cases q
/-- target = value -/
def mAsg (t : CT) (m : ME) : MS := fun e => (m e).toS fun d e1 => match put t d e1 with
  | some e2 => .nx e2
  | none => .no
theorem RdS.asg {t : CT} {r : TG} (hg : GOk G L t r) {σ : L2.St} {H : Hp} (h : RdS G W L (mAsg t m) D σ H) : RdE G W m σ H fun x H1 => r x σ H1 D.nx := by
  obtain ⟨F, fp, e, s, h⟩ := h
  refine RdE.iff.mpr ⟨F, fp, e, s, ?_⟩
  unfold mAsg at h
  cases q : m e with
  | ok d e1 =>
    rw [q] at h
    intro v F' H' fp' p s' t' tr
    rw [RE.toS_ok] at h
    cases q2 : put t d e1 with
    | none => rw [q2] at h; exact h.elim
    | some e2 =>
      rw [q2] at h
      exact hg s' t' q2 fun σ2 fp2 s2 l2 o2 => h σ2 F' H' fp2 s2 l2 (tr.drop fun c z => (o2 c z))
  | ex c d e1 => rw [q] at h; exact h.x
  | no => rw [q] at h; exact h
theorem ss_asg {tg : Expr} {t : CT} {r : TG} (h : SE X g W a m) (hg : PG X tg r) (hk : GOk (gOf X g) L t r) (hs : swapsWithSole [tg] a pos.line X.env = pure false) (hw : swappedStores [tg] a X.env = pure none)
    (h1 : (assignEach [tg] X.env).map (·.2) = [assign tg X.env]) : SS X g W L (.Assign [tg] a pos) (mAsg t m) := PS.imp (ps_asg h hg hs hw h1) fun D σ H h => RdS.asg hk h
theorem ss_set {i : Nat} {x : Str} (hN : X.N.Nodup) (hi : X.N[i]? = some x) (hx : Loc X.env.scope x) (h : SE X g W a m) (hL : i ∉ L) (hs : swapsWith a (some (.Name x p2)) pos.line X.env = pure false) (hf : X.fn x = true ∨ X.env.scope.names.lookup x = some .local) :
    SS X g W L (.Assign [.Name x p2] a pos) (mAsg (.v i) m) := PS.imp (ps_set hN hi hx h hs hf) fun D σ H h => RdS.asg (gok_v hL) h
/-- a, b = x, y: two names, three names -/
def mPar (is : List Nat) (ms : List Ar) : MS := fun e => match mA ms e with
  | .ok as e1 => match allT as with
    | some ds => match puts (is.map CT.v) ds e1 with
      | some e2 => .nx e2
      | none => .no
    | none => .no
  | .ex c d e1 => .ex c d e1
  | .no => .no
theorem RdS.par {is : List Nat} {ms : List Ar} {σ : L2.St} {H : Hp} (hL : ∀ i, i ∈ is → i ∉ L) (h : RdS G W L (mPar is ms) D σ H) :
    ∃ k : List V → Hp → Prop, RdA G W ms σ H k ∧ ∀ vs H1, k vs H1 → vs.length = is.length ∧ D.nx ((is.zip vs).foldl (fun s z => s.set z.1 (some z.2)) σ) H1 := by
  refine ⟨fun vs H1 => vs.length = is.length ∧ D.nx ((is.zip vs).foldl (fun s z => s.set z.1 (some z.2)) σ) H1, ?_, fun _ _ z => z⟩
  obtain ⟨F, fp, e, s, h⟩ := h
  refine ⟨F, fp, e, s, ?_⟩
  unfold mPar at h
  cases q : mA ms e with
  | ok as e1 =>
    rw [q] at h
    simp only at h
    cases q2 : allT as with
    | none => rw [q2] at h; exact h.elim
    | some ds =>
      rw [q2] at h
      simp only at h
      cases q3 : puts (is.map CT.v) ds e1 with
      | none => rw [q3] at h; exact h.elim
      | some e2 =>
        rw [q3] at h
        simp only at h
        intro vs F1 H1 fp1 p s1 t tr
        have go : ∀ (is : List Nat), (∀ i, i ∈ is → i ∉ L) → ∀ (vs : List V) (ds : List EV.D) (p : List Addr) (fp1 : Nat → List Addr) (σ1 : L2.St) (e1 e2 : DEnv), SO G F1 H1 fp1 σ1 e1 → TOs G F1 H1 fp1 p vs ds → puts (is.map CT.v) ds e1 = some e2 →
            vs.length = is.length ∧ ∃ fp2, SO G F1 H1 fp2 ((is.zip vs).foldl (fun s z => s.set z.1 (some z.2)) σ1) e2 ∧ (∀ i, i ∈ L → ((is.zip vs).foldl (fun s z => s.set z.1 (some z.2)) σ1)[i]? = σ1[i]?) ∧ ∀ a, own fp2 a → own fp1 a ∨ a ∈ p := by
          intro is
          induction is with
          | nil =>
            intro _ vs ds p fp1 σ1 e1 e2 s1 t1 h
            cases ds with
            | nil =>
              obtain ⟨e1, _⟩ := t1.r.invN
              subst e1
              injection h with h; subst h
              exact ⟨rfl, fp1, s1, fun _ _ => rfl, fun _ z => .inl z⟩
            | cons _ _ => cases h
          | cons i is ih =>
            intro hL vs ds p fp1 σ1 e1 e2 s1 t1 h
            cases ds with
            | nil => cases h
            | cons d ds =>
              have h : puts (is.map CT.v) ds (e1.set i (some d)) = some e2 := h
              obtain ⟨v, ws, f, fs, rfl, ep, r1, r2⟩ := t1.r.invD
              subst ep
              obtain ⟨n1, n2, n3⟩ := List.nodup_append.mp t1.nd
              have s2 := s1.store (i := i) (p := f) (v := v) (d := d) ⟨r1, n1, fun a z => t1.sep a (List.mem_append_left _ z), fun a z => t1.dj a (List.mem_append_left _ z)⟩
              obtain ⟨h1, fp2, s3, h3, h4⟩ := ih (fun j z => hL j (List.mem_cons_of_mem _ z)) ws ds fs _ _ _ e2 s2 ⟨r2, n2, fun a z => t1.sep a (List.mem_append_right _ z), fun a z w => by
                rcases own_store a w with w | w
                · exact t1.dj a (List.mem_append_right _ z) w
                · exact n3 a w a z rfl⟩ h
              refine ⟨congrArg (· + 1) h1, fp2, s3, fun j z => (h3 j z).trans ?_, fun a z => ?_⟩
              · rw [List.getElem?_set_ne]
                intro w; subst w
                exact hL i (List.mem_cons_self ..) z
              · rcases h4 a z with z | z
                · exact (own_store a z).imp id fun z => List.mem_append_left _ z
                · exact .inr (List.mem_append_right _ z)
        obtain ⟨h1, fp2, s2, h3, h4⟩ := go is hL vs ds p fp1 σ e1 e2 s1 ⟨t.r.all q2, t.nd, t.sep, t.dj⟩ q3
        exact ⟨h1, h _ F1 H1 fp2 s2 h3 (tr.drop fun c z => h4 c z)⟩
  | ex c d e1 => rw [q] at h; exact h.x
  | no => rw [q] at h; exact h
theorem PAimp {σ : L2.St} {H : Hp} {ms : List Ar} {k k' : List V → Hp → Prop} (h : RdA G W ms σ H k) (hk : ∀ vs H1, k vs H1 → k' vs H1) : RdA G W ms σ H k' := by
  obtain ⟨F, fp, e, s, h⟩ := h
  refine ⟨F, fp, e, s, ?_⟩
  cases q : mA ms e with
  | ok as e1 => rw [q] at h; exact fun vs F1 H1 fp1 p s1 t tr => hk _ _ (h vs F1 H1 fp1 p s1 t tr)
  | ex c d e1 => rw [q] at h; exact h
  | no => rw [q] at h; exact h
theorem ss_par {i j : Nat} {x y : Str} {px py pt : Pos} {kt k2 : Nat} {pt2 : Pos} {ms : List Ar} (hc : X.calm = true) (hN : X.N.Nodup) (hi : X.N[i]? = some x) (hj : X.N[j]? = some y) (hij : i ≠ j) (hx : X.env.scope.names.lookup x = some .local) (hy : X.env.scope.names.lookup y = some .local)
    (ha : SA X g W [a, b] ms) (hw : swappedStores [.Tuple [.Name x px, .Name y py] kt pt] (.Tuple [a, b] k2 pt2) X.env = pure (some [x, y])) (hL : i ∉ L ∧ j ∉ L) :
    SS X g W L (.Assign [.Tuple [.Name x px, .Name y py] kt pt] (.Tuple [a, b] k2 pt2) pos) (mPar [i, j] ms) := PS.imp (L2.ps_par hc hN hi hj hij hx hy ha hw) fun D σ H h => by
  obtain ⟨k, h1, h2⟩ := RdS.par (is := [i, j]) (fun q z => by simp at z; rcases z with rfl | rfl; exact hL.1; exact hL.2) h
  refine PAimp h1 fun vs H1 z => ?_
  obtain ⟨h3, h4⟩ := h2 vs H1 z
  match vs, h3 with
  | [v, w], _ => exact ⟨v, w, rfl, h4⟩
theorem ss_par3 {i j l : Nat} {x y z : Str} {px py pz pt : Pos} {kt k2 : Nat} {pt2 : Pos} {ms : List Ar} (hc : X.calm = true) (hN : X.N.Nodup) (hi : X.N[i]? = some x) (hj : X.N[j]? = some y) (hl : X.N[l]? = some z) (hij : i ≠ j) (hil : i ≠ l) (hjl : j ≠ l) (hx : X.env.scope.names.lookup x = some .local) (hy : X.env.scope.names.lookup y = some .local) (hz : X.env.scope.names.lookup z = some .local)
    (ha : SA X g W [a, b, c] ms) (hw : swappedStores [.Tuple [.Name x px, .Name y py, .Name z pz] kt pt] (.Tuple [a, b, c] k2 pt2) X.env = pure (some [x, y, z])) (hL : i ∉ L ∧ j ∉ L ∧ l ∉ L) :
    SS X g W L (.Assign [.Tuple [.Name x px, .Name y py, .Name z pz] kt pt] (.Tuple [a, b, c] k2 pt2) pos) (mPar [i, j, l] ms) := PS.imp (L2.ps_par3 hc hN hi hj hl hij hil hjl hx hy hz ha hw) fun D σ H h => by
  obtain ⟨k, h1, h2⟩ := RdS.par (is := [i, j, l]) (fun q w => by simp at w; rcases w with rfl | rfl | rfl; exact hL.1; exact hL.2.1; exact hL.2.2) h
  refine PAimp h1 fun vs H1 z => ?_
  obtain ⟨h3, h4⟩ := h2 vs H1 z
  match vs, h3 with
  | [u, v, w], _ => exact ⟨u, v, w, rfl, h4⟩
end
end EV

/-! EvI: what is written: items of lists and dicts, append, pop. -/
namespace EV
open PySem PySem.Spec PyProof.Rows L2
section
variable {X : Cx} {N : List Str} {sc : Scope} {fr : List Str} {g : GF} {G : GI} {W : WX} {L : List Nat} {a b c : Expr} {es : List Expr} {st : Stmt} {sts : List Stmt} {pos p2 p3 p4 : Pos} {oa ob : Op} {m n t : ME} {ms ns : MS} {F H F1 H1 F' H' : Hp} {fp fp1 fp' : Nat → List Addr} {σ σ1 : L2.St} {e e' : DEnv} {D : Ends}
/-- a slot's own thing is written -/
theorem SO.mutate {k : Nat} {d0 d1 : EV.D} {v : V} {p q : List Addr} (s : SO G F H fp σ e) (h : e[k]? = some (some d0)) (hv : σ[k]? = some (some v)) (hp : ∀ a, a ∈ p → F a = none ∧ ¬ own fp a)
    (hH : ∀ b o, b ∉ fp k → H b = some o → H' b = some o) (r : RO G F H' q v d1) (nd : q.Nodup) (sub : ∀ a, a ∈ q → a ∈ fp k ∨ a ∈ p) : SO G F H' (fun j => if j = k then q else fp j) σ (e.set k (some d1)) where
  sub := fun b o z => hH b o (fun w => by rw [s.sep k b w] at z; cases z) (s.sub b o z)
  rep := fun j x hx => by
    by_cases hj : j = k
    · subst hj
      have hl : j < e.length := (List.getElem?_eq_some_iff.mp h).1
      rw [List.getElem?_set_self hl] at hx
      cases hx
      exact ⟨v, hv, by rw [if_pos rfl]; exact r⟩
    · rw [List.getElem?_set_ne (Ne.symm hj)] at hx
      obtain ⟨w, h1, r1⟩ := s.rep j x hx
      exact ⟨w, h1, by rw [if_neg hj]; exact r1.mono (fun _ _ z => z) fun b z o => hH b o fun w => hj (s.dj j k b z w)⟩
  nd := fun j => by
    split
    · exact nd
    · exact s.nd j
  dj := fun i j b h1 h2 => by
    split at h1
    · rename_i hi
      split at h2
      · rename_i hj; rw [hi, hj]
      · rename_i hj
        rcases sub b h1 with z | z
        · exact absurd (s.dj k j b z h2) (Ne.symm hj)
        · exact absurd ⟨j, h2⟩ (hp b z).2
    · rename_i hi
      split at h2
      · rcases sub b h2 with z | z
        · exact absurd (s.dj i k b h1 z) hi
        · exact absurd ⟨i, h1⟩ (hp b z).2
      · exact s.dj i j b h1 h2
  sep := fun j b z => by
    split at z
    · rcases sub b z with z | z
      · exact s.sep k b z
      · exact (hp b z).1
    · exact s.sep j b z
  th := fun j b z => by
    split at z
    · exact r.there b z
    · rename_i hj
      obtain ⟨o, ho⟩ := s.th j b z
      exact ⟨o, hH b o (fun w => hj (s.dj j k b z w)) ho⟩
  len := by rw [List.length_set]; exact s.len
theorem Tr.mutate {k : Nat} {p q : List Addr} {O : Addr → Prop} (hH : ∀ b o, b ∉ fp k → H b = some o → H' b = some o) (sub : ∀ a, a ∈ q → a ∈ fp k ∨ a ∈ p) : Tr F H (fun a => own fp a ∨ a ∈ p) F H' (own fun j => if j = k then q else fp j) where
  ff := fun _ _ z => z
  fr := fun b o n z => hH b o (fun w => n (.inl ⟨k, w⟩)) z
  ow := fun b ⟨j, z⟩ => by
    dsimp only at z
    split at z
    · exact .inl ((sub b z).imp (fun z => ⟨k, z⟩) id)
    · exact .inl (.inl ⟨j, z⟩)
  fz := fun _ _ z => .inl z
theorem ROs.put {p : List Addr} {v : V} {d : EV.D} (r : RO G F H p v d) : ∀ {j : Nat} {fs : List Addr} {vs : List V} {ds : List EV.D}, ROs G F H fs vs ds → j < ds.length → fs.Nodup → p.Nodup → (∀ a, a ∈ fs → a ∈ p → False) →
    ∃ q, ROs G F H q (vs.set j v) (ds.set j d) ∧ q.Nodup ∧ ∀ a, a ∈ q → a ∈ fs ∨ a ∈ p
  | _, _, _, [], _, h, _, _, _ => nomatch h
  | 0, _, _, _ :: _, rs, _, n1, n2, n3 => by
    obtain ⟨w, ws, f, fs, rfl, rfl, r1, r2⟩ := rs.invD
    obtain ⟨m1, m2, m3⟩ := List.nodup_append.mp n1
    refine ⟨p ++ fs, .cons r r2, List.nodup_append.mpr ⟨n2, m2, fun x hx y hy z => n3 y (List.mem_append_right _ hy) (z ▸ hx)⟩, fun a z => ?_⟩
    exact (List.mem_append.mp z).elim .inr fun z => .inl (List.mem_append_right _ z)
  | j + 1, _, _, x :: ds, rs, h, n1, n2, n3 => by
    obtain ⟨w, ws, f, fs, rfl, rfl, r1, r2⟩ := rs.invD
    obtain ⟨m1, m2, m3⟩ := List.nodup_append.mp n1
    obtain ⟨q, h1, h2, h3⟩ := ROs.put r (j := j) r2 (by simpa using h) m2 n2 fun a z => n3 a (List.mem_append_right _ z)
    refine ⟨f ++ q, .cons r1 h1, List.nodup_append.mpr ⟨m1, h2, fun x hx y hy z => ?_⟩, fun a z => ?_⟩
    · subst z
      rcases h3 x hy with w | w
      · exact m3 x hx x w rfl
      · exact n3 x (List.mem_append_left _ hx) w
    · rcases List.mem_append.mp z with z | z
      · exact .inl (List.mem_append_left _ z)
      · exact (h3 a z).imp (fun z => List.mem_append_right _ z) id
/-- a name's own list -/
theorem RO.lo_inv {p : List Addr} {v : V} {ds : List EV.D} (r : RO G F H p v (.lst true ds)) : ∃ a vs fs, v = .ref a ∧ p = a :: fs ∧ H a = some (.lst vs) ∧ ROs G F H fs vs ds := by
  cases r with
  | lo e r => exact ⟨_, _, _, rfl, rfl, e, r⟩
theorem RO.dko_inv {p : List Addr} {v : V} {ds : List (Key × EV.D)} (r : RO G F H p v (.dk true ds)) : ∃ a kvs, v = .ref a ∧ p = [a] ∧ H a = some (.dK kvs) ∧ kvs.map (·.1) = ds.map (·.1) ∧ ROs G F H [] (kvs.map (·.2)) (ds.map (·.2)) := by
  cases r with
  | dko e k r => exact ⟨_, _, rfl, rfl, e, k, r⟩
theorem RO.dto_inv {p : List Addr} {v : V} {ds : List (List Key × EV.D)} (r : RO G F H p v (.dt true ds)) : ∃ a kvs, v = .ref a ∧ p = [a] ∧ H a = some (.dT kvs) ∧ kvs.map (·.1) = ds.map (·.1) ∧ ROs G F H [] (kvs.map (·.2)) (ds.map (·.2)) := by
  cases r with
  | dto e k r => exact ⟨_, _, rfl, rfl, e, k, r⟩
/-- a dict's entry put -/
def putD {κ : Type} [DecidableEq κ] (kds : List (κ × EV.D)) (k : κ) (d : EV.D) : List (κ × EV.D) :=
  if (kds.any fun kv => decide (kv.1 = k)) then kds.map fun kv => if kv.1 = k then (kv.1, d) else kv else kds ++ [(k, d)]
/-- what becomes of a list or a dict where an item is stored -/
def setD : EV.D → EV.D → EV.D → Option EV.D
  | .lst true xs, .int i, d => (ixN xs.length i).map fun j => .lst true (xs.set j d)
  | .dk true kds, k, d => (keyD k).bind fun k => if kds.length < LIM then some (.dk true (putD kds k (frz d))) else none
  | .dt true kds, .tup ks, d => (keysD ks).bind fun k => if kds.length < LIM then some (.dt true (putD kds k (frz d))) else none
  | _, _, _ => none
theorem any_keys {κ : Type} [DecidableEq κ] (k : κ) : ∀ {kvs : List (κ × V)} {kds : List (κ × EV.D)}, kvs.map (·.1) = kds.map (·.1) → (kvs.any fun kv => decide (kv.1 = k)) = kds.any fun kv => decide (kv.1 = k)
  | [], [], _ => rfl
  | [], _ :: _, h => by cases h
  | _ :: _, [], h => by cases h
  | a :: kvs, b :: kds, h => by
    have h1 : a.1 = b.1 ∧ kvs.map (·.1) = kds.map (·.1) := by simpa using h
    show (decide (a.1 = k) || kvs.any _) = (decide (b.1 = k) || kds.any _)
    rw [h1.1, any_keys k h1.2]
theorem map_keys {κ : Type} [DecidableEq κ] (k : κ) {v : V} {d : EV.D} (r : RO G F H [] v d) : ∀ {kvs : List (κ × V)} {kds : List (κ × EV.D)}, kvs.map (·.1) = kds.map (·.1) → ROs G F H [] (kvs.map (·.2)) (kds.map (·.2)) →
    (kvs.map fun kv => if kv.1 = k then (kv.1, v) else kv).map (·.1) = (kds.map fun kv => if kv.1 = k then (kv.1, d) else kv).map (·.1) ∧
    ROs G F H [] ((kvs.map fun kv => if kv.1 = k then (kv.1, v) else kv).map (·.2)) ((kds.map fun kv => if kv.1 = k then (kv.1, d) else kv).map (·.2))
  | [], [], _, _ => ⟨rfl, .nil⟩
  | [], _ :: _, h, _ => by cases h
  | _ :: _, [], h, _ => by cases h
  | a :: kvs, b :: kds, h, rs => by
    have h1 : a.1 = b.1 ∧ kvs.map (·.1) = kds.map (·.1) := by simpa using h
    obtain ⟨r1, r2⟩ := rs.unconsZ
    obtain ⟨h2, h3⟩ := map_keys k r h1.2 r2
    simp only [List.map_cons]
    by_cases e : b.1 = k
    · rw [if_pos (h1.1.trans e), if_pos e]
      exact ⟨by rw [h2, h1.1], ROs.consZ r h3⟩
    · rw [if_neg (fun z => e (h1.1.symm.trans z)), if_neg e]
      exact ⟨by rw [h2, h1.1], ROs.consZ r1 h3⟩
theorem putD_rep {κ : Type} [DecidableEq κ] (k : κ) {v : V} {d : EV.D} (r : RO G F H [] v d) {kvs : List (κ × V)} {kds : List (κ × EV.D)} (h : kvs.map (·.1) = kds.map (·.1)) (rs : ROs G F H [] (kvs.map (·.2)) (kds.map (·.2))) :
    (putK kvs k v).map (·.1) = (putD kds k d).map (·.1) ∧ ROs G F H [] ((putK kvs k v).map (·.2)) ((putD kds k d).map (·.2)) := by
  have e : putK kvs k v = if (kvs.any fun kv => decide (kv.1 = k)) then kvs.map fun kv => if kv.1 = k then (kv.1, v) else kv else kvs ++ [(k, v)] := rfl
  rw [e]
  unfold putD
  rw [any_keys k h]
  split
  · exact map_keys k r h rs
  · rw [List.map_append, List.map_append, List.map_append, List.map_append, h]
    exact ⟨rfl, (rs.append (ROs.one r)).cast rfl⟩
/-- o[i] = v by values: a list, a dict -/
theorem set_any (hu : X.A.units + 1 < cLine) : PSet X (fun o i v H Q => rSetL o i v H Q ∨ ∃ a H', o = .ref a ∧ DPut H a i v H' ∧ Q H') := by
  intro pins s σ H o i v ov iv u Q I ro ri rv h
  rcases h with h | ⟨a, H', rfl, hp, q⟩
  · exact set_list pins s σ H o i v ov iv u Q I ro ri rv h
  · cases (show ov = Value.ref a from ro)
    exact d_setItem hu I hp ri rv fun s' I' => ⟨H', I', q⟩
theorem set_ok {k : Nat} {d0 d1 di d : EV.D} {v x y : V} {p : List Addr} {Q : Hp → Prop} (s : SO G F H fp σ e) (h : e[k]? = some (some d0)) (hv : σ[k]? = some (some x)) (t : TO G F H fp p v d) (ri : RB G F H y di) (hd : setD d0 di d = some d1)
    (q : ∀ F' H' fp', SO G F' H' fp' σ (e.set k (some d1)) → Tr F H (fun a => own fp a ∨ a ∈ p) F' H' (own fp') → Q H') : rSetL x y v H Q ∨ ∃ a H', x = .ref a ∧ DPut H a y v H' ∧ Q H' := by
  obtain ⟨x', hx', r⟩ := s.rep k d0 h
  rw [hv] at hx'
  cases hx'
  cases d0 with
  | lst o xs =>
    cases o with
    | false => cases hd
    | true =>
      cases di <;> first | (cases hd; done) | skip
      rename_i i
      have hd : (ixN xs.length i).map (fun j => EV.D.lst true (xs.set j d)) = some d1 := hd
      cases qj : ixN xs.length i with
      | none => rw [qj] at hd; cases hd
      | some j =>
        rw [qj] at hd
        injection hd with hd; subst hd
        obtain ⟨a, vs, fs, rfl, ep, ha, rs⟩ := r.lo_inv
        have nd := s.nd k
        rw [ep] at nd
        obtain ⟨n1, n2⟩ := List.nodup_cons.mp nd
        have own_fs : ∀ c, c ∈ fs → own fp c := fun c z => ⟨k, by rw [ep]; exact List.mem_cons_of_mem _ z⟩
        have own_a : own fp a := ⟨k, by rw [ep]; exact List.mem_cons_self ..⟩
        obtain ⟨w, h1, h2, h3⟩ := ROs.put t.r (j := j) rs (ixN_seq qj).2.1 n2 t.nd fun c z w => t.dj c w (own_fs c z)
        have hH : ∀ b o, b ∉ fp k → H b = some o → upd H a (.lst (vs.set j v)) b = some o := fun b o z w => by
          rw [upd_ne]
          · exact w
          · intro u; subst u; rw [ep] at z; exact z (List.mem_cons_self ..)
        have na : a ∉ w := fun z => by
          rcases h3 a z with z | z
          · exact n1 z
          · exact t.dj a z own_a
        have sub : ∀ c, c ∈ (a :: w) → c ∈ fp k ∨ c ∈ p := fun c z => by
          rcases List.mem_cons.mp z with z | z
          · rw [z, ep]; exact .inl (List.mem_cons_self ..)
          · exact (h3 c z).imp (fun z => by rw [ep]; exact List.mem_cons_of_mem _ z) id
        refine .inl ⟨a, vs, i, j, rfl, ri.int_inv, ha, by rw [rs.length]; exact qj, q F _ _ (s.mutate h hv (fun c z => ⟨t.sep c z, t.dj c z⟩) hH (.lo upd_same (h1.mono (fun _ _ z => z) fun c z o u => ?_)) (List.nodup_cons.mpr ⟨na, h2⟩) sub) (Tr.mutate (O := fun _ => True) hH sub)⟩
        rw [upd_ne]
        · exact u
        · intro z2; subst z2; exact na z
  | dk o kds =>
    cases o with
    | false => cases di <;> cases hd
    | true =>
      have hd : ((keyD di).bind fun k => if kds.length < LIM then some (EV.D.dk true (putD kds k (frz d))) else none) = some d1 := by
        cases di <;> exact hd
      cases qk : keyD di with
      | none => rw [qk] at hd; cases hd
      | some key =>
        rw [qk] at hd
        have hd : (if kds.length < LIM then some (EV.D.dk true (putD kds key (frz d))) else none) = some d1 := hd
        split at hd
        · rename_i hl
          injection hd with hd; subst hd
          obtain ⟨a, kvs, rfl, ep, ha, hk, rs⟩ := r.dko_inv
          have s2 := s.share t.sep t.dj
          have hlen : kvs.length = kds.length := by
            have := congrArg List.length hk
            simpa using this
          obtain ⟨h1, h2⟩ := putD_rep key t.share hk (rs.monoZ (addF_le t.sep))
          have hH : ∀ b o, b ∉ fp k → H b = some o → upd H a (.dK (putK kvs key v)) b = some o := fun b o z w => by
            rw [upd_ne]
            · exact w
            · intro u; subst u; rw [ep] at z; exact z (List.mem_cons_self ..)
          refine .inr ⟨a, _, rfl, ?_, q _ _ _ (s2.mutate (p := []) (q := [a]) (H' := upd H a (.dK (putK kvs key v))) h hv (fun c z => nomatch z) hH (.dko upd_same h1 (h2.monoZ fun _ _ z => z)) (by simp) fun c z => .inl (by rw [ep]; exact z)) ((Tr.share (O := own fp) t.sep).trans ((Tr.mutate (p := []) (q := [a]) (O := fun _ => True) hH fun c z => .inl (by rw [ep]; exact z)).weak (fun c z => z.elim id fun z => nomatch z) fun c z => .inl z))⟩
          rw [keyD_rep ri qk]
          exact DPut.k ha (by rw [hlen]; exact LIM_lineS (Nat.le_of_lt hl))
        · cases hd
  | dt o kds =>
    cases o with
    | false => cases di <;> cases hd
    | true =>
      cases di <;> first | (cases hd; done) | skip
      rename_i ks
      have hd : ((keysD ks).bind fun k => if kds.length < LIM then some (EV.D.dt true (putD kds k (frz d))) else none) = some d1 := hd
      cases qk : keysD ks with
      | none => rw [qk] at hd; cases hd
      | some key =>
        rw [qk] at hd
        have hd : (if kds.length < LIM then some (EV.D.dt true (putD kds key (frz d))) else none) = some d1 := hd
        split at hd
        · rename_i hl
          injection hd with hd; subst hd
          obtain ⟨a, kvs, rfl, ep, ha, hk, rs⟩ := r.dto_inv
          obtain ⟨b, us, rfl, hb, rb⟩ := ri.tup_inv
          rw [keysD_rep rb qk] at hb
          have s2 := s.share t.sep t.dj
          have hlen : kvs.length = kds.length := by
            have := congrArg List.length hk
            simpa using this
          obtain ⟨h1, h2⟩ := putD_rep key t.share hk (rs.monoZ (addF_le t.sep))
          have hH : ∀ b o, b ∉ fp k → H b = some o → upd H a (.dT (putK kvs key v)) b = some o := fun b o z w => by
            rw [upd_ne]
            · exact w
            · intro u; subst u; rw [ep] at z; exact z (List.mem_cons_self ..)
          exact .inr ⟨a, _, rfl, DPut.t ha (s.sub _ _ hb) (by rw [hlen]; exact LIM_lineS (Nat.le_of_lt hl)), q _ _ _ (s2.mutate (p := []) (q := [a]) (H' := upd H a (.dT (putK kvs key v))) h hv (fun c z => nomatch z) hH (.dto upd_same h1 (h2.monoZ fun _ _ z => z)) (by simp) fun c z => .inl (by rw [ep]; exact z)) ((Tr.share (O := own fp) t.sep).trans ((Tr.mutate (p := []) (q := [a]) (O := fun _ => True) hH fun c z => .inl (by rw [ep]; exact z)).weak (fun c z => z.elim id fun z => nomatch z) fun c z => .inl z))⟩
        · cases hd
  | _ => cases di <;> cases hd
/-- x[i] = e -/
def mSet (k : Nat) (oi : Op) (m : ME) : MS := fun e => (m e).toS fun d e1 => match e1[k]? with
  | some (some _) => match oi.run e1 with
    | .ok p e2 => match p.see e2 (fun di e3 => match e3[k]? with
      | some (some d0) => match setD d0 di d with
        | some d1 => .ok .non (e3.set k (some d1))
        | none => .no
      | _ => .no) with
      | .ok _ e4 => .nx e4
      | _ => .no
    | .ex c d e2 => .ex c d e2
    | .no => .no
  | _ => .no
theorem ss_sub {k : Nat} {x : Str} (C : Cn X N sc fr) (hx : varB N sc k x = true) (hi : SOp X g W b oa) (hv : SE X g W a m) (hs : swapsWithSole [.Subscript (.Name x p2) b p3] a pos.line X.env = pure false) (hw : swappedStores [.Subscript (.Name x p2) b p3] a X.env = pure none)
    (h1 : (assignEach [.Subscript (.Name x p2) b p3] X.env).map (·.2) = [assign (.Subscript (.Name x p2) b p3) X.env])
    (ha : ∀ v, assign (.Subscript (.Name x p2) b p3) X.env v = (do
      let ov ← holding [v] (eval (.Name x p2) X.env)
      let iv ← holding [v, ov] (eval b X.env)
      standAt p3
      holding [v, ov, iv] (setItem ov iv v)
      release [v, ov, iv] [])) : SS X g W L (.Assign [.Subscript (.Name x p2) b p3] a pos) (mSet k oa m) :=
  PS.imp (ps_asg hv (pg_sub (pv_ok C hx) hi (set_any C.hu1) ha) hs hw h1) fun D σ H ⟨F, fp, e, s, h⟩ => by
  refine RdE.iff.mpr ⟨F, fp, e, s, ?_⟩
  unfold mSet at h
  cases q : m e with
  | ok d e1 =>
    rw [q] at h
    rw [RE.toS_ok] at h
    intro v F1 H1 fp1 p s1 t1 tr1
    cases q1 : e1[k]? with
    | none => rw [q1] at h; exact h.elim
    | some o1 =>
      cases o1 with
      | none => rw [q1] at h; exact h.elim
      | some d0' =>
        rw [q1] at h
        simp only at h
        obtain ⟨u, hu, _⟩ := s1.rep k d0' q1
        refine ⟨u, hu, ?_⟩
        refine RdO.step oa s1 ?_
        cases q2 : oa.run e1 with
        | ok po e2 =>
          rw [q2] at h
          simp only at h
          intro y F2 H2 fp2 s2 tr2 v2
          have t2 := t1.keep tr2.nil fun c z => Or.inl z
          cases q3 : (po.see e2 fun di e3 => match e3[k]? with
            | some (some d0) => match setD d0 di d with
              | some d1 => RE.ok .non (e3.set k (some d1))
              | none => .no
            | _ => .no) with
          | no => rw [q3] at h; exact h.elim
          | ex c d e4 => rw [q3] at h; exact h.elim
          | ok dn e4 =>
            rw [q3] at h
            simp only at h
            obtain ⟨di, e3, F3, fp3, s3, b3, tr3, kk⟩ := PV.see_ok s2 v2 q3 (by intro z; cases z)
            have t3 := t2.keep tr3.nil fun c z => Or.inl z
            cases q4 : e3[k]? with
            | none => rw [q4] at kk; cases kk
            | some o4 =>
              cases o4 with
              | none => rw [q4] at kk; cases kk
              | some d0 =>
                rw [q4] at kk
                simp only at kk
                cases q5 : setD d0 di d with
                | none => rw [q5] at kk; cases kk
                | some d1 =>
                  rw [q5] at kk
                  injection kk with _ kk; subst kk
                  refine set_ok s3 q4 hu t3 b3 q5 fun F' H' fp' s' tr' => h σ F' H' fp' s' (fun _ _ => rfl) ?_
                  exact ((tr1.trans ((tr2.trans tr3).weak (P := fun c => own fp1 c ∨ c ∈ p) (P1 := fun c => own fp3 c ∨ c ∈ p) (fun _ z => .inl z) fun c z => z.imp id .inr)).trans tr')
        | ex c d2 e2 =>
          rw [q2] at h
          intro dx v2 F2 H2 fp2 p2 s2 t2 tr2 hx2
          exact h dx v2 σ F2 H2 fp2 p2 s2 (fun _ _ => rfl) t2 ((tr1.trans (tr2.weak (P := fun c => own fp1 c ∨ c ∈ p) (P1 := fun c => (own fp2 c ∨ c ∈ p2) ∨ c ∈ p) (fun _ z => .inl z) fun c z => z.imp id .inr)).drop fun c z => .inl z) hx2
        | no => rw [q2] at h; exact h
  | ex c d e1 => rw [q] at h; exact h.x
  | no => rw [q] at h; exact h
/-- x.append(e) -/
def mApp (k : Nat) (m : ME) : ME := fun e => match e[k]? with
  | some (some (.lst true _)) => (m e).bind fun d e1 => match e1[k]? with
    | some (some (.lst true xs)) => if xs.length < LIM then .ok .non (e1.set k (some (.lst true (xs ++ [d])))) else .no
    | _ => .no
  | _ => .no
theorem fewOk {cpos : Pos} {env : Env} (hs : starEach [a] env = (false, eval a env) :: starEach [] env) : ((backTo cpos (starEach [a] env)).all (fun x => !x.1) && (backToKw cpos (keywordEach [] env)).all (fun x => x.1.isSome)
      && decide (([a] : List Expr).length + ([] : List Keyword).length + (if ([] : List Keyword).isEmpty then 0 else 1) < 30)) = true := by
  rw [hs]; rfl
theorem se_app {k : Nat} {x : Str} (C : Cn X N sc fr) (hx : varB N sc k x = true) (hm : SE X g W a m) (hs : starEach [a] X.env = (false, eval a X.env) :: starEach [] X.env) (hl : (p3.endLine == pos.line) = true) :
    SE X g W (.Call (.Attribute (.Name x p2) "append" p3) [a] [] pos) (mApp k m) := PE.imp (pe_bm PySem.F.plainAttrs_list PySem.F.slot_list_append PySem.F.type_list_append mt_append (pv_ok C hx) (pa_cons hm pa_nil hs) rfl (fewOk hs) hl hs) fun σ H Q h => by
  obtain ⟨F, fp, e, s, h⟩ := RdE.iff.mp h
  unfold mApp at h
  cases q : e[k]? with
  | none => rw [q] at h; exact h.elim
  | some o =>
    cases o with
    | none => rw [q] at h; exact h.elim
    | some d0 =>
      cases d0 with
      | lst o xs0 =>
        cases o with
        | false => rw [q] at h; exact h.elim
        | true =>
          rw [q] at h
          simp only at h
          obtain ⟨v, hv, r⟩ := s.rep k _ q
          obtain ⟨a0, vs0, fs0, rfl, ep0, ha0, rs0⟩ := r.lo_inv
          refine ⟨.ref a0, hv, .inl ⟨rfl, vs0, SqL.of ha0⟩, ?_⟩
          refine RdE.iff.mpr ⟨F, fp, e, s, ?_⟩
          cases q1 : m e with
          | ok d e1 =>
            rw [q1] at h
            simp only [RE.bind_ok] at h
            intro u F1 H1 fp1 p s1 t1 tr1
            cases q2 : e1[k]? with
            | none => rw [q2] at h; exact h.elim
            | some o1 =>
              cases o1 with
              | none => rw [q2] at h; exact h.elim
              | some d1 =>
                cases d1 with
                | lst o xs =>
                  cases o with
                  | false => rw [q2] at h; exact h.elim
                  | true =>
                    rw [q2] at h
                    simp only at h
                    split at h
                    · rename_i hl
                      obtain ⟨v1, hv1, r1⟩ := s1.rep k _ q2
                      rw [hv] at hv1
                      cases hv1
                      obtain ⟨a1, vs, fs, ea, ep, ha, rs⟩ := r1.lo_inv
                      cases ea
                      have nd := s1.nd k
                      rw [ep] at nd
                      obtain ⟨n1, n2⟩ := List.nodup_cons.mp nd
                      have own_fs : ∀ c, c ∈ fs → own fp1 c := fun c z => ⟨k, by rw [ep]; exact List.mem_cons_of_mem _ z⟩
                      have own_a : own fp1 a0 := ⟨k, by rw [ep]; exact List.mem_cons_self ..⟩
                      have hH : ∀ b o, b ∉ fp1 k → H1 b = some o → upd H1 a0 (.lst (vs ++ [u])) b = some o := fun b o z w => by
                        rw [upd_ne]
                        · exact w
                        · intro z2; subst z2; rw [ep] at z; exact z (List.mem_cons_self ..)
                      have na : ∀ c, c ∈ fs ++ p → c ≠ a0 := fun c z w => by
                        subst w
                        rcases List.mem_append.mp z with z | z
                        · exact n1 z
                        · exact t1.dj c z own_a
                      have sub : ∀ c, c ∈ (a0 :: (fs ++ p)) → c ∈ fp1 k ∨ c ∈ p := fun c z => by
                        rcases List.mem_cons.mp z with z | z
                        · rw [z, ep]; exact .inl (List.mem_cons_self ..)
                        · exact (List.mem_append.mp z).imp (fun z => by rw [ep]; exact List.mem_cons_of_mem _ z) id
                      refine ⟨a0, vs, u, rfl, rfl, ha, by rw [rs.length]; exact LIM_lineS (Nat.le_of_lt hl), ?_⟩
                      refine h .non F1 _ _ [] (s1.mutate q2 hv (fun c z => ⟨t1.sep c z, t1.dj c z⟩) hH (.lo upd_same ((rs.append (ROs.one t1.r)).mono (fun _ _ z => z) fun c z o w => ?_)) (List.nodup_cons.mpr ⟨fun z => na a0 z rfl, List.nodup_append.mpr ⟨n2, t1.nd, fun x hx y hy z => t1.dj y hy (own_fs y (z ▸ hx))⟩⟩) sub) (TO.z .non) (tr1.trans (Tr.mutate (O := fun _ => True) hH sub)).nil
                      rw [upd_ne (na c z)]
                      exact w
                    · exact h.elim
                | _ => rw [q2] at h; exact h.elim
          | ex c d e1 => rw [q1] at h; exact h
          | no => rw [q1] at h; exact h.elim
      | _ => rw [q] at h; exact h.elim
/-- x.pop() -/
def mPop (k : Nat) : ME := fun e => match e[k]? with
  | some (some (.lst true xs)) => match xs[xs.length - 1]? with
    | some d => if fz d then .ok d (e.set k (some (.lst true xs.dropLast))) else .no
    | none => .no
  | _ => .no
/-! ### x op= e, ints -/
def augD (f : Int → Int → Int) : EV.D → EV.D → Option EV.D
  | .int i, .int j => some (.int (f i j))
  | _, _ => none
def mAug (k : Nat) (f : Int → Int → Int) (m : ME) : MS := fun e => match e[k]? with
  | some (some (.int i)) => (m e).toS fun d e1 => match d with
    | .int j => .nx (e1.set k (some (.int (f i j))))
    | _ => .no
  | _ => .no
theorem ss_aug {k : Nat} {x : Str} {op : Operator} {f : Int → Int → Int} (hN : X.N.Nodup) (hi : X.N[k]? = some x) (hx : Loc X.env.scope x) (h : SE X g W a m) (ho : PIp X op (ipI f)) (hL : k ∉ L) (hf : X.fn x = true ∨ X.env.scope.names.lookup x = some .local) :
    SS X g W L (.AugAssign (.Name x p2) op a pos) (mAug k f m) := PS.imp (ps_aug hN hi hx h ho hf) fun D σ H ⟨F, fp, e, s, h⟩ => by
  unfold mAug at h
  cases q : e[k]? with
  | none => rw [q] at h; exact h.elim
  | some o =>
    cases o with
    | none => rw [q] at h; exact h.elim
    | some d0 =>
      cases d0 with
      | int i =>
        rw [q] at h
        simp only at h
        obtain ⟨v, hv, r⟩ := s.rep k _ q
        cases r.int_inv
        refine ⟨.int i, hv, RdE.iff.mpr ⟨F, fp, e, s, ?_⟩⟩
        cases q1 : m e with
        | ok d e1 =>
          rw [q1] at h
          rw [RE.toS_ok] at h
          intro u F1 H1 fp1 p s1 t1 tr1
          cases d with
          | int j =>
            refine ⟨i, j, rfl, t1.r.int_inv, ?_⟩
            exact h _ F1 H1 _ (s1.store (TO.z (.int _))) (fun j hj => by
              rw [List.getElem?_set_ne]
              intro z; subst z; exact hL hj) (tr1.drop fun c z => (own_store c z).elim .inl fun z => nomatch z)
          | _ => exact h.elim
        | ex c d e1 => rw [q1] at h; exact h.x
        | no => rw [q1] at h; exact h
      | _ => rw [q] at h; exact h.elim
end
end EV

/-! EvJ: loops, comprehensions. -/
namespace EV
open PySem PySem.Spec PyProof.Rows L2

/-- enough turns for every while -/
@[irreducible] def FUEL : Nat := 1000000000
theorem FUEL_eq : FUEL = 1000000000 := by unfold FUEL; rfl
def whileN (t : ME) (m : MS) : Nat → MS
  | 0, _ => .no
  | n + 1, e => match t e with
    | .ok (.bl true) e1 => match m e1 with
      | .nx e2 => whileN t m n e2
      | .ct e2 => whileN t m n e2
      | .bk e2 => .nx e2
      | .rt d e2 => .rt d e2
      | .ex c d e2 => .ex c d e2
      | .no => .no
    | .ok (.bl false) e1 => .nx e1
    | .ok _ _ => .no
    | .ex c d e1 => .ex c d e1
    | .no => .no
def mWhile (t : ME) (m : MS) : MS := whileN t m FUEL
/-- a walk over known items -/
def forL (tg : CT) (m : MS) : List D → MS
  | [], e => .nx e
  | d :: ds, e => match put tg d e with
    | some e1 => match m e1 with
      | .nx e2 => forL tg m ds e2
      | .ct e2 => forL tg m ds e2
      | .bk e2 => .nx e2
      | .rt d e2 => .rt d e2
      | .ex c d e2 => .ex c d e2
      | .no => .no
    | none => .no
section
variable {X : Cx} {N : List Str} {sc : Scope} {fr : List Str} {g : GF} {G : GI} {W : WX} {L : List Nat} {a b c : Expr} {es : List Expr} {st : Stmt} {sts : List Stmt} {pos p2 p3 p4 : Pos} {oa ob : Op} {m n t : ME} {ms ns : MS} {F H F1 H1 F' H' : Hp} {fp fp1 fp' : Nat → List Addr} {σ σ1 : L2.St} {e e' : DEnv} {D : Ends}
theorem ss_while (hp : PassesOwn (model X.prog X.w) X.A X.env X.xe) (hc : ST X g W c t) (hb : SSs X g W L sts ms) : SS X g W L (.While c sts [] pos) (mWhile t ms) := PS.imp (ps_while hp hc hb) fun D σ H ⟨F, fp, e, s, h⟩ => by
  refine ⟨fun n σ H => ∃ F fp e, SO (gOf X g) F H fp σ e ∧ SOut (gOf X g) W L D σ F H fp (whileN t ms n e), ⟨FUEL, F, fp, e, s, h⟩, ?_⟩
  rintro n σ H ⟨F, fp, e, s, h⟩
  cases n with
  | zero => exact h.elim
  | succ n =>
    refine ⟨F, fp, e, s, ?_⟩
    unfold whileN at h
    cases q : t e with
    | ok d e1 =>
      rw [q] at h
      cases d with
      | bl b =>
        intro F1 H1 fp1 s1 tr1
        cases b with
        | true =>
          rw [if_pos rfl]
          refine ⟨fun σ' H' => ∃ F fp e, SO (gOf X g) F H' fp σ' e ∧ SOut (gOf X g) W L D σ' F H' fp (whileN t ms n e), fun σ' H' z => ⟨n, Nat.lt_succ_self n, z⟩, F1, fp1, e1, s1, ?_⟩
          simp only at h
          cases q1 : ms e1 with
          | nx e2 => rw [q1] at h; exact fun σ' F' H' fp' s' l' tr => ⟨F', fp', e2, s', SOut.trans h (tr1.trans tr) l'⟩
          | ct e2 => rw [q1] at h; exact fun σ' F' H' fp' s' l' tr => ⟨F', fp', e2, s', SOut.trans h (tr1.trans tr) l'⟩
          | bk e2 => rw [q1] at h; exact fun σ' F' H' fp' s' l' tr => h σ' F' H' fp' s' l' (tr1.trans tr)
          | rt d e2 => rw [q1] at h; exact fun v σ' F' H' fp' p s' l' t' tr => h v σ' F' H' fp' p s' l' t' (tr1.trans tr)
          | ex c d e2 => rw [q1] at h; exact fun dx v σ' F' H' fp' p s' l' t' tr hx => h dx v σ' F' H' fp' p s' l' t' (tr1.trans tr) hx
          | no => rw [q1] at h; exact h.elim
        | false =>
          rw [if_neg Bool.false_ne_true]
          exact h σ F1 H1 fp1 s1 (fun _ _ => rfl) tr1
      | _ => exact h.elim
    | ex c d e1 => rw [q] at h; exact h.x
    | no => rw [q] at h; exact h
/-! ### what is walked -/
/-- the items of a walk, whatever is made meanwhile; P: what stays as it was -/
structure ItOk (G : GI) (J : It) (F0 : Hp) (P : List Addr) (H0 : Hp) (ds : List EV.D) : Prop where
  go : ∀ F H k d, (∀ a o, F0 a = some o → F a = some o) → (∀ a, a ∈ P → ∀ o, H0 a = some o → H a = some o) → Sb F H → ds[k]? = some d → J.go k H ∧ ∀ x H', J.yld k H x H' →
    ∃ F', (∀ a o, F a = some o → F' a = some o) ∧ (∀ a o, H a = some o → H' a = some o) ∧ Sb F' H' ∧ (∀ a o, F' a = some o → F a = some o ∨ H a = none) ∧ RO G F' H' [] x d
  stop : ∀ F H, (∀ a o, F0 a = some o → F a = some o) → (∀ a, a ∈ P → ∀ o, H0 a = some o → H a = some o) → Sb F H → J.stop ds.length H
/-- a slot that is locked meanwhile -/
abbrev Lk := Option (Nat × EV.D)
def unlk (l : Lk) (e : DEnv) : DEnv := match l with
  | none => e
  | some (j, d) => e.set j (some d)
def lkIn (l : Lk) (Ls : List Nat) : Bool := match l with
  | none => true
  | some (j, _) => decide (j ∈ Ls)
def RE.unlk (l : Lk) : RE → RE
  | .ok d e => .ok d (EV.unlk l e)
  | .ex c d e => .ex c d (EV.unlk l e)
  | .no => .no
def RS.unlk (l : Lk) : RS → RS
  | .nx e => .nx (EV.unlk l e)
  | .bk e => .bk (EV.unlk l e)
  | .ct e => .ct (EV.unlk l e)
  | .rt d e => .rt d (EV.unlk l e)
  | .ex c d e => .ex c d (EV.unlk l e)
  | .no => .no
def LkOk (G : GI) (σ : L2.St) (F H : Hp) (fp : Nat → List Addr) (P : List Addr) (l : Lk) : Prop := match l with
  | none => P = []
  | some (j, d) => ∃ v, σ[j]? = some (some v) ∧ TO G F H fp P v d
theorem LkOk.keep {P q : List Addr} {l : Lk} {O1 : Addr → Prop} (k : LkOk G σ F H fp P l) (tr : Tr F H (own fp) F1 H1 O1) (h : ∀ c, own fp1 c → O1 c) : LkOk G σ F1 H1 fp1 P l := by
  cases l with
  | none => exact k
  | some jd =>
    obtain ⟨v, h1, t⟩ := k
    exact ⟨v, h1, t.keep tr h⟩
theorem LkOk.apart {P q : List Addr} {l : Lk} {O1 : Addr → Prop} (k : LkOk G σ F H fp P l) (tr : Tr F H (own fp) F1 H1 O1) (h : ∀ c, c ∈ q → O1 c) : ∀ c, c ∈ P → c ∈ q → False := by
  cases l with
  | none =>
    have k : P = [] := k
    subst k
    exact fun c z => nomatch z
  | some jd =>
    obtain ⟨v, h1, t⟩ := k
    exact t.apart tr h
theorem set_self' {i : Nat} {v : V} {σ : L2.St} (h : σ[i]? = some (some v)) : σ.set i (some v) = σ := by
  refine List.ext_getElem? fun j => ?_
  by_cases hj : j = i
  · subst hj
    have hl : j < σ.length := (List.getElem?_eq_some_iff.mp h).1
    rw [List.getElem?_set_self hl, h]
  · rw [List.getElem?_set_ne (Ne.symm hj)]
theorem SO.unlk {P : List Addr} {l : Lk} (k : LkOk G σ F H fp P l) (s : SO G F H fp σ1 e) (hj : ∀ j d, l = some (j, d) → σ1[j]? = σ[j]?) : ∃ fp', SO G F H fp' σ1 (EV.unlk l e) ∧ ∀ a, own fp' a → own fp a ∨ a ∈ P := by
  cases l with
  | none => exact ⟨fp, s, fun _ z => .inl z⟩
  | some jd =>
    obtain ⟨j, d⟩ := jd
    obtain ⟨v, h1, t⟩ := k
    have s2 := s.store (i := j) t
    rw [set_self' ((hj j d rfl).trans h1)] at s2
    exact ⟨_, s2, fun a z => own_store a z⟩
theorem lkIn_ok {l : Lk} {Ls : List Nat} (h : lkIn l Ls = true) {j : Nat} {d : EV.D} (e : l = some (j, d)) : j ∈ Ls := by
  subst e; exact of_decide_eq_true h
theorem TrL {P : List Addr} {O' : Addr → Prop} (t1 : Tr F H (own fp) F1 H1 (fun a => own fp1 a ∨ a ∈ P)) (t2 : Tr F1 H1 (own fp1) F' H' O') : Tr F H (own fp) F' H' (fun a => O' a ∨ a ∈ P) :=
  t1.trans (t2.weak (fun _ z => .inl z) fun c z => z.elim .inl fun z => .inr (.inr z))
theorem SOut.unlk {P : List Addr} {l : Lk} {Ls : List Nat} {r : RS} (hl : lkIn l Ls = true) (t1 : Tr F H (own fp) F1 H1 (fun a => own fp1 a ∨ a ∈ P)) (k : LkOk G σ F1 H1 fp1 P l) (h : SOut G W L D σ F H fp (r.unlk l)) : SOut G W (Ls ++ L) D σ F1 H1 fp1 r := by
  have lL : ∀ {σ' : L2.St}, (∀ i, i ∈ Ls ++ L → σ'[i]? = σ[i]?) → ∀ i, i ∈ L → σ'[i]? = σ[i]? := fun l' i z => l' i (List.mem_append_right _ z)
  have lj : ∀ {σ' : L2.St}, (∀ i, i ∈ Ls ++ L → σ'[i]? = σ[i]?) → ∀ j d, l = some (j, d) → σ'[j]? = σ[j]? := fun l' j d z => l' j (List.mem_append_left _ (lkIn_ok hl z))
  cases r with
  | nx e =>
    exact fun σ' F' H' fp' s' l' tr => by
      obtain ⟨fp2, s2, o2⟩ := SO.unlk (k.keep (q := []) tr fun _ z => z) s' (lj l')
      exact h σ' F' H' fp2 s2 (lL l') ((TrL t1 tr).drop o2)
  | bk e =>
    exact fun σ' F' H' fp' s' l' tr => by
      obtain ⟨fp2, s2, o2⟩ := SO.unlk (k.keep (q := []) tr fun _ z => z) s' (lj l')
      exact h σ' F' H' fp2 s2 (lL l') ((TrL t1 tr).drop o2)
  | ct e =>
    exact fun σ' F' H' fp' s' l' tr => by
      obtain ⟨fp2, s2, o2⟩ := SO.unlk (k.keep (q := []) tr fun _ z => z) s' (lj l')
      exact h σ' F' H' fp2 s2 (lL l') ((TrL t1 tr).drop o2)
  | rt d e =>
    exact fun v σ' F' H' fp' p s' l' t' tr => by
      obtain ⟨fp2, s2, o2⟩ := SO.unlk (k.keep (q := []) tr fun _ z => .inl z) s' (lj l')
      refine h v σ' F' H' fp2 p s2 (lL l') ⟨t'.r, t'.nd, t'.sep, fun a z w => ?_⟩ ((TrL t1 tr).drop fun c z => ?_)
      · exact (o2 a w).elim (t'.dj a z) fun w => k.apart tr (q := p) (fun c z => .inr z) a w z
      · exact z.elim (fun z => (o2 c z).imp .inl id) fun z => .inl (.inr z)
  | ex c d e =>
    exact fun dx v σ' F' H' fp' p s' l' t' tr hx => by
      obtain ⟨fp2, s2, o2⟩ := SO.unlk (k.keep (q := []) tr fun _ z => .inl z) s' (lj l')
      refine h dx v σ' F' H' fp2 p s2 (lL l') ⟨t'.r, t'.nd, t'.sep, fun a z w => ?_⟩ ((TrL t1 tr).drop fun c z => ?_) hx
      · exact (o2 a w).elim (t'.dj a z) fun w => k.apart tr (q := p) (fun c z => .inr z) a w z
      · exact z.elim (fun z => (o2 c z).imp .inl id) fun z => .inl (.inr z)
  | no => exact h
theorem EOut.unlk {P : List Addr} {l : Lk} {Q : VK} {r : RE} (t1 : Tr F H (own fp) F1 H1 (fun a => own fp1 a ∨ a ∈ P)) (k : LkOk G σ F1 H1 fp1 P l) (h : EOut G W σ F H fp Q (r.unlk l)) : EOut G W σ F1 H1 fp1 Q r := by
  cases r with
  | ok d e =>
    exact fun v F' H' fp' p s' t' tr => by
      obtain ⟨fp2, s2, o2⟩ := SO.unlk (k.keep (q := []) tr fun _ z => .inl z) s' (fun _ _ _ => rfl)
      refine h v F' H' fp2 p s2 ⟨t'.r, t'.nd, t'.sep, fun a z w => ?_⟩ ((TrL t1 tr).drop fun c z => ?_)
      · exact (o2 a w).elim (t'.dj a z) fun w => k.apart tr (q := p) (fun c z => .inr z) a w z
      · exact z.elim (fun z => (o2 c z).imp .inl id) fun z => .inl (.inr z)
  | ex c d e =>
    exact fun dx v F' H' fp' p s' t' tr hx => by
      obtain ⟨fp2, s2, o2⟩ := SO.unlk (k.keep (q := []) tr fun _ z => .inl z) s' (fun _ _ _ => rfl)
      refine h dx v F' H' fp2 p s2 ⟨t'.r, t'.nd, t'.sep, fun a z w => ?_⟩ ((TrL t1 tr).drop fun c z => ?_) hx
      · exact (o2 a w).elim (t'.dj a z) fun w => k.apart tr (q := p) (fun c z => .inr z) a w z
      · exact z.elim (fun z => (o2 c z).imp .inl id) fun z => .inl (.inr z)
  | no => exact h
inductive RI where
  | ok (ds : List EV.D) (l : Lk) (e : DEnv) | ex (c : Nat) (d : EV.D) (e : DEnv) | no
abbrev MI := DEnv → RI
def IOut (G : GI) (W : WX) (σ : L2.St) (F H : Hp) (fp : Nat → List Addr) (R : It → Hp → Prop) : RI → Prop
  | .ok ds l e' => ∀ J F' H' fp' P, SO G F' H' fp' σ e' → LkOk G σ F' H' fp' P l → Tr F H (own fp) F' H' (fun a => own fp' a ∨ a ∈ P) → ItOk G J F' P H' ds → R J H'
  | .ex c d e' => XOut G W σ F H fp c d e'
  | .no => False
def RdI (G : GI) (W : WX) (m : MI) : TI := fun σ H R => ∃ F fp e, SO G F H fp σ e ∧ IOut G W σ F H fp R (m e)
abbrev SI (X : Cx) (g : GF) (W : WX) (tg it : Expr) (m : MI) : Prop := PI X tg it (RdI (gOf X g) W m)
theorem PI.imp {tg it : Expr} {t u : TI} (h : PI X tg it t) (i : ∀ σ H Q, u σ H Q → t σ H Q) : PI X tg it u := ⟨fun pins s σ H Q I q => h.run pins s σ H Q I (i σ H Q q)⟩
def itemsD : EV.D → Option (List EV.D)
  | .tup ds => some ds
  | .lst _ ds => some ds
  | .scr ns => some (ns.map .int)
  | _ => none
/-- a list, a tuple, all of it shared -/
def mIt (m : ME) : MI := fun e => match m e with
  | .ok d e1 => match itemsD (frz d) with
    | some ds => .ok ds none e1
    | none => .no
  | .ex c d e1 => .ex c d e1
  | .no => .no
/-- what a name holds, the name not to be used meanwhile -/
def mItV (j : Nat) : MI := fun e => match e[j]? with
  | some (some (.lst true ds)) => if fzs ds = true then .ok ds (some (j, .lst true ds)) (e.set j none) else .no
  | some (some d) => match itemsD (frz d) with
    | some ds => if fz d = true then .ok ds none e else .no
    | none => .no
  | _ => .no
theorem itok_list {K : PySem.W.Frag} (hK : G.K = K) {A : Addr} {P : List Addr} {H0 : Hp} {vs : List V} {ds : List EV.D} (h : ∀ F' H', (∀ a o, F a = some o → F' a = some o) → (∀ a, a ∈ P → ∀ o, H0 a = some o → H' a = some o) → Sb F' H' → SqL K H' A vs) (r : ROs G F H [] vs ds) : ItOk G (Itl K A) F P H0 ds where
  go := fun F' H' k d h1 hP h2 h3 => by
    obtain ⟨u, hu, ru⟩ := r.get h3
    refine ⟨⟨vs, u, h F' H' h1 hP h2, hu⟩, fun x H2 y => ?_⟩
    obtain ⟨rfl, y⟩ := y
    have e := y vs (h F' H2 h1 hP h2)
    rw [hu] at e
    cases e
    exact ⟨F', fun _ _ z => z, fun _ _ z => z, h2, fun _ _ z => .inl z, ru.monoZ h1⟩
  stop := fun F' H' h1 hP h2 => ⟨vs, h F' H' h1 hP h2, by rw [r.length]; exact Nat.le_refl _⟩
theorem itok_tup {K : PySem.W.Frag} {A : Addr} {vs : List V} {P : List Addr} {H0 : Hp} {ds : List EV.D} (h : F A = some (.tup vs)) (r : ROs G F H [] vs ds) : ItOk G (Itt K A) F P H0 ds where
  go := fun F' H' k d h1 hP h2 h3 => by
    obtain ⟨u, hu, ru⟩ := r.get h3
    have q : SqT K H' A vs := SqT.of (h2 _ _ (h1 _ _ h))
    refine ⟨⟨vs, u, q, hu⟩, fun x H2 y => ?_⟩
    obtain ⟨rfl, y⟩ := y
    have e := y vs q
    rw [hu] at e
    cases e
    exact ⟨F', fun _ _ z => z, fun _ _ z => z, h2, fun _ _ z => .inl z, ru.monoZ h1⟩
  stop := fun F' H' h1 hP h2 => ⟨vs, SqT.of (h2 _ _ (h1 _ _ h)), by rw [r.length]; exact Nat.le_refl _⟩
/-- a list or a tuple walked -/
theorem pi_seq {tg l : Expr} {tl : TE} (hl : PE X l tl) : PI X tg l (fun σ H R => tl σ H fun x H1 => ∃ A, x = .ref A ∧ (((∃ xs, SqL X.K H1 A xs) ∧ R (Itl X.K A) H1) ∨ ((∃ xs, SqT X.K H1 A xs) ∧ R (Itt X.K A) H1))) := by
  refine ⟨fun pins s σ H R I h => ?_⟩
  refine thn (hl.run pins s σ H _ I h) fun v s1 ⟨x, H1, I1, r1, q1⟩ => ?_
  obtain ⟨A, e, q1⟩ := q1
  subst e
  cases r1
  rcases q1 with ⟨⟨xs, hq⟩, q⟩ | ⟨⟨xs, hq⟩, q⟩
  · obtain ⟨its, rv, p, hz⟩ := I1.list hq
    refine wpAny_pyIter_list p.isList ?_
    refine ⟨s1.heap.objs.size, [s1.heap.objs.size], _, _, H1, rfl, I1.kept (t' := s1.toks) fun b o e => Heap.get?_push_of_some _ e, turn_list A _, ⟨_, Heap.get?_push_size _ rfl, rfl, rfl⟩, fun b hb => ?_, q⟩
    have e : b = s1.heap.objs.size := by simpa using hb
    subst e
    exact I1.fpOk (Nat.le_refl _) (I1.hok.fresh (Nat.le_refl _))
  · obtain ⟨its, rv, p, hz⟩ := I1.tuple hq
    refine wpAny_pyIter_tuple (show s1.heap.IsTuple A its.toArray from p) ?_
    refine ⟨s1.heap.objs.size, [s1.heap.objs.size], _, _, H1, rfl, I1.kept (t' := s1.toks) fun b o e => Heap.get?_push_of_some _ e, turn_tuple A _, ⟨_, Heap.get?_push_size _ rfl, rfl, rfl⟩, fun b hb => ?_, q⟩
    have e : b = s1.heap.objs.size := by simpa using hb
    subst e
    exact I1.fpOk (Nat.le_refl _) (I1.hok.fresh (Nat.le_refl _))
theorem si_seq {tg l : Expr} (hl : SE X g W l m) : SI X g W tg l (mIt m) := PI.imp (pi_seq hl.z) fun σ H R ⟨F, fp, e, s, h⟩ => by
  refine ⟨F, fp, e, s, ?_⟩
  unfold mIt at h
  cases q : m e with
  | ok d e1 =>
    rw [q] at h
    intro v F1 H1 fp1 s1 r tr
    simp only at h
    generalize frz d = dz at h r
    cases dz with
    | tup ds =>
      obtain ⟨A, vs, rfl, ha, ra⟩ := r.tup_inv
      exact ⟨A, rfl, .inr ⟨⟨vs, SqT.of (s1.sub _ _ ha)⟩, h _ F1 H1 fp1 [] s1 rfl tr.nil (itok_tup ha ra)⟩⟩
    | lst o ds =>
      obtain ⟨_, A, vs, rfl, ha, ra⟩ := r.lst_inv
      exact ⟨A, rfl, .inl ⟨⟨vs, SqL.of (s1.sub _ _ ha)⟩, h _ F1 H1 fp1 [] s1 rfl tr.nil (itok_list rfl (fun F' H' h1 _ h2 => SqL.of (h2 _ _ (h1 _ _ ha))) ra)⟩⟩
    | scr ns =>
      obtain ⟨A, rfl, ha⟩ := r.scr_inv
      exact ⟨A, rfl, .inl ⟨⟨_, SqL.le ha s1.sub⟩, h _ F1 H1 fp1 [] s1 rfl tr.nil (itok_list (H := H1) rfl (fun F' H' h1 _ h2 => SqL.le ha fun c o z => h2 c o (h1 c o z)) (ints_RO ns))⟩⟩
    | _ => exact h.elim
  | ex c d e1 => rw [q] at h; exact h
  | no => rw [q] at h; exact h
/-- range(n), range(a, b) -/
def rangeD (lo hi : Int) : List EV.D := (List.range (hi - lo).toNat).map fun k => .int (lo + (k : Nat))
theorem itok_range (lo hi : Int) {P : List Addr} {H0 : Hp} : ItOk G (Itr lo (hi - lo).toNat) F P H0 (rangeD lo hi) where
  go := fun F' H' k d h1 hP h2 h3 => by
    unfold rangeD at h3
    rw [List.getElem?_map] at h3
    by_cases hk : k < (hi - lo).toNat
    · rw [List.getElem?_range hk] at h3
      injection h3 with h3; subst h3
      refine ⟨hk, fun x H2 y => ?_⟩
      obtain ⟨rfl, rfl⟩ := y
      exact ⟨F', fun _ _ z => z, fun _ _ z => z, h2, fun _ _ z => .inl z, .int _⟩
    · rw [List.getElem?_eq_none (by simpa using hk)] at h3
      cases h3
  stop := fun F' H' h1 hP h2 => by
    unfold rangeD
    rw [List.length_map, List.length_range]
    exact Nat.le_refl _
def rngOk (i : Int) : Bool := Nat.ble i.natAbs 4611686018427387903
theorem rngOk_iff {i : Int} (h : rngOk i = true) : -(2 ^ 62) ≤ i ∧ i < 2 ^ 62 := by
  have h2 := Nat.le_of_ble_eq_true h
  omega
def mRg1 (m : ME) : MI := fun e => match m e with
  | .ok (.int j) e1 => if rngOk j = true then .ok (rangeD 0 j) none e1 else .no
  | .ok _ _ => .no
  | .ex c d e1 => .ex c d e1
  | .no => .no
def mRg2 (m n : ME) : MI := fun e => match m e with
  | .ok (.int i) e1 => match n e1 with
    | .ok (.int j) e2 => if (rngOk i && rngOk j) = true then .ok (rangeD i j) none e2 else .no
    | .ok _ _ => .no
    | .ex c d e2 => .ex c d e2
    | .no => .no
  | .ok _ _ => .no
  | .ex c d e1 => .ex c d e1
  | .no => .no
theorem si_rg1 {tg : Expr} (C : Cn X N sc fr) (h1 : ("range" : Str) ∈ fr) (h2 : glB sc "range" = true) (ha : SE X g W a m) (hs : starEach [a] X.env = [(false, eval a X.env)]) : SI X g W tg (.Call (.Name "range" p2) [a] [] pos) (mRg1 m) :=
  PI.imp (pi_range1 (gl_ok C h2) (C.hfr _ h1) (pa_cons ha pa_nil hs) hs) fun σ H R ⟨F, fp, e, s, h⟩ => by
  refine RdE.iff.mpr ⟨F, fp, e, s, ?_⟩
  unfold mRg1 at h
  cases q : m e with
  | ok d e1 =>
    rw [q] at h
    intro v F1 H1 fp1 p s1 t1 tr
    cases d with
    | int j =>
      simp only at h
      split at h
      · rename_i hj
        obtain ⟨b1, b2⟩ := rngOk_iff hj
        refine ⟨j, by rw [t1.r.int_inv], b1, b2, ?_⟩
        have z := itok_range (G := gOf X g) (F := F1) (P := []) (H0 := H1) 0 j
        rw [Int.sub_zero] at z
        exact h _ F1 H1 fp1 [] s1 rfl (tr.drop fun c z => .inl z).nil z
      · exact h.elim
    | _ => exact h.elim
  | ex c d e1 => rw [q] at h; exact h
  | no => rw [q] at h; exact h
theorem si_rg2 {tg : Expr} (C : Cn X N sc fr) (h1 : ("range" : Str) ∈ fr) (h2 : glB sc "range" = true) (ha : SE X g W a m) (hb : SE X g W b n) (hs : starEach [a, b] X.env = [(false, eval a X.env), (false, eval b X.env)]) (hs2 : starEach [b] X.env = [(false, eval b X.env)]) :
    SI X g W tg (.Call (.Name "range" p2) [a, b] [] pos) (mRg2 m n) :=
  PI.imp (pi_range2 (gl_ok C h2) (C.hfr _ h1) (pa_cons ha (pa_cons hb pa_nil hs2) (by rw [hs, hs2])) hs hs2) fun σ H R ⟨F, fp, e, s, h⟩ => by
  refine RdE.iff.mpr ⟨F, fp, e, s, ?_⟩
  unfold mRg2 at h
  cases q : m e with
  | ok d e1 =>
    rw [q] at h
    intro v F1 H1 fp1 p s1 t1 tr1
    cases d with
    | int i =>
      simp only at h
      refine RdE.iff.mpr ⟨F1, fp1, e1, s1, ?_⟩
      cases q1 : n e1 with
      | ok d2 e2 =>
        rw [q1] at h
        intro v2 F2 H2 fp2 p2 s2 t2 tr2
        cases d2 with
        | int j =>
          simp only at h
          split at h
          · rename_i hj
            rw [Bool.and_eq_true] at hj
            obtain ⟨b1, b2⟩ := rngOk_iff hj.1
            obtain ⟨b3, b4⟩ := rngOk_iff hj.2
            refine ⟨i, j, by rw [t1.r.int_inv, t2.r.int_inv], ⟨b1, b2, b3, b4⟩, ?_⟩
            exact h _ F2 H2 fp2 [] s2 rfl ((tr1.drop fun c z => .inl z).trans (tr2.drop fun c z => .inl z)).nil (itok_range i j)
          · exact h.elim
        | _ => exact h.elim
      | ex c d2 e2 => rw [q1] at h; exact XOut.trans h (tr1.drop fun c z => .inl z)
      | no => rw [q1] at h; exact h.elim
    | _ => exact h.elim
  | ex c d e1 => rw [q] at h; exact h
  | no => rw [q] at h; exact h
/-- for target in iter -/
def mFor (Ls : List Nat) (tg : CT) (mi : MI) (m : MS) : MS := fun e => match mi e with
  | .ok ds l e1 => if lkIn l Ls = true then (forL tg m ds e1).unlk l else .no
  | .ex c d e1 => .ex c d e1
  | .no => .no
theorem SO.growT (s : SO G F H fp σ e) (h1 : ∀ a o, F a = some o → F' a = some o) (h2 : ∀ a o, H a = some o → H' a = some o) (h4 : ∀ a o, F' a = some o → F a = some o ∨ H a = none) : Tr F H (own fp) F' H' (own fp) :=
  ⟨h1, fun b o _ z => h2 b o z, fun b z => .inl z, fun b o z => (h4 b o z).imp id .inr⟩
theorem itok_own {K : PySem.W.Frag} (hK : G.K = K) {A : Addr} {P : List Addr} {vs : List V} {ds : List EV.D} (hA : A ∈ P) (h : H A = some (.lst vs)) (r : ROs G F H [] vs ds) : ItOk G (Itl K A) F P H ds := itok_list hK (fun F' H' h1 hP h2 => SqL.of (hP A hA _ h)) r
theorem si_v (C : Cn X N sc fr) {tg : Expr} {j : Nat} {x : Str} (hx : varB N sc j x = true) : SI X g W tg (.Name x pos) (mItV j) := PI.imp (pi_seq (pv_ok C hx)) fun σ H R ⟨F, fp, e, s, h⟩ => by
  unfold mItV at h
  cases q : e[j]? with
  | none => rw [q] at h; exact h.elim
  | some o =>
    cases o with
    | none => rw [q] at h; exact h.elim
    | some d =>
      rw [q] at h
      obtain ⟨v, hv, r⟩ := s.rep j d q
      refine ⟨v, hv, ?_⟩
      have zz : ∀ d', d' = d → fz d' = true → (∀ ds, itemsD (frz d') = some ds → IOut (gOf X g) W σ F H fp R (.ok ds none e) → ∃ A, v = .ref A ∧ (((∃ xs, SqL X.K H A xs) ∧ R (Itl X.K A) H) ∨ ((∃ xs, SqT X.K H A xs) ∧ R (Itt X.K A) H))) := by
        intro d' e1 hf ds hi h
        subst e1
        rw [r.nil_of_fz hf] at r
        have r := r.frz (F' := F) (H' := H) (fun _ _ z => z) fun a z => nomatch z
        generalize frz d' = dz at hi r
        cases dz with
        | tup ds' =>
          injection hi with hi; subst hi
          obtain ⟨A, vs, rfl, ha, ra⟩ := r.tup_inv
          exact ⟨A, rfl, .inr ⟨⟨vs, SqT.of (s.sub _ _ ha)⟩, h _ F H fp [] s rfl Tr.refl.nil (itok_tup ha ra)⟩⟩
        | lst o ds' =>
          injection hi with hi; subst hi
          obtain ⟨_, A, vs, rfl, ha, ra⟩ := r.lst_inv
          exact ⟨A, rfl, .inl ⟨⟨vs, SqL.of (s.sub _ _ ha)⟩, h _ F H fp [] s rfl Tr.refl.nil (itok_list rfl (fun F' H' h1 _ h2 => SqL.of (h2 _ _ (h1 _ _ ha))) ra)⟩⟩
        | scr ns =>
          injection hi with hi; subst hi
          obtain ⟨A, rfl, ha⟩ := r.scr_inv
          exact ⟨A, rfl, .inl ⟨⟨_, SqL.le ha s.sub⟩, h _ F H fp [] s rfl Tr.refl.nil (itok_list (H := H) rfl (fun F' H' h1 _ h2 => SqL.le ha fun c o z => h2 c o (h1 c o z)) (ints_RO ns))⟩⟩
        | _ => cases hi
      have gen : (∀ ds, d ≠ .lst true ds) → (match itemsD (frz d) with
          | some ds => if fz d = true then RI.ok ds none e else .no
          | none => .no) = mItV j e → ∃ A, v = .ref A ∧ (((∃ xs, SqL X.K H A xs) ∧ R (Itl X.K A) H) ∨ ((∃ xs, SqT X.K H A xs) ∧ R (Itt X.K A) H)) := by
        intro _ he
        have h : IOut (gOf X g) W σ F H fp R (mItV j e) := by
          unfold mItV; rw [q]; exact h
        rw [← he] at h
        cases q2 : itemsD (frz d) with
        | none => rw [q2] at h; exact h.elim
        | some ds =>
          rw [q2] at h
          simp only at h
          by_cases hf : fz d = true
          · rw [if_pos hf] at h
            exact zz d rfl hf ds q2 h
          · rw [if_neg hf] at h; exact h.elim
      cases d with
      | lst o ds =>
        cases o with
        | true =>
          simp only at h
          by_cases hf : fzs ds = true
          · rw [if_pos hf] at h
            obtain ⟨A, vs, fs, rfl, ep, ha, rs⟩ := r.lo_inv
            obtain ⟨v2, hv2, t2⟩ := s.take q
            rw [hv] at hv2
            cases hv2
            have hfs : fs = [] := rs.nil_of_fz hf
            subst hfs
            exact ⟨A, rfl, .inl ⟨⟨vs, SqL.of ha⟩, h _ F H _ (fp j) s.forget ⟨_, hv, t2⟩ (Tr.refl.drop fun c z => own_take c z) (itok_own rfl (by rw [ep]; exact List.mem_cons_self ..) ha rs)⟩⟩
          · rw [if_neg hf] at h; exact h.elim
        | false => exact gen (fun ds' z => by cases z) (by unfold mItV; rw [q])
      | _ => exact gen (fun ds' z => by cases z) (by unfold mItV; rw [q])
theorem ss_for {Ls : List Nat} {tg it : Expr} {t : CT} {r : TG} {mi : MI} (hp : PassesOwn (model X.prog X.w) X.A X.env X.xe) (hc : X.calm = true) (hi : SI X g W tg it mi) (hg : PG X tg r) (hk : GOk (gOf X g) (Ls ++ L) t r) (hb : SSs X g W (Ls ++ L) sts ms)
    (hs : ∀ x, foldedSetIterable it X.env x = pure x) : SS X g W L (.For tg it sts [] pos) (mFor Ls t mi ms) := PS.imp (ps_for hp hc hi hg hb hs) fun D σ H ⟨F, fp, e, s, h⟩ => by
  refine ⟨F, fp, e, s, ?_⟩
  unfold mFor at h
  cases q : mi e with
  | ok ds l e1 =>
    rw [q] at h
    intro J F1 H1 fp1 P s1 lk tr1 ok
    simp only at h
    by_cases hl : lkIn l Ls = true
    rotate_left
    · rw [if_neg hl] at h; exact h.elim
    rw [if_pos hl] at h
    have h := SOut.unlk hl tr1 lk h
    have hP : ∀ a, a ∈ P → ¬ own fp1 a := fun a z => by
      cases l with
      | none =>
        have lk : P = [] := lk
        subst lk; cases z
      | some jd => obtain ⟨v, _, t⟩ := lk; exact t.dj a z
    refine ⟨fun i mm σ' H' => mm + i = ds.length ∧ ∃ F fp e, SO (gOf X g) F H' fp σ' e ∧ Tr F1 H1 (own fp1) F H' (own fp) ∧ SOut (gOf X g) W (Ls ++ L) D σ' F H' fp (forL t ms (ds.drop i) e), ⟨ds.length, rfl, F1, fp1, e1, s1, Tr.refl, h⟩, ?_⟩
    rintro i mm σ2 H2 ⟨hm, F2, fp2, e2, s2, T2, h2⟩
    have pP : ∀ a, a ∈ P → ∀ o, H1 a = some o → H2 a = some o := fun a z o w => T2.fr a o (hP a z) w
    cases qd : ds[i]? with
    | none =>
      have hi : ds.length ≤ i := List.getElem?_eq_none_iff.mp qd
      have he : i = ds.length := by omega
      rw [List.drop_of_length_le hi] at h2
      exact .inl ⟨by rw [he]; exact ok.stop F2 H2 T2.ff pP s2.sub, h2 σ2 F2 H2 fp2 s2 (fun _ _ => rfl) Tr.refl⟩
    | some d =>
      obtain ⟨hi, hd⟩ := List.getElem?_eq_some_iff.mp qd
      obtain ⟨g1, g2⟩ := ok.go F2 H2 i d T2.ff pP s2.sub qd
      have ed : ds.drop i = d :: ds.drop (i + 1) := by rw [List.drop_eq_getElem_cons hi, hd]
      rw [ed] at h2
      unfold forL at h2
      refine .inr ⟨g1, fun σ' H' => ∃ F fp e, SO (gOf X g) F H' fp σ' e ∧ Tr F1 H1 (own fp1) F H' (own fp) ∧ SOut (gOf X g) W (Ls ++ L) D σ' F H' fp (forL t ms (ds.drop (i + 1)) e), fun σ' H' z => ⟨mm - 1, by omega, by omega, z⟩, fun x H3 y => ?_⟩
      obtain ⟨F3, k1, k2, k3, k4, rx⟩ := g2 x H3 y
      have s3 := s2.grow k1 k2 k3 k4
      have tr3 := s2.growT k1 k2 k4
      cases q1 : put t d e2 with
      | none => rw [q1] at h2; exact h2.elim
      | some e3 =>
        rw [q1] at h2
        simp only at h2
        refine hk s3 (TO.z rx) q1 fun σ4 fp4 s4 l4 o4 => ⟨F3, fp4, e3, s4, ?_⟩
        have tr4 : Tr F2 H2 (own fp2) F3 H3 (own fp4) := tr3.drop fun c z => (o4 c z).elim id fun z => nomatch z
        cases q2 : ms e3 with
        | nx e4 => rw [q2] at h2; exact fun σ' F' H' fp' s' l' tr => ⟨F', fp', e4, s', T2.trans (tr4.trans tr), SOut.trans h2 (tr4.trans tr) fun j z => (l' j z).trans (l4 j z)⟩
        | ct e4 => rw [q2] at h2; exact fun σ' F' H' fp' s' l' tr => ⟨F', fp', e4, s', T2.trans (tr4.trans tr), SOut.trans h2 (tr4.trans tr) fun j z => (l' j z).trans (l4 j z)⟩
        | bk e4 => rw [q2] at h2; exact fun σ' F' H' fp' s' l' tr => h2 σ' F' H' fp' s' (fun j z => (l' j z).trans (l4 j z)) (tr4.trans tr)
        | rt d e4 => rw [q2] at h2; exact fun v σ' F' H' fp' p s' l' t' tr => h2 v σ' F' H' fp' p s' (fun j z => (l' j z).trans (l4 j z)) t' (tr4.trans tr)
        | ex c d e4 => rw [q2] at h2; exact fun dx v σ' F' H' fp' p s' l' t' tr hx => h2 dx v σ' F' H' fp' p s' (fun j z => (l' j z).trans (l4 j z)) t' (tr4.trans tr) hx
        | no => rw [q2] at h2; exact h2.elim
  | ex c d e1 => rw [q] at h; exact h.x
  | no => rw [q] at h; exact h.elim
end
end EV

/-! EvK: list comprehensions. -/
namespace EV
open PySem PySem.Spec PyProof.Rows L2

def wipeE : List Nat → DEnv → DEnv
  | [], e => e
  | i :: is, e => (wipeE is e).set i none
/-- shared values of the names that a comprehension has for its own come back -/
def backE (e1 : DEnv) : List Nat → DEnv → DEnv
  | [], e => e
  | i :: is, e => match e1[i]? with
    | some (some d) => if fz d = true then (backE e1 is e).set i (some d) else backE e1 is e
    | _ => backE e1 is e
inductive RL where
  | ok (acc : List D) (e : DEnv) | no
/-- the turns of a comprehension -/
def lcL (own : List Nat) (tg : CT) (cond elt : ME) : List D → List D → DEnv → RL
  | [], acc, e => .ok acc e
  | d :: ds, acc, e => match put tg d e with
    | some e1 => match cond e1 with
      | .ok (.bl true) e2 => match elt e2 with
        | .ok y e3 => if acc.length < LIM then lcL own tg cond elt ds (acc ++ [y]) (wipeE own e3) else .no
        | _ => .no
      | .ok (.bl false) e2 => lcL own tg cond elt ds acc (wipeE own e2)
      | _ => .no
    | none => .no
def mLc (own : List Nat) (tg : CT) (mi : MI) (cond elt : ME) : ME := fun e => match mi e with
  | .ok ds l e1 => RE.unlk l (match lcL own tg cond elt ds [] (wipeE own e1) with
    | .ok acc e2 => .ok (.lst true acc) (backE e1 own e2)
    | .no => .no)
  | .ex c d e1 => .ex c d e1
  | .no => .no
def mTrue : ME := fun e => .ok (.bl true) e
abbrev W0 : WX := fun _ _ _ _ => False
section
variable {X : Cx} {N : List Str} {sc : Scope} {fr : List Str} {g : GF} {G : GI} {W : WX} {L : List Nat} {a b c : Expr} {es : List Expr} {pos p2 p3 p4 : Pos} {m n t : ME} {F H F1 H1 F' H' : Hp} {fp fp1 fp' : Nat → List Addr} {σ σ1 : L2.St} {e e' : DEnv}
theorem SO.unslot {i : Nat} (s : SO G F H fp σ e) (h : ∀ d, e[i]? ≠ some (some d)) : SO G F H fp (σ.set i none) e where
  sub := s.sub
  rep := fun j d hj => by
    obtain ⟨v, hv, r⟩ := s.rep j d hj
    refine ⟨v, ?_, r⟩
    rw [List.getElem?_set_ne]
    · exact hv
    · intro z; subst z; exact h d hj
  nd := s.nd
  dj := s.dj
  sep := s.sep
  th := s.th
  len := by rw [List.length_set]; exact s.len
theorem set_none {i : Nat} {e : DEnv} : ∀ d, (e.set i none)[i]? ≠ some (some d) := fun d h => by
  by_cases hi : i < e.length
  · rw [List.getElem?_set_self hi] at h; cases h
  · rw [List.getElem?_eq_none (by simpa using hi)] at h; cases h
theorem SO.wipe (s : SO G F H fp σ e) : ∀ own : List Nat, SO G F H (fun j => if j ∈ own then [] else fp j) (wipe σ own) (wipeE own e)
  | [] => by
    have q : (fun j => if j ∈ ([] : List Nat) then [] else fp j) = fp := funext fun j => if_neg (by simp)
    rw [q]; exact s
  | i :: is => by
    have s1 := ((SO.wipe s is).forget (i := i)).unslot set_none
    have q : (fun j => if j = i then [] else (fun j => if j ∈ is then [] else fp j) j) = fun j => if j ∈ i :: is then [] else fp j := funext fun j => by
      by_cases h1 : j = i
      · simp [h1]
      · simp [h1]
    rw [q] at s1
    exact s1
theorem own_wipe {own' : List Nat} : ∀ a, own (fun j => if j ∈ own' then [] else fp j) a → own fp a := fun a ⟨j, h⟩ => by
  dsimp only at h
  split at h
  · cases h
  · exact ⟨j, h⟩
theorem SO.putZ {i : Nat} {v : V} {d : D} (s : SO G F H fp σ e) (hv : σ[i]? = some (some v)) (r : RO G F H [] v d) : SO G F H (fun j => if j = i then [] else fp j) σ (e.set i (some d)) where
  sub := s.sub
  rep := fun j x hx => by
    by_cases hj : j = i
    · subst hj
      by_cases hl : j < e.length
      · rw [List.getElem?_set_self hl] at hx
        cases hx
        exact ⟨v, hv, by rw [if_pos rfl]; exact r⟩
      · rw [List.getElem?_eq_none (by simpa using hl)] at hx; cases hx
    · rw [List.getElem?_set_ne (Ne.symm hj)] at hx
      obtain ⟨w, h1, r1⟩ := s.rep j x hx
      exact ⟨w, h1, by rw [if_neg hj]; exact r1⟩
  nd := fun j => by
    split
    · exact List.nodup_nil
    · exact s.nd j
  dj := fun j k a h1 h2 => by
    split at h1
    · cases h1
    · split at h2
      · cases h2
      · exact s.dj j k a h1 h2
  sep := fun j a z => by
    split at z
    · cases z
    · exact s.sep j a z
  th := fun j a z => by
    split at z
    · cases z
    · exact s.th j a z
  len := by rw [List.length_set]; exact s.len
theorem SO.back {F0 H0 : Hp} {fp0 : Nat → List Addr} {e1 : DEnv} (s1 : SO G F0 H0 fp0 σ e1) (hF : ∀ a o, F0 a = some o → F a = some o) (s : SO G F H fp σ e) : ∀ own' : List Nat, ∃ fp', SO G F H fp' σ (backE e1 own' e) ∧ ∀ a, own fp' a → own fp a
  | [] => ⟨fp, s, fun _ z => z⟩
  | i :: is => by
    obtain ⟨fp', s2, o2⟩ := SO.back s1 hF s is
    unfold backE
    cases q : e1[i]? with
    | none => exact ⟨fp', s2, o2⟩
    | some o =>
      cases o with
      | none => exact ⟨fp', s2, o2⟩
      | some d =>
        simp only
        split
        · rename_i hd
          obtain ⟨v, hv, r⟩ := s1.rep i d q
          rw [r.nil_of_fz hd] at r
          exact ⟨_, s2.putZ hv (r.monoZ hF), fun a ⟨j, z⟩ => o2 a (by
            dsimp only at z
            split at z
            · cases z
            · exact ⟨j, z⟩)⟩
        · exact ⟨fp', s2, o2⟩
/-- the state of the block is a state of the def -/
theorem SO.unwipe {own' : List Nat} (s : SO G F H fp (L2.wipe σ own') e) (hl : ∀ i, i ∈ own' → ∀ d, e[i]? ≠ some (some d)) : SO G F H fp σ e where
  sub := s.sub
  rep := fun j d hj => by
    obtain ⟨v, hv, r⟩ := s.rep j d hj
    have hn : j ∉ own' := fun z => hl j z d hj
    rw [wipe_out hn] at hv
    exact ⟨v, hv, r⟩
  nd := s.nd
  dj := s.dj
  sep := s.sep
  th := s.th
  len := by rw [← s.len, wipe_length]
theorem wipeE_no : ∀ (own' : List Nat) (e : DEnv) (i : Nat), i ∈ own' → ∀ d, (wipeE own' e)[i]? ≠ some (some d)
  | j :: is, e, i, h, d => by
    unfold wipeE
    by_cases hj : i = j
    · subst hj; exact set_none d
    · rw [List.getElem?_set_ne (Ne.symm hj)]
      exact wipeE_no is e i ((List.mem_cons.mp h).resolve_left hj) d
mutual
theorem put_len : ∀ (t : CT) (d : D) (e e' : DEnv), put t d e = some e' → e'.length = e.length
  | .v i, d, e, e', h => by
    injection h with h; subst h
    rw [List.length_set]
  | .t ts, d, e, e', h => by
    cases d with
    | tup ds => exact puts_len ts ds e e' h
    | _ => cases h
theorem puts_len : ∀ (ts : List CT) (ds : List D) (e e' : DEnv), puts ts ds e = some e' → e'.length = e.length
  | [], [], e, e', h => by injection h with h; rw [h]
  | [], _ :: _, e, e', h => by cases h
  | _ :: _, [], e, e', h => by cases h
  | t :: ts, d :: ds, e, e', h => by
    have h : ((put t d e).bind fun e1 => puts ts ds e1) = some e' := h
    cases q : put t d e with
    | none => rw [q] at h; cases h
    | some e1 =>
      rw [q] at h
      exact (puts_len ts ds e1 e' h).trans (put_len t d e e1 q)
end
theorem wipe_eq {own' : List Nat} {σ2 : L2.St} (hl : σ2.length = σ.length) (h : ∀ j, j < σ.length → j ∉ own' → σ2[j]? = (L2.wipe σ own')[j]?) : L2.wipe σ2 own' = L2.wipe σ own' := by
  refine List.ext_getElem? fun j => ?_
  by_cases hj : j ∈ own'
  · have none_at : ∀ (s : L2.St) (vs : List Nat), j ∈ vs → j < s.length → (L2.wipe s vs)[j]? = some none := by
      intro s vs
      induction vs with
      | nil => intro h; cases h
      | cons v vs ih =>
        intro hv hjl
        unfold L2.wipe
        by_cases e : j = v
        · subst e
          rw [List.getElem?_set_self (by rw [wipe_length]; exact hjl)]
        · rw [List.getElem?_set_ne (Ne.symm e)]
          exact ih ((List.mem_cons.mp hv).resolve_left e) hjl
    by_cases hjl : j < σ.length
    · rw [none_at σ2 own' hj (by rw [hl]; exact hjl), none_at σ own' hj hjl]
    · rw [List.getElem?_eq_none (by rw [wipe_length]; omega), List.getElem?_eq_none (by rw [wipe_length]; omega)]
  · rw [wipe_out hj]
    by_cases hjl : j < σ.length
    · exact h j hjl hj
    · rw [List.getElem?_eq_none (by omega), List.getElem?_eq_none (by rw [wipe_length]; omega)]
/-- what the rest of a comprehension asks -/
def COut (G : GI) (σ : L2.St) (F H : Hp) (fp : Nat → List Addr) (p : List Addr) (own' : List Nat) (D : Addr) (Q : VK) : RL → Prop
  | .ok acc e' => ∀ F' H' fp' p', SO G F' H' fp' σ e' → (∀ i, i ∈ own' → ∀ d, e'[i]? ≠ some (some d)) → TO G F' H' fp' p' (.ref D) (.lst true acc) → Tr F H (fun a => own fp a ∨ a ∈ p) F' H' (fun a => own fp' a ∨ a ∈ p') → Q (.ref D) H'
  | .no => False
theorem COut.trans {G : GI} {σ : L2.St} {F H F1 H1 : Hp} {fp fp1 : Nat → List Addr} {p p1 : List Addr} {own' : List Nat} {D : Addr} {Q : VK} {r : RL} (h : COut G σ F H fp p own' D Q r) (t : Tr F H (fun a => own fp a ∨ a ∈ p) F1 H1 (fun a => own fp1 a ∨ a ∈ p1)) : COut G σ F1 H1 fp1 p1 own' D Q r := by
  cases r with
  | ok acc e' => exact fun F' H' fp' p' s l t' tr => h F' H' fp' p' s l t' (t.trans tr)
  | no => exact h
theorem pts_true (h : PTs X [] tYes) : PTs X [] (RdT (gOf X g) W0 mTrue) := ⟨fun pins s σ H Q I ⟨F, fp, e, so, hw⟩ => h.run pins s σ H Q I (hw F H fp so Tr.refl)⟩
theorem PTs.of {ifs : List Expr} {t : TT} (h : PTs X ifs t) : PTs X ifs t := h
/-- y behind the list -/
theorem TO.snoc {Da : Addr} {acc : List D} {y : D} {v : V} {p q : List Addr} (t1 : TO G F H fp p (.ref Da) (.lst true acc)) (t2 : TO G F H fp q v y) (hpq : ∀ a, a ∈ p → a ∈ q → False) (s : SO G F H fp σ e) :
    ∃ vs, H Da = some (.lst vs) ∧ vs.length = acc.length ∧ ∃ p', SO G F (upd H Da (.lst (vs ++ [v]))) fp σ e ∧ TO G F (upd H Da (.lst (vs ++ [v]))) fp p' (.ref Da) (.lst true (acc ++ [y])) ∧ Tr F H (fun a => (own fp a ∨ a ∈ p) ∨ a ∈ q) F (upd H Da (.lst (vs ++ [v]))) (fun a => own fp a ∨ a ∈ p') := by
  obtain ⟨a0, vs, fs, ea, ep, ha, rs⟩ := t1.r.lo_inv
  cases ea
  subst ep
  obtain ⟨n1, n2⟩ := List.nodup_cons.mp t1.nd
  have na : ∀ c, c ∈ fs ++ q → c ≠ Da := fun c z w => by
    subst w
    rcases List.mem_append.mp z with z | z
    · exact n1 z
    · exact hpq c (List.mem_cons_self ..) z
  have noD : ¬ own fp Da := t1.dj Da (List.mem_cons_self ..)
  have FD : F Da = none := t1.sep Da (List.mem_cons_self ..)
  refine ⟨vs, ha, rs.length, Da :: (fs ++ q), ?_, ⟨.lo upd_same ((rs.append (ROs.one t2.r)).mono (fun _ _ z => z) fun c z o w => by rw [upd_ne (na c z)]; exact w), ?_, fun c z => ?_, fun c z => ?_⟩, ?_⟩
  · exact {
      sub := fun b o z => by
        rw [upd_ne]
        · exact s.sub b o z
        · intro w; subst w; rw [FD] at z; cases z
      rep := fun j d hj => by
        obtain ⟨w, hw, r⟩ := s.rep j d hj
        exact ⟨w, hw, r.mono (fun _ _ z => z) fun b z o u => by
          rw [upd_ne]
          · exact u
          · intro w; subst w; exact noD ⟨j, z⟩⟩
      nd := s.nd
      dj := s.dj
      sep := s.sep
      th := fun j b z => by
        obtain ⟨o, ho⟩ := s.th j b z
        refine ⟨o, ?_⟩
        rw [upd_ne]
        · exact ho
        · intro w; subst w; exact noD ⟨j, z⟩
      len := s.len }
  · exact List.nodup_cons.mpr ⟨fun z => na Da z rfl, List.nodup_append.mpr ⟨n2, t2.nd, fun x hx y hy z => hpq x (List.mem_cons_of_mem _ hx) (z ▸ hy)⟩⟩
  · rcases List.mem_cons.mp z with z | z
    · rw [z]; exact FD
    · exact (List.mem_append.mp z).elim (fun z => t1.sep c (List.mem_cons_of_mem _ z)) (t2.sep c)
  · rcases List.mem_cons.mp z with z | z
    · rw [z]; exact noD
    · exact (List.mem_append.mp z).elim (fun z => t1.dj c (List.mem_cons_of_mem _ z)) (t2.dj c)
  · exact ⟨fun _ _ z => z, fun b o n z => by
      rw [upd_ne]
      · exact z
      · intro w; subst w; exact n (.inl (.inr (List.mem_cons_self ..))), fun b z => by
      rcases z with z | z
      · exact .inl (.inl (.inl z))
      · rcases List.mem_cons.mp z with z | z
        · exact .inl (.inl (.inr (by rw [z]; exact List.mem_cons_self ..)))
        · exact (List.mem_append.mp z).elim (fun z => .inl (.inl (.inr (List.mem_cons_of_mem _ z)))) fun z => .inl (.inr z), fun _ _ z => .inl z⟩
theorem mem_disj (n : Nat) (own' : List Nat) : ∀ i, i ∈ (List.range n).filter (fun j => !decide (j ∈ own')) → i ∉ own' := fun i z => by
  have := (List.mem_filter.mp z).2
  simpa using this
theorem in_disj {n j : Nat} {own' : List Nat} (h1 : j < n) (h2 : j ∉ own') : j ∈ (List.range n).filter (fun j => !decide (j ∈ own')) := List.mem_filter.mpr ⟨List.mem_range.mpr h1, by simpa using h2⟩
/-- a step of one's own with a value held -/
theorem Tr.hold {p q : List Addr} (a : Tr F H (own fp) F1 H1 (fun c => own fp1 c ∨ c ∈ q)) : Tr F H (fun c => own fp c ∨ c ∈ p) F1 H1 (fun c => (own fp1 c ∨ c ∈ p) ∨ c ∈ q) :=
  a.weak (fun _ z => .inl z) fun c z => by
    rcases z with (z | z) | z
    · exact .inl (.inl z)
    · exact .inr (.inr z)
    · exact .inl (.inr z)
theorem Tr.hold0 {p : List Addr} (a : Tr F H (own fp) F1 H1 (own fp1)) : Tr F H (fun c => own fp c ∨ c ∈ p) F1 H1 (fun c => own fp1 c ∨ c ∈ p) :=
  a.weak (fun _ z => .inl z) fun c z => by
    rcases z with z | z
    · exact .inl z
    · exact .inr (.inr z)
/-- the block's loop -/
theorem lc_loop {t : CT} {r : TG} {mc me : ME} {own' : List Nat} (hk : ∀ L, (∀ i, i ∈ L → i ∉ own') → GOk G L t r) {σ : L2.St} {D : Addr} {Q : VK} {J : It} {F0 H0 : Hp} {P : List Addr} {O0 : Addr → Prop} {ds : List EV.D} (ok : ItOk G J F0 P H0 ds) (hP : ∀ a, a ∈ P → ¬ O0 a) {F1 H1 : Hp} {fp1 : Nat → List Addr} {p1 : List Addr} {acc1 : List EV.D} {e1 : DEnv}
    (T1 : Tr F0 H0 O0 F1 H1 (fun a => own fp1 a ∨ a ∈ p1)) (s1 : SO G F1 H1 fp1 (L2.wipe σ own') e1) (l1 : ∀ i, i ∈ own' → ∀ d, e1[i]? ≠ some (some d)) (t1 : TO G F1 H1 fp1 p1 (.ref D) (.lst true acc1)) (h1 : COut G (L2.wipe σ own') F1 H1 fp1 p1 own' D Q (lcL own' t mc me ds acc1 e1)) :
    ∃ W : Nat → Nat → Hp → Prop, (∃ m, W 0 m H1) ∧ ∀ i m H, W i m H →
      (J.stop i H ∧ Q (.ref D) H) ∨ (J.go i H ∧ ∃ Nx : Hp → Prop, (∀ H', Nx H' → ∃ m', m' < m ∧ W (i + 1) m' H') ∧ ∀ x H', J.yld i H x H' → r x (L2.wipe σ own') H' fun σ2 H2 => L2.wipe σ2 own' = L2.wipe σ own' ∧ RdT G W0 mc σ2 H2 fun b H3 =>
        if b = true then RdE G W0 me σ2 H3 fun y H4 => ∃ acc, H4 D = some (.lst acc) ∧ acc.length < sizeLine ∧ Nx (upd H4 D (.lst (acc ++ [y]))) else Nx H3) := by
    refine ⟨fun i m H' => m + i = ds.length ∧ ∃ F fp p acc e, SO G F H' fp (L2.wipe σ own') e ∧ (∀ i, i ∈ own' → ∀ d, e[i]? ≠ some (some d)) ∧ TO G F H' fp p (.ref D) (.lst true acc) ∧ Tr F0 H0 O0 F H' (fun a => own fp a ∨ a ∈ p) ∧ COut G (L2.wipe σ own') F H' fp p own' D Q (lcL own' t mc me (ds.drop i) acc e),
      ⟨ds.length, rfl, F1, _, p1, acc1, _, s1, l1, t1, T1, h1⟩, ?_⟩
    rintro i m H2 ⟨hm, F2, fp2, p2, acc, e2, s2, l2, t2, T2, h2⟩
    have pP : ∀ a, a ∈ P → ∀ o, H0 a = some o → H2 a = some o := fun a z o w => T2.fr a o (hP a z) w
    cases qd : ds[i]? with
    | none =>
      have hi : ds.length ≤ i := List.getElem?_eq_none_iff.mp qd
      have he : i = ds.length := by omega
      rw [List.drop_of_length_le hi] at h2
      exact .inl ⟨by rw [he]; exact ok.stop F2 H2 T2.ff pP s2.sub, h2 F2 H2 fp2 p2 s2 l2 t2 Tr.refl⟩
    | some d =>
      obtain ⟨hi, hd⟩ := List.getElem?_eq_some_iff.mp qd
      obtain ⟨g1, g2⟩ := ok.go F2 H2 i d T2.ff pP s2.sub qd
      have ed : ds.drop i = d :: ds.drop (i + 1) := by rw [List.drop_eq_getElem_cons hi, hd]
      rw [ed] at h2
      unfold lcL at h2
      refine .inr ⟨g1, fun H' => ∃ F fp p acc e, SO G F H' fp (L2.wipe σ own') e ∧ (∀ i, i ∈ own' → ∀ d, e[i]? ≠ some (some d)) ∧ TO G F H' fp p (.ref D) (.lst true acc) ∧ Tr F0 H0 O0 F H' (fun a => own fp a ∨ a ∈ p) ∧ COut G (L2.wipe σ own') F H' fp p own' D Q (lcL own' t mc me (ds.drop (i + 1)) acc e), fun H' z => ⟨m - 1, by omega, by omega, z⟩, fun x H3 y => ?_⟩
      obtain ⟨F3, k1, k2, k3, k4, rx⟩ := g2 x H3 y
      have s3 := s2.grow k1 k2 k3 k4
      have tr3 : Tr F2 H2 (own fp2) F3 H3 (own fp2) := s2.growT k1 k2 k4
      cases q1 : put t d e2 with
      | none => rw [q1] at h2; exact h2.elim
      | some e3 =>
        rw [q1] at h2
        simp only at h2
        have hl3 := put_len t d e2 e3 q1
        refine hk ((List.range σ.length).filter fun j => !decide (j ∈ own')) (mem_disj _ own') s3 (TO.z rx) q1 fun σ4 fp4 s4 l4 o4 => ?_
        have ew : L2.wipe σ4 own' = L2.wipe σ own' := wipe_eq (by rw [s4.len, hl3, ← s2.len, wipe_length]) fun j h1 h2 => l4 j (in_disj h1 h2)
        have tr4 : Tr F2 H2 (own fp2) F3 H3 (own fp4) := tr3.drop fun c z => (o4 c z).elim id fun z => nomatch z
        refine ⟨ew, F3, fp4, e3, s4, ?_⟩
        have t4 : TO G F3 H3 fp4 p2 (.ref D) (.lst true acc) := t2.keep tr4 fun _ z => z
        cases q2 : mc e3 with
        | ok dc e4 =>
          rw [q2] at h2
          cases dc with
          | bl b =>
            intro F5 H5 fp5 s5 tr5
            have t5 : TO G F5 H5 fp5 p2 (.ref D) (.lst true acc) := t4.keep tr5 fun _ z => z
            have tr25 := tr4.trans tr5
            cases b with
            | true =>
              rw [if_pos rfl]
              simp only at h2
              refine RdE.iff.mpr ⟨F5, fp5, e4, s5, ?_⟩
              cases q3 : me e4 with
              | ok y5 e5 =>
                rw [q3] at h2
                simp only at h2
                split at h2
                · rename_i hL
                  intro v F6 H6 fp6 p6 s6 t6 tr6
                  have t7 : TO G F6 H6 fp6 p2 (.ref D) (.lst true acc) := t5.keep tr6 fun c z => .inl z
                  obtain ⟨vs, hv1, hv2, p8, s8, t8, tr8⟩ := TO.snoc t7 t6 (t5.apart tr6 fun c z => .inr z) s6
                  refine ⟨vs, hv1, by rw [hv2]; exact LIM_lineS (Nat.le_of_lt hL), F6, _, p8, _, _, ew ▸ s8.wipe own', wipeE_no own' e5, ⟨t8.r, t8.nd, t8.sep, fun c z w => t8.dj c z (own_wipe c w)⟩, T2.trans (((tr25.trans tr6).hold.trans tr8).drop fun c z => z.imp (own_wipe c) id), ?_⟩
                  refine COut.trans h2 (((tr25.trans tr6).hold.trans tr8).drop fun c z => z.imp (own_wipe c) id)
                · exact h2.elim
              | ex c d e5 => rw [q3] at h2; exact h2.elim
              | no => rw [q3] at h2; exact h2.elim
            | false =>
              rw [if_neg Bool.false_ne_true]
              simp only at h2
              refine ⟨F5, _, p2, acc, _, ew ▸ s5.wipe own', wipeE_no own' e4, ⟨t5.r, t5.nd, t5.sep, fun c z w => t5.dj c z (own_wipe c w)⟩, T2.trans (tr25.hold0.drop fun c z => z.imp (own_wipe c) id), ?_⟩
              exact COut.trans h2 (tr25.hold0.drop fun c z => z.imp (own_wipe c) id)
          | _ => exact h2.elim
        | ex c d e4 => rw [q2] at h2; exact h2.elim
        | no => rw [q2] at h2; exact h2.elim
theorem lc_new {own' : List Nat} {σ : L2.St} {D : Addr} (s1 : SO G F1 H1 fp1 σ e) (hD : H1 D = none) : SO G F1 (upd H1 D (.lst [])) (fun j => if j ∈ own' then [] else fp1 j) (L2.wipe σ own') (wipeE own' e) ∧
    TO G F1 (upd H1 D (.lst [])) (fun j => if j ∈ own' then [] else fp1 j) [D] (.ref D) (.lst true []) := ⟨(s1.new (o := .lst []) hD).wipe own', ⟨.lo upd_same .nil, by simp, fun c z => by
      rw [List.mem_singleton.mp z]; exact s1.fnone hD, fun c z w => by
      rw [List.mem_singleton.mp z] at w; exact s1.noown hD (own_wipe _ w)⟩⟩
theorem lc_end {own' : List Nat} {σ : L2.St} {D : Addr} {Q : VK} {rl : RL} (s1 : SO G F1 H1 fp1 σ e) (hD : H1 D = none) (tr1 : Tr F H (own fp) F1 H1 (own fp1)) (h : EOut G W σ F H fp Q (match rl with
      | .ok acc e2 => RE.ok (.lst true acc) (backE e own' e2)
      | .no => .no)) : COut G (L2.wipe σ own') F1 (upd H1 D (.lst [])) (fun j => if j ∈ own' then [] else fp1 j) [D] own' D Q rl := by
  cases rl with
  | no => exact h.elim
  | ok acc e2 =>
    intro F' H' fp' p' s' l' t' tr
    obtain ⟨fp2, s3, o3⟩ := SO.back s1 tr.ff (s'.unwipe l') own'
    refine h (.ref D) F' H' fp2 p' s3 ⟨t'.r, t'.nd, t'.sep, fun c z w => t'.dj c z (o3 c w)⟩ ?_
    refine (tr1.trans ((Tr.new hD).trans (tr.weak (P := fun c => own fp1 c ∨ c = D) (P1 := fun c => own fp' c ∨ c ∈ p') (fun c z => z.imp (own_wipe c) fun z => List.mem_singleton.mp z) fun _ z => .inl z))).drop fun c z => z.imp (o3 c) id
theorem LkOk.no {l : Lk} {P : List Addr} {σ : L2.St} (lk : LkOk G σ F1 H1 fp1 P l) : ∀ a, a ∈ P → ¬ own fp1 a := fun a z => by
  cases l with
  | none =>
    have lk : P = [] := lk
    subst lk; cases z
  | some jd => obtain ⟨v, _, t⟩ := lk; exact t.dj a z
theorem LkOk.th {l : Lk} {P : List Addr} {σ : L2.St} (lk : LkOk G σ F1 H1 fp1 P l) : ∀ a, a ∈ P → ∃ o, H1 a = some o := fun a z => by
  cases l with
  | none =>
    have lk : P = [] := lk
    subst lk; cases z
  | some jd => obtain ⟨v, _, t⟩ := lk; exact t.r.there a z
/-- from the walk's start to the list's -/
theorem Tr.lcNew {own' : List Nat} {D : Addr} (hD : H1 D = none) : Tr F1 H1 (own fp1) F1 (upd H1 D (.lst [])) (fun a => own (fun j => if j ∈ own' then [] else fp1 j) a ∨ a ∈ [D]) :=
  (Tr.new hD).drop fun c z => z.imp (own_wipe c) fun z => List.mem_singleton.mp z
theorem lc_plain {t : CT} {r : TG} {mi : MI} {mc me : ME} {own' : List Nat} (hk : ∀ L, (∀ i, i ∈ L → i ∉ own') → GOk G L t r) {σ : L2.St} {H : Hp} {Q : VK} (h : RdE G W (mLc own' t mi mc me) σ H Q) :
    tLc (RdI G W mi) r (RdT G W0 mc) (RdE G W0 me) own' σ H Q := by
  obtain ⟨F, fp, e, s, h⟩ := RdE.iff.mp h
  refine ⟨F, fp, e, s, ?_⟩
  unfold mLc at h
  cases q : mi e with
  | ok ds l e1 =>
    rw [q] at h
    intro J F1 H1 fp1 P s1 lk tr1 ok D hD
    have h := EOut.unlk tr1 lk h
    obtain ⟨s2, tD⟩ := lc_new (own' := own') s1 hD
    exact lc_loop hk ok lk.no (Tr.lcNew hD) s2 (wipeE_no own' e1) tD (lc_end s1 hD Tr.refl h)
  | ex c d e1 => rw [q] at h; exact h
  | no => rw [q] at h; exact h
/-- two clauses -/
def lcL2 (own' : List Nat) (tg : CT) (mc : ME) (own1 : List Nat) (tg1 : CT) (mi1 : MI) (mc1 me : ME) : List D → List D → DEnv → RL
  | [], acc, e => .ok acc e
  | d :: ds, acc, e => match put tg d e with
    | some e1 => match mc e1 with
      | .ok (.bl true) e2 => match mi1 e2 with
        | .ok ds1 none e3 => match lcL own1 tg1 mc1 me ds1 acc (wipeE own1 e3) with
          | .ok acc1 e4 => lcL2 own' tg mc own1 tg1 mi1 mc1 me ds acc1 (wipeE own' e4)
          | .no => .no
        | _ => .no
      | .ok (.bl false) e2 => lcL2 own' tg mc own1 tg1 mi1 mc1 me ds acc (wipeE own' e2)
      | _ => .no
    | none => .no
def mLc2 (own' : List Nat) (tg : CT) (mi : MI) (mc : ME) (own1 : List Nat) (tg1 : CT) (mi1 : MI) (mc1 me : ME) : ME := fun e => match mi e with
  | .ok ds l e1 => RE.unlk l (match lcL2 own' tg mc own1 tg1 mi1 mc1 me ds [] (wipeE own' e1) with
    | .ok acc e2 => .ok (.lst true acc) (backE e1 own' e2)
    | .no => .no)
  | .ex c d e1 => .ex c d e1
  | .no => .no
theorem lc2_plain {t t1 : CT} {r r1 : TG} {mi mi1 : MI} {mc mc1 me : ME} {own' own1 : List Nat} (hsub : ∀ i, i ∈ own1 → i ∈ own') (hk : ∀ L, (∀ i, i ∈ L → i ∉ own') → GOk G L t r) (hk1 : ∀ L, (∀ i, i ∈ L → i ∉ own1) → GOk G L t1 r1) {σ : L2.St} {H : Hp} {Q : VK} (h : RdE G W (mLc2 own' t mi mc own1 t1 mi1 mc1 me) σ H Q) :
    tLc2 (RdI G W mi) r (RdT G W0 mc) (RdI G W0 mi1) r1 (RdT G W0 mc1) (RdE G W0 me) own' own1 σ H Q := by
  obtain ⟨F, fp, e, s, h⟩ := RdE.iff.mp h
  refine ⟨F, fp, e, s, ?_⟩
  unfold mLc2 at h
  cases q : mi e with
  | ok ds l e1 =>
    rw [q] at h
    intro J F1 H1 fp1 P s1 lk tr1 ok D hD
    have h := EOut.unlk tr1 lk h
    obtain ⟨s2, tD⟩ := lc_new (own' := own') s1 hD
    have c0 := lc_end (own' := own') (D := D) s1 hD Tr.refl h
    refine ⟨fun i m H' => m + i = ds.length ∧ ∃ F fp p acc e, SO G F H' fp (L2.wipe σ own') e ∧ (∀ i, i ∈ own' → ∀ d, e[i]? ≠ some (some d)) ∧ TO G F H' fp p (.ref D) (.lst true acc) ∧ Tr F1 H1 (own fp1) F H' (fun a => own fp a ∨ a ∈ p) ∧ COut G (L2.wipe σ own') F H' fp p own' D Q (lcL2 own' t mc own1 t1 mi1 mc1 me (ds.drop i) acc e),
      ⟨ds.length, rfl, F1, _, [D], [], _, s2, wipeE_no own' e1, tD, Tr.lcNew hD, c0⟩, ?_⟩
    rintro i m H2 ⟨hm, F2, fp2, p2, acc, e2, s2, l2, t2, T2, h2⟩
    have pP : ∀ a, a ∈ P → ∀ o, H1 a = some o → H2 a = some o := fun a z o w => T2.fr a o (lk.no a z) w
    cases qd : ds[i]? with
    | none =>
      have hi : ds.length ≤ i := List.getElem?_eq_none_iff.mp qd
      have he : i = ds.length := by omega
      rw [List.drop_of_length_le hi] at h2
      exact .inl ⟨by rw [he]; exact ok.stop F2 H2 T2.ff pP s2.sub, h2 F2 H2 fp2 p2 s2 l2 t2 Tr.refl⟩
    | some d =>
      obtain ⟨hi, hd⟩ := List.getElem?_eq_some_iff.mp qd
      obtain ⟨g1, g2⟩ := ok.go F2 H2 i d T2.ff pP s2.sub qd
      have ed : ds.drop i = d :: ds.drop (i + 1) := by rw [List.drop_eq_getElem_cons hi, hd]
      rw [ed] at h2
      unfold lcL2 at h2
      refine .inr ⟨g1, fun H' => ∃ F fp p acc e, SO G F H' fp (L2.wipe σ own') e ∧ (∀ i, i ∈ own' → ∀ d, e[i]? ≠ some (some d)) ∧ TO G F H' fp p (.ref D) (.lst true acc) ∧ Tr F1 H1 (own fp1) F H' (fun a => own fp a ∨ a ∈ p) ∧ COut G (L2.wipe σ own') F H' fp p own' D Q (lcL2 own' t mc own1 t1 mi1 mc1 me (ds.drop (i + 1)) acc e), fun H' z => ⟨m - 1, by omega, by omega, z⟩, fun x H3 y => ?_⟩
      obtain ⟨F3, k1, k2, k3, k4, rx⟩ := g2 x H3 y
      have s3 := s2.grow k1 k2 k3 k4
      have tr3 : Tr F2 H2 (own fp2) F3 H3 (own fp2) := s2.growT k1 k2 k4
      cases q1 : put t d e2 with
      | none => rw [q1] at h2; exact h2.elim
      | some e3 =>
        rw [q1] at h2
        simp only at h2
        have hl3 := put_len t d e2 e3 q1
        refine hk ((List.range σ.length).filter fun j => !decide (j ∈ own')) (mem_disj _ own') s3 (TO.z rx) q1 fun σ4 fp4 s4 l4 o4 => ?_
        have el : σ4.length = σ.length := by rw [s4.len, hl3, ← s2.len, wipe_length]
        have ew : L2.wipe σ4 own' = L2.wipe σ own' := wipe_eq el fun j h1 h2 => l4 j (in_disj h1 h2)
        have ew1 : L2.wipe (L2.wipe σ4 own1) own' = L2.wipe σ own' := wipe_eq (by rw [wipe_length, el]) fun j h1 h2 => by
          rw [wipe_out (fun z => h2 (hsub j z))]; exact l4 j (in_disj h1 h2)
        have tr4 : Tr F2 H2 (own fp2) F3 H3 (own fp4) := tr3.drop fun c z => (o4 c z).elim id fun z => nomatch z
        refine ⟨ew, F3, fp4, e3, s4, ?_⟩
        have t4 : TO G F3 H3 fp4 p2 (.ref D) (.lst true acc) := t2.keep tr4 fun _ z => z
        cases q2 : mc e3 with
        | ok dc e4 =>
          rw [q2] at h2
          cases dc with
          | bl b =>
            intro F5 H5 fp5 s5 tr5
            have t5 : TO G F5 H5 fp5 p2 (.ref D) (.lst true acc) := t4.keep tr5 fun _ z => z
            have tr25 := tr4.trans tr5
            cases b with
            | true =>
              rw [if_pos rfl]
              simp only at h2
              refine ⟨F5, fp5, e4, s5, ?_⟩
              cases q3 : mi1 e4 with
              | ok ds1 l1 e5 =>
                cases l1 with
                | some jd => rw [q3] at h2; exact h2.elim
                | none =>
                rw [q3] at h2
                simp only at h2
                intro J1 F6 H6 fp6 P1 s6 lk1 tr6 ok1
                have eP1 : P1 = [] := lk1
                subst eP1
                have tr6 : Tr F5 H5 (own fp5) F6 H6 (own fp6) := tr6.drop fun _ z => .inl z
                have t6 : TO G F6 H6 fp6 p2 (.ref D) (.lst true acc) := t5.keep tr6 fun _ z => z
                have tr26 := tr25.trans tr6
                refine lc_loop (Q := fun _ H' => ∃ F fp p acc e, SO G F H' fp (L2.wipe σ own') e ∧ (∀ i, i ∈ own' → ∀ d, e[i]? ≠ some (some d)) ∧ TO G F H' fp p (.ref D) (.lst true acc) ∧ Tr F1 H1 (own fp1) F H' (fun a => own fp a ∨ a ∈ p) ∧ COut G (L2.wipe σ own') F H' fp p own' D Q (lcL2 own' t mc own1 t1 mi1 mc1 me (ds.drop (i + 1)) acc e)) hk1 ok1 (fun _ z => nomatch z) (O0 := fun a => own fp6 a ∨ a ∈ p2) (Tr.refl.drop fun c z => z.imp (own_wipe c) id) (s6.wipe own1) (wipeE_no own1 e5) ⟨t6.r, t6.nd, t6.sep, fun c z w => t6.dj c z (own_wipe c w)⟩ ?_
                cases q4 : lcL own1 t1 mc1 me ds1 acc (wipeE own1 e5) with
                | no => rw [q4] at h2; exact h2.elim
                | ok acc7 e7 =>
                  rw [q4] at h2
                  simp only at h2
                  intro F7 H7 fp7 p7 s7 l7 t7 tr7
                  refine ⟨F7, _, p7, acc7, _, ew1 ▸ s7.wipe own', wipeE_no own' e7, ⟨t7.r, t7.nd, t7.sep, fun c z w => t7.dj c z (own_wipe c w)⟩, T2.trans ((tr26.hold0.trans (tr7.weak (fun c z => z.imp (own_wipe c) id) fun _ z => .inl z)).drop fun c z => z.imp (own_wipe c) id), ?_⟩
                  exact COut.trans h2 ((tr26.hold0.trans (tr7.weak (fun c z => z.imp (own_wipe c) id) fun _ z => .inl z)).drop fun c z => z.imp (own_wipe c) id)
              | ex c d e5 => rw [q3] at h2; exact h2.elim
              | no => rw [q3] at h2; exact h2.elim
            | false =>
              rw [if_neg Bool.false_ne_true]
              simp only at h2
              refine ⟨F5, _, p2, acc, _, ew ▸ s5.wipe own', wipeE_no own' e4, ⟨t5.r, t5.nd, t5.sep, fun c z w => t5.dj c z (own_wipe c w)⟩, T2.trans (tr25.hold0.drop fun c z => z.imp (own_wipe c) id), ?_⟩
              exact COut.trans h2 (tr25.hold0.drop fun c z => z.imp (own_wipe c) id)
          | _ => exact h2.elim
        | ex c d e4 => rw [q2] at h2; exact h2.elim
        | no => rw [q2] at h2; exact h2.elim
  | ex c d e1 => rw [q] at h; exact h
  | no => rw [q] at h; exact h
theorem se_lc {elt tg iter : Expr} {ifs : List Expr} {scope : Scope} {own' : List (Str × Nat)} {t : CT} {r : TG} {mi : MI} {mc me : ME} (hc : X.calm = true) (hN : X.N.Nodup) (hi : SI X g W tg iter mi) (ok : BlkOk X.N X.env.scope scope own')
    (hg : ∀ (s : Shared) (H : Hp) (C : Addr) (cl : List (Str × Addr)) (fp : List Addr), PG (X.blk s H scope (compEnvC scope cl C X.env) fp) tg r) (hk : ∀ L, (∀ i, i ∈ L → i ∉ own'.map (·.2)) → GOk (gOf X g) L t r)
    (ht : ∀ (s : Shared) (H : Hp) (C : Addr) (cl : List (Str × Addr)) (fp : List Addr), PTs (X.blk s H scope (compEnvC scope cl C X.env) fp) ifs (RdT (gOf X g) W0 mc))
    (he : ∀ (s : Shared) (H : Hp) (C : Addr) (cl : List (Str × Addr)) (fp : List Addr), SE (X.blk s H scope (compEnvC scope cl C X.env) fp) g W0 elt me) (hs : ∀ x, foldedSetIterable iter X.env x = pure x) :
    SE X g W (.ListComp elt [⟨tg, iter, ifs, 0⟩] scope pos) (mLc (own'.map (·.2)) t mi mc me) := PE.imp (pe_lc hc hN hi ok hg ht he hs) fun σ H Q h => lc_plain hk h
theorem ss_setLc {i : Nat} {y : Str} {py spos : Pos} {elt tg iter : Expr} {ifs : List Expr} {scope : Scope} {own' : List (Str × Nat)} {t : CT} {r : TG} {mi : MI} {mc me : ME} (hc : X.calm = true) (hN : X.N.Nodup) (hy : X.N[i]? = some y) (hyl : X.env.scope.names.lookup y = some .local)
    (hsw : swapsWith (.ListComp elt [⟨tg, iter, ifs, 0⟩] scope pos) (some (.Name y py)) spos.line X.env = pure true) (hL : i ∉ L) (hi : SI X g W tg iter mi) (ok : BlkOk X.N X.env.scope scope own')
    (hg : ∀ (s : Shared) (H : Hp) (C : Addr) (cl : List (Str × Addr)) (fp : List Addr), PG (X.blk s H scope (compEnvC scope cl C X.env) fp) tg r) (hk : ∀ L, (∀ i, i ∈ L → i ∉ own'.map (·.2)) → GOk (gOf X g) L t r)
    (ht : ∀ (s : Shared) (H : Hp) (C : Addr) (cl : List (Str × Addr)) (fp : List Addr), PTs (X.blk s H scope (compEnvC scope cl C X.env) fp) ifs (RdT (gOf X g) W0 mc))
    (he : ∀ (s : Shared) (H : Hp) (C : Addr) (cl : List (Str × Addr)) (fp : List Addr), SE (X.blk s H scope (compEnvC scope cl C X.env) fp) g W0 elt me) (hs : ∀ x, foldedSetIterable iter X.env x = pure x) :
    SS X g W L (.Assign [.Name y py] (.ListComp elt [⟨tg, iter, ifs, 0⟩] scope pos) spos) (mAsg (.v i) (mLc (own'.map (·.2)) t mi mc me)) :=
  PS.imp (ps_setLc hc hN hy hyl hsw hi ok hg ht he hs) fun D σ H h => lc_plain hk (RdS.asg (gok_v hL) h)
theorem se_lc2 {elt tg iter tg1 iter1 : Expr} {ifs ifs1 : List Expr} {scope : Scope} {own' : List (Str × Nat)} {own1 : List Nat} {t t1 : CT} {r r1 : TG} {mi mi1 : MI} {mc mc1 me : ME} (hc : X.calm = true) (hN : X.N.Nodup) (hi : SI X g W tg iter mi) (ok : BlkOk X.N X.env.scope scope own') (hsub : ∀ i ∈ own1, i ∈ own'.map (·.2))
    (hg : ∀ (s : Shared) (H : Hp) (C : Addr) (cl : List (Str × Addr)) (fp : List Addr), PG (X.blk s H scope (compEnvC scope cl C X.env) fp) tg r) (hk : ∀ L, (∀ i, i ∈ L → i ∉ own'.map (·.2)) → GOk (gOf X g) L t r)
    (ht : ∀ (s : Shared) (H : Hp) (C : Addr) (cl : List (Str × Addr)) (fp : List Addr), PTs (X.blk s H scope (compEnvC scope cl C X.env) fp) ifs (RdT (gOf X g) W0 mc))
    (he : ∀ (s : Shared) (H : Hp) (C : Addr) (cl : List (Str × Addr)) (fp : List Addr), SE (X.blk s H scope (compEnvC scope cl C X.env) fp) g W0 elt me) (hs : ∀ x, foldedSetIterable iter X.env x = pure x)
    (hi1 : ∀ (s : Shared) (H : Hp) (C : Addr) (cl : List (Str × Addr)) (fp : List Addr), SI (X.blk s H scope (compEnvC scope cl C X.env) fp) g W0 tg1 iter1 mi1)
    (hg1 : ∀ (s : Shared) (H : Hp) (C : Addr) (cl : List (Str × Addr)) (fp : List Addr), PG (X.blk s H scope (compEnvC scope cl C X.env) fp) tg1 r1) (hk1 : ∀ L, (∀ i, i ∈ L → i ∉ own1) → GOk (gOf X g) L t1 r1)
    (ht1 : ∀ (s : Shared) (H : Hp) (C : Addr) (cl : List (Str × Addr)) (fp : List Addr), PTs (X.blk s H scope (compEnvC scope cl C X.env) fp) ifs1 (RdT (gOf X g) W0 mc1))
    (hs1 : ∀ env x, foldedSetIterable iter1 env x = pure x) :
    SE X g W (.ListComp elt [⟨tg, iter, ifs, 0⟩, ⟨tg1, iter1, ifs1, 0⟩] scope pos) (mLc2 (own'.map (·.2)) t mi mc own1 t1 mi1 mc1 me) := PE.imp (pe_lc2 hc hN hi ok hsub hg ht hi1 hg1 ht1 he hs hs1) fun σ H Q h => lc2_plain hsub hk hk1 h
end
end EV

/-! EvL: calls of defs. -/
namespace EV
open PySem PySem.Spec PyProof.Rows L2

def lentV : List Bool → List V → List V
  | true :: m, v :: vs => v :: lentV m vs
  | false :: m, _ :: vs => lentV m vs
  | _, _ => []
/-- what a def promises: its parameters' data, what it gives back of those that are lent -/
def Prom (G : GI) (mask : List Bool) (C : List D → RC) : Sp := fun vs H Q E => vs.length = mask.length ∧ ∃ F p ds, ROs G F H p vs ds ∧ p.Nodup ∧ (∀ a, a ∈ p → F a = none) ∧ (∀ a o, F a = some o → H a = some o) ∧
  match C ds with
  | .ok d fin => ∀ v F' H' q r, RO G F' H' q v d → ROs G F' H' r (lentV mask vs) fin → (q ++ r).Nodup → (∀ a, a ∈ q ++ r → F' a = none) → (∀ a o, F' a = some o → H' a = some o) → Tr F H (· ∈ p) F' H' (· ∈ q ++ r) → Q v H'
  | .ex c d fin => ∀ dx v F' H' q r, RO G F' H' q v d → ROs G F' H' r (lentV mask vs) fin → (q ++ r).Nodup → (∀ a, a ∈ q ++ r → F' a = none) → (∀ a o, F' a = some o → H' a = some o) → Tr F H (· ∈ p) F' H' (· ∈ q ++ r) →
      H' dx = some (.xd [(G.xn c, v)]) → E (.ref (G.ca c)) (some dx) H'
  | .no => False
theorem Prom.len {G : GI} {mask : List Bool} {C : List D → RC} {ps : List Str} (h : mask.length = ps.length) : ∀ vs H Q E, Prom G mask C vs H Q E → vs.length = ps.length := fun vs H Q E z => z.1.trans h
/-- what is passed -/
def effD (e : DEnv) : List PA1 → Option (List D)
  | [] => some []
  | .t d :: r => (effD e r).map (d :: ·)
  | .l j :: r => match e[j]? with
    | some (some d) => (effD e r).map (d :: ·)
    | _ => none
def lents : List PA1 → List Nat
  | [] => []
  | .t _ :: r => lents r
  | .l j :: r => j :: lents r
/-- the slots while their content is lent -/
def minus : List PA1 → DEnv → DEnv
  | [], e => e
  | .t _ :: r, e => minus r e
  | .l j :: r, e => minus r (e.set j none)
/-- given back -/
def bk : List Bool → List PA1 → List D → DEnv → Option DEnv
  | [], [], [], e => some e
  | true :: m, .l j :: as, d :: fin, e => bk m as fin (e.set j (some d))
  | true :: m, .t _ :: as, _ :: fin, e => bk m as fin e
  | false :: m, .t _ :: as, fin, e => bk m as fin e
  | _, _, _, _ => none
/-- f(..) -/
def mCall (C : List D → RC) (mask : List Bool) (dfl : List D) (ms : List Ar) : ME := fun e => match mA ms e with
  | .ok as e1 => match effD e1 as with
    | some ds => if (lents as).Nodup ∧ (as.length + dfl.length = mask.length) then match C (ds ++ dfl) with
      | .ok d fin => match bk mask (as ++ dfl.map .t) fin (minus as e1) with
        | some e2 => .ok d e2
        | none => .no
      | .ex c d fin => match bk mask (as ++ dfl.map .t) fin (minus as e1) with
        | some e2 => .ex c d e2
        | none => .no
      | .no => .no
      else .no
    | none => .no
  | .ex c d e1 => .ex c d e1
  | .no => .no
section
variable {X : Cx} {N : List Str} {sc : Scope} {fr : List Str} {g : GF} {G : GI} {W : WX} {L : List Nat} {a b c : Expr} {es : List Expr} {pos p2 p3 p4 : Pos} {m n t : ME} {F H F1 H1 F' H' : Hp} {fp fp1 fp' : Nat → List Addr} {σ σ1 : L2.St} {e e' : DEnv}
theorem set_self {i : Nat} {v : V} {σ : L2.St} (h : σ[i]? = some (some v)) : σ.set i (some v) = σ := by
  refine List.ext_getElem? fun j => ?_
  by_cases hj : j = i
  · subst hj
    have hl : j < σ.length := (List.getElem?_eq_some_iff.mp h).1
    rw [List.getElem?_set_self hl, h]
  · rw [List.getElem?_set_ne (Ne.symm hj)]
theorem effD_set {j : Nat} {e : DEnv} : ∀ {as : List PA1}, j ∉ lents as → effD (e.set j none) as = effD e as
  | [], _ => rfl
  | .t d :: r, h => by
    show (effD _ r).map _ = (effD e r).map _
    rw [effD_set (as := r) h]
  | .l i :: r, h => by
    have h1 : j ≠ i := fun z => h (z ▸ List.mem_cons_self ..)
    have h2 : j ∉ lents r := fun z => h (List.mem_cons_of_mem _ z)
    unfold effD
    rw [List.getElem?_set_ne h1, effD_set h2]
/-- what lies elsewhere stays -/
theorem SO.frame {O' : Addr → Prop} {p : List Addr} (s : SO G F H fp σ e) (hp : ∀ a, a ∈ p → ¬ own fp a) (t : Tr F H (· ∈ p) F' H' O') (sb : ∀ a o, F' a = some o → H' a = some o) : SO G F' H' fp σ e where
  sub := sb
  rep := fun i d h => by
    obtain ⟨v, q, r⟩ := s.rep i d h
    exact ⟨v, q, r.mono t.ff fun a z o w => t.fr a o (fun u => hp a u ⟨i, z⟩) w⟩
  nd := s.nd
  dj := s.dj
  sep := fun i a z => by
    cases q : F' a with
    | none => rfl
    | some o =>
      rcases t.fz a o q with w | w | w
      · rw [s.sep i a z] at w; cases w
      · exact absurd ⟨i, z⟩ (hp a w)
      · obtain ⟨o, ho⟩ := s.th i a z
        rw [w] at ho; cases ho
  th := fun i a z => by
    obtain ⟨o, ho⟩ := s.th i a z
    exact ⟨o, t.fr a o (fun u => hp a u ⟨i, z⟩) ho⟩
  len := s.len
theorem take_args : ∀ {p : List Addr} {vs : List V} {as : List PA1} {fp : Nat → List Addr} {e : DEnv} {ds : List D}, AR G F H σ p vs as → SO G F H fp σ e → p.Nodup → (∀ a, a ∈ p → F a = none) → (∀ a, a ∈ p → ¬ own fp a) → (lents as).Nodup → effD e as = some ds →
    ∃ q fp0, ROs G F H q vs ds ∧ q.Nodup ∧ (∀ a, a ∈ q → F a = none) ∧ SO G F H fp0 σ (minus as e) ∧ (∀ a, a ∈ q → ¬ own fp0 a) ∧ (∀ a, own fp0 a → own fp a) ∧ ∀ a, a ∈ q → own fp a ∨ a ∈ p
  | _, _, _, fp, e, ds, .nil, s, _, _, _, _, h => by
    injection h with h; subst h
    exact ⟨[], fp, .nil, List.nodup_nil, fun _ z => (nomatch z), s, fun _ z => (nomatch z), fun _ z => z, fun _ z => (nomatch z)⟩
  | _, _, _, fp, e, ds, .t (p := f) (q := p) (d := d) (as := as) r rs, s, nd, sep, dj, hl, h => by
    have h : (effD e as).map (d :: ·) = some ds := h
    obtain ⟨n1, n2, n3⟩ := List.nodup_append.mp nd
    cases q2 : effD e as with
    | none => rw [q2] at h; cases h
    | some ds1 =>
      rw [q2] at h
      injection h with h; subst h
      obtain ⟨q, fp0, h1, h2, h3, h4, h5, h6, h7⟩ := take_args rs s n2 (fun a z => sep a (List.mem_append_right _ z)) (fun a z => dj a (List.mem_append_right _ z)) hl q2
      refine ⟨f ++ q, fp0, .cons r h1, List.nodup_append.mpr ⟨n1, h2, fun x hx y hy z => ?_⟩, fun a z => ?_, h4, fun a z w => ?_, h6, fun a z => ?_⟩
      · subst z
        rcases h7 x hy with w | w
        · exact dj x (List.mem_append_left _ hx) w
        · exact n3 x hx x w rfl
      · exact (List.mem_append.mp z).elim (fun z => sep a (List.mem_append_left _ z)) (h3 a)
      · exact (List.mem_append.mp z).elim (fun z => dj a (List.mem_append_left _ z) (h6 a w)) (fun z => h5 a z w)
      · exact (List.mem_append.mp z).elim (fun z => .inr (List.mem_append_left _ z)) (fun z => (h7 a z).imp id (List.mem_append_right _))
  | _, _, _, fp, e, ds, .l (q := p) (j := j) (as := as) (v := v) hv rs, s, nd, sep, dj, hl, h => by
    obtain ⟨l1, l2⟩ := List.nodup_cons.mp (show (j :: lents as).Nodup from hl)
    unfold effD at h
    cases q1 : e[j]? with
    | none => rw [q1] at h; cases h
    | some o =>
      cases o with
      | none => rw [q1] at h; cases h
      | some d =>
        rw [q1] at h
        simp only at h
        cases q2 : effD e as with
        | none => rw [q2] at h; cases h
        | some ds1 =>
          rw [q2] at h
          injection h with h; subst h
          obtain ⟨v1, hv1, t1⟩ := s.take q1
          rw [hv] at hv1; cases hv1
          obtain ⟨q, fp0, h1, h2, h3, h4, h5, h6, h7⟩ := take_args rs (s.forget (i := j)) nd sep (fun a z w => dj a z (own_take a (.inl w))) l2 ((effD_set l1).trans q2)
          refine ⟨fp j ++ q, fp0, .cons t1.r h1, List.nodup_append.mpr ⟨t1.nd, h2, fun x hx y hy z => ?_⟩, fun a z => ?_, h4, fun a z w => ?_, fun a z => own_take a (.inl (h6 a z)), fun a z => ?_⟩
          · subst z
            rcases h7 x hy with w | w
            · exact t1.dj x hx w
            · exact dj x w ⟨j, hx⟩
          · exact (List.mem_append.mp z).elim (t1.sep a) (h3 a)
          · exact (List.mem_append.mp z).elim (fun z => t1.dj a z (h6 a w)) (fun z => h5 a z w)
          · exact (List.mem_append.mp z).elim (fun z => .inl ⟨j, z⟩) (fun z => (h7 a z).imp (fun z => own_take a (.inl z)) id)
theorem give_back {Fa Ha : Hp} : ∀ {p : List Addr} {vs : List V} {as : List PA1} {mask : List Bool} {fp0 : Nat → List Addr} {e0 e2 : DEnv} {fin : List D} {r : List Addr}, AR G Fa Ha σ p vs as → SO G F H fp0 σ e0 → ROs G F H r (lentV mask vs) fin → r.Nodup → (∀ a, a ∈ r → F a = none) → (∀ a, a ∈ r → ¬ own fp0 a) →
    bk mask as fin e0 = some e2 → ∃ fp2, SO G F H fp2 σ e2 ∧ ∀ a, own fp2 a → own fp0 a ∨ a ∈ r
  | _, _, _, mask, fp0, e0, e2, fin, r, .nil, s, ro, nd, sep, dj, h => by
    cases mask with
    | nil =>
      cases fin with
      | nil => injection h with h; subst h; exact ⟨fp0, s, fun _ z => .inl z⟩
      | cons _ _ => cases h
    | cons m ms => cases m <;> cases h
  | _, _, _, mask, fp0, e0, e2, fin, r, .t (vs := vs) (v := v) (as := as) r1 rs, s, ro, nd, sep, dj, h => by
    cases mask with
    | nil => cases h
    | cons m ms =>
      cases m with
      | false => exact give_back rs s ro nd sep dj h
      | true =>
        cases fin with
        | nil => cases h
        | cons d fin =>
          obtain ⟨v1, ws, f, fs, ev, ep, q1, q2⟩ := ro.invD
          injection ev with e1 e2
          subst e1 e2 ep
          obtain ⟨n1, n2, n3⟩ := List.nodup_append.mp nd
          obtain ⟨fp2, h1, h2⟩ := give_back rs s q2 n2 (fun a z => sep a (List.mem_append_right _ z)) (fun a z => dj a (List.mem_append_right _ z)) h
          exact ⟨fp2, h1, fun a z => (h2 a z).imp id (List.mem_append_right _)⟩
  | _, _, _, mask, fp0, e0, e2, fin, r, .l (vs := vs) (v := v) (as := as) (j := j) hv rs, s, ro, nd, sep, dj, h => by
    cases mask with
    | nil => cases h
    | cons m ms =>
      cases m with
      | false => cases fin <;> cases h
      | true =>
        cases fin with
        | nil => cases h
        | cons d fin =>
          obtain ⟨v1, ws, f, fs, ev, ep, q1, q2⟩ := ro.invD
          injection ev with e1 e2
          subst e1 e2 ep
          obtain ⟨n1, n2, n3⟩ := List.nodup_append.mp nd
          have s1 := s.store (i := j) (p := f) (v := v) (d := d) ⟨q1, n1, fun a z => sep a (List.mem_append_left _ z), fun a z => dj a (List.mem_append_left _ z)⟩
          rw [set_self hv] at s1
          obtain ⟨fp2, h1, h2⟩ := give_back rs s1 q2 n2 (fun a z => sep a (List.mem_append_right _ z)) (fun a z w => by
            rcases own_store a w with w | w
            · exact dj a (List.mem_append_right _ z) w
            · exact n3 a w a z rfl) h
          refine ⟨fp2, h1, fun a z => ?_⟩
          rcases h2 a z with z | z
          · exact (own_store a z).imp id (List.mem_append_left _)
          · exact .inr (List.mem_append_right _ z)
theorem AR.app : ∀ {p : List Addr} {vs : List V} {as : List PA1} {dvs : List V} {dfl : List D}, AR G F H σ p vs as → ROs G F H [] dvs dfl → AR G F H σ p (vs ++ dvs) (as ++ dfl.map .t)
  | _, _, _, dvs, dfl, .nil, r => by
    have go : ∀ {dvs : List V} {dfl : List D}, ROs G F H [] dvs dfl → AR G F H σ [] dvs (dfl.map .t) := by
      intro dvs
      induction dvs with
      | nil => intro dfl r; cases dfl with
        | nil => exact .nil
        | cons d ds => obtain ⟨v, ws, f, fs, e1, _⟩ := r.invD; cases e1
      | cons v vs ih =>
        intro dfl r
        cases dfl with
        | nil => obtain ⟨e1, _⟩ := r.invN; cases e1
        | cons d ds =>
          obtain ⟨r1, r2⟩ := r.unconsZ
          exact AR.t (p := []) (q := []) r1 (ih r2)
    exact go r
  | _, _, _, dvs, dfl, .t r1 rs, r => .t r1 (AR.app rs r)
  | _, _, _, dvs, dfl, .l hv rs, r => .l hv (AR.app rs r)
theorem AR.length : ∀ {p : List Addr} {vs : List V} {as : List PA1}, AR G F H σ p vs as → vs.length = as.length
  | _, _, _, .nil => rfl
  | _, _, _, .t _ rs => congrArg (· + 1) (AR.length rs)
  | _, _, _, .l _ rs => congrArg (· + 1) (AR.length rs)
theorem call_plain {C : List D → RC} {mask : List Bool} {dfl : List D} {dvs : List V} {ms : List Ar} (hz : ∀ F H, ROs G F H [] dvs dfl) {Q : VK} (h : RdE G W (mCall C mask dfl ms) σ H Q) : RdA G W ms σ H (fun vs H1 => Prom G mask C (vs ++ dvs) H1 Q (WE W σ)) := by
  obtain ⟨F, fp, e, s, h⟩ := RdE.iff.mp h
  refine ⟨F, fp, e, s, ?_⟩
  unfold mCall at h
  cases q : mA ms e with
  | ex c d e1 => rw [q] at h; exact h
  | no => rw [q] at h; exact h
  | ok as e1 =>
    rw [q] at h
    simp only at h
    intro vs F1 H1 fp1 p s1 t1 tr1
    cases q2 : effD e1 as with
    | none => rw [q2] at h; exact h.elim
    | some ds =>
      rw [q2] at h
      simp only at h
      split at h
      · rename_i hh
        obtain ⟨hl, hlen⟩ := hh
        obtain ⟨q, fp0, r1, r2, r3, s0, r5, r6, r7⟩ := take_args t1.r s1 t1.nd t1.sep t1.dj hl q2
        have ra : ROs G F1 H1 q (vs ++ dvs) (ds ++ dfl) := by
          have := r1.append (hz F1 H1)
          rwa [List.append_nil] at this
        have rA := t1.r.app (hz F1 H1)
        refine ⟨by rw [List.length_append, t1.r.length, (hz F1 H1).length]; exact hlen, F1, q, ds ++ dfl, ra, r2, r3, s1.sub, ?_⟩
        have fin : ∀ {F' H' : Hp} {qv r : List Addr} {v : V} {d : D} {fin : List D} {e2 : DEnv}, RO G F' H' qv v d → ROs G F' H' r (lentV mask (vs ++ dvs)) fin → (qv ++ r).Nodup → (∀ a, a ∈ qv ++ r → F' a = none) → (∀ a o, F' a = some o → H' a = some o) → Tr F1 H1 (· ∈ q) F' H' (· ∈ qv ++ r) → bk mask (as ++ dfl.map .t) fin (minus as e1) = some e2 →
            ∃ fp2, SO G F' H' fp2 σ e2 ∧ TO G F' H' fp2 qv v d ∧ Tr F H (own fp) F' H' (fun a => own fp2 a ∨ a ∈ qv) := by
          intro F' H' qv r v d fin e2 h1 h2 h3 h4 h5 h6 h7
          have s2 := s0.frame r5 h6 h5
          have nO : ∀ a, a ∈ qv ++ r → ¬ own fp0 a := fun a z w => by
            rcases h6.ow a z with u | u
            · exact r5 a u w
            · obtain ⟨i, w⟩ := w
              obtain ⟨o, ho⟩ := s0.th i a w
              rw [u] at ho; cases ho
          obtain ⟨n1, n2, n3⟩ := List.nodup_append.mp h3
          obtain ⟨fp2, s3, o3⟩ := give_back rA s2 h2 n2 (fun a z => h4 a (List.mem_append_right _ z)) (fun a z => nO a (List.mem_append_right _ z)) h7
          refine ⟨fp2, s3, ⟨h1, n1, fun a z => h4 a (List.mem_append_left _ z), fun a z w => ?_⟩, (tr1.trans (h6.weak (P := fun a => own fp1 a ∨ a ∈ p) (P1 := fun a => own fp0 a ∨ a ∈ qv ++ r) r7 fun a z => z.elim (fun z => .inr (.inl (r6 a z))) .inl)).drop fun a z => ?_⟩
          · rcases o3 a w with w | w
            · exact nO a (List.mem_append_left _ z) w
            · exact n3 a z a w rfl
          · rcases z with z | z
            · exact (o3 a z).imp id (List.mem_append_right _)
            · exact .inr (List.mem_append_left _ z)
        cases q3 : C (ds ++ dfl) with
        | ok d fn =>
          rw [q3] at h
          simp only at h
          cases q4 : bk mask (as ++ dfl.map .t) fn (minus as e1) with
          | none => rw [q4] at h; exact h.elim
          | some e2 =>
            rw [q4] at h
            intro v F' H' qv r h1 h2 h3 h4 h5 h6
            obtain ⟨fp2, s3, t3, tr3⟩ := fin h1 h2 h3 h4 h5 h6 q4
            exact h v F' H' fp2 qv s3 t3 tr3
        | ex c d fn =>
          rw [q3] at h
          simp only at h
          cases q4 : bk mask (as ++ dfl.map .t) fn (minus as e1) with
          | none => rw [q4] at h; exact h.elim
          | some e2 =>
            rw [q4] at h
            intro dx v F' H' qv r h1 h2 h3 h4 h5 h6 hx
            obtain ⟨fp2, s3, t3, tr3⟩ := fin h1 h2 h3 h4 h5 h6 q4
            exact h dx v F' H' fp2 qv s3 t3 tr3 hx
        | no => rw [q3] at h; exact h.elim
      · exact h.elim
theorem se_call {C : List D → RC} {mask : List Bool} {dfl : List D} {dvs : List V} {ds : List Value} {ms : List Ar} {k : Nat} {f : Addr} {fd : FuncData} {ps : List Str} {x : Str} (tk : Takes X W)
    (FO : FnOk X.prog X.w X.K X.mg X.base (L2.CX X.prog X.w) k f fd ps (Prom (gOf X g) mask C)) (hr : Room k X.A) (hg : Gl X x) (hm : X.mg x = some (.ref f)) (hk : PySem.W.keepIn X.K (.ref f) = true) (hb : Binds X.K fd ps ds) (hd : Vals dvs ds)
    (hz : ∀ F H, ROs (gOf X g) F H [] dvs dfl) (ha : SA X g W (a :: es) ms) (hdb : (x == ("__debug__" : Str)) = false) (he : starEach (a :: es) X.env = (false, eval a X.env) :: starEach es X.env) (hpl : (backTo pos (starEach es X.env)).any (·.1) = false) :
    SE X g W (.Call (.Name x p2) (a :: es) [] pos) (mCall C mask dfl ms) := PE.imp (pe_callSD (E := WE W) FO hr hg hm hk hb hd (passAt tk) ha hdb he hpl) fun σ H Q h => call_plain hz h
theorem se_call0 {C : List D → RC} {mask : List Bool} {dfl : List D} {dvs : List V} {ds : List Value} {k : Nat} {f : Addr} {fd : FuncData} {ps : List Str} {x : Str} (tk : Takes X W)
    (FO : FnOk X.prog X.w X.K X.mg X.base (L2.CX X.prog X.w) k f fd ps (Prom (gOf X g) mask C)) (hr : Room k X.A) (hg : Gl X x) (hm : X.mg x = some (.ref f)) (hk : PySem.W.keepIn X.K (.ref f) = true) (hb : Binds X.K fd ps ds) (hd : Vals dvs ds)
    (hz : ∀ F H, ROs (gOf X g) F H [] dvs dfl) (hdb : (x == ("__debug__" : Str)) = false) :
    SE X g W (.Call (.Name x p2) [] [] pos) (mCall C mask dfl []) := by
  refine ⟨fun pins s σ H Q I h => ?_⟩
  refine wpAny_Call_Name_kw (ld_glob I hg hm ?_ hdb)
  refine PySem.W.callWith_K0 I.kIn hk (run_fnSD (us := []) (vs := []) (E := WE W) FO hr hb hd (passAt tk σ) I .nil ?_)
  obtain ⟨F, fp, e, s, h⟩ := call_plain (dvs := dvs) hz h
  exact h [] F H fp [] s ⟨.nil, List.nodup_nil, fun _ z => (nomatch z), fun _ z => (nomatch z)⟩ Tr.refl.nil
end
end EV

/-! EvM: what a def computes, its promise. -/
namespace EV
open PySem PySem.Spec PyProof.Rows L2

def fins : List Bool → DEnv → Option (List D)
  | true :: m, some d :: e => (fins m e).map (d :: ·)
  | true :: _, _ => none
  | false :: m, _ :: e => fins m e
  | false :: m, [] => fins m []
  | [], _ => some []
/-- the places of true -/
def lix : Nat → List Bool → List Nat
  | k, true :: m => k :: lix (k + 1) m
  | k, false :: m => lix (k + 1) m
  | _, [] => []
/-- a def as a plain function: n slots -/
def callF (n : Nat) (mask : List Bool) (m : MS) (ds : List D) : RC :=
  if ds.length = mask.length ∧ mask.length ≤ n then
    match m (ds.map some ++ List.replicate (n - mask.length) none) with
    | .nx e => match fins mask e with
      | some f => .ok .non f
      | none => .no
    | .rt d e => match fins mask e with
      | some f => .ok d f
      | none => .no
    | .ex c d e => match fins mask e with
      | some f => .ex c d f
      | none => .no
    | _ => .no
  else .no
section
variable {X : Cx} {N : List Str} {sc : Scope} {fr : List Str} {g : GF} {G : GI} {W : WX} {L : List Nat} {F H F1 H1 F' H' : Hp} {fp fp1 fp' : Nat → List Addr} {σ σ1 : L2.St} {e e' : DEnv}
theorem ROs.split : ∀ {p : List Addr} {vs : List V} {ds : List D}, ROs G F H p vs ds → ∃ ps : List (List Addr), ps.flatten = p ∧ ∀ (i : Nat) (d : D), ds[i]? = some d → ∃ (v : V) (f : List Addr), vs[i]? = some v ∧ ps[i]? = some f ∧ RO G F H f v d
  | _, _, _, .nil => ⟨[], rfl, fun i d h => by cases h⟩
  | _, _, _, .cons (f := f) r rs => by
    obtain ⟨ps, e, h⟩ := ROs.split rs
    refine ⟨f :: ps, by rw [List.flatten_cons, e], fun i d hi => ?_⟩
    cases i with
    | zero => injection hi with hi; subst hi; exact ⟨_, f, rfl, rfl, r⟩
    | succ i => exact h i d hi
theorem nth_nodup : ∀ {ps : List (List Addr)}, ps.flatten.Nodup → (∀ (i : Nat) (f : List Addr), ps[i]? = some f → f.Nodup) ∧ ∀ (i j : Nat) (f f' : List Addr) (a : Addr), ps[i]? = some f → ps[j]? = some f' → a ∈ f → a ∈ f' → i = j
  | [], _ => ⟨(fun i f h => by cases h), (fun i j f f' a h => by cases h)⟩
  | p :: ps, h => by
    rw [List.flatten_cons] at h
    obtain ⟨n1, n2, n3⟩ := List.nodup_append.mp h
    obtain ⟨h1, h2⟩ := nth_nodup n2
    have mem : ∀ j f a, ps[j]? = some f → a ∈ f → a ∈ ps.flatten := fun j f a hj ha => List.mem_flatten.mpr ⟨f, List.mem_of_getElem? hj, ha⟩
    refine ⟨fun i f hi => ?_, fun i j f f' a hi hj ha hb => ?_⟩
    · cases i with
      | zero => injection hi with hi; subst hi; exact n1
      | succ i => exact h1 i f hi
    · cases i with
      | zero =>
        cases j with
        | zero => rfl
        | succ j =>
          injection hi with hi; subst hi
          exact absurd rfl (n3 a ha a (mem j f' a hj hb))
      | succ i =>
        cases j with
        | zero =>
          injection hj with hj; subst hj
          exact absurd rfl (n3 a hb a (mem i f a hi ha))
        | succ j => rw [h2 i j f f' a hi hj ha hb]
theorem start_SO {p : List Addr} {vs : List V} {ds : List D} (n : Nat) (hn : ds.length ≤ N.length) (hs : ∀ a o, F a = some o → H a = some o) (r : ROs G F H p vs ds) (nd : p.Nodup) (sep : ∀ a, a ∈ p → F a = none) :
    ∃ fp, SO G F H fp (L2.start N vs) (ds.map some ++ List.replicate (N.length - ds.length) none) ∧ ∀ a, own fp a → a ∈ p := by
  obtain ⟨ps, ep, h⟩ := r.split
  subst ep
  obtain ⟨n1, n2⟩ := nth_nodup nd
  have gd : ∀ i a, a ∈ ps.getD i [] → ∃ f, ps[i]? = some f ∧ a ∈ f := fun i a z => by
    rw [List.getD_eq_getElem?_getD] at z
    cases q : ps[i]? with
    | none => rw [q] at z; cases z
    | some f => rw [q] at z; exact ⟨f, rfl, z⟩
  have mem : ∀ i a, a ∈ ps.getD i [] → a ∈ ps.flatten := fun i a z => by
    obtain ⟨f, hf, ha⟩ := gd i a z
    exact List.mem_flatten.mpr ⟨f, List.mem_of_getElem? hf, ha⟩
  refine ⟨fun i => ps.getD i [], ⟨hs, fun i d hi => ?_, fun i => ?_, fun i j a hi hj => ?_, fun i a z => sep a (mem i a z), fun i a z => r.there a (mem i a z), ?_⟩, fun a ⟨i, z⟩ => mem i a z⟩
  · by_cases hl : i < ds.length
    · rw [List.getElem?_append_left (by simpa using hl), List.getElem?_map] at hi
      cases q : ds[i]? with
      | none => rw [q] at hi; cases hi
      | some d' =>
        rw [q] at hi
        injection hi with hi; injection hi with hi; subst hi
        obtain ⟨v, f, h1, h2, h3⟩ := h i d' q
        refine ⟨v, ?_, ?_⟩
        · unfold L2.start
          have hv : i < vs.length := (List.getElem?_eq_some_iff.mp h1).1
          rw [List.getElem?_append_left (by simpa using hv), List.getElem?_map, h1]
          rfl
        · rw [List.getD_eq_getElem?_getD, h2]; exact h3
    · rw [List.getElem?_append_right (by simpa using hl)] at hi
      have := List.mem_of_getElem? hi
      have := List.eq_of_mem_replicate this
      cases this
  · show (ps.getD i []).Nodup
    rw [List.getD_eq_getElem?_getD]
    cases q : ps[i]? with
    | none => exact List.nodup_nil
    | some f => exact n1 i f q
  · obtain ⟨f, h1, h2⟩ := gd i a hi
    obtain ⟨f', h3, h4⟩ := gd j a hj
    exact n2 i j f f' a h1 h3 h2 h4
  · unfold L2.start
    rw [List.length_append, List.length_append, List.length_map, List.length_map, List.length_replicate, List.length_replicate, r.length]
theorem end_fin : ∀ (mask : List Bool) (k : Nat) (vs : List V) (e : DEnv) (fin : List D), vs.length = mask.length → (∀ i d, e[i]? = some (some d) → ∃ v, σ[k + i]? = some (some v) ∧ RO G F H (fp (k + i)) v d) → (∀ i, (fp i).Nodup) → (∀ i j a, a ∈ fp i → a ∈ fp j → i = j) →
    (∀ i, mask[i]? = some true → ∃ v, vs[i]? = some v ∧ σ[k + i]? = some (some v)) → fins mask e = some fin →
    ∃ r, ROs G F H r (lentV mask vs) fin ∧ r.Nodup ∧ ∀ a, a ∈ r → ∃ i, k ≤ i ∧ a ∈ fp i
  | [], k, vs, e, fin, hl, hr, hn, hd, hv, h => by
    cases vs with
    | cons _ _ => cases hl
    | nil =>
      have h : some ([] : List D) = some fin := by
        cases e <;> exact h
      injection h with h; subst h
      exact ⟨[], .nil, List.nodup_nil, fun _ z => (nomatch z)⟩
  | false :: m, k, vs, e, fin, hl, hr, hn, hd, hv, h => by
    cases vs with
    | nil => cases hl
    | cons v vs =>
      have h : fins m e.tail = some fin := by
        cases e <;> exact h
      obtain ⟨r, h1, h2, h3⟩ := end_fin m (k + 1) vs e.tail fin (by simpa using hl) (fun i d hi => by
        have := hr (i + 1) d (by cases e with
          | nil => cases hi
          | cons x e => exact hi)
        rw [show k + 1 + i = k + (i + 1) from by omega]; exact this) hn hd (fun i hi => by
        have := hv (i + 1) hi
        rw [show k + 1 + i = k + (i + 1) from by omega]; exact this) h
      exact ⟨r, h1, h2, fun a z => by obtain ⟨i, q1, q2⟩ := h3 a z; exact ⟨i, by omega, q2⟩⟩
  | true :: m, k, vs, e, fin, hl, hr, hn, hd, hv, h => by
    cases vs with
    | nil => cases hl
    | cons v vs =>
      cases e with
      | nil => cases h
      | cons x e =>
        cases x with
        | none => cases h
        | some d =>
          have h : (fins m e).map (d :: ·) = some fin := h
          cases q : fins m e with
          | none => rw [q] at h; cases h
          | some fn =>
            rw [q] at h
            injection h with h; subst h
            obtain ⟨r, h1, h2, h3⟩ := end_fin m (k + 1) vs e fn (by simpa using hl) (fun i d hi => by
              have := hr (i + 1) d hi
              rw [show k + 1 + i = k + (i + 1) from by omega]; exact this) hn hd (fun i hi => by
              have := hv (i + 1) hi
              rw [show k + 1 + i = k + (i + 1) from by omega]; exact this) q
            obtain ⟨w, hw, rw'⟩ := hr 0 d rfl
            obtain ⟨v1, hv1, hv2⟩ := hv 0 rfl
            injection hv1 with hv1; subst hv1
            rw [hw] at hv2
            cases hv2
            refine ⟨fp (k + 0) ++ r, .cons rw' h1, List.nodup_append.mpr ⟨hn _, h2, fun x hx y hy z => ?_⟩, fun a z => ?_⟩
            · subst z
              obtain ⟨i, q1, q2⟩ := h3 x hy
              have := hd _ _ x hx q2
              omega
            · rcases List.mem_append.mp z with z | z
              · exact ⟨k + 0, by omega, z⟩
              · obtain ⟨i, q1, q2⟩ := h3 a z
                exact ⟨i, by omega, q2⟩
theorem lix_mem : ∀ (mask : List Bool) (k i : Nat), mask[i]? = some true → (k + i) ∈ lix k mask
  | [], k, i, h => by cases h
  | b :: m, k, i, h => by
    cases i with
    | zero =>
      injection h with h; subst h
      exact List.mem_cons_self ..
    | succ i =>
      have := lix_mem m (k + 1) i h
      rw [show k + 1 + i = k + (i + 1) from by omega] at this
      cases b
      · exact this
      · exact List.mem_cons_of_mem _ this
/-- the body's ends are the promise's -/
theorem body_plain {mask : List Bool} {m : MS} {E : XK} {Q : VK} {vs : List V} (hm : mask.length ≤ N.length) (h : Prom G mask (callF N.length mask m) vs H Q E) :
    RdS G (fun cls d _ H => E cls d H) (lix 0 mask) m { nx := fun _ H' => Q .non H', rt := Q } (L2.start N vs) H := by
  obtain ⟨hl, F, p, ds, r, nd, sep, hs, h⟩ := h
  unfold callF at h
  by_cases hh : ds.length = mask.length ∧ mask.length ≤ N.length
  · rw [if_pos hh] at h
    obtain ⟨h1, h2⟩ := hh
    obtain ⟨fp, s, ho⟩ := start_SO (N := N) 0 (by omega) hs r nd sep
    rw [h1] at s
    refine ⟨F, fp, _, s, ?_⟩
    have st : ∀ i v, vs[i]? = some v → (L2.start N vs)[i]? = some (some v) := fun i v hv => by
      unfold L2.start
      have hv' : i < vs.length := (List.getElem?_eq_some_iff.mp hv).1
      rw [List.getElem?_append_left (by simpa using hv'), List.getElem?_map, hv]
      rfl
    have lent : ∀ {σ' : L2.St} {F' H' : Hp} {fp' : Nat → List Addr} {e' : DEnv} {fin : List D}, SO G F' H' fp' σ' e' → (∀ i, i ∈ lix 0 mask → σ'[i]? = (L2.start N vs)[i]?) → fins mask e' = some fin → ∃ r, ROs G F' H' r (lentV mask vs) fin ∧ r.Nodup ∧ ∀ a, a ∈ r → own fp' a := fun s' l' hf => by
      obtain ⟨r, q1, q2, q3⟩ := end_fin mask 0 vs _ _ hl (fun i d hi => by rw [Nat.zero_add]; exact s'.rep i d hi) s'.nd s'.dj (fun i hi => by
        have hi' : i < vs.length := by rw [hl]; exact (List.getElem?_eq_some_iff.mp hi).1
        have z := lix_mem mask 0 i hi
        rw [Nat.zero_add] at z ⊢
        exact ⟨vs[i], List.getElem?_eq_getElem hi', by rw [l' i z]; exact st i _ (List.getElem?_eq_getElem hi')⟩) hf
      exact ⟨r, q1, q2, fun a z => by obtain ⟨i, _, q⟩ := q3 a z; exact ⟨i, q⟩⟩
    have all : ∀ {σ' : L2.St} {F' H' : Hp} {fp' : Nat → List Addr} {e' : DEnv} {q r : List Addr} {v : V} {d : D}, SO G F' H' fp' σ' e' → TO G F' H' fp' q v d → r.Nodup → (∀ a, a ∈ r → own fp' a) → Tr F H (own fp) F' H' (fun a => own fp' a ∨ a ∈ q) →
        (q ++ r).Nodup ∧ (∀ a, a ∈ q ++ r → F' a = none) ∧ Tr F H (· ∈ p) F' H' (· ∈ q ++ r) := fun s' t' n' o' tr => by
      refine ⟨List.nodup_append.mpr ⟨t'.nd, n', fun x hx y hy z => t'.dj x hx (o' x (z ▸ hy))⟩, fun a z => (List.mem_append.mp z).elim (t'.sep a) fun z => by obtain ⟨i, w⟩ := o' a z; exact s'.sep i a w, ?_⟩
      exact tr.weak ho fun c z => (List.mem_append.mp z).elim (fun z => .inl (.inr z)) fun z => .inl (.inl (o' c z))
    cases q1 : m (ds.map some ++ List.replicate (N.length - mask.length) none) with
    | nx e' =>
      rw [q1] at h
      simp only at h
      intro σ' F' H' fp' s' l' tr
      cases q2 : fins mask e' with
      | none => rw [q2] at h; exact h.elim
      | some fin =>
        rw [q2] at h
        obtain ⟨r, r1, r2, r3⟩ := lent s' l' q2
        obtain ⟨a1, a2, a3⟩ := all s' (TO.z .non) r2 r3 tr.nil
        exact h .non F' H' [] r .non r1 a1 a2 s'.sub a3
    | rt d e' =>
      rw [q1] at h
      simp only at h
      intro v σ' F' H' fp' pv s' l' t' tr
      cases q2 : fins mask e' with
      | none => rw [q2] at h; exact h.elim
      | some fin =>
        rw [q2] at h
        obtain ⟨r, r1, r2, r3⟩ := lent s' l' q2
        obtain ⟨a1, a2, a3⟩ := all s' t' r2 r3 tr
        exact h v F' H' pv r t'.r r1 a1 a2 s'.sub a3
    | ex c d e' =>
      rw [q1] at h
      simp only at h
      intro dx v σ' F' H' fp' pv s' l' t' tr hx
      cases q2 : fins mask e' with
      | none => rw [q2] at h; exact h.elim
      | some fin =>
        rw [q2] at h
        obtain ⟨r, r1, r2, r3⟩ := lent s' l' q2
        obtain ⟨a1, a2, a3⟩ := all s' t' r2 r3 tr
        exact h dx v F' H' pv r t'.r r1 a1 a2 s'.sub a3 hx
    | bk e' => rw [q1] at h; exact h.elim
    | ct e' => rw [q1] at h; exact h.elim
    | no => rw [q1] at h; exact h.elim
  · rw [if_neg hh] at h; exact h.elim
end
end EV

/-! EvN: built-ins by name; contexts; the promise of a def from its body. -/
namespace EV
open PySem PySem.Spec PyProof.Rows L2
section
variable {X : Cx} {N : List Str} {sc : Scope} {fr : List Str} {g : GF} {G : GI} {W : WX} {L : List Nat} {a b c : Expr} {es : List Expr} {pos p2 p3 p4 : Pos} {oa ob : Op} {m n t : ME}
theorem se_len (C : Cn X N sc fr) (h1 : ("len" : Str) ∈ fr) (h2 : glB sc "len" = true) (ha : SOp X g W a oa) (hs : starEach [a] X.env = (false, eval a X.env) :: starEach [] X.env) : SE X g W (.Call (.Name "len" p2) [a] [] pos) (mOp1 lenD oa) :=
  se_b1 C (id := "len") (r := fun xs H Q => ∃ x n, xs = [x] ∧ LenV X.K x H n ∧ Q (.int n) H) call_len (by decide +kernel) (by decide) (by decide) (fun F H x d1 d Q s r1 h k => by
    obtain ⟨n, h1, h2⟩ := hr_len s r1 h k
    exact ⟨x, n, rfl, h1, h2⟩) h1 h2 ha hs
theorem se_abs (C : Cn X N sc fr) (h1 : ("abs" : Str) ∈ fr) (h2 : glB sc "abs" = true) (ha : SOp X g W a oa) (hs : starEach [a] X.env = (false, eval a X.env) :: starEach [] X.env) : SE X g W (.Call (.Name "abs" p2) [a] [] pos) (mOp1 absD oa) :=
  se_b1 C (id := "abs") call_abs (by decide +kernel) (by decide) (by decide) (fun F H x d1 d Q s r1 h k => hr_abs s r1 h k) h1 h2 ha hs
theorem se_int1 (C : Cn X N sc fr) (h1 : ("int" : Str) ∈ fr) (h2 : glB sc "int" = true) (ha : SOp X g W a oa) (hs : starEach [a] X.env = (false, eval a X.env) :: starEach [] X.env) : SE X g W (.Call (.Name "int" p2) [a] [] pos) (mOp1 intD oa) :=
  se_t1 C (id := "int") call_int1 (by decide +kernel) (by decide) (by decide) (fun F H x d1 d Q s r1 h k => hr_int s r1 h k) h1 h2 ha hs
theorem se_tuple (C : Cn X N sc fr) (h1 : ("tuple" : Str) ∈ fr) (h2 : glB sc "tuple" = true) (ha : SOp X g W a oa) (hs : starEach [a] X.env = (false, eval a X.env) :: starEach [] X.env) : SE X g W (.Call (.Name "tuple" p2) [a] [] pos) (mOp1 tupleD oa) :=
  se_t1 C (id := "tuple") call_tuple_of (by decide +kernel) (by decide) (by decide) (fun F H x d1 d Q s r1 h k => hr_tuple s r1 h k) h1 h2 ha hs
theorem se_list (C : Cn X N sc fr) (h1 : ("list" : Str) ∈ fr) (h2 : glB sc "list" = true) (ha : SOp X g W a oa) (hs : starEach [a] X.env = (false, eval a X.env) :: starEach [] X.env) : SE X g W (.Call (.Name "list" p2) [a] [] pos) (mOp1 listD oa) :=
  se_t1 C (id := "list") call_list_of (by decide +kernel) (by decide) (by decide) (fun F H x d1 d Q s r1 h k => hr_list s r1 h k) h1 h2 ha hs
theorem se_sum (C : Cn X N sc fr) (h1 : ("sum" : Str) ∈ fr) (h2 : glB sc "sum" = true) (ha : SOp X g W a oa) (hs : starEach [a] X.env = (false, eval a X.env) :: starEach [] X.env) : SE X g W (.Call (.Name "sum" p2) [a] [] pos) (mOp1 sumD oa) :=
  se_b1 C (id := "sum") (cr_sum C.calm) (by decide +kernel) (by decide) (by decide) (fun F H x d1 d Q s r1 h k => hr_sum s r1 h k) h1 h2 ha hs
theorem se_max1 (C : Cn X N sc fr) (h1 : ("max" : Str) ∈ fr) (h2 : glB sc "max" = true) (ha : SOp X g W a oa) (hs : starEach [a] X.env = (false, eval a X.env) :: starEach [] X.env) : SE X g W (.Call (.Name "max" p2) [a] [] pos) (mOp1 max1D oa) :=
  se_b1 C (id := "max") (cr_max C.calm) (by decide +kernel) (by decide) (by decide) (fun F H x d1 d Q s r1 h k => hr_max1 s r1 h k) h1 h2 ha hs
theorem se_min1 (C : Cn X N sc fr) (h1 : ("min" : Str) ∈ fr) (h2 : glB sc "min" = true) (ha : SOp X g W a oa) (hs : starEach [a] X.env = (false, eval a X.env) :: starEach [] X.env) : SE X g W (.Call (.Name "min" p2) [a] [] pos) (mOp1 min1D oa) :=
  se_b1 C (id := "min") (cr_min C.calm) (by decide +kernel) (by decide) (by decide) (fun F H x d1 d Q s r1 h k => hr_min1 s r1 h k) h1 h2 ha hs
theorem se_all (C : Cn X N sc fr) (h1 : ("all" : Str) ∈ fr) (h2 : glB sc "all" = true) (ha : SOp X g W a oa) (hs : starEach [a] X.env = (false, eval a X.env) :: starEach [] X.env) : SE X g W (.Call (.Name "all" p2) [a] [] pos) (mOp1 allD oa) :=
  se_b1 C (id := "all") (cr_all C.calm) (by decide +kernel) (by decide) (by decide) (fun F H x d1 d Q s r1 h k => hr_all s r1 h k) h1 h2 ha hs
theorem se_any (C : Cn X N sc fr) (h1 : ("any" : Str) ∈ fr) (h2 : glB sc "any" = true) (ha : SOp X g W a oa) (hs : starEach [a] X.env = (false, eval a X.env) :: starEach [] X.env) : SE X g W (.Call (.Name "any" p2) [a] [] pos) (mOp1 anyD oa) :=
  se_b1 C (id := "any") (cr_any C.calm) (by decide +kernel) (by decide) (by decide) (fun F H x d1 d Q s r1 h k => hr_any s r1 h k) h1 h2 ha hs
theorem se_max2 (C : Cn X N sc fr) (h1 : ("max" : Str) ∈ fr) (h2 : glB sc "max" = true) (ha : SOp X g W a oa) (hb : SOp X g W b ob) (hs : starEach [a, b] X.env = (false, eval a X.env) :: starEach [b] X.env) (hs2 : starEach [b] X.env = (false, eval b X.env) :: starEach [] X.env) (hpl : (backTo pos (starEach [b] X.env)).any (·.1) = false) :
    SE X g W (.Call (.Name "max" p2) [a, b] [] pos) (mOp2 max2D oa ob) :=
  se_b2 C (id := "max") (call_max2 C.calm) (by decide +kernel) (by decide) (by decide) (fun F H x y d1 d2 d Q s r1 r2 h k => hr_max2 s r1 r2 h k) h1 h2 ha hb hs hs2 hpl
theorem se_min2 (C : Cn X N sc fr) (h1 : ("min" : Str) ∈ fr) (h2 : glB sc "min" = true) (ha : SOp X g W a oa) (hb : SOp X g W b ob) (hs : starEach [a, b] X.env = (false, eval a X.env) :: starEach [b] X.env) (hs2 : starEach [b] X.env = (false, eval b X.env) :: starEach [] X.env) (hpl : (backTo pos (starEach [b] X.env)).any (·.1) = false) :
    SE X g W (.Call (.Name "min" p2) [a, b] [] pos) (mOp2 min2D oa ob) :=
  se_b2 C (id := "min") (call_min2 C.calm) (by decide +kernel) (by decide) (by decide) (fun F H x y d1 d2 d Q s r1 r2 h k => hr_min2 s r1 r2 h k) h1 h2 ha hb hs hs2 hpl
/-- the block of a comprehension -/
theorem Cn.blk (C : Cn X N sc fr) {scope : Scope} (s : Shared) (H : Hp) (A : Addr) (cl : List (Str × Addr)) (fp : List Addr) : Cn (X.blk s H scope (compEnvC scope cl A X.env) fp) N (relS scope sc) fr where
  hN := C.hN
  nd := C.nd
  hsc := by
    show relS scope X.env.scope = _
    rw [C.hsc]
  calm := C.calm
  hu := C.hu
  hfr := C.hfr
theorem takes0 : Takes X W0 := fun u s' x => by
  obtain ⟨a, B, sI, pins, σ, H, cls, d, _, _, _, _, _, _, _, _, w⟩ := x
  exact w.elim
end
section
variable {P : Program} {w : World} {K : PySem.W.Frag} {mg : Str → Option Value} {base : Heap} {x qual : Str} {params : Arguments} {body : List Stmt} {scope : Scope} {dvs : List V} {kws : List (Str × V)} {f : Addr} {fd : FuncData}
theorem fn_ok {N ps fr : List Str} {mask : List Bool} {k : Nat} {m : MS} {g : GF} (Fd : FunD K x qual params body scope dvs kws f fd) (S : FnScope N ps scope) (hm : mask.length = ps.length) (hn : mask.length ≤ N.length) (hfr : ∀ x ∈ fr, mg x = none)
    (hb : ∀ (cdv : Value) (A : Around) (outer : List Env) (s : Shared) (H : Hp) (E : XK), Room k (cxOf (L2.CX P w) P w K mg base N qual scope f cdv A outer s H E).A → Cn (cxOf (L2.CX P w) P w K mg base N qual scope f cdv A outer s H E) N scope fr →
      Takes (cxOf (L2.CX P w) P w K mg base N qual scope f cdv A outer s H E) (fun cls d _ H => E cls d H) → PassesOwn (model P w) (cxOf (L2.CX P w) P w K mg base N qual scope f cdv A outer s H E).A (cxOf (L2.CX P w) P w K mg base N qual scope f cdv A outer s H E).env (cxOf (L2.CX P w) P w K mg base N qual scope f cdv A outer s H E).xe →
      SSs (cxOf (L2.CX P w) P w K mg base N qual scope f cdv A outer s H E) g (fun cls d _ H => E cls d H) (lix 0 mask) body m) :
    FnOk P w K mg base (L2.CX P w) (k + 1) f fd ps (Prom ⟨g, K⟩ mask (callF N.length mask m)) :=
  Fd.ok S (Prom.len hm) fun cdv A outer s H vs Q E room sp =>
    ⟨_, hb cdv A outer s H E room ⟨rfl, S.nd, rfl, rfl, by have := room.un; show (A.deeper _).units + 200 < cLine; omega, hfr⟩ (takes_of rfl rfl rfl rfl) (passes_of rfl), body_plain hn sp⟩
end
end EV

/-! EvO: displays of dicts, zip, index, items of items. -/
namespace EV
open PySem PySem.Spec PyProof.Rows L2
section
variable {X : Cx} {N : List Str} {sc : Scope} {fr : List Str} {g : GF} {G : GI} {W : WX} {L : List Nat} {a b c : Expr} {es : List Expr} {pos p2 p3 p4 p5 : Pos} {oa ob : Op} {m n t : ME} {F H F1 H1 F' H' : Hp} {fp fp1 fp' : Nat → List Addr} {σ σ1 : L2.St} {e e' : DEnv}
/-! ### {}, {key: value} -/
def mDnew (d : D) : ME := fun e => .ok d e
theorem se_dnewK : SE X g W (.Dict [] [] pos) (mDnew (.dk true [])) := PE.imp pe_dnewK fun σ H Q ⟨F, fp, e, s, h⟩ => fun p hp => by
  refine h (.ref p) F _ fp [p] (s.new hp) ⟨.dko upd_same rfl .nil, by simp, fun c z => ?_, fun c z => ?_⟩ ((Tr.new hp).drop fun c z => z.imp id fun z => List.mem_singleton.mp z)
  · rw [List.mem_singleton.mp z]; exact s.fnone hp
  · rw [List.mem_singleton.mp z]; exact s.noown hp
theorem se_dnewT : SE X g W (.Dict [] [] pos) (mDnew (.dt true [])) := PE.imp pe_dnewT fun σ H Q ⟨F, fp, e, s, h⟩ => fun p hp => by
  refine h (.ref p) F _ fp [p] (s.new hp) ⟨.dto upd_same rfl .nil, by simp, fun c z => ?_, fun c z => ?_⟩ ((Tr.new hp).drop fun c z => z.imp id fun z => List.mem_singleton.mp z)
  · rw [List.mem_singleton.mp z]; exact s.fnone hp
  · rw [List.mem_singleton.mp z]; exact s.noown hp
def tDisp1T (tk tv : TE) : TE := fun σ H Q => ∀ p, H p = none → tk σ (upd H p (.dT [])) fun x H1 => tv σ H1 fun y H2 => H2 p = some (.dT []) ∧ ∃ ks b, x = .ref b ∧ H2 b = some (.tup (ks.map kV)) ∧ Q (.ref p) (upd H2 p (.dT [(ks, y)]))
theorem pe_disp1T {k v : Expr} {tk tv : TE} (hu : X.A.units + 1 < cLine) (hk : PE X k tk) (hv : PE X v tv) : PE X (.Dict [some k] [v] pos) (tDisp1T tk tv) := by
  refine ⟨fun pins s σ H Q I q => ?_⟩
  have hn := I.hok.fresh (Nat.le_refl s.heap.objs.size)
  have I1 := I.laid (a := s.heap.objs.size) (o := .dT []) (h' := s.heap.push { cls := .type "dict", data := .dict #[] }) (t' := s.toks) (fun _ _ q => Heap.get?_push_of_some _ q) (Nat.le_refl _) (dt_empty s.heap I.big)
  rw [arm_eval_Dict, zip_pairTrees [some k] [v] X.env pos rfl rfl, dictDisplay_pairs _ (by simp [pairTrees]) (by simp [pairTrees])]
  refine wpAny_bind (wpAny_standAt (wpAny_bind ?_))
  unfold subDict
  refine wpAny_bind (wpAny_alloc ?_)
  refine wpAny_bind (wpAny_holding ?_)
  rw [if_pos (by simp [pairTrees])]
  refine wpAny_bind (evalPairs_cons (thn (hk.run pins _ σ _ _ I1 (q _ hn)) fun u s1 ⟨x, H1, I2, rx, q1⟩ => ?_))
  refine wpAny_bind (thn (hv.run pins _ σ _ _ I2 q1) fun r s2 ⟨y, H2, I3, ry, e2, ks, bb, ex, eb, q2⟩ => ?_)
  subst ex
  cases (show u = Value.ref bb from rx)
  refine wpAny_bind (wpAny_standAt (wpAny_pure (evalPairs_nil ?_)))
  refine wpAny_holding ?_
  rw [List.forIn_cons]
  obtain ⟨z, hd, xs, rel, dd⟩ := dt_of I3.hok e2
  cases rel
  refine wpAny_bind (wpAny_bind (wpAny_bind (wpAny_dictSet_heap (hsz := by simp) (show (tupleKind (mixKind X.prog X.w)).room X.A from Nat.lt_of_succ_lt hu) (key_of I3.hok eb) dd fun h' dd' hs => wpAny_pure ?_)))
  dsimp only
  rw [List.forIn_nil]
  refine wpAny_pure (wpAny_pure (wpAny_pure (wpAny_pure ?_)))
  obtain ⟨o, es, ep, hq, h2, h3, h4, _, h5⟩ := dd'
  refine ⟨.ref s.heap.objs.size, _, d_write (ob := .dT [(ks, y)]) I3 (by rw [e2]; exact True.intro) hs ⟨o, hq⟩ ⟨?_, hd, _, (KT.put .nil ks eb ry).keeps fun c ys ec => ?_, o, es, ep, hq, h2, h3, h4, h5⟩, rfl, q2⟩
  · show 1 ≤ sizeLine
    decide
  · rw [upd_ne (ne_of ec e2 (fun z => nomatch z))]
    exact ec
def mDisp1T (mk mv : ME) : ME := fun e => match mk e with
  | .ok dk e1 => match frz dk with
    | .tup ks => match keysD ks with
      | some key => match mv e1 with
        | .ok dv e2 => .ok (.dt true [(key, frz dv)]) e2
        | .ex c d e2 => .ex c d e2
        | .no => .no
      | none => .no
    | _ => .no
  | .ex c d e1 => .ex c d e1
  | .no => .no
theorem se_disp1T (C : Cn X N sc fr) (ha : SE X g W a m) (hb : SE X g W b n) : SE X g W (.Dict [some a] [b] pos) (mDisp1T m n) := PE.imp (pe_disp1T C.hu1 ha.z hb.z) fun σ H Q h => by
  obtain ⟨F, fp, e, s, h⟩ := RdE.iff.mp h
  intro p hp
  have s0 := s.new (o := .dT []) hp
  refine ⟨F, fp, e, s0, ?_⟩
  unfold mDisp1T at h
  have tr0 : Tr F H (own fp) F (upd H p (.dT [])) (fun c => own fp c ∨ c ∈ [p]) := (Tr.new hp).drop fun c z => z.imp id fun z => List.mem_singleton.mp z
  have t0 : TO (gOf X g) F (upd H p (.dT [])) fp [p] (.ref p) (.dt true []) := ⟨.dto upd_same rfl .nil, by simp, fun c z => by rw [List.mem_singleton.mp z]; exact s.fnone hp, fun c z => by rw [List.mem_singleton.mp z]; exact s.noown hp⟩
  cases q : m e with
  | ex c d e1 =>
    rw [q] at h
    intro dx v F1 H1 fp1 p1 s1 t1 tr1 hx
    exact h dx v F1 H1 fp1 p1 s1 t1 ((tr0.trans (tr1.weak (P := fun c => own fp c ∨ c ∈ [p]) (P1 := fun c => own fp1 c ∨ c ∈ p1) (fun _ z => .inl z) fun c z => .inl z))) hx
  | no => rw [q] at h; exact h
  | ok dk e1 =>
    rw [q] at h
    intro v F1 H1 fp1 s1 r1 tr1
    simp only at h
    generalize frz dk = dz at h r1
    cases dz with
    | tup ks =>
      simp only at h
      obtain ⟨bb, vs, rfl, hb1, rb⟩ := r1.tup_inv
      cases q1 : keysD ks with
      | none => rw [q1] at h; exact h.elim
      | some key =>
        rw [q1] at h
        simp only at h
        have t1 := t0.keep tr1 fun _ z => z
        refine ⟨F1, fp1, e1, s1, ?_⟩
        have tr01 : Tr F H (own fp) F1 H1 (fun c => own fp1 c ∨ c ∈ [p]) := tr0.trans tr1.hold0
        cases q2 : n e1 with
        | ex c d e2 =>
          rw [q2] at h
          intro dx v F2 H2 fp2 p2 s2 t2 tr2 hx
          exact h dx v F2 H2 fp2 p2 s2 t2 (tr01.trans (tr2.weak (P := fun c => own fp1 c ∨ c ∈ [p]) (P1 := fun c => own fp2 c ∨ c ∈ p2) (fun _ z => .inl z) fun c z => .inl z)) hx
        | no => rw [q2] at h; exact h
        | ok dv e2 =>
          rw [q2] at h
          intro y F2 H2 fp2 s2 r2 tr2
          have t2 := t1.keep tr2 fun _ z => z
          obtain ⟨a0, kvs, ea, _, hk, hk2, _⟩ := t2.r.dto_inv
          cases ea
          have ek : kvs = [] := List.map_eq_nil_iff.mp hk2
          subst ek
          have hb2 : H2 bb = some (.tup (key.map kV)) := by
            rw [← keysD_rep rb q1]; exact s2.sub _ _ (tr2.ff _ _ hb1)
          refine ⟨hk, key, bb, rfl, hb2, ?_⟩
          have pnF : F2 p = none := t2.sep p (List.mem_singleton.mpr rfl)
          have pnO : ¬ own fp2 p := t2.dj p (List.mem_singleton.mpr rfl)
          have hH : ∀ b o, b ≠ p → H2 b = some o → upd H2 p (.dT [(key, y)]) b = some o := fun b o z w => by rw [upd_ne z]; exact w
          have s3 : SO (gOf X g) F2 (upd H2 p (.dT [(key, y)])) fp2 σ e2 := s2.frame (p := [p]) (O' := fun c => c ∈ [p]) (fun c z w => pnO (by rwa [List.mem_singleton.mp z] at w)) ⟨fun _ _ z => z, fun b o n z => hH b o (fun u => n (List.mem_singleton.mpr u)) z, fun _ z => .inl z, fun _ _ z => .inl z⟩ fun b o z => hH b o (fun u => by rw [u, pnF] at z; cases z) (s2.sub b o z)
          refine h (.ref p) F2 _ fp2 [p] s3 ⟨.dto upd_same rfl (ROs.consZ (r2.mono (fun _ _ z => z) fun a z => nomatch z) .nil), by simp, fun c z => ?_, fun c z => ?_⟩ ?_
          · rw [List.mem_singleton.mp z]; exact pnF
          · rw [List.mem_singleton.mp z]; exact pnO
          · refine (tr01.trans tr2.hold0).trans ⟨fun _ _ z => z, fun b o n z => hH b o (fun u => n (.inr (List.mem_singleton.mpr u))) z, fun _ z => .inl z, fun _ _ z => .inl z⟩
    | _ => exact h.elim
/-! ### zip of two -/
def zipD : D → D → Option (List D)
  | .tup xs, .tup ys => some (List.zipWith (fun x y => .tup [x, y]) xs ys)
  | .lst _ xs, .lst _ ys => some (List.zipWith (fun x y => .tup [x, y]) xs ys)
  | _, _ => none
def mZip2 (m n : ME) : MI := fun e => match m e with
  | .ok d1 e1 => match n e1 with
    | .ok d2 e2 => match zipD (frz d1) (frz d2) with
      | some ds => .ok ds none e2
      | none => .no
    | .ex c d e2 => .ex c d e2
    | .no => .no
  | .ex c d e1 => .ex c d e1
  | .no => .no
theorem zipW_get {xs ys : List D} {k : Nat} {d : D} (h : (List.zipWith (fun x y => D.tup [x, y]) xs ys)[k]? = some d) : ∃ x y, xs[k]? = some x ∧ ys[k]? = some y ∧ d = .tup [x, y] := by
  rw [List.getElem?_zipWith] at h
  cases h1 : xs[k]? with
  | none => rw [h1] at h; cases h
  | some x =>
    cases h2 : ys[k]? with
    | none => rw [h1, h2] at h; cases h
    | some y =>
      rw [h1, h2] at h
      injection h with h
      exact ⟨x, y, rfl, rfl, h.symm⟩
theorem pair_new {T : Addr} {x y : V} {dx dy : D} (sb : Sb F H) (hT : H T = none) (rx : RO G F H [] x dx) (ry : RO G F H [] y dy) :
    ∃ F', (∀ a o, F a = some o → F' a = some o) ∧ (∀ a o, H a = some o → upd H T (.tup [x, y]) a = some o) ∧ Sb F' (upd H T (.tup [x, y])) ∧ (∀ a o, F' a = some o → F a = some o ∨ H a = none) ∧ RO G F' (upd H T (.tup [x, y])) [] (.ref T) (.tup [dx, dy]) := by
  have fT : F T = none := by
    cases q : F T with
    | none => rfl
    | some o => rw [sb T o q] at hT; cases hT
  refine ⟨upd F T (.tup [x, y]), upd_le fT, upd_le hT, fun b u z => ?_, fun b u z => ?_, .tup upd_same ?_⟩
  · by_cases e : b = T
    · subst e; rw [upd_same] at z ⊢; exact z
    · rw [upd_ne e] at z ⊢; exact sb b u z
  · by_cases e : b = T
    · subst e; exact .inr hT
    · rw [upd_ne e] at z; exact .inl z
  · exact ROs.consZ (rx.mono (upd_le fT) fun a z => nomatch z) (ROs.consZ (ry.mono (upd_le fT) fun a z => nomatch z) .nil)
theorem itok_zipL {K : PySem.W.Frag} {A B : Addr} {P : List Addr} {H0 : Hp} {vs ws : List V} {xs ys : List D} (h1 : F A = some (.lst vs)) (h2 : F B = some (.lst ws)) (r1 : ROs G F H [] vs xs) (r2 : ROs G F H [] ws ys) : ItOk G (Itz K A B) F P H0 (List.zipWith (fun x y => .tup [x, y]) xs ys) where
  go := fun F' H' k d q1 _ q2 q3 => by
    obtain ⟨x, y, e1, e2, rfl⟩ := zipW_get q3
    obtain ⟨u, hu, ru⟩ := r1.get e1
    obtain ⟨w, hw, rw'⟩ := r2.get e2
    refine ⟨⟨vs, ws, u, w, SqL.of (q2 _ _ (q1 _ _ h1)), SqL.of (q2 _ _ (q1 _ _ h2)), hu, hw⟩, fun v H2 yl => ?_⟩
    obtain ⟨T, x', y', rfl, hT, rfl, f1, f2⟩ := yl
    have g1 := f1 vs (SqL.of (q2 _ _ (q1 _ _ h1)))
    have g2 := f2 ws (SqL.of (q2 _ _ (q1 _ _ h2)))
    rw [hu] at g1; rw [hw] at g2
    cases g1; cases g2
    exact pair_new q2 hT (ru.monoZ q1) (rw'.monoZ q1)
  stop := fun F' H' q1 _ q2 => ⟨vs, ws, SqL.of (q2 _ _ (q1 _ _ h1)), SqL.of (q2 _ _ (q1 _ _ h2)), by
    rw [List.length_zipWith, r1.length, r2.length]; omega⟩
theorem itok_zipT {K : PySem.W.Frag} {A B : Addr} {P : List Addr} {H0 : Hp} {vs ws : List V} {xs ys : List D} (h1 : F A = some (.tup vs)) (h2 : F B = some (.tup ws)) (r1 : ROs G F H [] vs xs) (r2 : ROs G F H [] ws ys) : ItOk G (RZ.ItzT K A B) F P H0 (List.zipWith (fun x y => .tup [x, y]) xs ys) where
  go := fun F' H' k d q1 _ q2 q3 => by
    obtain ⟨x, y, e1, e2, rfl⟩ := zipW_get q3
    obtain ⟨u, hu, ru⟩ := r1.get e1
    obtain ⟨w, hw, rw'⟩ := r2.get e2
    refine ⟨⟨vs, ws, u, w, SqT.of (q2 _ _ (q1 _ _ h1)), SqT.of (q2 _ _ (q1 _ _ h2)), hu, hw⟩, fun v H2 yl => ?_⟩
    obtain ⟨T, x', y', rfl, hT, rfl, f1, f2⟩ := yl
    have g1 := f1 vs (SqT.of (q2 _ _ (q1 _ _ h1)))
    have g2 := f2 ws (SqT.of (q2 _ _ (q1 _ _ h2)))
    rw [hu] at g1; rw [hw] at g2
    cases g1; cases g2
    exact pair_new q2 hT (ru.monoZ q1) (rw'.monoZ q1)
  stop := fun F' H' q1 _ q2 => ⟨vs, ws, SqT.of (q2 _ _ (q1 _ _ h1)), SqT.of (q2 _ _ (q1 _ _ h2)), by
    rw [List.length_zipWith, r1.length, r2.length]; omega⟩
theorem si_zip2 {elts : List Expr} {kk : Nat} {tpos : Pos} (C : Cn X N sc fr) (h1 : ("zip" : Str) ∈ fr) (h2 : glB sc "zip" = true) (ha : SE X g W a m) (hb : SE X g W b n) (hs : starEach [a, b] X.env = (false, eval a X.env) :: starEach [b] X.env) (hs2 : starEach [b] X.env = (false, eval b X.env) :: starEach [] X.env) (hpl : (backTo pos (starEach [b] X.env)).any (·.1) = false) :
    SI X g W (.Tuple elts kk tpos) (.Call (.Name "zip" p2) [a, b] [] pos) (mZip2 m n) := PI.imp (RZ.pi_zipA (gl_ok C h2) (C.hfr _ h1) (pa_cons ha.z (pa_cons hb.z pa_nil hs2) hs) hs hpl) fun σ H R ⟨F, fp, e, s, h⟩ => by
  refine ⟨F, fp, e, s, ?_⟩
  unfold mZip2 at h
  cases q : m e with
  | ex c d e1 => rw [q] at h; exact h
  | no => rw [q] at h; exact h
  | ok d1 e1 =>
    rw [q] at h
    intro x F1 H1 fp1 s1 r1 tr1
    refine ⟨F1, fp1, e1, s1, ?_⟩
    simp only at h
    cases q1 : n e1 with
    | ex c d e2 => rw [q1] at h; exact XOut.trans h tr1
    | no => rw [q1] at h; exact h
    | ok d2 e2 =>
      rw [q1] at h
      intro y F2 H2 fp2 s2 r2 tr2
      simp only at h
      have r1 := r1.mono (F' := F2) (H' := H2) tr2.ff fun a z => nomatch z
      generalize frz d1 = z1 at h r1
      generalize frz d2 = z2 at h r2
      cases z1 with
      | tup xs =>
        cases z2 with
        | tup ys =>
          obtain ⟨A, vs, rfl, ha, ra⟩ := r1.tup_inv
          obtain ⟨B, ws, rfl, hb, rb⟩ := r2.tup_inv
          exact ⟨A, B, vs, ws, rfl, .inr ⟨SqT.of (s2.sub _ _ ha), SqT.of (s2.sub _ _ hb), h _ F2 H2 fp2 [] s2 rfl (tr1.trans tr2).nil (itok_zipT ha hb ra rb)⟩⟩
        | _ => exact h.elim
      | lst o xs =>
        cases z2 with
        | lst o2 ys =>
          obtain ⟨_, A, vs, rfl, ha, ra⟩ := r1.lst_inv
          obtain ⟨_, B, ws, rfl, hb, rb⟩ := r2.lst_inv
          exact ⟨A, B, vs, ws, rfl, .inl ⟨SqL.of (s2.sub _ _ ha), SqL.of (s2.sub _ _ hb), h _ F2 H2 fp2 [] s2 rfl (tr1.trans tr2).nil (itok_zipL ha hb ra rb)⟩⟩
        | _ => exact h.elim
      | _ => exact h.elim
/-! ### l.index(x) -/
def indexD : D → D → Option D
  | .lst _ ys, a => if eqOk 60 a && eqOks 59 ys then (ys.findIdx? fun z => eqvD z a).map fun j => .int (j : Nat) else none
  | _, _ => none
def mIdx (k : Nat) (ob : Op) : ME := fun e => match e[k]? with
  | some (some (.lst _ _)) => (ob.run e).bind fun p e1 => (PV.v k).see e1 fun dl e2 => p.see e2 fun d e3 => RE.of (indexD dl d) e3
  | _ => .no
theorem pds_get : ∀ {ds : List D} {k : Nat} {z : PyData}, (pds ds)[k]? = some z → ∃ d, ds[k]? = some d ∧ z = pd d
  | [], _, _, h => by cases h
  | d :: ds, 0, _, h => by injection h with h; exact ⟨d, rfl, h.symm⟩
  | d :: ds, k + 1, _, h => pds_get (ds := ds) (k := k) h
theorem eqOks_get {n : Nat} : ∀ {ds : List D} {k : Nat} {d : D}, eqOks n ds = true → ds[k]? = some d → eqOk n d = true
  | [], _, _, _, h => by cases h
  | d :: ds, k, d', h, hk => by
    have h2 : (eqOk n d && eqOks n ds) = true := by cases n <;> exact h
    rw [Bool.and_eq_true] at h2
    cases k with
    | zero => injection hk with hk; rw [← hk]; exact h2.1
    | succ k => exact eqOks_get h2.2 hk
theorem hr_index {x y : V} {dl d1 d : D} {Q : VK} (s : Sb F H) (r1 : RB G F H x dl) (r2 : RB G F H y d1) (h : indexD dl d1 = some d) (k : KR G F H d Q) : rIndexD G.K x [y] H Q := by
  cases dl <;> first | (cases h; done) | skip
  rename_i o ys
  have h : (if eqOk 60 d1 && eqOks 59 ys then (ys.findIdx? fun z => eqvD z d1).map (fun j => D.int (j : Nat)) else none) = some d := h
  split at h
  · rename_i he
    rw [Bool.and_eq_true] at he
    cases q : ys.findIdx? (fun z => eqvD z d1) with
    | none => rw [q] at h; cases h
    | some j =>
      rw [q] at h
      injection h with h; subst h
      obtain ⟨hj, h1, h2⟩ := List.findIdx?_eq_some_iff_getElem.mp q
      obtain ⟨_, a, vs, rfl, ha, ra⟩ := r1.lst_inv s
      have hl : ∀ {ds : List D}, (pds ds).length = ds.length := by
        intro ds
        induction ds with
        | nil => rfl
        | cons d ds ih => exact congrArg (· + 1) ih
      have gp : ∀ {ds : List D} {k : Nat} {d : D}, ds[k]? = some d → (pds ds)[k]? = some (pd d) := by
        intro ds
        induction ds with
        | nil => intro k d h; cases h
        | cons d ds ih =>
          intro k d' h
          cases k with
          | zero => injection h with h; subst h; rfl
          | succ k => exact ih h
      refine ⟨a, y, pd d1, pds ys, j, pd ys[j], rfl, rfl, dp_ofB (n := 60) (d := .lst o ys) s r1 he.2, dp_ofB s r2 he.1, shaped_of (n := 60) (d := .lst o ys) he.2 (by decide), shaped_of he.1 (by decide), gp (List.getElem?_eq_getElem hj), ?_, fun m z' hm hz => ?_, k.z s (.int _)⟩
      · rw [eqv_of 59 _ d1 60 (eqOks_get he.2 (List.getElem?_eq_getElem hj)) he.1]; exact h1
      · obtain ⟨d', e1, e2⟩ := pds_get hz
        subst e2
        rw [eqv_of 59 d' d1 60 (eqOks_get he.2 e1) he.1]
        have := h2 m hm
        have hm' : m < ys.length := Nat.lt_trans hm hj
        rw [List.getElem?_eq_getElem hm'] at e1
        injection e1 with e1
        subst e1
        simpa using this
  · cases h
theorem RO.lst_any {p : List Addr} {v : V} {o : Bool} {ds : List D} (s : Sb F H) (r : RO G F H p v (.lst o ds)) : ∃ a vs, v = .ref a ∧ H a = some (.lst vs) := by
  cases r with
  | lz e r => exact ⟨_, _, rfl, s _ _ e⟩
  | lo e r => exact ⟨_, _, rfl, e⟩
theorem se_index {k : Nat} {x : Str} (C : Cn X N sc fr) (hx : varB N sc k x = true) (hb : SOp X g W a ob) (hs : starEach [a] X.env = (false, eval a X.env) :: starEach [] X.env) (hl : (p3.endLine == pos.line) = true) :
    SE X g W (.Call (.Attribute (.Name x p2) "index" p3) [a] [] pos) (mIdx k ob) := PE.imp (pe_bm PySem.F.plainAttrs_list PySem.F.slot_list_index PySem.F.type_list_index (mt_indexD C.hu65) (pv_ok C hx) (pa_cons hb pa_nil hs) rfl (fewOk hs) hl hs) fun σ H Q h => by
  obtain ⟨F, fp, e, s, h⟩ := RdE.iff.mp h
  unfold mIdx at h
  cases q : e[k]? with
  | none => rw [q] at h; exact h.elim
  | some o =>
    cases o with
    | none => rw [q] at h; exact h.elim
    | some d0 =>
      cases d0 with
      | lst o xs0 =>
        rw [q] at h
        simp only at h
        obtain ⟨v, hv, r0⟩ := s.rep k _ q
        refine ⟨v, hv, ?_, ?_⟩
        · obtain ⟨a0, vs0, rfl, e0⟩ := r0.lst_any s.sub
          exact .inl ⟨rfl, _, SqL.of e0⟩
        · refine RdO.step ob s ?_
          cases q1 : ob.run e with
          | ok p e1 =>
            rw [q1] at h
            rw [RP.bind_ok] at h
            intro y F1 H1 fp1 s1 tr1 pv
            have ne := EOut.ne h
            obtain ⟨dl, e2, F2, fp2, s2, b2, tr2, kk⟩ := PV.see_ok (p := .v k) s1 hv rfl ne
            rw [← kk] at h
            have ne2 := EOut.ne h
            obtain ⟨d, e3, F3, fp3, s3, b3, tr3, kk3⟩ := PV.see_ok s2 (pv.mono tr2.ff) rfl ne2
            rw [← kk3] at h
            cases q5 : indexD dl d with
            | none => rw [q5] at h; exact h.elim
            | some dr =>
              rw [q5] at h
              have b2 := b2.mono tr3.ff fun _ _ z => z
              have kr := SO.kr (d := dr) s3 (Q := Q) ?_
              · exact hr_index s3.sub b2 b3 q5 kr
              · exact fun v F' H' fp' p s' t' tr => h v F' H' fp' p s' t' ((tr1.trans (tr2.trans tr3)).trans tr)
          | ex c d e1 => rw [q1] at h; exact h
          | no => rw [q1] at h; exact h.elim
      | _ => rw [q] at h; exact h.elim
end
end EV

/-! EvP: items of items of one's own lists; calls by keywords. -/
namespace EV
open PySem PySem.Spec PyProof.Rows L2
inductive IA where
  | s (i : Nat) | c (n : Int)
def ixAt : IA → DEnv → Option Int
  | .s i, e => match e[i]? with
    | some (some (.int n)) => some n
    | _ => none
  | .c n, _ => some n
def RdX : IA → TE
  | .s i => tVar i
  | .c n => tC (.int n)
def mIx2 (k : Nat) (i j : IA) : ME := fun e => match e[k]? with
  | some (some (.lst true rows)) => match ixAt i e with
    | some a => match ixAt j e with
      | some b => match atI rows a with
        | some (.lst true xs) => match atI xs b with
          | some d => if fzs xs = true then .ok d e else .no
          | none => .no
        | _ => .no
      | none => .no
    | none => .no
  | _ => .no
def mSet2 (k : Nat) (i j : IA) (m : ME) : MS := fun e => (m e).toS fun d e1 => match e1[k]? with
  | some (some (.lst true rows)) => match ixAt i e1 with
    | some a => match ixAt j e1 with
      | some b => match ixN rows.length a with
        | some r => match rows[r]? with
          | some (.lst true xs) => match ixN xs.length b with
            | some q => if (fzs xs && fz d) = true then .nx (e1.set k (some (.lst true (rows.set r (.lst true (xs.set q d)))))) else .no
            | none => .no
          | _ => .no
        | none => .no
      | none => .no
    | none => .no
  | _ => .no
section
variable {X : Cx} {N : List Str} {sc : Scope} {fr : List Str} {g : GF} {G : GI} {W : WX} {L : List Nat} {a b c : Expr} {es : List Expr} {pos p2 p3 p4 p5 : Pos} {oa ob : Op} {m n t : ME} {F H F1 H1 F' H' : Hp} {fp fp1 fp' : Nat → List Addr} {σ σ1 : L2.St} {e e' : DEnv} {Dn : Ends}
abbrev SX (X : Cx) (e : Expr) (i : IA) : Prop := PE X e (RdX i)
theorem sx_s (C : Cn X N sc fr) {i : Nat} {x : Str} (h : varB N sc i x = true) : SX X (.Name x pos) (.s i) := pv_ok C h
theorem sx_c {i : Int} {j : Nat} : SX X (.Constant (.int i) j pos) (.c i) := pe_int
theorem RdX.of {ia : IA} {n : Int} {Q : VK} (s : SO G F H fp σ e) (h : ixAt ia e = some n) (q : Q (.int n) H) : RdX ia σ H Q := by
  cases ia with
  | s i =>
    unfold ixAt at h
    simp only at h
    cases q1 : e[i]? with
    | none => rw [q1] at h; cases h
    | some o =>
      cases o with
      | none => rw [q1] at h; cases h
      | some d =>
        cases d <;> (rw [q1] at h; first | cases h; done | skip)
        obtain ⟨v, hv, r⟩ := s.rep i _ q1
        injection h with h; subst h
        exact ⟨v, hv, by rw [r.int_inv]; exact q⟩
  | c i =>
    injection h with h; subst h
    exact q
theorem ROs.own_at : ∀ {fs : List Addr} {vs : List V} {ds : List D} {n : Nat} {xs : List D}, ROs G F H fs vs ds → fs.Nodup → ds[n]? = some (.lst true xs) → fzs xs = true →
    ∃ a ws, vs[n]? = some (.ref a) ∧ a ∈ fs ∧ H a = some (.lst ws) ∧ ROs G F H [] ws xs ∧ ∀ ws' xs', ROs G F H [] ws' xs' → ROs G F (upd H a (.lst ws')) fs vs (ds.set n (.lst true xs'))
  | _, _, [], n, _, _, _, h, _ => by cases h
  | _, _, d :: ds, 0, xs, rs, nd, h, hz => by
    injection h with h; subst h
    obtain ⟨v, ws, f, fs, rfl, rfl, r1, r2⟩ := rs.invD
    obtain ⟨n1, n2, n3⟩ := List.nodup_append.mp nd
    obtain ⟨a, us, f1, rfl, ef, ha, ru⟩ := r1.lo_inv
    subst ef
    have e1 := ru.nil_of_fz hz
    subst e1
    refine ⟨a, us, rfl, List.mem_append_left _ (List.mem_cons_self ..), ha, ru, fun ws' xs' r' => .cons (.lo upd_same (r'.mono (fun _ _ z => z) fun c z => nomatch z)) (r2.mono (fun _ _ z => z) fun c z o w => ?_)⟩
    rw [upd_ne]
    · exact w
    · intro u; subst u; exact n3 c (List.mem_cons_self ..) c z rfl
  | _, _, d :: ds, n + 1, xs, rs, nd, h, hz => by
    obtain ⟨v, ws, f, fs, rfl, rfl, r1, r2⟩ := rs.invD
    obtain ⟨n1, n2, n3⟩ := List.nodup_append.mp nd
    obtain ⟨a, us, h1, h2, h3, h4, h5⟩ := ROs.own_at (n := n) r2 n2 h hz
    refine ⟨a, us, h1, List.mem_append_right _ h2, h3, h4, fun ws' xs' r' => .cons (r1.mono (fun _ _ z => z) fun c z o w => ?_) (h5 ws' xs' r')⟩
    rw [upd_ne]
    · exact w
    · intro u; subst u; exact n3 c z c h2 rfl
theorem atI_some {α : Type} {xs : List α} {i : Int} {d : α} (h : atI xs i = some d) : ∃ r, ixN xs.length i = some r ∧ xs[r]? = some d := by
  unfold atI at h
  cases q : ixN xs.length i with
  | none => rw [q] at h; cases h
  | some r => rw [q] at h; exact ⟨r, rfl, h⟩
theorem atI_of {α : Type} {xs : List α} {i : Int} {d : α} {r : Nat} (h : ixN xs.length i = some r) (h2 : xs[r]? = some d) : atI xs i = some d := by
  unfold atI; rw [h]; exact h2
theorem se_ix2 {k : Nat} {x : Str} {i j : IA} (C : Cn X N sc fr) (hx : varB N sc k x = true) (ha : SX X a i) (hb : SX X b j) (hs1 : PlainIx a) (hs2 : PlainIx b) : SE X g W (.Subscript (.Subscript (.Name x p2) a p3) b pos) (mIx2 k i j) :=
  PE.imp (pe_ix ix_list (pe_ix ix_list (pv_ok C hx) ha hs1) hb hs2) fun σ H Q h => by
  obtain ⟨F, fp, e, s, h⟩ := RdE.iff.mp h
  unfold mIx2 at h
  cases q : e[k]? with
  | none => rw [q] at h; exact h.elim
  | some o =>
    cases o with
    | none => rw [q] at h; exact h.elim
    | some d0 =>
      cases d0 with
      | lst o rows =>
        cases o with
        | false => rw [q] at h; exact h.elim
        | true =>
          rw [q] at h
          simp only at h
          cases q1 : ixAt i e with
          | none => rw [q1] at h; exact h.elim
          | some ai =>
            cases q2 : ixAt j e with
            | none => rw [q1, q2] at h; exact h.elim
            | some bi =>
              rw [q1, q2] at h
              simp only at h
              cases q3 : atI rows ai with
              | none => rw [q3] at h; exact h.elim
              | some dr =>
                cases dr with
                | lst o xs =>
                  cases o with
                  | false => rw [q3] at h; exact h.elim
                  | true =>
                    rw [q3] at h
                    simp only at h
                    cases q4 : atI xs bi with
                    | none => rw [q4] at h; exact h.elim
                    | some d =>
                      rw [q4] at h
                      simp only at h
                      split at h
                      · rename_i hz
                        obtain ⟨v, hv, r⟩ := s.rep k _ q
                        obtain ⟨A, vs, fs, rfl, ep, ha, rs⟩ := r.lo_inv
                        have nd := s.nd k
                        rw [ep] at nd
                        obtain ⟨r1, e1, e2⟩ := atI_some q3
                        obtain ⟨B, ws, g1, g2, g3, g4, _⟩ := rs.own_at (List.nodup_cons.mp nd).2 e2 hz
                        obtain ⟨r2, e3, e4⟩ := atI_some q4
                        obtain ⟨u, hu, ru⟩ := g4.get e4
                        refine ⟨_, hv, RdX.of s q1 ⟨A, vs, ai, .ref B, rfl, rfl, SqL.of ha, atI_of (r := r1) (by rw [rs.length]; exact e1) g1, RdX.of s q2 ⟨B, ws, bi, u, rfl, rfl, SqL.of g3, atI_of (r := r2) (by rw [g4.length]; exact e3) hu, ?_⟩⟩⟩
                        exact h u F H fp [] s (TO.z ru) Tr.refl.nil
                      · exact h.elim
                | _ => rw [q3] at h; exact h.elim
      | _ => rw [q] at h; exact h.elim
theorem ss_sub2 {k : Nat} {x : Str} {i j : IA} (C : Cn X N sc fr) (hx : varB N sc k x = true) (hi : SX X a i) (hj : SX X b j) (hp1 : PlainIx a) (hv : SE X g W c m) (hs : swapsWithSole [.Subscript (.Subscript (.Name x p2) a p3) b p4] c pos.line X.env = pure false) (hw : swappedStores [.Subscript (.Subscript (.Name x p2) a p3) b p4] c X.env = pure none)
    (h1 : (assignEach [.Subscript (.Subscript (.Name x p2) a p3) b p4] X.env).map (·.2) = [assign (.Subscript (.Subscript (.Name x p2) a p3) b p4) X.env])
    (ha : ∀ v, assign (.Subscript (.Subscript (.Name x p2) a p3) b p4) X.env v = (do
      let ov ← holding [v] (eval (.Subscript (.Name x p2) a p3) X.env)
      let iv ← holding [v, ov] (eval b X.env)
      standAt p4
      holding [v, ov, iv] (setItem ov iv v)
      release [v, ov, iv] [])) : SS X g W L (.Assign [.Subscript (.Subscript (.Name x p2) a p3) b p4] c pos) (mSet2 k i j m) :=
  PS.imp (ps_asg hv (pg_sub (pe_ix ix_list (pv_ok C hx) hi hp1) hj set_list ha) hs hw h1) fun D σ H ⟨F, fp, e, s, h⟩ => by
  refine RdE.iff.mpr ⟨F, fp, e, s, ?_⟩
  unfold mSet2 at h
  cases q : m e with
  | ex c d e1 => rw [q] at h; exact h.x
  | no => rw [q] at h; exact h
  | ok d e1 =>
    rw [q] at h
    rw [RE.toS_ok] at h
    intro v F1 H1 fp1 p s1 t1 tr1
    cases q0 : e1[k]? with
    | none => rw [q0] at h; exact h.elim
    | some o =>
      cases o with
      | none => rw [q0] at h; exact h.elim
      | some d0 =>
        cases d0 with
        | lst o rows =>
          cases o with
          | false => rw [q0] at h; exact h.elim
          | true =>
            rw [q0] at h
            simp only at h
            cases q1 : ixAt i e1 with
            | none => rw [q1] at h; exact h.elim
            | some ai =>
              cases q2 : ixAt j e1 with
              | none => rw [q1, q2] at h; exact h.elim
              | some bi =>
                rw [q1, q2] at h
                simp only at h
                cases q3 : ixN rows.length ai with
                | none => rw [q3] at h; exact h.elim
                | some r =>
                  rw [q3] at h
                  simp only at h
                  cases q4 : rows[r]? with
                  | none => rw [q4] at h; exact h.elim
                  | some dr =>
                    cases dr with
                    | lst o xs =>
                      cases o with
                      | false => rw [q4] at h; exact h.elim
                      | true =>
                        rw [q4] at h
                        simp only at h
                        cases q5 : ixN xs.length bi with
                        | none => rw [q5] at h; exact h.elim
                        | some qq =>
                          rw [q5] at h
                          simp only at h
                          split at h
                          · rename_i hz
                            rw [Bool.and_eq_true] at hz
                            obtain ⟨u, hu, ro⟩ := s1.rep k _ q0
                            obtain ⟨A, vs, fs, rfl, ep, ha, rs⟩ := ro.lo_inv
                            have nd := s1.nd k
                            rw [ep] at nd
                            obtain ⟨n1, n2⟩ := List.nodup_cons.mp nd
                            obtain ⟨B, ws, g1, g2, g3, g4, g5⟩ := rs.own_at n2 q4 hz.1
                            have ez : p = [] := t1.r.nil_of_fz hz.2
                            subst ez
                            have hAB : A ≠ B := fun w => n1 (w ▸ g2)
                            have rn : ROs (gOf X g) F1 H1 [] (ws.set qq v) (xs.set qq d) := by
                              obtain ⟨w, w1, w2, w3⟩ := ROs.put t1.r (j := qq) g4 (ixN_seq q5).2.1 List.nodup_nil List.nodup_nil fun c z => nomatch z
                              have : w = [] := List.eq_nil_iff_forall_not_mem.mpr fun c z => (w3 c z).elim (fun z => nomatch z) fun z => nomatch z
                              subst this
                              exact w1
                            refine ⟨_, hu, RdX.of s1 q1 ⟨A, vs, ai, .ref B, rfl, rfl, SqL.of ha, atI_of (r := r) (by rw [rs.length]; exact q3) g1, RdX.of s1 q2 ⟨B, ws, bi, qq, rfl, rfl, g3, by rw [g4.length]; exact q5, ?_⟩⟩⟩
                            have hH : ∀ b o, b ∉ fp1 k → H1 b = some o → upd H1 B (.lst (ws.set qq v)) b = some o := fun b o z w => by
                              rw [upd_ne]
                              · exact w
                              · intro y; subst y; rw [ep] at z; exact z (List.mem_cons_of_mem _ g2)
                            have sub : ∀ c, c ∈ A :: fs → c ∈ fp1 k ∨ c ∈ ([] : List Addr) := fun c z => .inl (by rw [ep]; exact z)
                            have rnew : RO (gOf X g) F1 (upd H1 B (.lst (ws.set qq v))) (A :: fs) (.ref A) (.lst true (rows.set r (.lst true (xs.set qq d)))) := .lo (by rw [upd_ne hAB]; exact ha) (g5 _ _ rn)
                            have s2 := s1.mutate (p := []) q0 hu (fun c z => nomatch z) hH rnew nd sub
                            exact h σ F1 _ _ s2 (fun _ _ => rfl) ((tr1.drop fun c z => z).trans (Tr.mutate (p := []) (O := fun _ => True) hH sub))
                          · exact h.elim
                    | _ => rw [q4] at h; exact h.elim
        | _ => rw [q0] at h; exact h.elim
end
end EV

/-! EvQ: calls by keywords. -/
namespace EV
open PySem PySem.Spec PyProof.Rows L2
inductive KS where
  | a (i : Nat) | d (k : Nat)
/-- the parameters' values: from the written arguments, from the defaults -/
def genL {α : Type} (x0 : α) (dfl : List α) : List KS → List α → List α
  | [], _ => []
  | .a i :: r, us => us.getD i x0 :: genL x0 dfl r us
  | .d k :: r, us => dfl.getD k x0 :: genL x0 dfl r us
inductive RZs where
  | ok (ds : List D) (e : DEnv) | ex (c : Nat) (d : D) (e : DEnv) | no
def mZs : List ME → DEnv → RZs
  | [], e => .ok [] e
  | m :: ms, e => match m e with
    | .ok d e1 => match mZs ms e1 with
      | .ok ds e2 => .ok (frz d :: ds) e2
      | .ex c d e2 => .ex c d e2
      | .no => .no
    | .ex c d e1 => .ex c d e1
    | .no => .no
def mCallK (C : List D → RC) (dfl : List D) (src : List KS) (ms : List ME) : ME := fun e => match mZs ms e with
  | .ok ds e1 => match C (genL .non dfl src ds) with
    | .ok d _ => .ok d e1
    | .ex c d _ => .ex c d e1
    | .no => .no
  | .ex c d e1 => .ex c d e1
  | .no => .no
def tZs (G : GI) (W : WX) : List ME → TA
  | [] => tNil
  | m :: ms => tCons (RdZ G W m) (tZs G W ms)
section
variable {X : Cx} {N : List Str} {sc : Scope} {fr : List Str} {g : GF} {G : GI} {W : WX} {L : List Nat} {a b c : Expr} {es : List Expr} {kws : List Keyword} {pos p2 p3 p4 p5 : Pos} {F H F1 H1 F' H' : Hp} {fp fp1 fp' : Nat → List Addr} {σ σ1 : L2.St} {e e' : DEnv}
theorem Vals.getD' : ∀ {vs : List V} {us : List Value} (i : Nat), Vals vs us → RelV (vs.getD i .non) (us.getD i .none)
  | [], _, i, r => by cases r; exact rfl
  | v :: vs, _, 0, r => by cases r with | cons a b => exact a
  | v :: vs, _, i + 1, r => by cases r with | cons a b => exact Vals.getD' i b
theorem gen_vals {dv vs : List V} {du us : List Value} (hd : Vals dv du) (h : Vals vs us) : ∀ src, Vals (genL .non dv src vs) (genL .none du src us)
  | [] => .nil
  | .a i :: r => .cons (Vals.getD' i h) (gen_vals hd h r)
  | .d i :: r => .cons (Vals.getD' i hd) (gen_vals hd h r)
theorem ROs.getD' : ∀ {vs : List V} {ds : List D} (i : Nat), ROs G F H [] vs ds → RO G F H [] (vs.getD i .non) (ds.getD i .non)
  | [], [], i, _ => by simp; exact .non
  | [], _ :: _, _, r => nomatch r.length
  | _ :: _, [], _, r => nomatch r.length
  | v :: vs, d :: ds, 0, r => r.unconsZ.1
  | v :: vs, d :: ds, i + 1, r => ROs.getD' i r.unconsZ.2
theorem gen_ROs {dv vs : List V} {dd ds : List D} (hd : ROs G F H [] dv dd) (h : ROs G F H [] vs ds) : ∀ src, ROs G F H [] (genL .non dv src vs) (genL .non dd src ds)
  | [] => .nil
  | .a i :: r => ROs.consZ (ROs.getD' i h) (gen_ROs hd h r)
  | .d i :: r => ROs.consZ (ROs.getD' i hd) (gen_ROs hd h r)
theorem genL_length {α : Type} {x0 : α} {dfl us : List α} : ∀ src, (genL x0 dfl src us).length = src.length
  | [] => rfl
  | .a i :: r => congrArg (· + 1) (genL_length r)
  | .d i :: r => congrArg (· + 1) (genL_length r)
abbrev SZs (X : Cx) (g : GF) (W : WX) (es : List Expr) (ms : List ME) : Prop := PA X es (tZs (gOf X g) W ms)
theorem sz_nil : SZs X g W [] [] := pa_nil
theorem sz_cons {m : ME} {ms : List ME} (ha : SE X g W a m) (hr : SZs X g W es ms) (hs : starEach (a :: es) X.env = (false, eval a X.env) :: starEach es X.env) : SZs X g W (a :: es) (m :: ms) := pa_cons ha.z hr hs
abbrev SKs (X : Cx) (g : GF) (W : WX) (kws : List Keyword) (ms : List ME) : Prop := PK X kws (tZs (gOf X g) W ms)
theorem sk_nil : SKs X g W [] [] := pk_nil
theorem sk_cons {nm : Option Str} {m : ME} {ms : List ME} (ha : SE X g W a m) (hr : SKs X g W kws ms) : SKs X g W (⟨nm, a, p2⟩ :: kws) (m :: ms) := pk_cons ha.z hr
/-- the written values, all of them -/
def ZOut (G : GI) (W : WX) (σ : L2.St) (F H : Hp) (fp : Nat → List Addr) (Q : List V → Hp → Prop) : RZs → Prop
  | .ok ds e' => ∀ vs F' H' fp', SO G F' H' fp' σ e' → ROs G F' H' [] vs ds → Tr F H (own fp) F' H' (own fp') → Q vs H'
  | .ex c d e' => XOut G W σ F H fp c d e'
  | .no => False
theorem zs_run : ∀ {ms : List ME} {F H : Hp} {fp : Nat → List Addr} {e : DEnv} {Q : List V → Hp → Prop}, SO G F H fp σ e → ZOut G W σ F H fp Q (mZs ms e) → tZs G W ms σ H Q
  | [], F, H, fp, e, Q, s, h => h [] F H fp s .nil Tr.refl
  | m :: ms, F, H, fp, e, Q, s, h => by
    refine ⟨F, fp, e, s, ?_⟩
    unfold mZs at h
    cases q : m e with
    | ex c d e1 => rw [q] at h; exact h
    | no => rw [q] at h; exact h
    | ok d e1 =>
      rw [q] at h
      intro v F1 H1 fp1 s1 r1 tr1
      simp only at h
      refine zs_run s1 ?_
      cases q1 : mZs ms e1 with
      | ex c d2 e2 => rw [q1] at h; exact XOut.trans h tr1
      | no => rw [q1] at h; exact h
      | ok ds e2 =>
        rw [q1] at h
        exact fun vs F2 H2 fp2 s2 r2 tr2 => h (v :: vs) F2 H2 fp2 s2 (ROs.consZ (r1.mono tr2.ff fun a z => nomatch z) r2) (tr1.trans tr2)
theorem mZs_app : ∀ {ms1 ms2 : List ME} {e : DEnv}, mZs (ms1 ++ ms2) e = match mZs ms1 e with
    | .ok ds e1 => match mZs ms2 e1 with
      | .ok ds2 e2 => .ok (ds ++ ds2) e2
      | .ex c d e2 => .ex c d e2
      | .no => .no
    | .ex c d e1 => .ex c d e1
    | .no => .no
  | [], ms2, e => by
    show mZs ms2 e = match mZs ms2 e with
      | .ok ds2 e2 => RZs.ok ([] ++ ds2) e2
      | .ex c d e2 => .ex c d e2
      | .no => .no
    cases mZs ms2 e <;> rfl
  | m :: ms1, ms2, e => by
    show (match m e with
      | .ok d e1 => match mZs (ms1 ++ ms2) e1 with
        | .ok ds e2 => RZs.ok (frz d :: ds) e2
        | .ex c d e2 => .ex c d e2
        | .no => .no
      | .ex c d e1 => .ex c d e1
      | .no => .no) = match (match m e with
      | .ok d e1 => match mZs ms1 e1 with
        | .ok ds e2 => RZs.ok (frz d :: ds) e2
        | .ex c d e2 => .ex c d e2
        | .no => .no
      | .ex c d e1 => .ex c d e1
      | .no => .no) with
      | .ok ds e1 => match mZs ms2 e1 with
        | .ok ds2 e2 => .ok (ds ++ ds2) e2
        | .ex c d e2 => .ex c d e2
        | .no => .no
      | .ex c d e1 => .ex c d e1
      | .no => .no
    cases m e with
    | ok d e1 =>
      simp only
      rw [mZs_app (ms1 := ms1)]
      cases mZs ms1 e1 with
      | ok ds e2 =>
        simp only
        cases mZs ms2 e2 <;> rfl
      | ex c d e2 => rfl
      | no => rfl
    | ex c d e1 => rfl
    | no => rfl
theorem callK_plain {C : List D → RC} {mask : List Bool} {dfl : List D} {dvs : List V} {src : List KS} {ms1 ms2 : List ME} (hm : src.length = mask.length) (hz : ∀ F H, ROs G F H [] dvs dfl) {Q : VK} (h : RdE G W (mCallK C dfl src (ms1 ++ ms2)) σ H Q) :
    tZs G W ms1 σ H fun vs H1 => tZs G W ms2 σ H1 fun zs H2 => Prom G mask C (genL .non dvs src (vs ++ zs)) H2 Q (WE W σ) := by
  obtain ⟨F, fp, e, s, h⟩ := RdE.iff.mp h
  refine zs_run s ?_
  unfold mCallK at h
  rw [mZs_app] at h
  cases q : mZs ms1 e with
  | ex c d e1 => rw [q] at h; exact h
  | no => rw [q] at h; exact h
  | ok ds e1 =>
    rw [q] at h
    intro vs F1 H1 fp1 s1 r1 tr1
    refine zs_run s1 ?_
    simp only at h
    cases q1 : mZs ms2 e1 with
    | ex c d e2 => rw [q1] at h; exact XOut.trans h tr1
    | no => rw [q1] at h; exact h
    | ok ds2 e2 =>
      rw [q1] at h
      simp only at h
      intro zs F2 H2 fp2 s2 r2 tr2
      have r1 := r1.mono (F' := F2) (H' := H2) tr2.ff fun a z => nomatch z
      have r3 : ROs G F2 H2 [] (vs ++ zs) (ds ++ ds2) := r1.append r2
      have r4 := gen_ROs (hz F2 H2) r3 src
      refine ⟨by rw [genL_length]; exact hm, F2, [], _, r4, List.nodup_nil, (fun a z => nomatch z), s2.sub, ?_⟩
      have fin : ∀ {F' H' : Hp} {qv r : List Addr} {v : V} {d : D}, RO G F' H' qv v d → (qv ++ r).Nodup → (∀ a, a ∈ qv ++ r → F' a = none) → (∀ a o, F' a = some o → H' a = some o) → Tr F2 H2 (· ∈ ([] : List Addr)) F' H' (· ∈ qv ++ r) →
          SO G F' H' fp2 σ e2 ∧ TO G F' H' fp2 qv v d ∧ Tr F H (own fp) F' H' (fun a => own fp2 a ∨ a ∈ qv) := by
        intro F' H' qv r v d h1 h3 h4 h5 h6
        have s3 := s2.frame (p := []) (fun a z => nomatch z) h6 h5
        refine ⟨s3, ⟨h1, (List.nodup_append.mp h3).1, fun a z => h4 a (List.mem_append_left _ z), fun a z w => ?_⟩, ((tr1.trans tr2).trans (h6.weak (P := own fp2) (P1 := fun a => own fp2 a ∨ a ∈ qv) (fun a z => nomatch z) fun a z => z.elim .inr fun z => .inl (List.mem_append_left _ z)))⟩
        rcases h6.ow a (List.mem_append_left _ z) with u | u
        · exact nomatch u
        · obtain ⟨i, w⟩ := w
          obtain ⟨o, ho⟩ := s2.th i a w
          rw [u] at ho; cases ho
      cases q3 : C (genL .non dfl src (ds ++ ds2)) with
      | ok d fn =>
        rw [q3] at h
        intro v F' H' qv r h1 h2 h3 h4 h5 h6
        obtain ⟨s3, t3, tr3⟩ := fin h1 h3 h4 h5 h6
        exact h v F' H' fp2 qv s3 t3 tr3
      | ex c d fn =>
        rw [q3] at h
        intro dx v F' H' qv r h1 h2 h3 h4 h5 h6 hx
        obtain ⟨s3, t3, tr3⟩ := fin h1 h3 h4 h5 h6
        exact h dx v F' H' fp2 qv s3 t3 tr3 hx
      | no => rw [q3] at h; exact h.elim
theorem run_fnKS {pins : List (Addr × Obj)} {s : Shared} {Q : VK} {us ws : List Value} {vs zs : List V} {k n : Nat} {f : Addr} {fd : FuncData} {ps ks : List Str} {sp : Sp} {gW : List Value → List Value → List Value} {gV : List V → List V → List V} {CX : CXT} {E : XK} (FO : FnOk X.prog X.w X.K X.mg X.base CX k f fd ps sp) (hr : Room k X.A) (hb : KBn X.K fd ps n ks gW gV) (hx : PassesAt CX X σ E)
    (I : Inv X pins σ H s) (r : Vals vs us) (rz : Vals zs ws) (l1 : vs.length = n) (l2 : zs.length = ks.length) (h : sp (gV vs zs) H Q E) : wpAny (model X.prog X.w) X.A (call (.ref f) us (ks.zip ws)) (EP X pins σ Q) X.xe s := by
  have r2 := hb.rel r rz
  refine wpAny_call (codeAny_mono (FO.run X.A X.stack s H ⟨us, ks.zip ws⟩ (gW us ws) (gV vs zs) Q E hr I.env0 (hb.to s us ws I.kIn (r.length.symm.trans l1) (rz.length.symm.trans l2)) r2 h) fun r s' hq => ?_)
  cases r with
  | error e => exact hx pins H s e s' I hq
  | ok fl =>
    cases fl with
    | ret u => exact I.after hq
    | next => exact False.elim hq
    | brk => exact False.elim hq
    | cont => exact False.elim hq
theorem tZs_len : ∀ {ms : List ME} {H : Hp} {Q : List V → Hp → Prop}, tZs G W ms σ H Q → tZs G W ms σ H fun vs H1 => vs.length = ms.length ∧ Q vs H1
  | [], H, Q, h => ⟨rfl, h⟩
  | m :: ms, H, Q, h => by
    obtain ⟨F, fp, e, s, h⟩ := h
    refine ⟨F, fp, e, s, ?_⟩
    cases q : m e with
    | ex c d e1 => rw [q] at h; exact h
    | no => rw [q] at h; exact h
    | ok d e1 =>
      rw [q] at h
      exact fun v F1 H1 fp1 s1 r1 tr1 => tZs_imp (fun vs H2 z => ⟨congrArg (· + 1) z.1, z.2⟩) (tZs_len (h v F1 H1 fp1 s1 r1 tr1))
where tZs_imp : ∀ {ms : List ME} {H : Hp} {Q Q' : List V → Hp → Prop}, (∀ vs H1, Q vs H1 → Q' vs H1) → tZs G W ms σ H Q → tZs G W ms σ H Q'
  | [], H, Q, Q', i, h => i _ _ h
  | m :: ms, H, Q, Q', i, h => by
    obtain ⟨F, fp, e, s, h⟩ := h
    refine ⟨F, fp, e, s, ?_⟩
    cases q : m e with
    | ex c d e1 => rw [q] at h; exact h
    | no => rw [q] at h; exact h
    | ok d e1 =>
      rw [q] at h
      exact fun v F1 H1 fp1 s1 r1 tr1 => tZs_imp (fun vs H2 z => i _ _ z) (h v F1 H1 fp1 s1 r1 tr1)
/-- f(k = v, ..) -/
theorem se_callK0 {C : List D → RC} {mask : List Bool} {dfl : List D} {dvs : List V} {dus : List Value} {src : List KS} {ms : List ME} {k : Nat} {f : Addr} {fd : FuncData} {ps ks : List Str} {x : Str} (tk : Takes X W)
    (FO : FnOk X.prog X.w X.K X.mg X.base (L2.CX X.prog X.w) k f fd ps (Prom (gOf X g) mask C)) (hr : Room k X.A) (hg : Gl X x) (hm : X.mg x = some (.ref f)) (hk : PySem.W.keepIn X.K (.ref f) = true)
    (hb : KBn X.K fd ps 0 ks (fun us ws => genL .none dus src (us ++ ws)) fun vs zs => genL .non dvs src (vs ++ zs)) (hz : ∀ F H, ROs (gOf X g) F H [] dvs dfl) (hl : src.length = mask.length) (hn : ms.length = ks.length) (hkw : SKs X g W kws ms)
    (hall : (backToKw pos (keywordEach kws X.env)).all (·.1.isSome) = true) (hks : (backToKw pos (keywordEach kws X.env)).filterMap (·.1) = ks) (hdb : (x == ("__debug__" : Str)) = false)
    (hpl : ((backTo pos (starEach [] X.env)).any (·.1) || (backToKw pos (keywordEach kws X.env)).any (·.1.isNone)) = false) :
    SE X g W (.Call (.Name x p2) [] kws pos) (mCallK C dfl src ms) := by
  refine ⟨fun pins s σ H Q I h => ?_⟩
  have h := callK_plain (ms1 := []) (ms2 := ms) hl hz h
  refine wpAny_Call_Name_kw (ld_glob I hg hm ?_ hdb)
  refine PySem.W.callWith_KW0 (h₀ := X.base) I.ok.mod.kin hk hall ?_ hpl
  refine thn (hkw.run pos pins s σ H _ I (tZs_len h)) fun ws s2 ⟨zs, H2, I2, rz, l2, q2⟩ => ⟨I2.kIn, ?_⟩
  rw [hks]
  exact run_fnKS (us := []) (vs := []) FO hr hb (passAt tk σ) I2 .nil rz rfl (l2.trans hn) q2
/-- f(e, .., k = v, ..) -/
theorem se_callK {C : List D → RC} {mask : List Bool} {dfl : List D} {dvs : List V} {dus : List Value} {src : List KS} {ms1 ms : List ME} {k n : Nat} {f : Addr} {fd : FuncData} {ps ks : List Str} {x : Str} (tk : Takes X W)
    (FO : FnOk X.prog X.w X.K X.mg X.base (L2.CX X.prog X.w) k f fd ps (Prom (gOf X g) mask C)) (hr : Room k X.A) (hg : Gl X x) (hm : X.mg x = some (.ref f)) (hk : PySem.W.keepIn X.K (.ref f) = true)
    (hb : KBn X.K fd ps n ks (fun us ws => genL .none dus src (us ++ ws)) fun vs zs => genL .non dvs src (vs ++ zs)) (hz : ∀ F H, ROs (gOf X g) F H [] dvs dfl) (hl : src.length = mask.length) (hn1 : ms1.length = n) (hn : ms.length = ks.length) (ha : SZs X g W (a :: es) ms1) (hkw : SKs X g W kws ms)
    (hall : (backToKw pos (keywordEach kws X.env)).all (·.1.isSome) = true) (hks : (backToKw pos (keywordEach kws X.env)).filterMap (·.1) = ks) (hdb : (x == ("__debug__" : Str)) = false) (he : starEach (a :: es) X.env = (false, eval a X.env) :: starEach es X.env)
    (hpl : ((backTo pos (starEach (a :: es) X.env)).any (·.1) || (backToKw pos (keywordEach kws X.env)).any (·.1.isNone)) = false) :
    SE X g W (.Call (.Name x p2) (a :: es) kws pos) (mCallK C dfl src (ms1 ++ ms)) := by
  refine ⟨fun pins s σ H Q I h => ?_⟩
  have h := callK_plain (ms1 := ms1) (ms2 := ms) hl hz h
  refine wpAny_Call_Name_kw (ld_glob I hg hm ?_ hdb)
  refine PySem.W.callWith_KW (h₀ := X.base) I.ok.mod.kin hk hall (thn (ha.run pos pins s σ H _ I (tZs_len h)) fun us s1 ⟨vs, H1, I1, r, l1, q⟩ => ?_) hpl he
  refine thn (hkw.run pos pins s1 σ H1 _ I1 (tZs_len q)) fun ws s2 ⟨zs, H2, I2, rz, l2, q2⟩ => ⟨I2.kIn, ?_⟩
  rw [hks]
  exact run_fnKS FO hr hb (passAt tk σ) I2 r rz (l1.trans hn1) (l2.trans hn) q2
end
/-- a def without defaults, called by keywords -/
theorem kbn0 {K : PySem.W.Frag} {x qual : Str} {params : Arguments} {body : List Stmt} {scope : Scope} {kws : List (Str × V)} {f : Addr} {fd : FuncData} {ps ks : List Str} {n : Nat} {src : List KS} (Fd : FunD K x qual params body scope [] kws f fd)
    (h : ∀ (kV doc pm : Value) (an : Option Addr) (cdv ct : Value) (us ws : List Value), us.length = n → ws.length = ks.length → bindArgs (PySem.W.fnOf x qual params body scope .none kV doc pm an cdv ct) ⟨us, ks.zip ws⟩ = pure (ps.zip (genL .none [] src (us ++ ws)))) :
    KBn K fd ps n ks (fun us ws => genL .none [] src (us ++ ws)) fun vs zs => genL .non [] src (vs ++ zs) := by
  obtain ⟨oc, od, dV, kV, doc, pm, an, cdv, ct, osl, rfl, lk, hcd, hD, hK⟩ := Fd.ex
  rcases hD with ⟨_, rfl⟩ | ⟨e, _⟩
  · exact ⟨fun s us ws X l1 l2 => .of_eq (h kV doc pm an cdv ct us ws l1 l2), fun r1 r2 => gen_vals .nil (r1.append r2) src⟩
  · exact absurd rfl e
end EV

/-! EvR: the forms that a printed proof uses. -/
namespace EV
open PySem PySem.Spec PyProof.Rows L2
/-- within a def's body -/
structure Cf (X : Cx) (W : WX) (N : List Str) (sc : Scope) (fr : List Str) : Prop extends Cn X N sc fr where
  fnT : ∀ x, X.fn x = true
  tk : Takes X W
  po : PassesOwn (model X.prog X.w) X.A X.env X.xe
  stk : X.stack = X.env :: X.outer
  frm : X.env.frame = some X.env.locals
def locB (N : List Str) (sc : Scope) (i : Nat) (x : Str) : Bool := decide (N[i]? = some x) && (match sc.names.lookup x with
  | some .local => true
  | some .cell => true
  | _ => false)
def locL (N : List Str) (sc : Scope) (i : Nat) (x : Str) : Bool := decide (N[i]? = some x) && (match sc.names.lookup x with
  | some .local => true
  | _ => false)
def mFz (m : ME) : ME := fun e => match m e with
  | .ok d e1 => .ok (frz d) e1
  | .ex c d e1 => .ex c d e1
  | .no => .no
section
variable {X : Cx} {N : List Str} {sc : Scope} {fr : List Str} {g : GF} {G : GI} {W : WX} {L : List Nat} {a b c : Expr} {es : List Expr} {kws : List Keyword} {pos p2 p3 p4 p5 : Pos} {F H F1 H1 F' H' : Hp} {fp fp1 fp' : Nat → List Addr} {σ σ1 : L2.St} {e e' : DEnv} {m n t : ME} {ms ns : MS}
theorem locB_ok {i : Nat} {x : Str} (C : Cn X N sc fr) (h : locB N sc i x = true) : X.N[i]? = some x ∧ Loc X.env.scope x := by
  unfold locB at h
  rw [Bool.and_eq_true, decide_eq_true_eq] at h
  refine ⟨by rw [C.hN]; exact h.1, ?_⟩
  rw [C.hsc]
  have h2 := h.2
  split at h2
  · rename_i q; exact .inl q
  · rename_i q; exact .inr q
  · cases h2
theorem locL_ok {i : Nat} {x : Str} (C : Cn X N sc fr) (h : locL N sc i x = true) : X.N[i]? = some x ∧ X.env.scope.names.lookup x = some .local := by
  unfold locL at h
  rw [Bool.and_eq_true, decide_eq_true_eq] at h
  refine ⟨by rw [C.hN]; exact h.1, ?_⟩
  rw [C.hsc]
  have h2 := h.2
  split at h2
  · rename_i q; exact q
  · cases h2
theorem Cn.nd' (C : Cn X N sc fr) : X.N.Nodup := by rw [C.hN]; exact C.nd
theorem pg_f (C : Cf X W N sc fr) {i : Nat} {x : Str} (h : locB N sc i x = true) : PG X (.Name x pos) (gName i) := pg_name C.nd' (locB_ok C.toCn h).1 (locB_ok C.toCn h).2 (.inl (C.fnT x))
theorem pg_b (C : Cn X N sc fr) {i : Nat} {x : Str} (h : locL N sc i x = true) : PG X (.Name x pos) (gName i) := pg_name C.nd' (locL_ok C h).1 (.inl (locL_ok C h).2) (.inr (locL_ok C h).2)
theorem pg_bc (C : Cn X N sc fr) {i : Nat} {x : Str} (h : locB N sc i x = true) (hf : X.fn x = true) : PG X (.Name x pos) (gName i) := pg_name C.nd' (locB_ok C h).1 (locB_ok C h).2 (.inl hf)
theorem ss_setC {i : Nat} {x : Str} (C : Cf X W N sc fr) (hi : locB N sc i x = true) (h : SE X g W a m) (hL : i ∉ L) (hs : swapsWith a (some (.Name x p2)) pos.line X.env = pure false) : SS X g W L (.Assign [.Name x p2] a pos) (mAsg (.v i) m) :=
  ss_set C.nd' (locB_ok C.toCn hi).1 (locB_ok C.toCn hi).2 h hL hs (.inl (C.fnT x))
theorem ss_augC {k : Nat} {x : Str} {op : Operator} {f : Int → Int → Int} (C : Cf X W N sc fr) (hi : locB N sc k x = true) (h : SE X g W a m) (ho : PIp X op (ipI f)) (hL : k ∉ L) : SS X g W L (.AugAssign (.Name x p2) op a pos) (mAug k f m) :=
  ss_aug C.nd' (locB_ok C.toCn hi).1 (locB_ok C.toCn hi).2 h ho hL (.inl (C.fnT x))
/-- an environment of that scope -/
def envS (sc : Scope) : Env := { scope := sc, locals := 0, globals := 0, cells := [] }
theorem sw_env {ts : List Expr} {v : Expr} {env : Env} (h : env.scope = sc) : swappedStores ts v env = swappedStores ts v (envS sc) := by
  unfold swappedStores Env.blockKind Env.kindOf
  rw [h]
  rfl
theorem ss_parC {i j : Nat} {x y : Str} {px py pt : Pos} {kt k2 : Nat} {pt2 : Pos} {ms : List Ar} (C : Cf X W N sc fr) (hi : locL N sc i x = true) (hj : locL N sc j y = true) (hij : i ≠ j)
    (ha : SA X g W [a, b] ms) (hw : swappedStores [.Tuple [.Name x px, .Name y py] kt pt] (.Tuple [a, b] k2 pt2) (envS sc) = pure (some [x, y])) (hL : i ∉ L ∧ j ∉ L) : SS X g W L (.Assign [.Tuple [.Name x px, .Name y py] kt pt] (.Tuple [a, b] k2 pt2) pos) (mPar [i, j] ms) :=
  ss_par C.calm C.nd' (locL_ok C.toCn hi).1 (locL_ok C.toCn hj).1 hij (locL_ok C.toCn hi).2 (locL_ok C.toCn hj).2 ha ((sw_env C.hsc).trans hw) hL
theorem ss_par3C {i j l : Nat} {x y z : Str} {px py pz pt : Pos} {kt k2 : Nat} {pt2 : Pos} {ms : List Ar} (C : Cf X W N sc fr) (hi : locL N sc i x = true) (hj : locL N sc j y = true) (hl : locL N sc l z = true) (hij : i ≠ j) (hil : i ≠ l) (hjl : j ≠ l)
    (ha : SA X g W [a, b, c] ms) (hw : swappedStores [.Tuple [.Name x px, .Name y py, .Name z pz] kt pt] (.Tuple [a, b, c] k2 pt2) (envS sc) = pure (some [x, y, z])) (hL : i ∉ L ∧ j ∉ L ∧ l ∉ L) : SS X g W L (.Assign [.Tuple [.Name x px, .Name y py, .Name z pz] kt pt] (.Tuple [a, b, c] k2 pt2) pos) (mPar [i, j, l] ms) :=
  ss_par3 C.calm C.nd' (locL_ok C.toCn hi).1 (locL_ok C.toCn hj).1 (locL_ok C.toCn hl).1 hij hil hjl (locL_ok C.toCn hi).2 (locL_ok C.toCn hj).2 (locL_ok C.toCn hl).2 ha ((sw_env C.hsc).trans hw) hL
theorem ss_asgC {tg : Expr} {t : CT} {r : TG} (C : Cf X W N sc fr) (h : SE X g W a m) (hg : PG X tg r) (hk : GOk (gOf X g) L t r) (hs : swapsWithSole [tg] a pos.line X.env = pure false) (hw : swappedStores [tg] a (envS sc) = pure none)
    (h1 : (assignEach [tg] X.env).map (·.2) = [assign tg X.env]) : SS X g W L (.Assign [tg] a pos) (mAsg t m) := ss_asg h hg hk hs ((sw_env C.hsc).trans hw) h1
theorem se_fz (h : SE X g W a m) : SE X g W a (mFz m) := PE.imp h.z fun σ H Q h => by
  obtain ⟨F, fp, e, s, h⟩ := RdE.iff.mp h
  refine ⟨F, fp, e, s, ?_⟩
  unfold mFz at h
  cases q : m e with
  | ok d e1 =>
    rw [q] at h
    exact fun v F1 H1 fp1 s1 r1 tr1 => h v F1 H1 fp1 [] s1 (TO.z r1) tr1.nil
  | ex c d e1 => rw [q] at h; exact h
  | no => rw [q] at h; exact h
theorem st_bool (h : SW X g W a m) : ST X g W a m := h.pt
theorem lc_swap {elt : Expr} {gs : List Comprehension} {scope : Scope} {py : Pos} {y : Str} {l : Nat} {i : Nat} (C : Cf X W N sc fr) (hk : sc.kind = .function) (hy : locL N sc i y = true) (hl : (py.line == pos.line) = true)
    (ha : (scope.names.any fun (n, k) => n == y && (k == .local || k == .cell)) = false) : swapsWith (.ListComp elt gs scope pos) (some (.Name y py)) l X.env = pure true := sw_true (by rw [C.hsc]; exact hk) (locL_ok C.toCn hy).2 hl ha
theorem ss_setLcC {i : Nat} {y : Str} {py spos : Pos} {elt tg iter : Expr} {ifs : List Expr} {scope : Scope} {own' : List (Str × Nat)} {t : CT} {r : TG} {mi : MI} {mc me : ME} (C : Cf X W N sc fr) (hy : locL N sc i y = true) (hk0 : sc.kind = .function) (hl : (py.line == pos.line) = true)
    (hal : (scope.names.any fun (n, k) => n == y && (k == .local || k == .cell)) = false) (hL : i ∉ L) (hi : SI X g W tg iter mi) (ok : blkC N sc scope own' = true)
    (hg : ∀ (s : Shared) (H : Hp) (A : Addr) (cl : List (Str × Addr)) (fp : List Addr), Cn (X.blk s H scope (compEnvC scope cl A X.env) fp) N (relS scope sc) fr → PG (X.blk s H scope (compEnvC scope cl A X.env) fp) tg r) (hk : ∀ L, (∀ i, i ∈ L → i ∉ own'.map (·.2)) → GOk (gOf X g) L t r)
    (ht : ∀ (s : Shared) (H : Hp) (A : Addr) (cl : List (Str × Addr)) (fp : List Addr), Cn (X.blk s H scope (compEnvC scope cl A X.env) fp) N (relS scope sc) fr → PTs (X.blk s H scope (compEnvC scope cl A X.env) fp) ifs (RdT (gOf X g) W0 mc))
    (he : ∀ (s : Shared) (H : Hp) (A : Addr) (cl : List (Str × Addr)) (fp : List Addr), Cn (X.blk s H scope (compEnvC scope cl A X.env) fp) N (relS scope sc) fr → SE (X.blk s H scope (compEnvC scope cl A X.env) fp) g W0 elt me) (hs : ∀ x, foldedSetIterable iter X.env x = pure x) :
    SS X g W L (.Assign [.Name y py] (.ListComp elt [⟨tg, iter, ifs, 0⟩] scope pos) spos) (mAsg (.v i) (mLc (own'.map (·.2)) t mi mc me)) :=
  ss_setLc C.calm C.nd' (locL_ok C.toCn hy).1 (locL_ok C.toCn hy).2 (lc_swap C hk0 hy hl hal) hL hi (blkOk_by (by rw [C.hN, C.hsc]; exact ok)) (fun s H A cl fp => hg s H A cl fp (C.toCn.blk s H A cl fp)) hk (fun s H A cl fp => ht s H A cl fp (C.toCn.blk s H A cl fp)) (fun s H A cl fp => he s H A cl fp (C.toCn.blk s H A cl fp)) hs
theorem se_lcC {elt tg iter : Expr} {ifs : List Expr} {scope : Scope} {own' : List (Str × Nat)} {t : CT} {r : TG} {mi : MI} {mc me : ME} (C : Cn X N sc fr) (hi : SI X g W tg iter mi) (ok : blkC N sc scope own' = true)
    (hg : ∀ (s : Shared) (H : Hp) (A : Addr) (cl : List (Str × Addr)) (fp : List Addr), Cn (X.blk s H scope (compEnvC scope cl A X.env) fp) N (relS scope sc) fr → PG (X.blk s H scope (compEnvC scope cl A X.env) fp) tg r) (hk : ∀ L, (∀ i, i ∈ L → i ∉ own'.map (·.2)) → GOk (gOf X g) L t r)
    (ht : ∀ (s : Shared) (H : Hp) (A : Addr) (cl : List (Str × Addr)) (fp : List Addr), Cn (X.blk s H scope (compEnvC scope cl A X.env) fp) N (relS scope sc) fr → PTs (X.blk s H scope (compEnvC scope cl A X.env) fp) ifs (RdT (gOf X g) W0 mc))
    (he : ∀ (s : Shared) (H : Hp) (A : Addr) (cl : List (Str × Addr)) (fp : List Addr), Cn (X.blk s H scope (compEnvC scope cl A X.env) fp) N (relS scope sc) fr → SE (X.blk s H scope (compEnvC scope cl A X.env) fp) g W0 elt me) (hs : ∀ x, foldedSetIterable iter X.env x = pure x) :
    SE X g W (.ListComp elt [⟨tg, iter, ifs, 0⟩] scope pos) (mLc (own'.map (·.2)) t mi mc me) :=
  se_lc C.calm C.nd' hi (blkOk_by (by rw [C.hN, C.hsc]; exact ok)) (fun s H A cl fp => hg s H A cl fp (C.blk s H A cl fp)) hk (fun s H A cl fp => ht s H A cl fp (C.blk s H A cl fp)) (fun s H A cl fp => he s H A cl fp (C.blk s H A cl fp)) hs
theorem se_lc2C {elt tg iter tg1 iter1 : Expr} {ifs ifs1 : List Expr} {scope : Scope} {own' : List (Str × Nat)} {own1 : List Nat} {t t1 : CT} {r r1 : TG} {mi mi1 : MI} {mc mc1 me : ME} (C : Cn X N sc fr) (hi : SI X g W tg iter mi) (ok : blkC N sc scope own' = true) (hsub : ∀ i ∈ own1, i ∈ own'.map (·.2))
    (hg : ∀ (s : Shared) (H : Hp) (A : Addr) (cl : List (Str × Addr)) (fp : List Addr), Cn (X.blk s H scope (compEnvC scope cl A X.env) fp) N (relS scope sc) fr → PG (X.blk s H scope (compEnvC scope cl A X.env) fp) tg r) (hk : ∀ L, (∀ i, i ∈ L → i ∉ own'.map (·.2)) → GOk (gOf X g) L t r)
    (ht : ∀ (s : Shared) (H : Hp) (A : Addr) (cl : List (Str × Addr)) (fp : List Addr), Cn (X.blk s H scope (compEnvC scope cl A X.env) fp) N (relS scope sc) fr → PTs (X.blk s H scope (compEnvC scope cl A X.env) fp) ifs (RdT (gOf X g) W0 mc))
    (he : ∀ (s : Shared) (H : Hp) (A : Addr) (cl : List (Str × Addr)) (fp : List Addr), Cn (X.blk s H scope (compEnvC scope cl A X.env) fp) N (relS scope sc) fr → SE (X.blk s H scope (compEnvC scope cl A X.env) fp) g W0 elt me) (hs : ∀ x, foldedSetIterable iter X.env x = pure x)
    (hi1 : ∀ (s : Shared) (H : Hp) (A : Addr) (cl : List (Str × Addr)) (fp : List Addr), Cn (X.blk s H scope (compEnvC scope cl A X.env) fp) N (relS scope sc) fr → SI (X.blk s H scope (compEnvC scope cl A X.env) fp) g W0 tg1 iter1 mi1)
    (hg1 : ∀ (s : Shared) (H : Hp) (A : Addr) (cl : List (Str × Addr)) (fp : List Addr), Cn (X.blk s H scope (compEnvC scope cl A X.env) fp) N (relS scope sc) fr → PG (X.blk s H scope (compEnvC scope cl A X.env) fp) tg1 r1) (hk1 : ∀ L, (∀ i, i ∈ L → i ∉ own1) → GOk (gOf X g) L t1 r1)
    (ht1 : ∀ (s : Shared) (H : Hp) (A : Addr) (cl : List (Str × Addr)) (fp : List Addr), Cn (X.blk s H scope (compEnvC scope cl A X.env) fp) N (relS scope sc) fr → PTs (X.blk s H scope (compEnvC scope cl A X.env) fp) ifs1 (RdT (gOf X g) W0 mc1))
    (hs1 : ∀ env x, foldedSetIterable iter1 env x = pure x) :
    SE X g W (.ListComp elt [⟨tg, iter, ifs, 0⟩, ⟨tg1, iter1, ifs1, 0⟩] scope pos) (mLc2 (own'.map (·.2)) t mi mc own1 t1 mi1 mc1 me) :=
  se_lc2 C.calm C.nd' hi (blkOk_by (by rw [C.hN, C.hsc]; exact ok)) hsub (fun s H A cl fp => hg s H A cl fp (C.blk s H A cl fp)) hk (fun s H A cl fp => ht s H A cl fp (C.blk s H A cl fp)) (fun s H A cl fp => he s H A cl fp (C.blk s H A cl fp)) hs (fun s H A cl fp => hi1 s H A cl fp (C.blk s H A cl fp)) (fun s H A cl fp => hg1 s H A cl fp (C.blk s H A cl fp)) hk1 (fun s H A cl fp => ht1 s H A cl fp (C.blk s H A cl fp)) hs1
/-- targets by their shape -/
theorem gok_vb {i : Nat} {own' : List Nat} (h : decide (i ∈ own') = true) : ∀ L, (∀ j, j ∈ L → j ∉ own') → GOk G L (.v i) (gName i) := fun L hL => gok_v fun z => hL i z (of_decide_eq_true h)
end
/-- nothing is promised -/
theorem fn_no {P : Program} {w : World} {K : PySem.W.Frag} {mg : Str → Option Value} {base : Heap} {CX : CXT} {k : Nat} {f : Addr} {fd : FuncData} {ps : List Str} {G : GI} {mask : List Bool} (h : mask.length = ps.length) : FnOk P w K mg base CX k f fd ps (Prom G mask fun _ => .no) :=
  ⟨Prom.len h, fun _ _ _ _ _ _ _ _ _ _ _ _ _ ⟨_, _, _, _, _, _, _, _, z⟩ => z.elim⟩
section
variable {P : Program} {w : World} {K : PySem.W.Frag} {mg : Str → Option Value} {base : Heap} {x qual : Str} {params : Arguments} {body : List Stmt} {scope : Scope} {dvs : List V} {kws : List (Str × V)} {f : Addr} {fd : FuncData}
theorem fn_okC {N ps fr : List Str} {mask : List Bool} {k : Nat} {m : MS} {g : GF} (Fd : FunD K x qual params body scope dvs kws f fd) (S : FnScope N ps scope) (hm : mask.length = ps.length) (hn : mask.length ≤ N.length) (hfr : ∀ x ∈ fr, mg x = none)
    (hb : ∀ (X : Cx) (W : WX), X.prog = P → X.w = w → X.K = K → X.mg = mg → X.base = base → Room k X.A → Cf X W N scope fr → SSs X g W (lix 0 mask) body m) :
    FnOk P w K mg base (L2.CX P w) (k + 1) f fd ps (Prom ⟨g, K⟩ mask (callF N.length mask m)) :=
  fn_ok Fd S hm hn hfr fun cdv A outer s H E hr hc ht hp => hb _ _ rfl rfl rfl rfl rfl hr ⟨hc, fun _ => rfl, ht, hp, rfl, rfl⟩
theorem weakCX {C1 C2 : CXT} {k : Nat} {ps : List Str} {sp : Sp} (h : ∀ o H s E u s', C1 o H s E u s' → C2 o H s E u s') (Fo : FnOk P w K mg base C1 k f fd ps sp) : FnOk P w K mg base C2 k f fd ps sp :=
  ⟨Fo.len, fun A outer s H args us vs Q E hr he hb hv hs => codeAny_mono (Fo.run A outer s H args us vs Q E hr he hb hv hs) fun r s' hq => by
    cases r with
    | error e => exact h _ _ _ _ _ _ hq
    | ok fl => cases fl <;> exact hq⟩
end
end EV

/-! EvS: comparisons as tests. -/
namespace EV
open PySem PySem.Spec PyProof.Rows L2
section
variable {X : Cx} {N : List Str} {sc : Scope} {fr : List Str} {g : GF} {G : GI} {W : WX} {L : List Nat} {a b c : Expr} {es : List Expr} {pos p2 p3 p4 : Pos} {oa ob : Op} {m n t : ME} {σ : L2.St} {H : Hp}
theorem RdT.toE {Q : Bool → Hp → Prop} (h : RdT G W m σ H Q) : RdE G W m σ H fun x H1 => ∃ k, x = .bl k ∧ Q k H1 := by
  obtain ⟨F, fp, e, s, h⟩ := h
  refine RdE.iff.mpr ⟨F, fp, e, s, ?_⟩
  cases q : m e with
  | ok d e1 =>
    rw [q] at h
    cases d with
    | bl b =>
      intro v F' H' fp' p s' t' tr
      refine ⟨b, t'.r.bl_inv, h F' H' fp' s' (tr.drop fun _ z => .inl z)⟩
    | _ => exact h.elim
  | ex c d e1 => rw [q] at h; exact h
  | no => rw [q] at h; exact h
theorem stc {e : Expr} {t : TE} (h : PT X e (tTest t)) (i : ∀ σ H Q, RdE (gOf X g) W m σ H Q → t σ H Q) : ST X g W e m := PT.imp h fun σ H Q hq => i σ H _ (RdT.toE hq)
theorem st_lt (ha : SOp X g W a oa) (hb : SOp X g W b ob) : ST X g W (.Compare a [.Lt] [b] pos) (mOp2 (cmpD fun i j => decide (i < j)) oa ob) := stc (pt_cmpR op_lt ha hb (nomark _)) fun _ _ _ h => rd_op2 (fun _ _ _ _ _ _ _ _ s r1 r2 h k => hr_cmp s r1 r2 h k) h
theorem st_le (ha : SOp X g W a oa) (hb : SOp X g W b ob) : ST X g W (.Compare a [.LtE] [b] pos) (mOp2 (cmpD fun i j => decide (i ≤ j)) oa ob) := stc (pt_cmpR op_le ha hb (nomark _)) fun _ _ _ h => rd_op2 (fun _ _ _ _ _ _ _ _ s r1 r2 h k => hr_cmp s r1 r2 h k) h
theorem st_gt (ha : SOp X g W a oa) (hb : SOp X g W b ob) : ST X g W (.Compare a [.Gt] [b] pos) (mOp2 (cmpD fun i j => decide (j < i)) oa ob) := stc (pt_cmpR op_gt ha hb (nomark _)) fun _ _ _ h => rd_op2 (fun _ _ _ _ _ _ _ _ s r1 r2 h k => hr_cmp s r1 r2 h k) h
theorem st_ge (ha : SOp X g W a oa) (hb : SOp X g W b ob) : ST X g W (.Compare a [.GtE] [b] pos) (mOp2 (cmpD fun i j => decide (j ≤ i)) oa ob) := stc (pt_cmpR op_ge ha hb (nomark _)) fun _ _ _ h => rd_op2 (fun _ _ _ _ _ _ _ _ s r1 r2 h k => hr_cmp s r1 r2 h k) h
theorem st_eq (C : Cn X N sc fr) (ha : SOp X g W a oa) (hb : SOp X g W b ob) : ST X g W (.Compare a [.Eq] [b] pos) (mOp2 eqD oa ob) := stc (pt_cmpR (op_eqD C.hu64) ha hb (nomark _)) fun _ _ _ h => rd_op2 (fun _ _ _ _ _ _ _ _ s r1 r2 h k => hr_eq s r1 r2 h k) h
theorem st_ne (C : Cn X N sc fr) (ha : SOp X g W a oa) (hb : SOp X g W b ob) : ST X g W (.Compare a [.NotEq] [b] pos) (mOp2 neD oa ob) := stc (pt_cmpR (op_neD C.hu64) ha hb (nomark _)) fun _ _ _ h => rd_op2 (fun _ _ _ _ _ _ _ _ s r1 r2 h k => hr_ne s r1 r2 h k) h
theorem st_isN (ha : SOp X g W a oa) {j : Nat} : ST X g W (.Compare a [.Is] [.Constant .none j p2] pos) (mOp1 (fun d => some (.bl (isN d))) oa) := stc (pt_cmp (pc_isN ha) rfl) fun _ _ _ h => rd_op1 (r := fun x H Q => Q (.bl (decide (x = .non))) H) (fun _ _ _ _ _ _ s r1 h k => hr_isN s r1 h k) h
theorem st_notN (ha : SOp X g W a oa) {j : Nat} : ST X g W (.Compare a [.IsNot] [.Constant .none j p2] pos) (mOp1 (fun d => some (.bl (!isN d))) oa) := stc (pt_cmp (pc_notN ha) rfl) fun _ _ _ h => rd_op1 (r := fun x H Q => Q (.bl (!decide (x = .non))) H) (fun _ _ _ _ _ _ s r1 h k => hr_notN s r1 h k) h
theorem st_isB {k : Bool} (ha : SOp X g W a oa) {j : Nat} : ST X g W (.Compare a [.Is] [.Constant (.bool k) j p2] pos) (mOp1 (fun d => some (.bl (isB k d))) oa) := stc (pt_cmpR (op_isC (b := k)) ha pe_bl (nomark _)) fun _ _ _ h =>
  rd_op1 (r := fun x H Q => V.bl k = V.bl k ∧ Q (.bl (decide (x = .bl k))) H) (fun _ _ _ _ _ _ s r1 h kk => ⟨rfl, by injection h with h; subst h; rw [isB_rep r1]; exact kk.z s (.bl _)⟩) h
theorem st_notB {k : Bool} (ha : SOp X g W a oa) {j : Nat} : ST X g W (.Compare a [.IsNot] [.Constant (.bool k) j p2] pos) (mOp1 (fun d => some (.bl (!isB k d))) oa) := stc (pt_cmpR (op_isnotC (b := k)) ha pe_bl (nomark _)) fun _ _ _ h =>
  rd_op1 (r := fun x H Q => V.bl k = V.bl k ∧ Q (.bl (!decide (x = .bl k))) H) (fun _ _ _ _ _ _ s r1 h kk => ⟨rfl, by injection h with h; subst h; rw [isB_rep r1]; exact kk.z s (.bl _)⟩) h
theorem st_in (C : Cn X N sc fr) (ha : SOp X g W a oa) (hb : SOp X g W b ob) (hm : behindInMarks .In b = false) : ST X g W (.Compare a [.In] [b] pos) (mOp2 inB oa ob) :=
  stc (pt_cmpR ((op_inD C.hu65).or (op_in_seq.or (op_inDk C.hu1))) ha hb hm) fun _ _ _ h => rd_op2 (r := fun x y H Q => rInD X.K x y H Q ∨ rIn X.K false x y H Q ∨ ∃ a o, y = V.ref a ∧ DGet H a x o ∧ Q (V.bl o.isSome) H) (fun _ _ _ _ _ _ _ _ s r1 r2 h k => by
    obtain ⟨n, q, rfl⟩ := inB_some h
    have z := k.z s (.bl n)
    rcases hr_in s r1 r2 q with ⟨d, ds, h1, h2, h3, h4, h5⟩ | ⟨p, xs, h1, h2, h3, h4, h5⟩ | ⟨a, o, h1, h2, h3⟩
    · exact .inl ⟨d, ds, h1, h2, h3, h4, by rw [h5]; exact z⟩
    · exact .inr (.inl ⟨p, xs, h1, h2, h3, h4, by first | (rw [if_neg Bool.false_ne_true, h5]; exact z) | (rw [if_pos rfl, h5]; exact z)⟩)
    · exact .inr (.inr ⟨a, o, h1, h2, by rw [h3]; exact z⟩)) h
theorem st_notin (C : Cn X N sc fr) (ha : SOp X g W a oa) (hb : SOp X g W b ob) (hm : behindInMarks .NotIn b = false) : ST X g W (.Compare a [.NotIn] [b] pos) (mOp2 notinB oa ob) :=
  stc (pt_cmpR ((op_notInD C.hu65).or (op_notIn_seq.or (op_notinDk C.hu1))) ha hb hm) fun _ _ _ h => rd_op2 (r := fun x y H Q => rNotInD X.K x y H Q ∨ rIn X.K true x y H Q ∨ ∃ a o, y = V.ref a ∧ DGet H a x o ∧ Q (V.bl !o.isSome) H) (fun _ _ _ _ _ _ _ _ s r1 r2 h k => by
    obtain ⟨n, q, rfl⟩ := notinB_some h
    have z := k.z s (.bl !n)
    rcases hr_in s r1 r2 q with ⟨d, ds, h1, h2, h3, h4, h5⟩ | ⟨p, xs, h1, h2, h3, h4, h5⟩ | ⟨a, o, h1, h2, h3⟩
    · exact .inl ⟨d, ds, h1, h2, h3, h4, by rw [h5]; exact z⟩
    · exact .inr (.inl ⟨p, xs, h1, h2, h3, h4, by first | (rw [if_neg Bool.false_ne_true, h5]; exact z) | (rw [if_pos rfl, h5]; exact z)⟩)
    · exact .inr (.inr ⟨a, o, h1, h2, by rw [h3]; exact z⟩)) h
theorem sa_consT {m : ME} {ms : List Ar} (ha : SE X g W a m) (hr : SA X g W es ms) (hs : starEach (a :: es) X.env = (false, eval a X.env) :: starEach es X.env) : SA X g W (a :: es) (.t m :: ms) := sa_cons (m := .t m) ha hr hs
theorem sa_consL {j : Nat} {ms : List Ar} (ha : PE X a (tVar j)) (hr : SA X g W es ms) (hs : starEach (a :: es) X.env = (false, eval a X.env) :: starEach es X.env) : SA X g W (a :: es) (.l j :: ms) := sa_cons (m := .l j) ha hr hs
end
end EV

/-! EvT: the plain functions reckoned out. -/
namespace EV
open PySem PySem.Spec L2
section
variable {m n t : ME} {ms ns : MS} {e e1 : DEnv} {d : D} {oa ob : Op} {i k : Nat}
@[simp] theorem ap_seq : mSeq ms ns e = (ms e).seq ns := rfl
@[simp] theorem ap_expr : mExpr m e = (m e).toS fun _ e1 => .nx e1 := rfl
@[simp] theorem ap_ret : mRet m e = (m e).toS fun d e1 => .rt d e1 := rfl
@[simp] theorem ap_retN : mRetN e = .rt .non e := rfl
@[simp] theorem ap_asg : mAsg (.v i) m e = (m e).toS fun d e1 => .nx (e1.set i (some d)) := rfl
@[simp] theorem ap_asgT {ts : List CT} : mAsg (.t ts) m e = (m e).toS fun d e1 => match put (.t ts) d e1 with
  | some e2 => .nx e2
  | none => .no := rfl
@[simp] theorem ap_ifS : mIfS t ms ns e = match t e with
  | .ok (.bl true) e1 => ms e1
  | .ok (.bl false) e1 => ns e1
  | .ok _ _ => .no
  | .ex c d e1 => .ex c d e1
  | .no => .no := rfl
@[simp] theorem ap_if : mIf t m n e = match t e with
  | .ok (.bl true) e1 => m e1
  | .ok (.bl false) e1 => n e1
  | .ok _ _ => .no
  | .ex c d e1 => .ex c d e1
  | .no => .no := rfl
@[simp] theorem ap_op1 {f : D → Option D} : mOp1 f oa e = (oa.run e).bind fun p e1 => p.see e1 fun d e2 => RE.of (f d) e2 := rfl
@[simp] theorem ap_op2 {f : D → D → Option D} : mOp2 f oa ob e = (oa.run e).bind fun p e1 => (ob.run e1).bind fun q e2 => p.see e2 fun d e3 => q.see e3 fun d2 e4 => RE.of (f d d2) e4 := rfl
@[simp] theorem ap_tru : mTru oa e = (oa.run e).bind fun p e1 => p.see e1 fun d e2 => RE.of ((truD d).map .bl) e2 := rfl
@[simp] theorem ap_c : mC d e = .ok d e := rfl
@[simp] theorem ap_v : mV k e = match e[k]? with
  | some (some d) => if fz d = true then .ok d e else .ok (frz d) (e.set k (some (frz d)))
  | _ => .no := rfl
@[simp] theorem ap_mv : mMv k e = match e[k]? with
  | some (some d) => .ok d (e.set k none)
  | _ => .no := rfl
@[simp] theorem ap_fz : mFz m e = match m e with
  | .ok d e1 => .ok (frz d) e1
  | .ex c d e1 => .ex c d e1
  | .no => .no := rfl
@[simp] theorem ap_runV : (Op.v k).run e = match e[k]? with
  | some (some _) => .ok (.v k) e
  | _ => .no := rfl
@[simp] theorem ap_runE : (Op.e m).run e = match m e with
  | .ok x e1 => .ok (.d (frz x)) e1
  | .ex c x e1 => .ex c x e1
  | .no => .no := rfl
@[simp] theorem ap_seeD {f : D → DEnv → RE} : (PV.d d).see e f = f d e := rfl
@[simp] theorem ap_seeV {f : D → DEnv → RE} : (PV.v k).see e f = match e[k]? with
  | some (some d) => if vwOk d = true then f (vw d) e else f (frz d) (e.set k (some (frz d)))
  | _ => .no := rfl
@[simp] theorem ap_ofS : RE.of (some d) e = .ok d e := rfl
@[simp] theorem ap_ofN : RE.of none e = .no := rfl
@[simp] theorem frz_non : frz .non = .non := rfl
@[simp] theorem frz_bl {b : Bool} : frz (.bl b) = .bl b := rfl
@[simp] theorem frz_int {b : Int} : frz (.int b) = .int b := rfl
@[simp] theorem frz_str {b : Str} : frz (.str b) = .str b := rfl
@[simp] theorem frz_tup {b : List D} : frz (.tup b) = .tup (frzs b) := rfl
@[simp] theorem frz_lst {o : Bool} {b : List D} : frz (.lst o b) = .lst false (frzs b) := rfl
@[simp] theorem frz_scr {b : List Int} : frz (.scr b) = .scr b := rfl
@[simp] theorem frzs_nil : frzs [] = [] := rfl
@[simp] theorem frzs_cons {b : List D} : frzs (d :: b) = frz d :: frzs b := rfl
@[simp] theorem fz_non : fz .non = true := rfl
@[simp] theorem fz_bl {b : Bool} : fz (.bl b) = true := rfl
@[simp] theorem fz_int {b : Int} : fz (.int b) = true := rfl
@[simp] theorem fz_str {b : Str} : fz (.str b) = true := rfl
@[simp] theorem fz_tup {b : List D} : fz (.tup b) = fzs b := rfl
@[simp] theorem fz_lst {o : Bool} {b : List D} : fz (.lst o b) = (!o && fzs b) := by cases o <;> rfl
@[simp] theorem fz_scr {b : List Int} : fz (.scr b) = true := rfl
@[simp] theorem fzs_nil : fzs [] = true := rfl
@[simp] theorem fzs_cons {b : List D} : fzs (d :: b) = (fz d && fzs b) := rfl
@[simp] theorem vw_non : vw .non = .non := rfl
@[simp] theorem vw_bl {b : Bool} : vw (.bl b) = .bl b := rfl
@[simp] theorem vw_int {b : Int} : vw (.int b) = .int b := rfl
@[simp] theorem vw_str {b : Str} : vw (.str b) = .str b := rfl
@[simp] theorem vw_tup {b : List D} : vw (.tup b) = .tup b := rfl
@[simp] theorem vw_lst {o : Bool} {b : List D} : vw (.lst o b) = .lst false b := rfl
@[simp] theorem vw_scr {b : List Int} : vw (.scr b) = .scr b := rfl
@[simp] theorem vw_dk {o : Bool} {b : List (Key × D)} : vw (.dk o b) = .dk false b := rfl
@[simp] theorem vw_dt {o : Bool} {b : List (List Key × D)} : vw (.dt o b) = .dt false b := rfl
@[simp] theorem vwOk_non : vwOk .non = true := rfl
@[simp] theorem vwOk_bl {b : Bool} : vwOk (.bl b) = true := rfl
@[simp] theorem vwOk_int {b : Int} : vwOk (.int b) = true := rfl
@[simp] theorem vwOk_str {b : Str} : vwOk (.str b) = true := rfl
@[simp] theorem vwOk_tup {b : List D} : vwOk (.tup b) = fzs b := rfl
@[simp] theorem vwOk_lst {o : Bool} {b : List D} : vwOk (.lst o b) = fzs b := rfl
@[simp] theorem vwOk_scr {b : List Int} : vwOk (.scr b) = true := rfl
@[simp] theorem vwOk_dk {o : Bool} {b : List (Key × D)} : vwOk (.dk o b) = true := rfl
@[simp] theorem vwOk_dt {o : Bool} {b : List (List Key × D)} : vwOk (.dt o b) = true := rfl
@[simp] theorem ad_int {a b : Int} : addD (.int a) (.int b) = some (.int (a + b)) := rfl
@[simp] theorem sb_int {a b : Int} : subD (.int a) (.int b) = some (.int (a - b)) := rfl
@[simp] theorem cm_int {f : Int → Int → Bool} {a b : Int} : cmpD f (.int a) (.int b) = some (.bl (f a b)) := rfl
theorem md_int {a b : Int} (h : 0 < b) : modD (.int a) (.int b) = some (.int (a % b)) := by
  show (if 0 < b then some (D.int (a % b)) else _) = _
  rw [if_pos h]
@[simp] theorem int_int {a : Int} : intD (.int a) = some (.int a) := rfl
@[simp] theorem abs_int {a : Int} : absD (.int a) = some (.int (if a < 0 then -a else a)) := rfl
@[simp] theorem len_tup {b : List D} : lenD (.tup b) = some (.int b.length) := rfl
@[simp] theorem len_lst {o : Bool} {b : List D} : lenD (.lst o b) = some (.int b.length) := rfl
@[simp] theorem len_scr {b : List Int} : lenD (.scr b) = some (.int b.length) := rfl
@[simp] theorem ix_tup {b : List D} {j : Int} : ixD (.tup b) (.int j) = atI b j := rfl
@[simp] theorem ix_lst {o : Bool} {b : List D} {j : Int} : ixD (.lst o b) (.int j) = atI b j := rfl
@[simp] theorem ix_scr {b : List Int} {j : Int} : ixD (.scr b) (.int j) = (atI b j).map .int := rfl
@[simp] theorem isN_non : isN .non = true := rfl
@[simp] theorem isN_bl {b : Bool} : isN (.bl b) = false := rfl
@[simp] theorem isN_int {b : Int} : isN (.int b) = false := rfl
@[simp] theorem isN_str {b : Str} : isN (.str b) = false := rfl
@[simp] theorem isN_tup {b : List D} : isN (.tup b) = false := rfl
@[simp] theorem isN_lst {o : Bool} {b : List D} : isN (.lst o b) = false := rfl
@[simp] theorem tru_bl {b : Bool} : truD (.bl b) = some b := rfl
@[simp] theorem tup_tup {b : List D} : tupleD (.tup b) = some (.tup b) := rfl
@[simp] theorem lst_tup {b : List D} : listD (.tup b) = some (.lst true b) := rfl
@[simp] theorem mx2_int {a b : Int} : max2D (.int a) (.int b) = some (.int (if b > a then b else a)) := rfl
@[simp] theorem mn2_int {a b : Int} : min2D (.int a) (.int b) = some (.int (if b < a then b else a)) := rfl
theorem mul_int {a b : Int} (h : mulOk a b = true) : mulD (.int a) (.int b) = some (.int (a * b)) := by
  show (if mulOk a b then some (D.int (a * b)) else none) = _
  rw [if_pos h]
theorem mulOk_r {a b : Int} (h : Nat.ble b.natAbs 18446744073709551615 = true) : mulOk a b = true := by
  unfold mulOk
  rw [h]
  simp
theorem mulOk_l {a b : Int} (h : Nat.ble a.natAbs 18446744073709551615 = true) : mulOk a b = true := by
  unfold mulOk
  rw [h]
  rfl
theorem div_int {a b : Int} (h0 : 0 < b) (h : divOk b = true) : fdivD (.int a) (.int b) = some (.int (a / b)) := by
  show (if 0 < b then (if divOk b = true then some (D.int (a / b)) else none) else _) = _
  rw [if_pos h0, if_pos h]
theorem divOk_s {b : Int} (h0 : 0 < b) (h : b < 1073741824) : divOk b = true := by
  unfold divOk
  simp only [Bool.or_eq_true, decide_eq_true_eq]
  left; omega
/-! ### what is written, what is passed -/
@[simp] theorem ap_set : mSet k oa m e = (m e).toS fun d e1 => match e1[k]? with
  | some (some _) => match oa.run e1 with
    | .ok p e2 => match p.see e2 (fun di e3 => match e3[k]? with
      | some (some d0) => match setD d0 di d with
        | some d1 => .ok .non (e3.set k (some d1))
        | none => .no
      | _ => .no) with
      | .ok _ e4 => .nx e4
      | _ => .no
    | .ex c d e2 => .ex c d e2
    | .no => .no
  | _ => .no := rfl
@[simp] theorem ap_app : mApp k m e = match e[k]? with
  | some (some (.lst true _)) => (m e).bind fun d e1 => match e1[k]? with
    | some (some (.lst true xs)) => if xs.length < LIM then .ok .non (e1.set k (some (.lst true (xs ++ [d])))) else .no
    | _ => .no
  | _ => .no := rfl
@[simp] theorem REb_ok {f : D → DEnv → RE} : (RE.ok d e).bind f = f d e := rfl
@[simp] theorem REb_ex {c : Nat} {f : D → DEnv → RE} : (RE.ex c d e).bind f = .ex c d e := rfl
@[simp] theorem REb_no {f : D → DEnv → RE} : RE.no.bind f = .no := rfl
@[simp] theorem mA_nil : mA [] e = .ok [] e := rfl
@[simp] theorem mA_t {r : List Ar} : mA (.t m :: r) e = match m e with
    | .ok d e1 => (mA r e1).cons (.t d)
    | .ex c d e1 => .ex c d e1
    | .no => .no := rfl
@[simp] theorem mA_l {j : Nat} {r : List Ar} : mA (.l j :: r) e = match e[j]? with
    | some (some _) => (mA r e).cons (.l j)
    | _ => .no := rfl
@[simp] theorem RAc_ok {a : PA1} {as : List PA1} : (RA.ok as e).cons a = .ok (a :: as) e := rfl
@[simp] theorem RAf_ok {as : List PA1} {f : List D → DEnv → RE} : (RA.ok as e).fin f = match allT as with
    | some ds => if ds.length ≤ LIM then f ds e else .no
    | none => .no := rfl
@[simp] theorem allT_nil : allT [] = some [] := rfl
@[simp] theorem allT_t {as : List PA1} : allT (.t d :: as) = (allT as).map (d :: ·) := rfl
@[simp] theorem ap_tup {as : List Ar} : mTup as e = (mA as e).fin fun ds e1 => .ok (.tup ds) e1 := rfl
@[simp] theorem ap_lst {as : List Ar} : mLst as e = (mA as e).fin fun ds e1 => .ok (.lst true ds) e1 := rfl
@[simp] theorem effD_nil : effD e [] = some [] := rfl
@[simp] theorem effD_t {as : List PA1} : effD e (.t d :: as) = (effD e as).map (d :: ·) := rfl
@[simp] theorem effD_l {j : Nat} {as : List PA1} : effD e (.l j :: as) = match e[j]? with
  | some (some d) => (effD e as).map (d :: ·)
  | _ => none := rfl
@[simp] theorem lents_nil : lents [] = [] := rfl
@[simp] theorem lents_t {as : List PA1} : lents (.t d :: as) = lents as := rfl
@[simp] theorem lents_l {j : Nat} {as : List PA1} : lents (.l j :: as) = j :: lents as := rfl
@[simp] theorem minus_nil : minus [] e = e := rfl
@[simp] theorem minus_t {as : List PA1} : minus (.t d :: as) e = minus as e := rfl
@[simp] theorem minus_l {j : Nat} {as : List PA1} : minus (.l j :: as) e = minus as (e.set j none) := rfl
@[simp] theorem bk_nil : bk [] [] [] e = some e := rfl
@[simp] theorem bk_l {ma : List Bool} {j : Nat} {as : List PA1} {fn : List D} : bk (true :: ma) (.l j :: as) (d :: fn) e = bk ma as fn (e.set j (some d)) := rfl
@[simp] theorem bk_t {ma : List Bool} {d1 : D} {as : List PA1} {fn : List D} : bk (true :: ma) (.t d1 :: as) (d :: fn) e = bk ma as fn e := rfl
@[simp] theorem bk_f {ma : List Bool} {d1 : D} {as : List PA1} {fn : List D} : bk (false :: ma) (.t d1 :: as) fn e = bk ma as fn e := rfl
@[simp] theorem ap_call {C : List D → RC} {ma : List Bool} {dfl : List D} {as : List Ar} : mCall C ma dfl as e = match mA as e with
  | .ok as e1 => match effD e1 as with
    | some ds => if (lents as).Nodup ∧ (as.length + dfl.length = ma.length) then match C (ds ++ dfl) with
      | .ok d fin => match bk ma (as ++ dfl.map .t) fin (minus as e1) with
        | some e2 => .ok d e2
        | none => .no
      | .ex c d fin => match bk ma (as ++ dfl.map .t) fin (minus as e1) with
        | some e2 => .ex c d e2
        | none => .no
      | .no => .no
      else .no
    | none => .no
  | .ex c d e1 => .ex c d e1
  | .no => .no := rfl
@[simp] theorem fins_nil : fins [] e = some [] := by cases e <;> rfl
@[simp] theorem fins_t {ma : List Bool} : fins (true :: ma) (some d :: e) = (fins ma e).map (d :: ·) := rfl
@[simp] theorem fins_f {ma : List Bool} : fins (false :: ma) e = fins ma e.tail := by cases e <;> rfl
@[simp] theorem ap_par {is : List Nat} {as : List Ar} : mPar is as e = match mA as e with
  | .ok as e1 => match allT as with
    | some ds => match puts (is.map CT.v) ds e1 with
      | some e2 => .nx e2
      | none => .no
    | none => .no
  | .ex c d e1 => .ex c d e1
  | .no => .no := rfl
@[simp] theorem put_v : put (.v i) d e = some (e.set i (some d)) := rfl
@[simp] theorem put_t {ts : List CT} {ds : List D} : put (.t ts) (.tup ds) e = puts ts ds e := rfl
@[simp] theorem puts_nil : puts [] [] e = some e := rfl
@[simp] theorem puts_cons {t : CT} {ts : List CT} {ds : List D} : puts (t :: ts) (d :: ds) e = (put t d e).bind fun e1 => puts ts ds e1 := rfl
@[simp] theorem set_lst {xs : List D} {j : Int} : setD (.lst true xs) (.int j) d = (ixN xs.length j).map fun j => .lst true (xs.set j d) := rfl
theorem callF_ok {N : Nat} {ma : List Bool} {b : MS} {ds : List D} (h : ds.length = ma.length ∧ ma.length ≤ N) : callF N ma b ds = match b (ds.map some ++ List.replicate (N - ma.length) none) with
    | .nx e => match fins ma e with
      | some f => .ok .non f
      | none => .no
    | .rt d e => match fins ma e with
      | some f => .ok d f
      | none => .no
    | .ex c d e => match fins ma e with
      | some f => .ex c d f
      | none => .no
    | _ => .no := by
  unfold callF
  rw [if_pos h]
  try rfl
@[simp] theorem LIM_is : LIM = 1000000 := rfl
@[simp] theorem RS_seq_no {f : DEnv → RS} : RS.no.seq f = .no := rfl
@[simp] theorem ap_for {Ls : List Nat} {tg : CT} {mi : MI} : mFor Ls tg mi ms e = match mi e with
  | .ok ds l e1 => if lkIn l Ls = true then (forL tg ms ds e1).unlk l else .no
  | .ex c d e1 => .ex c d e1
  | .no => .no := rfl
@[simp] theorem ap_while : mWhile t ms e = whileN t ms FUEL e := rfl
@[simp] theorem ap_lc {own : List Nat} {tg : CT} {mi : MI} : mLc own tg mi m n e = match mi e with
  | .ok ds l e1 => RE.unlk l (match lcL own tg m n ds [] (wipeE own e1) with
    | .ok acc e2 => .ok (.lst true acc) (backE e1 own e2)
    | .no => .no)
  | .ex c d e1 => .ex c d e1
  | .no => .no := rfl
@[simp] theorem ap_lc2 {own own1 : List Nat} {tg tg1 : CT} {mi mi1 : MI} : mLc2 own tg mi m own1 tg1 mi1 n t e = match mi e with
  | .ok ds l e1 => RE.unlk l (match lcL2 own tg m own1 tg1 mi1 n t ds [] (wipeE own e1) with
    | .ok acc e2 => .ok (.lst true acc) (backE e1 own e2)
    | .no => .no)
  | .ex c d e1 => .ex c d e1
  | .no => .no := rfl
@[simp] theorem ap_it : mIt m e = match m e with
  | .ok d e1 => match itemsD (frz d) with
    | some ds => .ok ds none e1
    | none => .no
  | .ex c d e1 => .ex c d e1
  | .no => .no := rfl
@[simp] theorem ap_itV : mItV k e = match e[k]? with
  | some (some (.lst true ds)) => if fzs ds = true then .ok ds (some (k, .lst true ds)) (e.set k none) else .no
  | some (some d) => match itemsD (frz d) with
    | some ds => if fz d = true then .ok ds none e else .no
    | none => .no
  | _ => .no := rfl
@[simp] theorem items_tup {ds : List D} : itemsD (.tup ds) = some ds := rfl
@[simp] theorem items_lst {o : Bool} {ds : List D} : itemsD (.lst o ds) = some ds := rfl
@[simp] theorem items_scr {ds : List Int} : itemsD (.scr ds) = some (ds.map .int) := rfl
@[simp] theorem ap_rg1 : mRg1 m e = match m e with
  | .ok (.int j) e1 => if rngOk j = true then .ok (rangeD 0 j) none e1 else .no
  | .ok _ _ => .no
  | .ex c d e1 => .ex c d e1
  | .no => .no := rfl
@[simp] theorem lk_none {Ls : List Nat} : lkIn none Ls = true := rfl
@[simp] theorem lk_some {Ls : List Nat} {j : Nat} : lkIn (some (j, d)) Ls = decide (j ∈ Ls) := rfl
@[simp] theorem RSu_none {r : RS} : r.unlk none = r := by cases r <;> rfl
@[simp] theorem REu_none {r : RE} : r.unlk none = r := by cases r <;> rfl
@[simp] theorem REu_ok {j : Nat} {d1 : D} : (RE.ok d e).unlk (some (j, d1)) = .ok d (e.set j (some d1)) := rfl
@[simp] theorem RSu_nx {j : Nat} {d1 : D} : (RS.nx e).unlk (some (j, d1)) = .nx (e.set j (some d1)) := rfl
@[simp] theorem RSu_rt {j : Nat} {d1 : D} : (RS.rt d e).unlk (some (j, d1)) = .rt d (e.set j (some d1)) := rfl
@[simp] theorem wipe_nil : wipeE [] e = e := rfl
@[simp] theorem wipe_cons {is : List Nat} : wipeE (i :: is) e = (wipeE is e).set i none := rfl
@[simp] theorem back_nil : backE e1 [] e = e := rfl
@[simp] theorem back_cons {is : List Nat} : backE e1 (i :: is) e = match e1[i]? with
    | some (some d) => if fz d = true then (backE e1 is e).set i (some d) else backE e1 is e
    | _ => backE e1 is e := rfl
@[simp] theorem ap_true : mTrue e = .ok (.bl true) e := rfl
@[simp] theorem rg_len {lo hi : Int} : (rangeD lo hi).length = (hi - lo).toNat := by
  unfold rangeD
  rw [List.length_map, List.length_range]
theorem rg_get {lo hi : Int} {k : Nat} {d : D} (h : (rangeD lo hi)[k]? = some d) : d = .int (lo + (k : Nat)) ∧ k < (hi - lo).toNat := by
  unfold rangeD at h
  rw [List.getElem?_map] at h
  by_cases hk : k < (hi - lo).toNat
  · rw [List.getElem?_range hk] at h
    injection h with h
    exact ⟨h.symm, hk⟩
  · rw [List.getElem?_eq_none (by simpa using hk)] at h; cases h
theorem rngOk_s {j : Int} (h1 : -1000000000 < j) (h2 : j < 1000000000) : rngOk j = true := by
  unfold rngOk
  exact Nat.ble_eq_true_of_le (by omega)
@[simp] theorem eq_int {a b : Int} : eqD (.int a) (.int b) = some (.bl (a == b)) := rfl
@[simp] theorem ne_int {a b : Int} : neD (.int a) (.int b) = some (.bl (!(a == b))) := rfl
@[simp] theorem isV_bl {b : Bool} : mAnd.isV (.bl b) = true := rfl
@[simp] theorem isV_non : mAnd.isV .non = true := rfl
@[simp] theorem isV_int {b : Int} : mAnd.isV (.int b) = true := rfl
@[simp] theorem ap_and : mAnd oa n e = match oa.run e with
  | .ok p e1 => p.see e1 fun d e2 => match truD d with
    | some true => n e2
    | some false => if mAnd.isV d = true then .ok d e2 else .no
    | none => .no
  | .ex c d e1 => .ex c d e1
  | .no => .no := rfl
@[simp] theorem ap_or : mOr oa n e = match oa.run e with
  | .ok p e1 => p.see e1 fun d e2 => match truD d with
    | some true => if mAnd.isV d = true then .ok d e2 else .no
    | some false => n e2
    | none => .no
  | .ex c d e1 => .ex c d e1
  | .no => .no := rfl
@[simp] theorem ap_tnot : mTNot m e = match m e with
  | .ok (.bl b) e1 => .ok (.bl (!b)) e1
  | .ok _ _ => .no
  | .ex c d e1 => .ex c d e1
  | .no => .no := rfl
@[simp] theorem ap_tand : mTAnd m n e = match m e with
  | .ok (.bl true) e1 => n e1
  | .ok (.bl false) e1 => .ok (.bl false) e1
  | .ok _ _ => .no
  | .ex c d e1 => .ex c d e1
  | .no => .no := rfl
@[simp] theorem ap_tor : mTOr m n e = match m e with
  | .ok (.bl true) e1 => .ok (.bl true) e1
  | .ok (.bl false) e1 => n e1
  | .ok _ _ => .no
  | .ex c d e1 => .ex c d e1
  | .no => .no := rfl
@[simp] theorem ap_not : mNot oa e = (oa.run e).bind fun p e1 => p.see e1 fun d e2 => RE.of ((truD d).map fun b => .bl (!b)) e2 := rfl
@[simp] theorem ap_zip2 : mZip2 m n e = match m e with
  | .ok d1 e1 => match n e1 with
    | .ok d2 e2 => match zipD (frz d1) (frz d2) with
      | some ds => .ok ds none e2
      | none => .no
    | .ex c d e2 => .ex c d e2
    | .no => .no
  | .ex c d e1 => .ex c d e1
  | .no => .no := rfl
@[simp] theorem zip_tup {xs ys : List D} : zipD (.tup xs) (.tup ys) = some (List.zipWith (fun x y => .tup [x, y]) xs ys) := rfl
@[simp] theorem is_tup {ds : List D} : isiD .tuple (.tup ds) = some true := rfl
@[simp] theorem is_tup_non : isiD .tuple .non = some false := rfl
@[simp] theorem is_tup_int {a : Int} : isiD .tuple (.int a) = some false := rfl
@[simp] theorem is_tup_bl {a : Bool} : isiD .tuple (.bl a) = some false := rfl
@[simp] theorem is_tup_str {a : Str} : isiD .tuple (.str a) = some false := rfl
@[simp] theorem is_tup_lst {o : Bool} {a : List D} : isiD .tuple (.lst o a) = some false := rfl
@[simp] theorem is_int_int {a : Int} : isiD .int (.int a) = some true := rfl
@[simp] theorem is_int_bl {a : Bool} : isiD .int (.bl a) = some true := rfl
@[simp] theorem is_int_str {a : Str} : isiD .int (.str a) = some false := rfl
@[simp] theorem is_int_non : isiD .int .non = some false := rfl
@[simp] theorem is_bool_int {a : Int} : isiD .bool (.int a) = some false := rfl
@[simp] theorem is_bool_bl {a : Bool} : isiD .bool (.bl a) = some true := rfl
@[simp] theorem is_str_str {a : Str} : isiD .str (.str a) = some true := rfl
@[simp] theorem isB_int {b : Bool} {a : Int} : isB b (.int a) = false := rfl
@[simp] theorem isB_bl {b a : Bool} : isB b (.bl a) = (a == b) := rfl
@[simp] theorem isB_str {b : Bool} {a : Str} : isB b (.str a) = false := rfl
@[simp] theorem isB_non {b : Bool} : isB b .non = false := rfl
/-- plain data of so many levels: tuples, whole numbers, None -/
def plD : Nat → D → Bool
  | _, .non => true
  | _, .int _ => true
  | n + 1, .tup ds => ds.all (plD n)
  | _, _ => false
theorem plD_fz : ∀ (n : Nat) {d : D}, plD n d = true → fz d = true
  | n, .non, _ => rfl
  | n, .int _, _ => rfl
  | 0, .tup ds, h => by simp [plD] at h
  | n + 1, .tup ds, h => by
    have h : ds.all (plD n) = true := h
    show fzs ds = true
    rw [fzs_all, List.all_eq_true]
    exact fun d hd => plD_fz n (List.all_eq_true.mp h d hd)
  | n, .bl _, h => by cases n <;> simp [plD] at h
  | n, .str _, h => by cases n <;> simp [plD] at h
  | n, .lst _ _, h => by cases n <;> simp [plD] at h
  | n, .scr _, h => by cases n <;> simp [plD] at h
  | n, .dk _ _, h => by cases n <;> simp [plD] at h
  | n, .dt _ _, h => by cases n <;> simp [plD] at h
  | n, .fn _, h => by cases n <;> simp [plD] at h
/-! ### loops -/
/-- what one turn asks -/
def stP (N : DEnv → Prop) (R : RS → Prop) : RS → Prop
  | .nx e => N e
  | .ct e => N e
  | .bk e => R (.nx e)
  | .rt d e => R (.rt d e)
  | .ex c d e => R (.ex c d e)
  | .no => False
@[simp] theorem stP_nx {N : DEnv → Prop} {R : RS → Prop} : stP N R (.nx e) = N e := rfl
@[simp] theorem stP_ct {N : DEnv → Prop} {R : RS → Prop} : stP N R (.ct e) = N e := rfl
@[simp] theorem stP_bk {N : DEnv → Prop} {R : RS → Prop} : stP N R (.bk e) = R (.nx e) := rfl
@[simp] theorem stP_rt {N : DEnv → Prop} {R : RS → Prop} : stP N R (.rt d e) = R (.rt d e) := rfl
@[simp] theorem stP_ex {N : DEnv → Prop} {R : RS → Prop} {c : Nat} : stP N R (.ex c d e) = R (.ex c d e) := rfl
@[simp] theorem stP_no {N : DEnv → Prop} {R : RS → Prop} : stP N R .no = False := rfl
def stO (N : DEnv → Prop) : Option DEnv → Prop
  | some e => N e
  | none => False
@[simp] theorem stO_some {N : DEnv → Prop} : stO N (some e) = N e := rfl
@[simp] theorem stO_none {N : DEnv → Prop} : stO N none = False := rfl
def stE (N : D → DEnv → Prop) : RE → Prop
  | .ok d e => N d e
  | _ => False
@[simp] theorem stE_ok {N : D → DEnv → Prop} : stE N (.ok d e) = N d e := rfl
@[simp] theorem stE_no {N : D → DEnv → Prop} : stE N .no = False := rfl
def stB (N : Bool → DEnv → Prop) : RE → Prop
  | .ok (.bl b) e => N b e
  | _ => False
@[simp] theorem stB_ok {N : Bool → DEnv → Prop} {b : Bool} : stB N (.ok (.bl b) e) = N b e := rfl
@[simp] theorem stB_no {N : Bool → DEnv → Prop} : stB N .no = False := rfl
theorem forL_rule {tg : CT} {m : MS} (R : RS → Prop) : ∀ {ds : List D} (I : Nat → DEnv → Prop) {e : DEnv}, I 0 e →
    (∀ k d e, ds[k]? = some d → I k e → stO (fun e1 => stP (I (k + 1)) R (m e1)) (put tg d e)) →
    (∀ e, I ds.length e → R (.nx e)) → R (forL tg m ds e)
  | [], I, e, h0, _, hd => hd e h0
  | d :: ds, I, e, h0, hs, hd => by
    have h := hs 0 d e rfl h0
    unfold forL
    cases q : put tg d e with
    | none => rw [q] at h; exact h.elim
    | some e1 =>
      rw [q] at h
      have h : stP (I (0 + 1)) R (m e1) := h
      have rest : ∀ e2, I (0 + 1) e2 → R (forL tg m ds e2) := fun e2 h3 => forL_rule R (fun k => I (k + 1)) h3 (fun k d' e' hk hi => hs (k + 1) d' e' hk hi) fun e' hi => hd e' hi
      simp only
      cases q2 : m e1 <;> rw [q2] at h <;> first | exact rest _ h | exact h | exact h.elim
theorem lcL_rule {own : List Nat} {tg : CT} {cond elt : ME} : ∀ {ds : List D} (I : Nat → List D → DEnv → Prop) {acc : List D} {e : DEnv}, I 0 acc e →
    (∀ k d acc e, ds[k]? = some d → I k acc e → stO (fun e1 => stB (fun b e2 => if b = true then stE (fun y e3 => acc.length < LIM ∧ I (k + 1) (acc ++ [y]) (wipeE own e3)) (elt e2) else I (k + 1) acc (wipeE own e2)) (cond e1)) (put tg d e)) →
    ∃ acc' e', lcL own tg cond elt ds acc e = .ok acc' e' ∧ I ds.length acc' e'
  | [], I, acc, e, h0, _ => ⟨acc, e, rfl, h0⟩
  | d :: ds, I, acc, e, h0, hs => by
    have h := hs 0 d acc e rfl h0
    unfold lcL
    cases q : put tg d e with
    | none => rw [q] at h; exact h.elim
    | some e1 =>
      rw [q] at h
      rw [stO_some] at h
      simp only
      cases q2 : cond e1 with
      | ok dc e2 =>
        rw [q2] at h
        cases dc with
        | bl b =>
          rw [stB_ok] at h
          cases b with
          | true =>
            rw [if_pos rfl] at h
            simp only
            cases q3 : elt e2 with
            | ok y e3 =>
              rw [q3, stE_ok] at h
              simp only
              rw [if_pos h.1]
              exact lcL_rule (fun k => I (k + 1)) h.2 fun k d' acc' e' hk hi => hs (k + 1) d' acc' e' hk hi
            | ex c d e3 => rw [q3] at h; exact h.elim
            | no => rw [q3] at h; exact h.elim
          | false =>
            rw [if_neg Bool.false_ne_true] at h
            exact lcL_rule (fun k => I (k + 1)) h fun k d' acc' e' hk hi => hs (k + 1) d' acc' e' hk hi
        | _ => exact h.elim
      | ex c d e2 => rw [q2] at h; exact h.elim
      | no => rw [q2] at h; exact h.elim
theorem whileN_rule {t : ME} {m : MS} (R : RS → Prop) (I : Nat → DEnv → Prop)
    (hs : ∀ μ e, I μ e → stB (fun b e1 => if b = true then stP (fun e2 => ∃ μ', μ' < μ ∧ I μ' e2) R (m e1) else R (.nx e1)) (t e)) :
    ∀ (n μ : Nat) (e : DEnv), I μ e → μ < n → R (whileN t m n e)
  | 0, _, _, _, h => absurd h (Nat.not_lt_zero _)
  | n + 1, μ, e, hi, hn => by
    have h := hs μ e hi
    unfold whileN
    cases q : t e with
    | ok dc e1 =>
      rw [q] at h
      cases dc with
      | bl b =>
        rw [stB_ok] at h
        cases b with
        | true =>
          rw [if_pos rfl] at h
          simp only
          have rest : ∀ e2, (∃ μ', μ' < μ ∧ I μ' e2) → R (whileN t m n e2) := fun e2 ⟨μ', h3, h4⟩ => whileN_rule R I hs n μ' e2 h4 (by omega)
          cases q2 : m e1 <;> rw [q2] at h <;> first | exact rest _ h | exact h | exact h.elim
        | false => exact h
      | _ => exact h.elim
    | ex c d e1 => rw [q] at h; exact h.elim
    | no => rw [q] at h; exact h.elim
theorem env4 {e : DEnv} (h : e.length = 4) : ∃ a b c d, e = [a, b, c, d] := by
  match e, h with
  | [a, b, c, d], _ => exact ⟨a, b, c, d, rfl⟩
end
end EV

/-! EvU: an own exception whose __init__ says super().__init__(text) and self.f = x: made by C(x). -/
namespace EV
open PySem PySem.Spec PyProof.Rows L2 PySem.W

/-- the body of such an __init__ -/
def supBody (ms pf fl : Str) (pa pb pc pd pe pg ph pi pj pk : Pos) (tn : Nat) : List Stmt :=
  [.Expr (.Call (.Attribute (.Call (.Name "super" pa) [] [] pb) "__init__" pc) [.Constant (.str ms) tn pd] [] pe) pg,
   .Assign [.Attribute (.Name "self" ph) fl pi] (.Name pf pj) pk]
/-- its scope -/
abbrev supScope (pf : Str) : Scope := { kind := .function, names := [("self", .local), (pf, .local), ("__class__", .free), ("super", .globalImplicit)], isGenerator := false, isCoroutine := false, more := [] }
section
open PySem.Calls PySem.HandSPX
variable {prog : Program} {w : World} {A : Around} {E : Value → Shared → Prop} {h : Heap} {g : Array GenState} {d : Drawn} {t : Nat} {os : OsState}
variable {nm q : Str} {C N : Addr} {bs bm : List Value} {hdct : Bool} {sn : List Str} {sub : List Value} {ab : Bool} {col : Option Bool} {dd : Option Addr} {k0 k1 k2 k3 k5 : Option Value}
theorem call_mw {u e t0 : Addr} {rest : List Value} {Q : Value → Shared → Prop}
    (hC : h.get? C = some (excClassObj nm q C N bs bm hdct sn sub ab col dd k0 k1 k2 k3 k5 "ValueError.__new__")) (he : h.get? e = some (HandSPX.excO C t0)) (hu : h.get? u = some (kxs_mw "ValueError.__init__" e)) (hrest : rest.length ≤ sizeLine)
    (hq : ∀ h' t1, (∀ b o, b ≠ e → h.get? b = some o → h'.get? b = some o) → h'.get? e = some (HandSPX.excO C t1) → Q .none ⟨h', g, d, t, os⟩) :
    wpAny (model prog w) A (call (.ref u) rest) Q E ⟨h, g, d, t, os⟩ := by
  refine wpAny_call (codeAny_of_tree ?_)
  show wpAny _ A.in1 (callAny (.ref u) ⟨rest, []⟩) _ _ _
  simp only [callAny]
  refine wpAny_bind (wpAny_load hu ?_)
  simp only [kxs_mw, show (Value.type "method-wrapper" == Value.type "method" || Value.type "method-wrapper" == Value.type "builtin_function_or_method" || Value.type "method-wrapper" == Value.type "method-wrapper") = true by decide, if_true]
  refine W.KFB.if_so (by decide) ?_
  refine wpAny_bind (ESX.check_bound F.excBase_ValueError hC he rfl ?_)
  refine wpAny_bind (wpAny_pure (wpAny_pure ?_))
  refine ⟨Code.quiet_builtin _ (by decide +kernel), codeAny_builtin F.excBase_ValueError.initEntry ?_⟩
  rw [Around.under_plainId F.excBase_ValueError.init.plain _]
  wp_walk
  refine hq _ h.objs.size (fun b o hb ho => ?_) ?_
  · rw [Heap.get?_update_other _ _ (Ne.symm hb)]
    exact Heap.get?_push_of_some _ ho
  · rw [Heap.get?_update_self _ (Heap.get?_push_of_some _ he) rfl]
    rfl
end
section
open PySem.Calls
variable {prog : Program} {w : World} {A : Around} {R : Result → Shared → Prop} {K : Frag} {mg mb : Str → Option Value} {h : Heap} {g : Array GenState} {d : Drawn} {t : Nat} {os : OsState}
theorem init_sup {x C fI cc cda t0 : Addr} {v : Value} {ms pf fl qual file : Str} {pa pb pc pd pe pg ph pi pj pk : Pos} {tn : Nat} {params : Arguments} {dV kV doc pm ct oc ccl cl : Value} {an od cdd cld : Option Addr} {osl ccs csl : Array (Option Value)} {vs : Array Value} {tf : Tok} {ar : Arg} {cdD : ClassData}
    (room : A.depth < recursionLimit) (XK : K.In h) (hg : h.Ns mainGlobals mg) (hms : mg "super" = none) (hb : h.Ns builtinsNs mb) (hbb : ∀ x : Str, x ≠ "__name__" → mb x = bootBuiltins x) (hlim : h.NoLimit)
    (hx : h.get? x = some (HandSPX.excO C t0)) (hnK : K.lookup x = none) (T : OexC K C)
    (hf : K.lookup fI = some ⟨oc, od, .func (ksFn "__init__" qual params (supBody ms pf fl pa pb pc pd pe pg ph pi pj pk tn) (supScope pf) dV kV doc pm an (.ref cda) ct cc), osl⟩) (hcd : codeIn K (.ref cda) qual = true)
    (hcode : K.lookup cda = some ⟨ccl, cdd, .fields vs, ccs⟩) (hvs : vs[2]? = some (.str file tf)) (hfile : ((prog.main.file : Str) == file) = true) (hcell : K.lookup cc = some ⟨cl, cld, .cell (some (.ref C)), csl⟩)
    (hD : clsIn K C = some cdD) (hsub : mroIn K C (.ref C) = some true) (hp : (params.posonlyargs ++ params.args).head? = some ar) (har : ar.arg = "self") (hpf : (pf == ("self" : Str)) = false)
    (hbind : ∀ s : Shared, BindsTo s (ksFn "__init__" qual params (supBody ms pf fl pa pb pc pd pe pg ph pi pj pk tn) (supScope pf) dV kV doc pm an (.ref cda) ct cc) ⟨[.ref x, v], []⟩ [("self", .ref x), (pf, v)])
    (hks : (supScope pf).names.lookup ("super" : Str) = some .globalImplicit) (hkc : (supScope pf).names.lookup ("__class__" : Str) = some .free) (hkp : (supScope pf).names.lookup pf = some .local)
    (htop : (prog.main.scope.names.lookup ("super" : Str)).isSome = false) (ho : nsIn K cStatics "thirdparty.any" = some none) (hm : ks_superIn K C C "__init__" = some (some (.builtin "ValueError.__init__")))
    (hB : subIn K (.ref C) (.type "ValueError") = some true) (hei : excInitIn K C PySem.HandSPX.veTail "ValueError.__new__" = true) (hno : findIn K (.ref C) fl = some none) (hpd : (pf == ("__debug__" : Str)) = false) (hline : (pc.endLine == pe.line) = true)
    (hq : ∀ h' t1 dx tk', (∀ b o, b ≠ x → h.get? b = some o → h'.get? b = some o) → h.objs.size ≤ dx → dx ≠ x → h'.get? x = some { cls := .ref C, dict := some dx, data := .fields #[.ref t1, .none, .none, .none, .bool false, .none] } →
      h'.Ns1 dx (fun y => if y = fl then some v else none) → R (.ok (.ret .none)) ⟨h', g, d, tk', os⟩) :
    codeAny (model prog w) A (.call (.ref fI) ⟨[.ref x, v], []⟩) R ⟨h, g, d, t, os⟩ := by
  obtain ⟨oD, hD1, hD2⟩ : ∃ oD, h.get? C = some oD ∧ oD.data = .cls cdD := by
    unfold clsIn at hD
    split at hD
    · rename_i c d cd' sl ho
      cases hD
      exact ⟨_, XK _ _ ho, rfl⟩
    · cases hD
  refine ks_codeAny_call_defAt room (XK _ _ hf) rfl hlim (codeRec_of XK hcd) rfl (hbind _) (by simp [supScope]) (fun y hy => ?_) (fun h₁ hns hk₁ => ?_) 
  · simp only [List.mem_cons, List.not_mem_nil, or_false] at hy
    rcases hy with rfl | rfl
    · exact rfl
    · exact hkp
  have X1 : K.In h₁ := XK.keeps hk₁
  show _root_.PySem.wpAt (model prog w) (A.deeper (ksEnv qual (supScope pf) h.objs.size fI (.ref cda) cc)) (.func _ (ksEnv qual (supScope pf) h.objs.size fI (.ref cda) cc)) (execs (supBody ms pf fl pa pb pc pd pe pg ph pi pj pk tn) (ksEnv qual (supScope pf) h.objs.size fI (.ref cda) cc)) _ _ _
  generalize hAA : A.deeper (ksEnv qual (supScope pf) h.objs.size fI (.ref cda) cc) = AA
  have he : eval (.Call (.Attribute (.Call (.Name "super" pa) [] [] pb) "__init__" pc) [.Constant (.str ms) tn pd] [] pe) (ksEnv qual (supScope pf) h.objs.size fI (.ref cda) cc) = (do
      let ov ← attributeBase (.Call (.Name "super" pa) [] [] pb) "__init__" (ksEnv qual (supScope pf) h.objs.size fI (.ref cda) cc) (eval (.Call (.Name "super" pa) [] [] pb) (ksEnv qual (supScope pf) h.objs.size fI (.ref cda) cc))
      standAt pc.atName
      let (f, first) ← holding [ov] (getMethod ov "__init__" (pure false))
      callWith pe f first (backTo pe (starEach [.Constant (.str ms) tn pd] (ksEnv qual (supScope pf) h.objs.size fI (.ref cda) cc))) []) := by
    rw [arm_eval_Call]
    congr 1; funext ov; congr 1; funext _
    have hpos : methodCallPos true (.Call (.Name "super" pa) [] [] pb) (ksEnv qual (supScope pf) h.objs.size fI (.ref cda) cc) pc pe = pure pe := by unfold methodCallPos; simp [hline]
    unfold methodCall
    show (holding [ov] (calleeOf true _ _ ov "__init__") >>= fun p => methodCallPos true _ _ pc pe >>= fun cp => callWith cp p.1 p.2 _ _) = _
    rw [hpos]
    rfl
  refine ks_wpAt_execs_cons (ks_wpAt_Expr_any (ks_wpAt_MethodCall (he := he) (ks_wpAt_super_base (env := ksEnv qual (supScope pf) h.objs.size fI (.ref cda) cc) hks hkc rfl rfl (X1 _ _ hf) rfl hp rfl (X1 _ _ hcode) rfl hvs hfile htop ?_)))
  · refine ks_loadName_global rfl hks (loadGlobal_builtin (env := ksEnv qual (supScope pf) h.objs.size fI (.ref cda) cc) (hg.keeps hk₁) hms (hb.keeps hk₁) ((hbb _ (by decide +kernel)).trans (by rfl)) ⟨rfl, ?_⟩)
    refine wpAny_loadName_free rfl hkc rfl ⟨_, X1 _ _ hcell, rfl⟩ ?_
    rw [har]
    refine wpAny_loadName_local (v := .ref x) rfl rfl hns ?_ ?_
    · show List.lookup ("self" : Str) [(pf, v), (("self" : Str), .ref x)] = _
      rw [List.lookup_cons, (show (("self" : Str) == pf) = false from by rw [BEq.comm]; exact hpf)]
      rfl
    refine ks_wpAny_isType_cls (hk₁ _ _ hD1) hD2 ⟨rfl, ?_⟩
    have hx1 := hk₁ _ _ hx
    refine ks_wpAny_call_super (hk₁ _ _ hD1) hD2 hx1 rfl (fun c e => by cases e) (looks_mroIn X1 hsub) (fun h₂ e₂ k₂ => ?_)
    have X2 : K.In h₂ := X1.keeps k₂
    have hx2 := k₂ _ _ hx1
    have IA : InstAt h₂ x (HandSPX.excO C t0) C none := ⟨hx2, rfl, rfl, trivial⟩
    have nxC : x ≠ C := fun e => by
      rw [e, hD1] at hx
      cases hx
      cases hD2
    refine kxs_getMethod kxs_ValueError e₂ (looks_opaque X2 ho) (l₀ := cdD.mro) (fun A Q E s k q => wpAny_bind ((looks_clsIn X2 hD) A _ E s k (wpAny_pure q))) rfl X2 ?_ (IA.type.andThen (looks_subIn X2 hB)) nxC rfl ?_
    · unfold ks_superIn at hm
      rw [hD] at hm
      exact hm
    have k3 : ∀ b o, h₂.get? b = some o → (h₂.push (kxs_mw "ValueError.__init__" x)).get? b = some o := fun b o e => Heap.get?_push_of_some _ e
    have hu : (h₂.push (kxs_mw "ValueError.__init__" x)).get? h₂.objs.size = some (kxs_mw "ValueError.__init__" x) := Heap.get?_push_at rfl rfl
    refine kxs_callWith (i := "ValueError.__init__") (x := x) rfl (evalArgs_plain (spliced_more (Constant_str (spliced_none ⟨hu, ?_⟩))))
    obtain ⟨nm, q, N, bs, bm, sn, sub, ab, col, dd, k0, k1, k2, k3', k5, hC, hbm⟩ := T.cls
    refine call_mw (k3 _ _ (X2 _ _ hC)) (k3 _ _ hx2) hu (by rw [sizeLine_eq]; show (1 : Nat) ≤ _; decide) (fun h₃ t1 e₃ hx3 => ?_)
    have X3 : K.In h₃ := fun b o e => e₃ b o (fun z => by
      rw [z, hnK] at e
      cases e) (k3 _ _ (X2 _ _ e))
    have xL : h.objs.size ≠ x := fun z => by
      have := Heap.lt_size hx
      rw [← z] at this
      exact absurd this (Nat.lt_irrefl _)
    have ns3 : h₃.Ns h.objs.size (fun y => List.lookup y ([((("self" : Str)), Value.ref x), (pf, v)] : List (Str × Value)).reverse) := ((hns.keeps k₂).keeps k3).at fun o e => e₃ _ o xL e
    have hcl2 : cdD = { name := nm, bases := bs, mro := .ref C :: bm, ns := N, qualname := q, hasDict := true, slotNames := sn, subclasses := sub, abstract := ab, collection := col, hasDel := false } := by
      have e : clsIn K C = some { name := nm, bases := bs, mro := .ref C :: bm, ns := N, qualname := q, hasDict := true, slotNames := sn, subclasses := sub, abstract := ab, collection := col, hasDel := false } := by unfold clsIn; rw [hC] <;> rfl
      rw [hD] at e
      exact Option.some.inj e
    have hsz : h.objs.size ≤ h₃.objs.size := by
      obtain ⟨oL, es, ep, hL, _⟩ := id ns3
      exact Nat.le_of_lt (Heap.lt_size hL)
    have kk : ∀ b o, b ≠ x → h.get? b = some o → h₃.get? b = some o := fun b o hb e => e₃ b o hb (k3 _ _ (k₂ _ _ (hk₁ _ _ e)))
    show _root_.PySem.wpAt _ _ _ (execs _ _) _ _ _
    refine ks_wpAt_execs_cons (ks_wpAt_Assign_Attr (wpAt_of_wpAny (wpAny_Name (wpAny_loadName_local (v := v) rfl hkp ns3 ?_ ?_) hpd)) rfl)
    · show List.lookup pf [(pf, v), (("self" : Str), .ref x)] = _
      rw [List.lookup_cons, beq_self_eq_true]
    refine wpAny_Name (wpAny_loadName_local (v := .ref x) rfl rfl ns3 ?_ ?_) rfl
    · show List.lookup ("self" : Str) [(pf, v), (("self" : Str), .ref x)] = _
      rw [List.lookup_cons, (show (("self" : Str) == pf) = false from by rw [BEq.comm]; exact hpf)]
      rfl
    refine set_plain X3 (ox := HandSPX.excO C t1) (od := none) ⟨hx3, rfl, rfl, trivial⟩ T.sa ?_
    refine HandSPX.exc_osa X3 hx3 hD ?_ ?_ hno (fun h₄ tk' dx k4 dn dne hx4 hn4 => ?_)
    · rw [hcl2]; exact hbm
    · rw [hcl2]
    refine wpAt_of_wpAny (wpAny_pure ?_)
    refine hq h₄ t1 dx tk' (fun b o hb e => k4 b o hb (kk b o hb e)) (Nat.le_trans hsz dn) dne hx4 hn4
end
end EV

/-! EvV: such a class, its exceptions made. -/
namespace EV
open PySem PySem.Spec PyProof.Rows L2 PySem.W

/-- what the written part says of the class at C: C(v) makes an exception whose field fl is v -/
structure SupC (prog : Program) (w : World) (K : Frag) (C : Addr) (fl : Str) : Prop where
  oex : OexC K C
  ini : ∃ fI, findIn K (.ref C) "__init__" = some (some (.ref fI)) ∧ typeIn K (.ref fI) = some (.type "function") ∧
    ∀ {A : Around} {R : Result → Shared → Prop} {mg mb : Str → Option Value} {h : Heap} {g : Array GenState} {d : Drawn} {t : Nat} {os : OsState} {x t0 : Addr} {v : Value},
      A.depth < recursionLimit → K.In h → h.Ns mainGlobals mg → mg "super" = none → h.Ns builtinsNs mb → (∀ x : Str, x ≠ "__name__" → mb x = bootBuiltins x) → h.NoLimit → h.get? x = some (HandSPX.excO C t0) → K.lookup x = none →
      (∀ h' t1 dx tk', (∀ b o, b ≠ x → h.get? b = some o → h'.get? b = some o) → h.objs.size ≤ dx → dx ≠ x → h'.get? x = some { cls := .ref C, dict := some dx, data := .fields #[.ref t1, .none, .none, .none, .bool false, .none] } →
        h'.Ns1 dx (fun y => if y = fl then some v else none) → R (.ok (.ret .none)) ⟨h', g, d, tk', os⟩) →
      codeAny (model prog w) A (.call (.ref fI) ⟨[.ref x, v], []⟩) R ⟨h, g, d, t, os⟩
def tMkS (C : Addr) (fl : Str) (te : TE) : L2.St → Hp → XK → Prop := fun σ H Q => te σ H fun v H1 => ∀ d, H1 d = none → Q (.ref C) (some d) (upd H1 d (.xd [(fl, v)]))
section
variable {X : Cx} {x fl : Str} {C : Addr} {e : Expr} {te : TE} {p pos : Pos} {k : Nat}
theorem pmk_sup (S : SupC X.prog X.w X.K C fl) (hr : Room (k + 1) X.A) (hg : Gl X x) (hm : X.mg x = some (.ref C)) (hms : X.mg "super" = none) (he1 : PE X e te)
    (hdb : (x == ("__debug__" : Str)) = false := by decide) (he : starEach [e] X.env = (false, eval e X.env) :: starEach [] X.env := by rfl) (hpl : (backTo pos (starEach [] X.env)).any (·.1) = false := by rfl) :
    PMk X (.Call (.Name x p) [e] [] pos) (tMkS C fl te) := by
  intro pins s σ H Q I h
  have T := S.oex
  obtain ⟨fI, iC, tI, run⟩ := S.ini
  obtain ⟨nm, q, N, bs, bm, sn, sub, ab, col, dd, k0, k1, k2, k3, k5, hC, hbm⟩ := T.cls
  refine wpAny_Call_Name_kw (ld_glob I hg hm ?_ hdb)
  have ha := pa_cons (X := X) he1 pa_nil he
  have h' : tCons te tNil σ H (fun vs H1 => match vs with | [y] => ∀ d, H1 d = none → Q (.ref C) (some d) (upd H1 d (.xd [(fl, y)])) | _ => False) := h
  refine PySem.W.callWith_K (h₀ := X.base) I.ok.mod.kin T.kC (thn (ha.run pos pins s σ H _ I h') fun us s1 ⟨vs, H1, I1, r1, q1⟩ => ⟨I1.kIn, ?_⟩) he hpl
  obtain ⟨y, ev⟩ : ∃ y, vs = [y] := by
    match vs, q1 with
    | [y], _ => exact ⟨y, rfl⟩
  subst ev
  cases r1 with
  | @cons _ u0 _ ur ra rw' =>
  cases rw'
  show wpAny _ _ (call (.ref C) [u0]) _ _ _
  obtain ⟨hp, g, dr, tk, os⟩ := s1
  have hsz : hp.objs.size ≤ hp.objs.size + 1 := Nat.le_succ _
  have kk : ∀ b o, hp.get? b = some o → ((hp.push (PySem.W.kdv_tup [u0])).push (PySem.HandSPX.excO C hp.objs.size)).get? b = some o := fun b o e => Heap.get?_push_of_some _ (Heap.get?_push_of_some _ e)
  have hget : ((hp.push (PySem.W.kdv_tup [u0])).push (PySem.HandSPX.excO C hp.objs.size)).get? (hp.objs.size + 1) = some (PySem.HandSPX.excO C hp.objs.size) := by heap_get
  have I2 : Inv X pins σ (upd H1 (hp.objs.size + 1) (exo (hp.objs.size + 1) C none)) ⟨(hp.push (PySem.W.kdv_tup [u0])).push (PySem.HandSPX.excO C hp.objs.size), g, dr, tk, os⟩ :=
    I1.laid (t' := tk) (a := hp.objs.size + 1) (o := exo (hp.objs.size + 1) C none) (h' := (hp.push (PySem.W.kdv_tup [u0])).push (PySem.HandSPX.excO C hp.objs.size)) kk hsz (exo_ok hget)
  obtain ⟨mb, hb1, hb2⟩ := I.mod.blt
  have bk2 := I2.bk
  refine wpAny_call (PySem.HandSPX.call_own F.excBase_ValueError (fun Y => PySem.HandSPX.refsVE_contains Y bm hbm) (I1.kIn _ _ hC) (PySem.W.looks_findIn I1.kIn iC) (fun self => PySem.W.bind_fn I1.kIn self tI) (by rw [sizeLine_eq]; show (1 : Nat) ≤ _; decide)
    (run ?_ I2.kIn (I.mod.glob.keeps bk2) hms (hb1.keeps bk2) hb2 (I.mod.nolimit.keeps bk2) hget ?_ fun h' t1 dx tk' kx dn dne hx hns => ⟨rfl, mk_end (raises_own T.exC T.tyC) I1 hsz kk (H2 := upd (upd (upd H1 (hp.objs.size + 1) (exo (hp.objs.size + 1) C none)) dx (exd dx [(fl, y)])) (hp.objs.size + 1) (exo (hp.objs.size + 1) C (some dx))) (d := dx) (fs := [(fl, y)]) ?_ ?_ rfl I1.bare ?_ ?_ ?_ ?_⟩))
  · have := (hr.make C [u0] []).dp
    omega
  · cases z : X.K.lookup (hp.objs.size + 1) with
    | none => rfl
    | some o =>
      have := Heap.lt_size (I1.kIn _ _ z)
      exact absurd this (by show ¬ (hp.objs.size + 1 < hp.objs.size); omega)
  all_goals try have na : hp.objs.size ≤ hp.objs.size + 1 := Nat.le_succ _
  all_goals generalize hP : (hp.push (PySem.W.kdv_tup [u0])).push (PySem.HandSPX.excO C hp.objs.size) = P at *
  all_goals generalize hA : hp.objs.size + 1 = a at *
  · have e : (upd H1 a (exo a C none)) a = some (exo a C none) := upd_same
    have hnd : (upd H1 a (exo a C none)) dx = none := I2.hok.fresh dn
    have nd : ∀ {b : Addr} {o : Obj}, P.get? b = some o → b ≠ dx := fun {b o} q => Nat.ne_of_lt (Nat.lt_of_lt_of_le (Heap.lt_size q) dn)
    have nA : ∀ {b : Addr}, (upd H1 a (exo a C none)) b = none → b ≠ a := fun {b} n z => by
      rw [z, e] at n
      cases n
    exact {
      keep := fun b o q n _ _ => kx b o (nA n) q
      slot := fun b o q n _ _ => ⟨o.slots, kx b o (nA n) q⟩
      free := fun b o q n _ => by rw [upd_ne (nA n), upd_ne (nd q)]; exact n
      there := fun b o q _ => by
        by_cases hb : b = a
        · exact ⟨_, by rw [hb]; exact hx⟩
        · exact ⟨o, kx b o hb q⟩
      tups := fun b xs q => by rw [upd_ne (at_ne e q exo_tup), upd_ne (ne_of_none q hnd)]; exact q
      frzs := fun b o v q => by rw [upd_ne (at_ne e q exo_frz), upd_ne (ne_of_none q hnd)]; exact q
      tbls := fun b ps q => ⟨#[], by rw [upd_ne (at_ne e q exo_tbl), upd_ne (ne_of_none q hnd), q]; simp⟩ }
  · have e : (upd H1 a (exo a C none)) a = some (exo a C none) := upd_same
    have hnd : (upd H1 a (exo a C none)) dx = none := I2.hok.fresh dn
    intro b o q
    by_cases hb : b = a
    · subst hb
      rw [upd_same] at q
      cases q
      exact exo_ok hx
    · rw [upd_ne hb] at q
      by_cases hd : b = dx
      · subst hd
        rw [upd_same] at q
        cases q
        exact exd_ok hns (relO_put (fs := []) ra fun g => True.intro)
      · rw [upd_ne hd] at q
        exact (I2.hok b o q).stay (fun c v hc z => kx c v (by
            rcases hc with hc | hc
            · rw [hc]
              exact hb
            · exact at_ne e hc exo_own) z)
          (fun c hc => by rw [upd_ne (at_ne e hc exo_own), upd_ne (ne_of_none hc hnd)]; exact hc) (fun c xs hc => by rw [upd_ne (at_ne e hc exo_tup), upd_ne (ne_of_none hc hnd)]; exact hc)
  · exact upd_same
  · rw [upd_ne dne, upd_same]
  · have hnd : (upd H1 a (exo a C none)) dx = none := I2.hok.fresh dn
    rw [upd_ne dne] at hnd
    exact hnd
  · have hnd : (upd H1 a (exo a C none)) dx = none := I2.hok.fresh dn
    rw [upd_ne dne] at hnd
    have hna : H1 a = none := I1.hok.fresh hsz
    have := q1 dx hnd
    refine Eq.mp (congrArg (Q (.ref C) (some dx)) ?_) this
    funext b
    by_cases hd : b = dx
    · rw [hd, upd_same, upd_same]
    · rw [upd_ne hd, upd_ne hd]
      by_cases hb : b = a
      · rw [hb, del_same, hna]
      · rw [del_ne hb, upd_ne hb, upd_ne hd, upd_ne hb]
end
end EV

/-! EvW: raise C(x), try .. except C. -/
namespace EV
open PySem PySem.Spec PyProof.Rows L2

/-- a class of exceptions by number: what the written part says -/
structure ExK (prog : Program) (w : World) (K : PySem.W.Frag) (mg : Str → Option Value) (g : GF) (c : Nat) (x : Str) : Prop where
  sup : SupC prog w K (g.ca c) (g.xn c)
  mg : mg x = some (.ref (g.ca c))
  xf : XfC K (g.ca c)
  no : PySem.W.findIn K (.ref (g.ca c)) (g.xn c) = some none
section
variable {X : Cx} {N : List Str} {sc : Scope} {fr : List Str} {g : GF} {W : WX} {L : List Nat} {a : Expr} {body : List Stmt} {pos p2 p3 p4 : Pos} {m : ME} {mb : MS} {F H F1 H1 F' H' : Hp} {fp fp1 fp' : Nat → List Addr} {σ σ1 : L2.St} {e e' : DEnv}
theorem Cf.toTry (C : Cf X W N sc fr) {pn : List (Addr × Obj)} {xe : Value → Shared → Prop} {W' : WX} (tk : Takes (X.tr pn xe) W') (po : PassesOwn (model X.prog X.w) X.A X.env xe) : Cf (X.tr pn xe) W' N sc fr where
  hN := C.hN
  nd := C.nd
  hsc := C.hsc
  calm := C.calm
  hu := C.hu
  hfr := C.hfr
  fnT := C.fnT
  tk := tk
  po := po
  stk := C.stk
  frm := C.frm
def mRaise (c : Nat) (m : ME) : MS := fun e => match m e with
  | .ok d e1 => .ex c d e1
  | .ex c d e1 => .ex c d e1
  | .no => .no
theorem ss_raise {c : Nat} {x : Str} {k : Nat} (C : Cf X W N sc fr) (T : ExK X.prog X.w X.K X.mg g c x) (hs : X.mg "super" = none) (R : Room (k + 1) X.A) (hg : glB sc x = true) (h : SE X g W a m)
    (hdb : (x == ("__debug__" : Str)) = false) (he : starEach [a] X.env = (false, eval a X.env) :: starEach [] X.env) : SS X g W L (.Raise (some (.Call (.Name x p2) [a] [] p3)) none pos) (mRaise c m) :=
  PS.imp (ps_raise C.calm C.tk (pmk_sup T.sup R (gl_ok C.toCn hg) T.mg hs h hdb he rfl)) fun D σ H ⟨F, fp, e, s, h⟩ => by
    refine RdE.iff.mpr ⟨F, fp, e, s, ?_⟩
    unfold mRaise at h
    cases q : m e with
    | ok d e1 =>
      rw [q] at h
      intro v F' H' fp' p s' t' tr dx hd
      refine h dx v σ F' _ fp' p (s'.new hd) (fun _ _ => rfl) ⟨t'.r.mono (fun _ _ z => z) fun c hc o z => upd_le hd c o z, t'.nd, t'.sep, t'.dj⟩ ?_ upd_same
      exact (tr.trans (Tr.new hd)).drop fun c z => .inl z
    | ex c d e1 => rw [q] at h; exact h.x
    | no => rw [q] at h; exact h
def noEx : RS → RS
  | .ex _ _ _ => .no
  | r => r
/-- try: body; except C: suite -/
def mTryO (cg : Nat → Option Bool) (mb ms : MS) : MS := fun e => match mb e with
  | .ex c d e1 => match cg c with
    | some true => noEx (ms e1)
    | some false => .ex c d e1
    | none => .no
  | r => r
theorem ss_tryO {cc : Nat} {x : Str} {b₀ : Stmt} {suite : List Stmt} {ms : MS} {cg : Nat → Option Bool} (C : Cf X W N sc fr) (hg : glB sc x = true) (hm : X.mg x = some (.ref (g.ca cc))) (hdb : (x == ("__debug__" : Str)) = false)
    (hc : ∀ c b, cg c = some b → PySem.W.exmOne X.K (.ref (g.ca c)) (.ref (g.ca cc)) = some b)
    (hb : ∀ (pn : List (Addr × Obj)) (xe : Value → Shared → Prop) (W' : WX), Cf (X.tr pn xe) W' N sc fr → SSs (X.tr pn xe) g W' L body mb)
    (hs : ∀ (a : Addr) (pn : List (Addr × Obj)), SSs (X.suite a pn) g W0 L (b₀ :: suite) ms) :
    SS X g W L (.Try body [.ExceptHandler (some (.Name x p2)) none (b₀ :: suite) p3] [] [] pos) (mTryO cg mb ms) :=
  PS.imp (ps_try_only (tb := fun W' => RdS (gOf X g) W' L mb) (ts := fun _ _ _ => RdS (gOf X g) W0 L ms) C.stk C.frm ⟨gl_ok C.toCn hg, hdb, .inl hm⟩ C.tk (fun W' pn xe tk po => hb pn xe W' (C.toTry tk po)) (fun a oe cls d pn _ _ => hs a _)) fun D σ H ⟨F, fp, e, s, h⟩ => by
    refine ⟨F, fp, e, s, ?_⟩
    unfold mTryO at h
    cases q : mb e with
    | nx e1 => rw [q] at h; exact h
    | rt d e1 => rw [q] at h; exact h
    | bk e1 => rw [q] at h; exact h
    | ct e1 => rw [q] at h; exact h
    | no => rw [q] at h; exact h
    | ex c d e1 =>
      rw [q] at h
      simp only at h
      intro dx v σ' F' H' fp' p s' l' t' tr hx
      cases q2 : cg c with
      | none => rw [q2] at h; exact h.elim
      | some b =>
        rw [q2] at h
        refine ⟨b, hc c b q2, fun hb _ _ => ?_, fun hb => ?_⟩
        · subst hb
          refine ⟨F', fp', e1, s', ?_⟩
          have h2 := SOut.trans h (tr.drop fun c z => .inl z) l'
          cases q3 : ms e1 with
          | nx e2 => rw [q3] at h2; exact h2
          | rt d e2 => rw [q3] at h2; exact h2
          | bk e2 => rw [q3] at h2; exact h2
          | ct e2 => rw [q3] at h2; exact h2
          | no => rw [q3] at h2; exact h2
          | ex c d e2 => rw [q3] at h2; exact h2.elim
        · subst hb
          exact h dx v σ' F' H' fp' p s' l' t' tr hx
/-- try: body; except C as n: return ('s', n.f) -/
def mTryR (i : Nat) (cg : Nat → Option Bool) (s : Str) (mb : MS) : MS := fun e => match mb e with
  | .ex c d e1 => match cg c with
    | some true => if fz d = true ∧ i < e1.length then .rt (.tup [.str s, d]) (e1.set i none) else .no
    | some false => .ex c d e1
    | none => .no
  | r => r
theorem ss_tryR {cc i : Nat} {x n fl sr : Str} {cg : Nat → Option Bool} {p5 p6 p7 p8 p9 : Pos} {kt jt : Nat} (C : Cf X W N sc fr) (hg : glB sc x = true) (hm : X.mg x = some (.ref (g.ca cc))) (hdb : (x == ("__debug__" : Str)) = false)
    (hn : locL N sc i n = true) (hL : i ∉ L) (hnd : (n == ("__debug__" : Str)) = false) (hnc : (n == ("__classdict__" : Str)) = false)
    (hc : ∀ c b, cg c = some b → PySem.W.exmOne X.K (.ref (g.ca c)) (.ref (g.ca cc)) = some b)
    (hx : ∀ c, cg c = some true → XfC X.K (g.ca c) ∧ PySem.W.findIn X.K (.ref (g.ca c)) fl = some none ∧ g.xn c = fl)
    (hb : ∀ (pn : List (Addr × Obj)) (xe : Value → Shared → Prop) (W' : WX), Cf (X.tr pn xe) W' N sc fr → SSs (X.tr pn xe) g W' L body mb)
    (hab : attributeBase (.Name n p8) fl X.env (eval (.Name n p8) X.env) = eval (.Name n p8) X.env)
    (hse : starEach [.Constant (.str sr) jt p6, .Attribute (.Name n p8) fl p7] X.env = (false, eval (.Constant (.str sr) jt p6) X.env) :: starEach [.Attribute (.Name n p8) fl p7] X.env)
    (hse2 : starEach [.Attribute (.Name n p8) fl p7] X.env = (false, eval (.Attribute (.Name n p8) fl p7) X.env) :: starEach [] X.env) :
    SS X g W L (.Try body [.ExceptHandler (some (.Name x p2)) (some n) [.Return (some (.Tuple [.Constant (.str sr) jt p6, .Attribute (.Name n p8) fl p7] kt p5)) p9] p3] [] [] pos) (mTryR i cg sr mb) := by
  have hl : X.N[i]? = some n ∧ X.env.kindOf n = some .local := locL_ok C.toCn hn
  refine PS.imp (ps_try_as (i := i) (tb := fun W' => RdS (gOf X g) W' L mb) (ts := fun a cls d => fun D σ H => ∃ c : Nat, cg c = some true ∧ cls = .ref (g.ca c) ∧ tSeq (tRet (tTup (tCons (tC (.str sr)) (tCons (tXf a cls d (g.ca c) fl (tVar i)) tNil)))) tNext D σ H)
    C.stk C.frm C.nd' hl.1 hl.2 ⟨gl_ok C.toCn hg, hdb, .inl hm⟩ C.tk (fun W' pn xe tk po => hb pn xe W' (C.toTry tk po)) (fun a oe cls d pn hz hf => ⟨fun pins s σ H D I ⟨c, hcg, ec, h⟩ => ?_⟩)) fun D σ H ⟨F, fp, e, s, h⟩ => ?_
  · obtain ⟨x1, x2, x3⟩ := hx c hcg
    exact (pss_cons (ps_ret (pe_tup (pa_cons pe_str (pa_cons (pe_xf x1 x2 hz hf (pe_var hl.1 (.inl hl.2) hnd hnc) hab) pa_nil hse2) hse))) pss_nil).run pins s σ H D I h
  · refine ⟨F, fp, e, s, ?_⟩
    unfold mTryR at h
    cases q : mb e with
    | nx e1 => rw [q] at h; exact h
    | rt d e1 => rw [q] at h; exact h
    | bk e1 => rw [q] at h; exact h
    | ct e1 => rw [q] at h; exact h
    | no => rw [q] at h; exact h
    | ex c d e1 =>
      rw [q] at h
      simp only at h
      intro dx v σ' F' H' fp' p s' l' t' tr hx2
      cases q2 : cg c with
      | none => rw [q2] at h; exact h.elim
      | some b =>
        rw [q2] at h
        refine ⟨b, hc c b q2, fun hb a ha => ?_, fun hb => ?_⟩
        · subst hb
          simp only at h
          split at h
          · rename_i hz
            obtain ⟨hz, hi0⟩ := hz
            obtain ⟨x1, x2, x3⟩ := hx c q2
            have hi : i < σ'.length := by
              rw [s'.len]; exact hi0
            refine ⟨c, q2, rfl, ?_⟩
            refine ⟨.ref a, List.getElem?_set_self hi, rfl, rfl, dx, [(g.xn c, v)], v, rfl, hx2, ?_, by rw [sizeLine_eq]; show (2 : Nat) ≤ _; decide, fun p' hp' => ?_⟩
            · rw [x3, List.lookup_cons, beq_self_eq_true]
            have s2 := (s'.forget (i := i)).newF (o := .tup [.str sr, v]) hp'
            have hp0 : p = [] := t'.r.nil_of_fz hz
            subst hp0
            have rd : RO (gOf X g) (upd F' p' (.tup [.str sr, v])) (upd H' p' (.tup [.str sr, v])) [] v d := t'.r.monoZ (upd_le (s'.fnone hp'))
            refine h (.ref p') σ' _ _ _ [] s2 l' (TO.z (.tup upd_same (ROs.consZ (.str sr) (ROs.consZ rd .nil)))) ?_
            refine (tr.trans (Tr.newF s'.sub hp')).weak (fun _ z => z) fun c z => ?_
            rcases z with z | z
            · exact .inl (.inl (own_take c (.inl z)))
            · cases z
          · exact h.elim
        · subst hb
          exact h dx v σ' F' H' fp' p s' l' t' tr hx2
end
end EV

/-! EvX: the head's facts of own exception classes. -/
namespace EV
open PySem PySem.Spec PyProof.Rows L2 PySem.W He

/-- an own exception class: its name, its __init__'s qualified name, parameters, body; its field, the parameter that fills it -/
structure ClD where
  x : Str
  qual : Str
  fl : Str
  pf : Str
  params : Arguments
  body : List Stmt
abbrev ClV : Type := Option (Str × Str × Arguments × FuncBody × Scope × Addr × List Str × Addr)
def clW (K : Frag) (x : Str) : ClV := match K.lookup (ma K (ga K x) "__init__") with
  | some ⟨_, _, .func fd, _⟩ => some (fd.name, fd.qualname, fd.params, fd.body, fd.scope, fd.globals, fd.closure.map (·.1), fd.builtins)
  | _ => none
def ClD.val (c : ClD) : ClV := some ("__init__", c.qual, c.params, .stmts c.body, supScope c.pf, mainGlobals, ["__class__"], builtinsNs)
def oexB (K : Frag) (C : Addr) : Bool := match K.lookup C with
  | some ⟨.type "type", _, .cls cd, sl⟩ => (match cd.mro, sl.toList with
    | .ref C' :: bm, [_, _, _, _, some (.builtin n), _] => C' == C && n == "ValueError.__new__" && !cd.hasDel && cd.hasDict && HandSPX.refsVE bm
    | _, _ => false)
  | _ => false
def eqA (a b : Option Value) : Bool := decide (a = b)
/-- what __init__'s function leans on -/
def iniB (file : Str) (K : Frag) (C : Addr) (c : ClD) : Bool := match K.lookup (ma K C "__init__") with
  | some ⟨_, _, .func fd, _⟩ => (match fd.code, fd.closure, fd.defaults with
    | .ref cda, [(_, cc)], .none => codeIn K (.ref cda) c.qual && (match K.lookup cda with
      | some ⟨_, _, .fields vs, _⟩ => (match (vs[2]? : Option Value) with
        | some (Value.str fi _) => file == fi
        | _ => false)
      | _ => false) && (match K.lookup cc with
      | some ⟨_, _, .cell (some (.ref C')), _⟩ => C' == C
      | _ => false)
    | _, _, _ => false)
  | _ => false
def excB (K : Frag) (D : Addr) : Bool := eqO (findIn K (.ref D) "__class__") (some (some (.builtin "object.__class__"))) && (eqO (specialIn K (.builtin "object.__class__") "__get__") (some (some (.builtin "getset_descriptor.__get__"))) &&
  (decide (takesIn K (.builtin "object.__class__") = some true) && decide (mroIn K D (.type "object") = some true)))
def clB (file : Str) (K : Frag) (c : ClD) : Bool :=
  oexB K (ga K c.x) && (eqO (findIn K (.ref (ga K c.x)) "__setattr__") (some (some (.builtin "object.__setattr__"))) && (decide (subIn K (.ref (ga K c.x)) (.type "BaseException") = some true) && (decide (typeIn K (.ref (ga K c.x)) = some (.type "type")) && (keepIn K (.ref (ga K c.x)) &&
  (eqO (findIn K (.ref (ga K c.x)) "__init__") (some (some (.ref (ma K (ga K c.x) "__init__")))) && (decide (typeIn K (.ref (ma K (ga K c.x) "__init__")) = some (.type "function")) && (iniB file K (ga K c.x) c &&
  (decide (mroIn K (ga K c.x) (.ref (ga K c.x)) = some true) && (eqO (nsIn K cStatics "thirdparty.any") (some none) && (eqO (ks_superIn K (ga K c.x) (ga K c.x) "__init__") (some (some (.builtin "ValueError.__init__"))) &&
  (decide (subIn K (.ref (ga K c.x)) (.type "ValueError") = some true) && (excInitIn K (ga K c.x) HandSPX.veTail "ValueError.__new__" && (eqO (findIn K (.ref (ga K c.x)) c.fl) (some none) && (xfB K (ga K c.x) && excB K (ga K c.x)))))))))))))))
theorem oexB_ok {K : Frag} {C : Addr} (q : oexB K C = true) : ∃ nm q N bs bm sn sub ab col dd k0 k1 k2 k3 k5, K.lookup C = some (excClassObj nm q C N bs bm true sn sub ab col dd k0 k1 k2 k3 k5 "ValueError.__new__") ∧ HandSPX.refsVE bm = true := by
  unfold oexB at q
  split at q
  · rename_i dd cd sl ho
    split at q
    · rename_i C' bm k0 k1 k2 k3 n k5 hm hs
      simp only [Bool.and_eq_true, beq_iff_eq, Bool.not_eq_true'] at q
      obtain ⟨⟨⟨⟨rfl, rfl⟩, hdel⟩, hh⟩, ht⟩ := q
      obtain ⟨nm, bs, mro, ns, qn, hd, sn, sub, ab, col, del⟩ := cd
      dsimp only at hm hdel hh
      subst hm hdel hh
      have hsl : sl = #[k0, k1, k2, k3, some (.builtin "ValueError.__new__"), k5] := by
        obtain ⟨l⟩ := sl
        simp only at hs
        rw [hs]
      subst hsl
      exact ⟨nm, qn, ns, bs, bm, sn, sub, ab, col, dd, k0, k1, k2, k3, k5, ho, ht⟩
    · cases q
  · cases q
theorem exc_of {file : Str} {K : Frag} {c : ClD} (hb : clB file K c = true) : ExcC K (ga K c.x) := by
  obtain ⟨_, hb⟩ := ba hb
  obtain ⟨_, hb⟩ := ba hb
  obtain ⟨_, hb⟩ := ba hb
  obtain ⟨_, hb⟩ := ba hb
  obtain ⟨_, hb⟩ := ba hb
  obtain ⟨_, hb⟩ := ba hb
  obtain ⟨_, hb⟩ := ba hb
  obtain ⟨_, hb⟩ := ba hb
  obtain ⟨_, hb⟩ := ba hb
  obtain ⟨_, hb⟩ := ba hb
  obtain ⟨_, hb⟩ := ba hb
  obtain ⟨_, hb⟩ := ba hb
  obtain ⟨_, hb⟩ := ba hb
  obtain ⟨_, hb⟩ := ba hb
  obtain ⟨b15, b16⟩ := ba hb
  have T := xfB_ok b15
  obtain ⟨e1, b16⟩ := ba b16
  obtain ⟨e2, b16⟩ := ba b16
  obtain ⟨e3, e4⟩ := ba b16
  exact ⟨T.ga, T.gg, T.exC, T.hdC, eqO_ok e1, eqO_ok e2, of_decide_eq_true e3, of_decide_eq_true e4⟩
/-- a class statement's one method -/
def clFn : Stmt → Arguments × List Stmt
  | .ClassDef _ _ _ (.FunctionDef _ a b _ _ _ _ _ _ _ :: _) _ _ _ _ _ _ _ => (a, b)
  | _ => default
/-- what the text says of the class -/
def SupOk (c : ClD) : Prop := ∃ (ms : Str) (pa pb pc pd pe pg ph pi pj pk : Pos) (tn : Nat) (ar : Arg), c.body = supBody ms c.pf c.fl pa pb pc pd pe pg ph pi pj pk tn ∧ (pc.endLine == pe.line) = true ∧
  (c.params.posonlyargs ++ c.params.args).head? = some ar ∧ ar.arg = "self" ∧ (c.pf == ("self" : Str)) = false ∧ (c.pf == ("__debug__" : Str)) = false ∧
  ((supScope c.pf).names.lookup ("super" : Str) = some .globalImplicit) ∧ ((supScope c.pf).names.lookup ("__class__" : Str) = some .free) ∧ ((supScope c.pf).names.lookup c.pf = some .local) ∧
  ∀ (kV doc pm ct cdv : Value) (an : Option Addr) (cc x : Addr) (v : Value), bindArgs (ksFn "__init__" c.qual c.params c.body (supScope c.pf) .none kV doc pm an cdv ct cc) ⟨[.ref x, v], []⟩ = pure [((("self" : Str)), Value.ref x), (c.pf, v)]
theorem cl_ok {prog : Program} {w : World} {K : Frag} {mg : Str → Option Value} {g : GF} {n : Nat} {c : ClD} (hS : SupOk c) (hv : clW K c.x = c.val) (hb : clB prog.main.file K c = true) (htop : (prog.main.scope.names.lookup ("super" : Str)).isSome = false)
    (hm : mg c.x = some (.ref (ga K c.x))) (hg : g.ca n = ga K c.x) (hx : g.xn n = c.fl) : ExK prog w K mg g n c.x := by
  obtain ⟨b1, hb⟩ := ba hb
  obtain ⟨b2, hb⟩ := ba hb
  obtain ⟨b3, hb⟩ := ba hb
  obtain ⟨b4, hb⟩ := ba hb
  obtain ⟨b5, hb⟩ := ba hb
  obtain ⟨b6, hb⟩ := ba hb
  obtain ⟨b7, hb⟩ := ba hb
  obtain ⟨b8, hb⟩ := ba hb
  obtain ⟨b9, hb⟩ := ba hb
  obtain ⟨b10, hb⟩ := ba hb
  obtain ⟨b11, hb⟩ := ba hb
  obtain ⟨b12, hb⟩ := ba hb
  obtain ⟨b13, hb⟩ := ba hb
  obtain ⟨b14, hb⟩ := ba hb
  obtain ⟨b15, b16⟩ := ba hb
  have oe : OexC K (ga K c.x) := ⟨oexB_ok b1, eqO_ok b2, of_decide_eq_true b3, of_decide_eq_true b4, b5⟩
  refine ⟨?_, by rw [hg]; exact hm, by rw [hg]; exact xfB_ok b15, by rw [hg, hx]; exact eqO_ok b14⟩
  rw [hg, hx]
  refine ⟨oe, ma K (ga K c.x) "__init__", eqO_ok b6, of_decide_eq_true b7, ?_⟩
  intro A R mgg mb h gg d t os x t0 v room XK hgl hms hbn hbb hlim hxx hnK hq
  obtain ⟨ms, pa, pb, pc, pd, pe, pg, ph, pi, pj, pk, tn, ar, s1, s2, s3, s4, s5, s6, s7, s8, s9, s10⟩ := hS
  unfold clW at hv
  unfold iniB at b8
  cases q : K.lookup (ma K (ga K c.x) "__init__") with
  | none => rw [q] at hv; cases hv
  | some o =>
    obtain ⟨oc, od, dt, osl⟩ := o
    rw [q] at hv b8
    cases dt with
    | func fd =>
      obtain ⟨n1, n2, n3, n4, n5, n6, n7, n8, n9, n10, n11, n12, n13, n14, n15⟩ := fd
      have e2 : (some (n1, n2, n3, n4, n5, n6, n7.map (·.1), n15) : ClV) = (some ((("__init__" : Str)), c.qual, c.params, FuncBody.stmts c.body, supScope c.pf, mainGlobals, ([("__class__" : Str)] : List Str), builtinsNs) : ClV) := hv
      simp only [Option.some.injEq, Prod.mk.injEq] at e2
      obtain ⟨h1, h2, h3, h4, h5, h6, h7, h8⟩ := e2
      subst h1 h2 h3 h4 h5 h6 h8
      simp only at b8
      split at b8
      · rename_i cda nm cc
        simp only [List.map_cons, List.map_nil, List.cons.injEq, and_true] at h7
        subst h7
        obtain ⟨b8, c3⟩ := ba b8
        obtain ⟨c1, c2⟩ := ba b8
        cases q2 : K.lookup cda with
        | none => rw [q2] at c2; cases c2
        | some oc2 =>
          obtain ⟨ccl, cdd, cdt, ccs⟩ := oc2
          rw [q2] at c2
          cases cdt with
          | fields vs =>
            simp only at c2
            cases q3 : vs[2]? with
            | none => rw [q3] at c2; cases c2
            | some vv =>
              rw [q3] at c2
              cases vv with
              | str fi tf =>
                cases q4 : K.lookup cc with
                | none => rw [q4] at c3; cases c3
                | some oc3 =>
                  obtain ⟨cl3, cd3, ct3, cs3⟩ := oc3
                  rw [q4] at c3
                  cases ct3 with
                  | cell cv =>
                    cases cv with
                    | none => cases c3
                    | some cv =>
                      cases cv with
                      | ref C' =>
                        have e3 : C' = ga K c.x := by simpa using c3
                        subst e3
                        obtain ⟨nm, q9, N, bs, bm, sn, sub, ab, col, dd, k0, k1, k2, k3, k5, hC, hbm⟩ := oe.cls
                        have hD : clsIn K (ga K c.x) = some { name := nm, bases := bs, mro := .ref (ga K c.x) :: bm, ns := N, qualname := q9, hasDict := true, slotNames := sn, subclasses := sub, abstract := ab, collection := col, hasDel := false } := by unfold clsIn; rw [hC] <;> rfl
                        rw [s1] at q s10
                        exact init_sup room XK hgl hms hbn hbb hlim hxx hnK oe q c1 q2 q3 c2 q4 hD (of_decide_eq_true b9) s3 s4 s5 (fun s => .of_eq (s10 _ _ _ _ _ _ _ _ _)) s7 s8 s9 htop (eqO_ok b10) (eqO_ok b11) (of_decide_eq_true b12) b13 (eqO_ok b14) s6 s2 hq
                      | _ => cases c3
                  | _ => cases c3
              | _ => cases c2
          | _ => cases c2
      · cases b8
    | _ => cases b8

/-! ### the Hook -/
abbrev AlC : Type := AlD × Bool × List ClV
def kxB (K : Frag) (q : Str × Str × Bool) : Bool := decide (kitOne K (.ref (ga K q.1)) (.ref (ga K q.2.1)) = some q.2.2)
def obsC (file : Str) (fa : List Fa) (fn : List DefD) (cs : List ClD) (kx : List (Str × Str × Bool)) (K : Frag) : AlC := (obsD fa fn K, cs.all (fun c => clB file K c) && kx.all (fun q => kxB K q), cs.map fun c => clW K c.x)
def valC (fn : List DefD) (cs : List ClD) : AlC := (valD fn, true, cs.map ClD.val)
def SaysC (file : Str) (fa : List Fa) (fn : List DefD) (cs : List ClD) (kx : List (Str × Str × Bool)) (K : Frag) : Prop := obsC file fa fn cs kx K = valC fn cs
def obsCG (file : Str) (n : Nat) (fa : List Fa) (fn : List DefD) (cs : List ClD) (kx : List (Str × Str × Bool)) (g : Addr → Option Obj) : AlC := obsC file fa fn cs kx (frG g (cStatics :: asD g n))
def hookC (file : Str) (n : Nat) (fa : List Fa) (fn : List DefD) (cs : List ClD) (kx : List (Str × Str × Bool)) : PySem.W.Hook where
  α := AlC
  obs := fun s => obsCG file n fa fn cs kx s.heap.get?
  val := fun _ => valC fn cs
  says := fun _ h => ∃ K : PySem.W.Frag, K.In h ∧ SaysC file fa fn cs kx K
  of := fun _ _ e => ⟨_, frG_in, e⟩
  keeps := fun _ _ _ ⟨K, hK, c⟩ k => ⟨K, PySem.W.Frag.In.keeps hK k, c⟩
theorem obsCG_eq {file : Str} {n : Nat} {fa : List Fa} {fn : List DefD} {cs : List ClD} {kx : List (Str × Str × Bool)} {g : Addr → Option Obj} {s : Shared} (h : ∀ a, g a = s.heap.get? a) : obsCG file n fa fn cs kx g = (hookC file n fa fn cs kx).obs s := by
  have e : g = s.heap.get? := funext h
  rw [e] <;> rfl
section
variable {file : Str} {fa : List Fa} {fn : List DefD} {cs : List ClD} {kx : List (Str × Str × Bool)} {K : Frag}
theorem SaysC.d (c : SaysC file fa fn cs kx K) : SaysD fa fn K := congrArg (fun z : AlC => z.1) c
theorem SaysC.cl (c : SaysC file fa fn cs kx K) (i : Nat) {d : ClD} (h : cs[i]? = some d := by rfl) : clW K d.x = d.val ∧ clB file K d = true := by
  have c2 : ((cs.all fun c => clB file K c) && kx.all (fun q => kxB K q)) = true := congrArg (fun z : AlC => z.2.1) c
  have e : cs.map (fun d => clW K d.x) = cs.map ClD.val := congrArg (fun z : AlC => z.2.2) c
  have e2 : (cs.map fun d => clW K d.x)[i]? = (cs.map ClD.val)[i]? := by rw [e]
  rw [List.getElem?_map, List.getElem?_map, h] at e2
  exact ⟨Option.some.inj e2, List.all_eq_true.mp (ba c2).1 d (List.mem_of_getElem? h)⟩
theorem SaysC.kit (c : SaysC file fa fn cs kx K) (i : Nat) {q : Str × Str × Bool} (h : kx[i]? = some q := by rfl) : kitOne K (.ref (ga K q.1)) (.ref (ga K q.2.1)) = some q.2.2 := by
  have c2 : ((cs.all fun c => clB file K c) && kx.all (fun q => kxB K q)) = true := congrArg (fun z : AlC => z.2.1) c
  exact of_decide_eq_true (List.all_eq_true.mp (ba c2).2 q (List.mem_of_getElem? h))
end
end EV

/-! EvY: enumerate of lists and of tuples. -/
namespace EV
open PySem PySem.Spec PyProof.Rows L2

theorem enumT_new (c : Addr) (us : Array Value) : Meets (Builtin.«enumerate.__new__» ⟨[.type "enumerate", .ref c], []⟩) (fun _ R s => s.heap.IsTuple c us ∧
    R (.ok (.ret (.ref (s.heap.push { cls := .type "tuple_iterator", data := .fields #[.ref c, .int 0 0] }).objs.size)))
      { s with heap := (s.heap.push { cls := .type "tuple_iterator", data := .fields #[.ref c, .int 0 0] }).push { cls := .type "enumerate", data := .fields #[.none, .bool false, .ref s.heap.objs.size, rawInt 0, .none, .none] } }) :=
  .of_wp fun prog w A R s hR => by
    obtain ⟨hh, gs, dr, tt, oo⟩ := s; obtain ⟨hT, hR⟩ := hR
    have hsb := sub_enumerate
    have tT : Heap.IsTuple (Shared.heap ⟨hh, gs, dr, tt, oo⟩) c us := hT
    wp_walk
    refine wpAny_stack_any fun stk => wpAny_pure ?_
    split
    · rename_i cc _ _ _ _ _
      cases (cc == Value.type "enumerate") <;> (wp_walk using wpAny_pyIter_tuple tT; exact ⟨_, rfl, hR⟩)
    · wp_walk using wpAny_pyIter_tuple tT
      exact ⟨_, rfl, hR⟩
section
variable {prog : Program} {w : World} {A : Around} {E : Value → Shared → Prop} {s : Shared}
theorem enumT_call {c : Addr} {us : Array Value} {Q : Value → Shared → Prop} (tT : s.heap.IsTuple c us)
    (k : ∀ h', IsEnum h' (s.heap.objs.size + 1) s.heap.objs.size 0 .none → h'.IsTupleIter s.heap.objs.size c 0 → (∀ b o, s.heap.get? b = some o → h'.get? b = some o) → Q (.ref (s.heap.objs.size + 1)) { s with heap := h' }) :
    wpAny (model prog w) A (call (.type "enumerate") [.ref c]) Q E s := by
  refine callType_new F.called_enumerate (by decide) (F.typeCall_enumerate_1 _) (F.newCall_enumerate_1 _) (fun obj => F.args_object_init_2 obj _) F.entry_enumerate_new (enumT_new c us) ⟨tT, ?_⟩
  generalize e1 : s.heap.push { cls := .type "tuple_iterator", data := .fields #[.ref c, .int 0 0] } = P1
  have z1 : P1.objs.size = s.heap.objs.size + 1 := by rw [← e1]; exact Heap.size_push ..
  have g1 : P1.get? s.heap.objs.size = some { cls := .type "tuple_iterator", data := .fields #[.ref c, .int 0 0] } := by rw [← e1]; exact Heap.get?_push_size _ rfl
  have k1 : ∀ b o, s.heap.get? b = some o → P1.get? b = some o := fun b o q => by rw [← e1]; exact Heap.get?_push_of_some _ q
  have ie : IsEnum (P1.push { cls := .type "enumerate", data := .fields #[.none, .bool false, .ref s.heap.objs.size, rawInt 0, .none, .none] }) P1.objs.size s.heap.objs.size 0 .none := Heap.get?_push_size P1 rfl
  rw [z1] at ie
  show _ ∧ _
  rw [z1]
  exact ⟨⟨_, ie, rfl⟩, k _ ie ⟨_, Heap.get?_push_of_some _ g1, rfl, rfl⟩ fun b o q => Heap.get?_push_of_some _ (k1 b o q)⟩
end
/-- the tuple at a, each item in a new pair with its number -/
def ItN (K : PySem.W.Frag) (a : Addr) : It :=
  ⟨fun i H => ∃ (xs : List V) (x : V), SqT K H a xs ∧ xs[i]? = some x, fun i H v H' => ∃ T x, v = .ref T ∧ H T = none ∧ H' = upd H T (.tup [.int (i : Nat), x]) ∧ ∀ xs, SqT K H a xs → xs[i]? = some x,
    fun i H => ∃ xs : List V, SqT K H a xs ∧ xs.length = i⟩
theorem turn_enumT {P : Program} {w : World} {K : PySem.W.Frag} {elts : List Expr} {kk : Nat} {tpos : Pos} {a e it : Addr} (hae : a ≠ e) (hai : a ≠ it) :
    Turn P w K (.Tuple elts kk tpos) (ItN K a) [e, it] e (fun i h => (∃ old, IsEnum h e it ((i : Nat) : Int) old) ∧ h.IsTupleIter it a i ∧ e ≠ it) where
  mem := List.mem_cons_self ..
  obj := fun i h st b hb => by
    obtain ⟨⟨old, he⟩, ⟨o, ho, hc, hd⟩, _⟩ := st
    simp only [List.mem_cons, List.not_mem_nil, or_false] at hb
    rcases hb with rfl | rfl
    · exact ⟨_, he, fun v q => nomatch q⟩
    · exact ⟨o, ho, fun v q => by rw [hd] at q; cases q⟩
  keep := fun i h h' st k => by
    obtain ⟨⟨old, he⟩, hi, hne⟩ := st
    exact ⟨⟨old, k e (by simp) _ he⟩, hi.at fun o q => k it (by simp) o q, hne⟩
  item := by
    intro X hP hw hK hc i pins s σ H E I hf st hg
    subst hP hw hK
    obtain ⟨⟨old, he⟩, hit, hne⟩ := st
    obtain ⟨xs, x, hq, hx⟩ := hg
    obtain ⟨its, rv, p, hz⟩ := I.tuple hq
    obtain ⟨u, hu, ru⟩ := rv.get hx
    have tT : s.heap.IsTuple a its.toArray := p
    have hel : e < s.heap.objs.size := Heap.lt_size he
    have hil : it < s.heap.objs.size := by obtain ⟨_, q, _⟩ := hit; exact Heap.lt_size q
    have hlt : i < its.toArray.size := by
      have := (List.getElem?_eq_some_iff.mp hu).1
      simpa using this
    refine wpAny_pyNext_enum_itemD (Draws.tuple (prog := X.prog) (w := X.w) (A := X.A.in1) (I.ok.hd hc) it a hai its.toArray) he ⟨hit, tT⟩ hlt hne (by simp [hne, Ne.symm hae]) fun x' h' tk hx' ho st' hT hsz hk => ?_
    have ex : x' = u := by
      have h2 : its.toArray[i]? = some x' := hx'
      simp only [List.getElem?_toArray] at h2
      rw [hu] at h2
      exact (Option.some.inj h2).symm
    subst ex
    refine ⟨_, rfl, wpAny_letOwnedTupleGo_enum (s := { s with heap := h', toks := tk + 1 }) ho fun h'' he' sb => ?_⟩
    have hT2 : h''.get? s.heap.objs.size = some { cls := .type "tuple", data := .seq #[.int i tk, x'] } := (sb.2 _ (Nat.ne_of_gt hel)).trans hT
    have new : ObjOk X.prog X.w (upd H s.heap.objs.size (.tup [.int (i : Nat), x])) h'' s.heap.objs.size (.tup [.int (i : Nat), x]) := by
      refine ⟨by show (2 : Nat) ≤ _; rw [sizeLine_eq]; decide, [.int i tk, x'], .cons ⟨_, rfl⟩ (.cons ru .nil), ?_⟩
      exact ⟨_, hT2, rfl, _, rfl⟩
    have kb : ∀ b o, b ∉ [e, it] → s.heap.get? b = some o → h''.get? b = some o := fun b o hb q => by
      have b1 : b ≠ e := fun z => hb (by simp [z])
      have b2 : b ≠ it := fun z => hb (by simp [z])
      exact (sb.2 b b1).trans (hk b o b1 b2 q)
    have I1 : Inv X pins σ (upd H s.heap.objs.size (.tup [.int (i : Nat), x])) { s with heap := h'', toks := tk + 1 } := I.turnedNew (ch := [e, it]) kb hf (Nat.le_refl _) new
    refine ⟨.ref s.heap.objs.size, _, I1, rfl, ⟨_, x, rfl, I.hok.fresh (Nat.le_refl _), rfl, fun ys hy => ?_⟩, ⟨⟨x', ?_⟩, ?_, hne⟩, fun b hb => ?_⟩
    · rw [I.tuple_inj hy hq]; exact hx
    · rw [show ((i + 1 : Nat) : Int) = (i : Int) + 1 from by omega]; exact he'
    · exact st'.1.at fun o q => (sb.2 it (Ne.symm hne)).trans q
    · have hb' : b ≠ s.heap.objs.size := by
        simp only [List.mem_cons, List.not_mem_nil, or_false] at hb
        rcases hb with rfl | rfl
        · exact Nat.ne_of_lt hel
        · exact Nat.ne_of_lt hil
      rw [upd_ne hb']
      exact (hf b hb).1
  done := by
    intro X hP hw hK hc i pins s σ H E I hf st hg
    subst hP hw hK
    obtain ⟨⟨old, he⟩, hit, hne⟩ := st
    obtain ⟨xs, hq, hx⟩ := hg
    obtain ⟨its, rv, p, hz⟩ := I.tuple hq
    have tT : s.heap.IsTuple a its.toArray := p
    have hn : its.toArray.size = i := by
      have := rv.length
      simp only [List.size_toArray]
      omega
    subst hn
    obtain ⟨f0, f1, f2, f3, f4, f5⟩ := hf it (by simp)
    exact wpAny_pyNext_enum_endD (Draws.tuple (prog := X.prog) (w := X.w) (A := X.A.in1) (I.ok.hd hc) it a hai its.toArray) he ⟨hit, tT⟩ fun h' eb => ⟨rfl, I.turned (t' := s.toks) (fun b o hb q => eb b o hb q) f0 f1 f3 f4 f5⟩
  self := fun A i s Q E st h => by
    obtain ⟨⟨_, he⟩, _⟩ := st
    exact wpAny_pyIter_enum he h
/-- enumerate(x): x a list or a tuple -/
def iEnumA (K : PySem.W.Frag) (ta : TA) : TI := fun σ H R => ta σ H fun vs H1 => ∃ a xs, vs = [.ref a] ∧ ((SqL K H1 a xs ∧ R (Ite K a) H1) ∨ (SqT K H1 a xs ∧ R (ItN K a) H1))
theorem pi_enumA {X : Cx} {e : Expr} {ta : TA} {p pos tpos : Pos} {elts : List Expr} {kk : Nat} (hg : Gl X "enumerate") (hm : X.mg "enumerate" = none) (ha : PA X [e] ta) (hs : starEach [e] X.env = [(false, eval e X.env)]) :
    PI X (.Tuple elts kk tpos) (.Call (.Name "enumerate" p) [e] [] pos) (iEnumA X.K ta) := by
  refine ⟨fun pins s σ H R I h => ?_⟩
  refine Call_ (ld_blt I hg hm boot_enumerate (PyProof.Rows.callWith_type1 (thn (ha.run pos pins s σ H _ I h) fun us s1 ⟨vs, H1, I1, r1, a, xs, ex, q1⟩ => ?_) hs rfl))
  subst ex
  cases r1 with
  | cons r rr =>
    cases rr
    cases r
    have fresh : ∀ b, b ∈ [s1.heap.objs.size + 1, s1.heap.objs.size] → FpOk X pins H1 b := fun b hb => by
      simp only [List.mem_cons, List.not_mem_nil, or_false] at hb
      have hle : s1.heap.objs.size ≤ b := by rcases hb with rfl | rfl <;> omega
      exact I1.fpOk hle (I1.hok.fresh hle)
    rcases q1 with ⟨hq, q⟩ | ⟨hq, q⟩
    · obtain ⟨its, rv, pl, _⟩ := I1.list hq
      refine call_enumerate_list pl.isList fun h' he hit _ hk => wpAny_pyIter_enum he ?_
      exact ⟨_, _, _, _, H1, rfl, I1.kept (t' := s1.toks) hk, turn_enum a (s1.heap.objs.size + 1) s1.heap.objs.size, ⟨⟨.none, he⟩, hit, Nat.succ_ne_self _⟩, fresh, q⟩
    · obtain ⟨its, rv, pt, _⟩ := I1.tuple hq
      have tT : s1.heap.IsTuple a its.toArray := pt
      have lt : a < s1.heap.objs.size := by obtain ⟨o, ho, _⟩ := tT; exact Heap.lt_size ho
      refine enumT_call tT fun h' he hit hk => wpAny_pyIter_enum he ?_
      exact ⟨_, _, _, _, H1, rfl, I1.kept (t' := s1.toks) hk, turn_enumT (e := s1.heap.objs.size + 1) (it := s1.heap.objs.size) (Nat.ne_of_lt (Nat.lt_succ_of_lt lt)) (Nat.ne_of_lt lt), ⟨⟨.none, he⟩, hit, Nat.succ_ne_self _⟩, fresh, q⟩
section
variable {X : Cx} {N : List Str} {sc : Scope} {fr : List Str} {g : GF} {G : GI} {W : WX} {a : Expr} {pos p2 : Pos} {m : ME} {F H F1 H1 F' H' : Hp} {fp fp1 fp' : Nat → List Addr} {σ σ1 : L2.St} {e e' : DEnv}
def numD (k : Nat) : List D → List D
  | [] => []
  | d :: ds => .tup [.int (k : Nat), d] :: numD (k + 1) ds
def enumD : D → Option (List D)
  | .tup xs => some (numD 0 xs)
  | .lst _ xs => some (numD 0 xs)
  | _ => none
theorem numD_len : ∀ {k : Nat} {xs : List D}, (numD k xs).length = xs.length
  | _, [] => rfl
  | k, _ :: xs => congrArg (· + 1) (numD_len (k := k + 1) (xs := xs))
theorem numD_get : ∀ {xs : List D} {n k : Nat} {d : D}, (numD n xs)[k]? = some d → ∃ x, xs[k]? = some x ∧ d = .tup [.int ((n + k : Nat) : Nat), x]
  | [], _, _, _, h => by cases h
  | x :: xs, n, 0, d, h => by
    injection h with h
    exact ⟨x, rfl, h.symm⟩
  | x :: xs, n, k + 1, d, h => by
    obtain ⟨y, h1, h2⟩ := numD_get (xs := xs) (n := n + 1) (k := k) h
    exact ⟨y, h1, by rw [h2, show n + 1 + k = n + (k + 1) from by omega]⟩
def mEnum (m : ME) : MI := fun e => match m e with
  | .ok d e1 => match enumD (frz d) with
    | some ds => .ok ds none e1
    | none => .no
  | .ex c d e1 => .ex c d e1
  | .no => .no
theorem itok_enumL {K : PySem.W.Frag} {A : Addr} {P : List Addr} {H0 : Hp} {vs : List V} {xs : List D} (h1 : F A = some (.lst vs)) (r1 : ROs G F H [] vs xs) : ItOk G (Ite K A) F P H0 (numD 0 xs) where
  go := fun F' H' k d q1 _ q2 q3 => by
    obtain ⟨x, e1, rfl⟩ := numD_get q3
    obtain ⟨u, hu, ru⟩ := r1.get e1
    refine ⟨⟨vs, u, SqL.of (q2 _ _ (q1 _ _ h1)), hu⟩, fun v H2 yl => ?_⟩
    obtain ⟨T, x', rfl, hT, rfl, f1⟩ := yl
    have g1 := f1 vs (SqL.of (q2 _ _ (q1 _ _ h1)))
    rw [hu] at g1
    cases g1
    rw [Nat.zero_add]
    exact pair_new q2 hT (.int _) (ru.monoZ q1)
  stop := fun F' H' q1 _ q2 => ⟨vs, SqL.of (q2 _ _ (q1 _ _ h1)), by rw [numD_len, r1.length]; exact Nat.le_refl _⟩
theorem itok_enumT {K : PySem.W.Frag} {A : Addr} {P : List Addr} {H0 : Hp} {vs : List V} {xs : List D} (h1 : F A = some (.tup vs)) (r1 : ROs G F H [] vs xs) : ItOk G (ItN K A) F P H0 (numD 0 xs) where
  go := fun F' H' k d q1 _ q2 q3 => by
    obtain ⟨x, e1, rfl⟩ := numD_get q3
    obtain ⟨u, hu, ru⟩ := r1.get e1
    refine ⟨⟨vs, u, SqT.of (q2 _ _ (q1 _ _ h1)), hu⟩, fun v H2 yl => ?_⟩
    obtain ⟨T, x', rfl, hT, rfl, f1⟩ := yl
    have g1 := f1 vs (SqT.of (q2 _ _ (q1 _ _ h1)))
    rw [hu] at g1
    cases g1
    rw [Nat.zero_add]
    exact pair_new q2 hT (.int _) (ru.monoZ q1)
  stop := fun F' H' q1 _ q2 => ⟨vs, SqT.of (q2 _ _ (q1 _ _ h1)), by rw [numD_len, r1.length]⟩
theorem si_enum {elts : List Expr} {kk : Nat} {tpos : Pos} (C : Cn X N sc fr) (h1 : ("enumerate" : Str) ∈ fr) (h2 : glB sc "enumerate" = true) (ha : SE X g W a m) (hs : starEach [a] X.env = (false, eval a X.env) :: starEach [] X.env) (hs2 : starEach [a] X.env = [(false, eval a X.env)]) :
    SI X g W (.Tuple elts kk tpos) (.Call (.Name "enumerate" p2) [a] [] pos) (mEnum m) := PI.imp (pi_enumA (gl_ok C h2) (C.hfr _ h1) (pa_cons ha.z pa_nil hs) hs2) fun σ H R ⟨F, fp, e, s, h⟩ => by
  refine ⟨F, fp, e, s, ?_⟩
  unfold mEnum at h
  cases q : m e with
  | ex c d e1 => rw [q] at h; exact h
  | no => rw [q] at h; exact h
  | ok d1 e1 =>
    rw [q] at h
    intro x F1 H1 fp1 s1 r1 tr1
    simp only at h
    generalize frz d1 = z1 at h r1
    cases z1 with
    | tup xs =>
      obtain ⟨A, vs, rfl, ha, ra⟩ := r1.tup_inv
      exact ⟨A, vs, rfl, .inr ⟨SqT.of (s1.sub _ _ ha), h _ F1 H1 fp1 [] s1 rfl tr1.nil (itok_enumT ha ra)⟩⟩
    | lst o xs =>
      obtain ⟨_, A, vs, rfl, ha, ra⟩ := r1.lst_inv
      exact ⟨A, vs, rfl, .inl ⟨SqL.of (s1.sub _ _ ha), h _ F1 H1 fp1 [] s1 rfl tr1.nil (itok_enumL ha ra)⟩⟩
    | _ => exact h.elim
end
end EV

/-! EvZ: slices; a module's number; defaults. -/
namespace EV
open PySem PySem.Spec PyProof.Rows L2
section
variable {X : Cx} {N : List Str} {sc : Scope} {fr : List Str} {g : GF} {G : GI} {W : WX} {a : Expr} {pos p2 : Pos} {m : ME} {F H F1 H1 F' H' : Hp} {fp fp1 fp' : Nat → List Addr} {σ σ1 : L2.St} {e e' : DEnv}
theorem ROs.dropZ : ∀ {vs : List V} {ds : List D} (n : Nat), ROs G F H [] vs ds → ROs G F H [] (vs.drop n) (ds.drop n)
  | _, _, 0, r => r
  | [], ds, n + 1, r => by
    have := r.length
    cases ds with
    | nil => exact .nil
    | cons _ _ => cases this
  | v :: vs, ds, n + 1, r => by
    cases ds with
    | nil => have := r.length; cases this
    | cons d ds =>
      obtain ⟨r1, r2⟩ := r.unconsZ
      exact ROs.dropZ n r2
theorem ROs.takeZ : ∀ {vs : List V} {ds : List D} (n : Nat), ROs G F H [] vs ds → ROs G F H [] (vs.take n) (ds.take n)
  | _, _, 0, r => by rw [List.take_zero, List.take_zero]; exact .nil
  | [], ds, n + 1, r => by
    have := r.length
    cases ds with
    | nil => exact .nil
    | cons _ _ => cases this
  | v :: vs, ds, n + 1, r => by
    cases ds with
    | nil => have := r.length; cases this
    | cons d ds =>
      obtain ⟨r1, r2⟩ := r.unconsZ
      exact ROs.consZ r1 (ROs.takeZ n r2)
def cutD (xs : List D) (l u : Option Int) : List D := (xs.drop (HT.sIx xs.length 0 l)).take (HT.sIx xs.length xs.length u - HT.sIx xs.length 0 l)
def sliceD : D → Option Int → Option Int → Option D
  | .tup xs, l, u => some (.tup (cutD xs l u))
  | .lst _ xs, l, u => some (.lst true (cutD xs l u))
  | _, _, _ => none
def partR : Option ME → DEnv → (Option Int → DEnv → RE) → RE
  | none, e, k => k none e
  | some m, e, k => match m e with
    | .ok (.int i) e1 => k (some i) e1
    | .ok _ _ => .no
    | .ex c d e1 => .ex c d e1
    | .no => .no
def mSl (m : ME) (lo hi : Option ME) : ME := fun e => match m e with
  | .ok d e1 => partR lo e1 fun l e2 => partR hi e2 fun u e3 => RE.of (sliceD (frz d) l u) e3
  | .ex c d e1 => .ex c d e1
  | .no => .no
def POk (X : Cx) (g : GF) (W : WX) (eo : Option Expr) : Option ME → Prop
  | none => eo = none
  | some m => ∃ e, eo = some e ∧ SE X g W e m
theorem po_n : POk X g W none none := rfl
theorem po_s (h : SE X g W a m) : POk X g W (some a) (some m) := ⟨a, rfl, h⟩
def tPo (G : GI) (W : WX) : Option ME → L2.TO
  | none => tNoPart
  | some m => tPart (RdE G W m)
theorem POk.po {eo : Option Expr} : ∀ {mo : Option ME}, POk X g W eo mo → PO X eo (tPo (gOf X g) W mo)
  | none, h => by rw [show eo = none from h]; exact po_none
  | some m, ⟨e, he, h⟩ => by rw [he]; exact po_some h
theorem part_ok {mo : Option ME} {k : Option Int → DEnv → RE} {Q : Option Int → Hp → Prop} {Q2 : VK} (s : SO G F H fp σ e) (h : EOut G W σ F H fp Q2 (partR mo e k))
    (hk : ∀ l e1 F1 H1 fp1, SO G F1 H1 fp1 σ e1 → Tr F H (own fp) F1 H1 (own fp1) → EOut G W σ F1 H1 fp1 Q2 (k l e1) → Q l H1) : tPo G W mo σ H Q := by
  cases mo with
  | none => exact hk none e F H fp s Tr.refl h
  | some m =>
    show RdE G W m σ H fun x H1 => ∃ i, x = .int i ∧ Q (some i) H1
    refine RdE.iff.mpr ⟨F, fp, e, s, ?_⟩
    have h : EOut G W σ F H fp Q2 (match m e with
      | .ok (.int i) e1 => k (some i) e1
      | .ok _ _ => .no
      | .ex c d e1 => .ex c d e1
      | .no => .no) := h
    cases q : m e with
    | ex c d e1 => rw [q] at h; exact h
    | no => rw [q] at h; exact h
    | ok d e1 =>
      rw [q] at h
      cases d with
      | int i =>
        intro v F1 H1 fp1 p s1 t1 tr1
        have hp : p = [] := t1.r.nil_of_fz rfl
        subst hp
        have ev : v = .int i := by
          cases t1.r
          rfl
        have tr2 := tr1.drop (P1 := own fp1) fun c z => .inl z
        exact ⟨i, ev, hk _ e1 F1 H1 fp1 s1 tr2 (EOut.trans h tr2)⟩
      | _ => exact h.elim
theorem se_slice {lo hi : Option Expr} {ml mh : Option ME} (ha : SE X g W a m) (hl : POk X g W lo ml) (hh : POk X g W hi mh) : SE X g W (.Subscript a (.Slice lo hi none p2) pos) (mSl m ml mh) :=
  PE.imp (pe_slice (SlR.or sl_tupA sl_list) ha.z hl.po hh.po) fun σ H Q h => by
    obtain ⟨F, fp, e, s, h⟩ := RdE.iff.mp h
    refine ⟨F, fp, e, s, ?_⟩
    unfold mSl at h
    cases q : m e with
    | ex c d e1 => rw [q] at h; exact h
    | no => rw [q] at h; exact h
    | ok d e1 =>
      rw [q] at h
      intro x F1 H1 fp1 s1 r1 tr1
      simp only at h
      have h1 := EOut.trans h tr1
      refine part_ok s1 h1 fun l e2 F2 H2 fp2 s2 tr2 h2 => part_ok s2 h2 fun u e3 F3 H3 fp3 s3 tr3 h3 => ?_
      have r3 := (r1.mono (F' := F2) (H' := H2) tr2.ff fun a z => nomatch z).mono (F' := F3) (H' := H3) tr3.ff fun a z => nomatch z
      generalize frz d = z at h3 r3
      cases z with
      | tup xs =>
        obtain ⟨A, vs, rfl, hA, rA⟩ := r3.tup_inv
        refine .inl ⟨A, vs, rfl, SqT.of (s3.sub _ _ hA), fun hf => ?_, fun _ p hp => ?_⟩
        · have hl := rA.length
          rw [hl] at hf
          have ec : cutD xs l u = xs := by
            unfold cutD
            rw [hf.1, hf.2]
            simp
          have h3 : EOut (gOf X g) W σ F3 H3 fp3 Q (.ok (.tup (cutD xs l u)) e3) := h3
          rw [ec] at h3
          exact h3 _ F3 H3 fp3 [] s3 (TO.z (.tup hA rA)) Tr.refl.nil
        · have h3 : EOut (gOf X g) W σ F3 H3 fp3 Q (.ok (.tup (cutD xs l u)) e3) := h3
          have rc := (rA.dropZ (HT.sIx xs.length 0 l)).takeZ (HT.sIx xs.length xs.length u - HT.sIx xs.length 0 l)
          have rc2 : ROs (gOf X g) F3 H3 [] (cutV vs l u) (cutD xs l u) := by
            unfold cutV cutD
            rw [rA.length]
            exact rc
          exact h3 _ _ _ fp3 [] (s3.newF hp) (TO.z (.tup upd_same (rc2.monoZ (upd_le (s3.fnone hp))))) (Tr.newF s3.sub hp).nil
      | lst o xs =>
        obtain ⟨_, A, vs, rfl, hA, rA⟩ := r3.lst_inv
        refine .inr ⟨A, vs, rfl, SqL.of (s3.sub _ _ hA), fun p hp => ?_⟩
        have h3 : EOut (gOf X g) W σ F3 H3 fp3 Q (.ok (.lst true (cutD xs l u)) e3) := h3
        have rc := (rA.dropZ (HT.sIx xs.length 0 l)).takeZ (HT.sIx xs.length xs.length u - HT.sIx xs.length 0 l)
        have rc2 : ROs (gOf X g) F3 H3 [] (cutV vs l u) (cutD xs l u) := by
          unfold cutV cutD
          rw [rA.length]
          exact rc
        refine h3 _ _ _ fp3 [p] (s3.new (o := .lst _) hp) ⟨.lo upd_same (rc2.mono (fun _ _ z => z) fun a z => nomatch z), by simp, fun c z => ?_, fun c z => ?_⟩ ((Tr.new hp).drop fun c z => ?_)
        · rw [List.mem_singleton.mp z]; exact s3.fnone hp
        · rw [List.mem_singleton.mp z]; exact s3.noown hp
        · exact z.imp id fun w => List.mem_singleton.mp w
      | _ => exact h3.elim
/-- a module's number -/
theorem se_gint {i : Int} {x : Str} (C : Cn X N sc fr) (hg : glB sc x = true) (hm : ∃ t, X.mg x = some (.int i t)) (hdb : (x == ("__debug__" : Str)) = false) : SE X g W (.Name x pos) (mC (.int i)) := by
  obtain ⟨t, hm⟩ := hm
  exact PE.imp (pe_glob (v := .int i) (gl_ok C hg) hm ⟨t, rfl⟩ hdb) fun _ _ _ h => RdE.const (fun _ _ => .int i) h
/-- f(e, ..), the last parameters by their defaults -/
theorem se_callD {C : List D → RC} {mask : List Bool} {dfl : List D} {dvs : List V} {ms : List Ar} {es : List Expr} {k : Nat} {f : Addr} {fd : FuncData} {ps : List Str} {x : Str} (tk : Takes X W)
    (FO : FnOk X.prog X.w X.K X.mg X.base (L2.CX X.prog X.w) k f fd ps (Prom (gOf X g) mask C)) (hr : Room k X.A) (hg : Gl X x) (hm : X.mg x = some (.ref f)) (hk : PySem.W.keepIn X.K (.ref f) = true) (hb : ∃ ds, Vals dvs ds ∧ Binds X.K fd ps ds)
    (hz : ∀ F H, ROs (gOf X g) F H [] dvs dfl) (ha : SA X g W (a :: es) ms) (hdb : (x == ("__debug__" : Str)) = false) (he : starEach (a :: es) X.env = (false, eval a X.env) :: starEach es X.env) (hpl : (backTo pos (starEach es X.env)).any (·.1) = false) :
    SE X g W (.Call (.Name x p2) (a :: es) [] pos) (mCall C mask dfl ms) := by
  obtain ⟨ds, hd, hb⟩ := hb
  exact se_call tk FO hr hg hm hk hb hd hz ha hdb he hpl
end
end EV

/-! EvAA: an except suite that looks at its exception: isinstance(e, C), e.f. -/
namespace EV
open PySem PySem.Spec PyProof.Rows L2
/-- the suite's name stands for the exception, its dict holds f's value -/
def BF (g : GF) (i : Nat) (a : Addr) (c : Nat) (dd : Addr) (σ : L2.St) (H : Hp) : Prop := σ[i]? = some (some (.ref a)) ∧ ∃ v, H dd = some (.xd [(g.xn c, v)])
section
variable {X : Cx} {N : List Str} {sc : Scope} {fr : List Str} {g : GF} {W : WX} {L : List Nat} {body : List Stmt} {pos p2 p3 p4 : Pos} {mb : MS} {F H F1 H1 F' H' : Hp} {fp fp1 fp' : Nat → List Addr} {σ σ1 : L2.St} {e e' : DEnv}
  {a dd : Addr} {oe : Obj} {pn : List (Addr × Obj)} {c i : Nat} {n x : Str} {b b' : Bool} {ea eb : Expr} {es : List Expr}
theorem call_isX (C : ExcC X.K (g.ca c)) (hz : Zc (.ref (g.ca c)) (some dd) oe) (hf : ∃ vs, oe.data = .fields vs) :
    CallR (X.suite a ((a, oe) :: pn)) (.builtin "isinstance") (fun xs H Q => ∃ (t : Addr) (b : Bool) (fs : List (Str × V)), xs = [.ref a, .ref t] ∧ H dd = some (.xd fs) ∧ PySem.W.kitOne X.K (.ref (g.ca c)) (.ref t) = some b ∧ Q (.bl b) H) := by
  intro pins s σ H xs us Q I r h
  obtain ⟨t, b, fs, rfl, hd, e, q⟩ := h
  cases r with
  | cons rx rr =>
    cases rr with
    | cons rt rr =>
      cases rr
      cases rx
      cases rt
      obtain ⟨hget, _⟩ := I.pin (a, oe) (List.mem_append.mpr (.inl List.mem_cons_self))
      obtain ⟨vs, hv⟩ := hf
      obtain ⟨mA, hns, _⟩ := I.hok dd _ hd
      obtain ⟨od, _, _, ho, _⟩ := hns
      have J : PySem.W.InstAt s.heap a oe (g.ca c) (some od) := ⟨hget, hz.1, by unfold PySem.W.notCls; rw [hv] <;> rfl, by rw [hz.2]; exact ho⟩
      have hcl : (PySem.W.clsIn X.K (g.ca c)).isSome = true := by
        obtain ⟨cd, hc, _⟩ := PySem.W.any_some C.hd
        rw [hc]; rfl
      exact PySem.W.kia_one (PySem.W.kitx_exc hcl C.hg C.hk C.hs C.ha C.hn C.ht C.hm) I.kIn J e (fun z => nomatch z) fun tk => ⟨.bl b, H, I.kept (t' := tk) fun _ _ z => z, rfl, q⟩
/-- a test of the suite whose truth is known -/
def GT (X : Cx) (g : GF) (i : Nat) (a : Addr) (c : Nat) (dd : Addr) (e : Expr) (b : Bool) : Prop := PT X e (fun σ H Q => BF g i a c dd σ H ∧ Q b H)
def GW (X : Cx) (g : GF) (i : Nat) (a : Addr) (c : Nat) (dd : Addr) (e : Expr) (b : Bool) : Prop := PW X e (fun σ H Q => BF g i a c dd σ H ∧ Q b H)
theorem gt_is {cc : Nat} (C : ExcC X.K (g.ca c)) (hz : Zc (.ref (g.ca c)) (some dd) oe) (hf : ∃ vs, oe.data = .fields vs) (h1 : Gl X "isinstance") (h2 : X.mg "isinstance" = none) (hg : Gl X x) (hm : X.mg x = some (.ref (g.ca cc)))
    (hN : X.N[i]? = some n) (hv : Vis X.env.scope n) (hnd : (n == ("__debug__" : Str)) = false) (hnc : (n == ("__classdict__" : Str)) = false) (hk : PySem.W.kitOne X.K (.ref (g.ca c)) (.ref (g.ca cc)) = some b) (hxd : (x == ("__debug__" : Str)) = false)
    (he : starEach [.Name n p2, .Name x p3] X.env = (false, eval (.Name n p2) X.env) :: starEach [.Name x p3] X.env) (he2 : starEach [.Name x p3] X.env = (false, eval (.Name x p3) X.env) :: starEach [] X.env) (hpl : (backTo pos (starEach [.Name x p3] X.env)).any (·.1) = false)
    (ht : ∀ whole, isTrue (.Call (.Name "isinstance" p4) [.Name n p2, .Name x p3] [] pos) X.env whole = (do let v ← whole; standAt (Expr.Call (.Name "isinstance" p4) [.Name n p2, .Name x p3] [] pos).pos; holding [v] (truthy v))) :
    GT (X.suite a ((a, oe) :: pn)) g i a c dd (.Call (.Name "isinstance" p4) [.Name n p2, .Name x p3] [] pos) b := by
  have p1 := pe_callB (call_isX (g := g) (pn := pn) (a := a) C hz hf) (x := "isinstance") (p := p4) (pos := pos) h1 h2 (by decide +kernel) (pa_cons (pe_var hN hv hnd hnc) (pa_cons (pe_glob (v := .ref (g.ca cc)) hg hm rfl hxd) pa_nil he2) he) (by decide) (by decide) he hpl
  refine PT.imp (pt_truth p1 ht) fun σ H Q h => ?_
  obtain ⟨⟨h3, v, h4⟩, h5⟩ := h
  exact ⟨.ref a, h3, g.ca cc, b, _, rfl, h4, hk, b, rfl, h5⟩
theorem gt_not (h : GT X g i a c dd ea b) : GT X g i a c dd (.UnaryOp .Not ea pos) (!b) := PT.imp (pt_not h) fun σ H Q z => z
theorem gw_or1 (h : GT X g i a c dd ea b) : GW X g i a c dd (.BoolOp .Or [ea] pos) b := pw_or1 h
theorem gw_or (h : GT X g i a c dd ea b) (h2 : GW X g i a c dd (.BoolOp .Or (eb :: es) pos) b') : GW X g i a c dd (.BoolOp .Or (ea :: eb :: es) pos) (b || b') := PW.imp (pw_or h h2) fun σ H Q z => by
  cases b with
  | true => exact ⟨z.1, z.2⟩
  | false => exact ⟨z.1, z⟩
theorem gt_bool (h : GW X g i a c dd ea b) : GT X g i a c dd ea b := h.pt
/-- a guard that lets through -/
theorem g_if {t : TS} {st : List Stmt} (h : GT X g i a c dd ea b) (hb : b = false) (hs : PSs X st t) : PS X (.If ea st [] pos) (fun D σ H => BF g i a c dd σ H ∧ D.nx σ H) := by
  subst hb
  exact PS.imp (ps_if h hs pss_nil) fun D σ H z => z
theorem g_cons {t : TS} {st : Stmt} {rest : List Stmt} (h : PS X st (fun D σ H => BF g i a c dd σ H ∧ D.nx σ H)) (hr : PSs X rest (fun D σ H => BF g i a c dd σ H ∧ t D σ H)) : PSs X (st :: rest) (fun D σ H => BF g i a c dd σ H ∧ t D σ H) :=
  PSs.imp (pss_cons h hr) fun D σ H z => ⟨z.1, z⟩
/-- what the last row of the suite wishes -/
def tTell (g : GF) (c : Nat) (dd : Addr) (sr : Str) : TS := fun D σ H => ∀ v, H dd = some (.xd [(g.xn c, v)]) → ∀ p, H p = none → D.rt (.ref p) (upd H p (.tup [.str sr, v]))
theorem g_tell {fl sr : Str} {p5 p6 p7 p8 p9 : Pos} {kt jt : Nat} (T : XfC X.K (g.ca c)) (no : PySem.W.findIn X.K (.ref (g.ca c)) fl = some none) (hfl : g.xn c = fl) (hz : Zc (.ref (g.ca c)) (some dd) oe) (hf : ∃ vs, oe.data = .fields vs)
    (hN : X.N[i]? = some n) (hv : Vis X.env.scope n) (hnd : (n == ("__debug__" : Str)) = false) (hnc : (n == ("__classdict__" : Str)) = false)
    (hab : attributeBase (.Name n p8) fl X.env (eval (.Name n p8) X.env) = eval (.Name n p8) X.env)
    (hse : starEach [.Constant (.str sr) jt p6, .Attribute (.Name n p8) fl p7] X.env = (false, eval (.Constant (.str sr) jt p6) X.env) :: starEach [.Attribute (.Name n p8) fl p7] X.env)
    (hse2 : starEach [.Attribute (.Name n p8) fl p7] X.env = (false, eval (.Attribute (.Name n p8) fl p7) X.env) :: starEach [] X.env) :
    PSs (X.suite a ((a, oe) :: pn)) [.Return (some (.Tuple [.Constant (.str sr) jt p6, .Attribute (.Name n p8) fl p7] kt p5)) p9] (fun D σ H => BF g i a c dd σ H ∧ tTell g c dd sr D σ H) := by
  subst hfl
  refine PSs.imp (pss_cons (ps_ret (pe_tup (pa_cons pe_str (pa_cons (pe_xf T no hz hf (pe_var hN hv hnd hnc) hab) pa_nil hse2) hse))) pss_nil) fun D σ H h => ?_
  obtain ⟨⟨h3, v, h4⟩, h5⟩ := h
  refine ⟨.ref a, h3, rfl, rfl, dd, [(g.xn c, v)], v, rfl, h4, ?_, by rw [sizeLine_eq]; show (2 : Nat) ≤ _; decide, fun p' hp' => h5 v h4 p' hp'⟩
  rw [List.lookup_cons, beq_self_eq_true]
/-- try: body; except C as n: guards, then return ('s', n.f) -/
def mTryS (i : Nat) (cg : Nat → Option Bool) (al : Nat → Bool) (s : Str) (mb : MS) : MS := fun e => match mb e with
  | .ex c d e1 => match cg c with
    | some true => if fz d = true ∧ i < e1.length ∧ al c = true then .rt (.tup [.str s, d]) (e1.set i none) else .no
    | some false => .ex c d e1
    | none => .no
  | r => r
theorem ss_tryS {cc : Nat} {sr : Str} {cg : Nat → Option Bool} {al : Nat → Bool} {b₀ : Stmt} {suite : List Stmt} (C : Cf X W N sc fr) (hg : glB sc x = true) (hm : X.mg x = some (.ref (g.ca cc))) (hdb : (x == ("__debug__" : Str)) = false)
    (hn : locL N sc i n = true) (hL : i ∉ L)
    (hc : ∀ c b, cg c = some b → PySem.W.exmOne X.K (.ref (g.ca c)) (.ref (g.ca cc)) = some b)
    (hb : ∀ (pn : List (Addr × Obj)) (xe : Value → Shared → Prop) (W' : WX), Cf (X.tr pn xe) W' N sc fr → SSs (X.tr pn xe) g W' L body mb)
    (hs : ∀ (c : Nat) (a dd : Addr) (oe : Obj) (pn : List (Addr × Obj)), cg c = some true → al c = true → Zc (.ref (g.ca c)) (some dd) oe → (∃ vs, oe.data = .fields vs) → PSs (X.suite a ((a, oe) :: pn)) (b₀ :: suite) (fun D σ H => BF g i a c dd σ H ∧ tTell g c dd sr D σ H)) :
    SS X g W L (.Try body [.ExceptHandler (some (.Name x p2)) (some n) (b₀ :: suite) p3] [] [] pos) (mTryS i cg al sr mb) := by
  have hl : X.N[i]? = some n ∧ X.env.kindOf n = some .local := locL_ok C.toCn hn
  refine PS.imp (ps_try_as (i := i) (tb := fun W' => RdS (gOf X g) W' L mb) (ts := fun a cls d => fun D σ H => ∃ (c : Nat) (dd : Addr), cg c = some true ∧ al c = true ∧ cls = .ref (g.ca c) ∧ d = some dd ∧ BF g i a c dd σ H ∧ tTell g c dd sr D σ H)
    C.stk C.frm C.nd' hl.1 hl.2 ⟨gl_ok C.toCn hg, hdb, .inl hm⟩ C.tk (fun W' pn xe tk po => hb pn xe W' (C.toTry tk po)) (fun a oe cls d pn hz hf => ⟨fun pins s σ H D I ⟨c, dd, hcg, hal, ec, ed, h⟩ => ?_⟩)) fun D σ H ⟨F, fp, e, s, h⟩ => ?_
  · subst ec ed
    exact (hs c a dd oe pn hcg hal hz hf).run pins s σ H D I h
  · refine ⟨F, fp, e, s, ?_⟩
    unfold mTryS at h
    cases q : mb e with
    | nx e1 => rw [q] at h; exact h
    | rt d e1 => rw [q] at h; exact h
    | bk e1 => rw [q] at h; exact h
    | ct e1 => rw [q] at h; exact h
    | no => rw [q] at h; exact h
    | ex c d e1 =>
      rw [q] at h
      simp only at h
      intro dx v σ' F' H' fp' p s' l' t' tr hx2
      cases q2 : cg c with
      | none => rw [q2] at h; exact h.elim
      | some b =>
        rw [q2] at h
        refine ⟨b, hc c b q2, fun hb a ha => ?_, fun hb => ?_⟩
        · subst hb
          simp only at h
          split at h
          · rename_i hz
            obtain ⟨hz, hi0, hal⟩ := hz
            have hi : i < σ'.length := by rw [s'.len]; exact hi0
            refine ⟨c, dx, q2, hal, rfl, rfl, ⟨List.getElem?_set_self hi, v, hx2⟩, fun v2 hv2 p' hp' => ?_⟩
            have ev : v2 = v := by
              have hx3 := hx2
              rw [hv2] at hx3
              simpa using hx3
            subst ev
            have s2 := (s'.forget (i := i)).newF (o := .tup [.str sr, v2]) hp'
            have hp0 : p = [] := t'.r.nil_of_fz hz
            subst hp0
            have rd : RO (gOf X g) (upd F' p' (.tup [.str sr, v2])) (upd H' p' (.tup [.str sr, v2])) [] v2 d := t'.r.monoZ (upd_le (s'.fnone hp'))
            refine h (.ref p') σ' _ _ _ [] s2 l' (TO.z (.tup upd_same (ROs.consZ (.str sr) (ROs.consZ rd .nil)))) ?_
            refine (tr.trans (Tr.newF s'.sub hp')).weak (fun _ z => z) fun c z => ?_
            rcases z with z | z
            · exact .inl (.inl (own_take c (.inl z)))
            · cases z
          · exact h.elim
        · subst hb
          exact h dx v σ' F' H' fp' p s' l' t' tr hx2
theorem atL0 {st : List Stmt} {m : MS} (h : SSs X g W [] st m) : SSs X g W [] st m := h
end
end EV

/-! EvBB: the plain functions reckoned out, more of them. -/
namespace EV
open PySem PySem.Spec L2
section
variable {m n t : ME} {ms ns : MS} {e e1 : DEnv} {d : D} {oa ob : Op} {i k : Nat}
@[simp] theorem ap_raise {c : Nat} : mRaise c m e = (m e).toS fun d e1 => .ex c d e1 := by
  unfold mRaise RE.toS
  cases m e <;> rfl
@[simp] theorem ap_tryO {cg : Nat → Option Bool} : mTryO cg ms ns e = match ms e with
  | .ex c d e1 => match cg c with
    | some true => noEx (ns e1)
    | some false => .ex c d e1
    | none => .no
  | r => r := rfl
@[simp] theorem ap_tryS {cg : Nat → Option Bool} {al : Nat → Bool} {s : Str} : mTryS i cg al s ms e = match ms e with
  | .ex c d e1 => match cg c with
    | some true => if fz d = true ∧ i < e1.length ∧ al c = true then .rt (.tup [.str s, d]) (e1.set i none) else .no
    | some false => .ex c d e1
    | none => .no
  | r => r := rfl
@[simp] theorem noEx_nx : noEx (.nx e) = .nx e := rfl
@[simp] theorem noEx_rt : noEx (.rt d e) = .rt d e := rfl
@[simp] theorem noEx_no : noEx .no = .no := rfl
@[simp] theorem ap_enum : mEnum m e = match m e with
  | .ok d e1 => match enumD (frz d) with
    | some ds => .ok ds none e1
    | none => .no
  | .ex c d e1 => .ex c d e1
  | .no => .no := rfl
@[simp] theorem en_tup {xs : List D} : enumD (.tup xs) = some (numD 0 xs) := rfl
@[simp] theorem en_lst {o : Bool} {xs : List D} : enumD (.lst o xs) = some (numD 0 xs) := rfl
@[simp] theorem ap_sl {ml mh : Option ME} : mSl m ml mh e = match m e with
  | .ok d e1 => partR ml e1 fun l e2 => partR mh e2 fun u e3 => RE.of (sliceD (frz d) l u) e3
  | .ex c d e1 => .ex c d e1
  | .no => .no := rfl
@[simp] theorem part_n {f : Option Int → DEnv → RE} : partR none e f = f none e := rfl
@[simp] theorem part_s {f : Option Int → DEnv → RE} : partR (some m) e f = match m e with
    | .ok (.int i) e1 => f (some i) e1
    | .ok _ _ => .no
    | .ex c d e1 => .ex c d e1
    | .no => .no := by
  unfold partR
  rfl
@[simp] theorem sl_tupD {xs : List D} {l u : Option Int} : sliceD (.tup xs) l u = some (.tup (cutD xs l u)) := rfl
@[simp] theorem sl_lstD {o : Bool} {xs : List D} {l u : Option Int} : sliceD (.lst o xs) l u = some (.lst true (cutD xs l u)) := rfl
theorem cut_to {xs : List D} {k : Nat} (h : k ≤ xs.length) : cutD xs none (some (k : Nat)) = xs.take k := by
  unfold cutD
  rw [HT.sIx_none, HT.sIx_nat, List.drop_zero, Nat.min_eq_left h, Nat.sub_zero]
theorem cut_from {xs : List D} {k : Nat} (h : k ≤ xs.length) : cutD xs (some (k : Nat)) none = xs.drop k := by
  unfold cutD
  rw [HT.sIx_none, HT.sIx_nat, Nat.min_eq_left h]
  exact List.take_of_length_le (by rw [List.length_drop]; exact Nat.le_refl _)
theorem numD_nth {xs : List D} {k : Nat} {d : D} (h : (numD 0 xs)[k]? = some d) : ∃ x, xs[k]? = some x ∧ d = .tup [.int (k : Nat), x] := by
  obtain ⟨x, h1, h2⟩ := numD_get h
  exact ⟨x, h1, by rw [h2, Nat.zero_add]⟩
@[simp] theorem is_int_tup {a : List D} : isiD .int (.tup a) = some false := rfl
@[simp] theorem is_int_lst {o : Bool} {a : List D} : isiD .int (.lst o a) = some false := rfl
@[simp] theorem is_bool_non : isiD .bool .non = some false := rfl
@[simp] theorem is_bool_str {a : Str} : isiD .bool (.str a) = some false := rfl
@[simp] theorem is_bool_tup {a : List D} : isiD .bool (.tup a) = some false := rfl
@[simp] theorem is_bool_lst {o : Bool} {a : List D} : isiD .bool (.lst o a) = some false := rfl
@[simp] theorem is_str_non : isiD .str .non = some false := rfl
@[simp] theorem is_str_int {a : Int} : isiD .str (.int a) = some false := rfl
@[simp] theorem is_str_bl {a : Bool} : isiD .str (.bl a) = some false := rfl
@[simp] theorem is_str_tup {a : List D} : isiD .str (.tup a) = some false := rfl
@[simp] theorem is_str_lst {o : Bool} {a : List D} : isiD .str (.lst o a) = some false := rfl
@[simp] theorem mZs_nil {e : DEnv} : mZs [] e = .ok [] e := rfl
@[simp] theorem mZs_cons {m : ME} {ms : List ME} {e : DEnv} : mZs (m :: ms) e = match m e with
    | .ok d e1 => match mZs ms e1 with
      | .ok ds e2 => .ok (frz d :: ds) e2
      | .ex c d e2 => .ex c d e2
      | .no => .no
    | .ex c d e1 => .ex c d e1
    | .no => .no := rfl
@[simp] theorem ap_callK {C : List D → RC} {dfl : List D} {src : List KS} {ms : List ME} {e : DEnv} : mCallK C dfl src ms e = match mZs ms e with
  | .ok ds e1 => match C (genL .non dfl src ds) with
    | .ok d _ => .ok d e1
    | .ex c d _ => .ex c d e1
    | .no => .no
  | .ex c d e1 => .ex c d e1
  | .no => .no := rfl
@[simp] theorem RA_cons_ex {a : PA1} {c : Nat} {d : D} {e : DEnv} : RA.cons a (.ex c d e) = .ex c d e := rfl
@[simp] theorem RA_cons_no {a : PA1} : RA.cons a .no = .no := rfl
@[simp] theorem RA_fin_ex {c : Nat} {d : D} {e : DEnv} {k : List D → DEnv → RE} : RA.fin (.ex c d e) k = .ex c d e := rfl
@[simp] theorem RA_fin_no {k : List D → DEnv → RE} : RA.fin .no k = .no := rfl
@[simp] theorem ad_lst {o o2 : Bool} {xs ys : List D} : addD (.lst o xs) (.lst o2 ys) = if xs.length + ys.length ≤ LIM then some (.lst true (xs ++ ys)) else none := rfl
@[simp] theorem ad_tup {xs ys : List D} : addD (.tup xs) (.tup ys) = if xs.length + ys.length ≤ LIM then some (.tup (xs ++ ys)) else none := rfl
/-- data that isinstance answers -/
def okV : D → Bool
  | .non => true
  | .bl _ => true
  | .int _ => true
  | .str _ => true
  | .tup _ => true
  | .lst _ _ => true
  | _ => false
end
end EV

/-! EvCC: sum, max, min of tuples too. -/
namespace EV
open PySem PySem.Spec PyProof.Rows L2
section
variable {prog : Program} {w : World} {A : Around} {E : Value → Shared → Prop} {s : Shared} {l : Addr} {its : List Value} {ns : List Int} {Q : Value → Shared → Prop}
theorem iterT {xs : Array (Int × Tok)} {Q : Value → Shared → Prop} (hl : s.heap.IsTuple l (intItems xs))
    (h : ∀ s₂ : Shared, s₂ = { s with heap := s.heap.push { cls := .type "tuple_iterator", data := .fields #[.ref l, .int 0 0] } } → (s₂.heap.IsTupleIter s.heap.objs.size l 0 ∧ s₂.heap.IsTuple l (intItems xs)) → (∀ b ∈ [s.heap.objs.size, l], b < s₂.heap.objs.size) → l ≠ s.heap.objs.size → Q (.ref s.heap.objs.size) s₂) :
    wpAny (model prog w) A (pyIter (.ref l)) Q E s := by
  refine wpAny_pyIter_tuple hl (h _ rfl ⟨⟨_, Heap.get?_push_size _ rfl, rfl, rfl⟩, Heap.IsTuple.push hl _⟩ ?_ ?_)
  · have lt : l < s.heap.objs.size := by obtain ⟨o, ho, _⟩ := hl; exact Heap.lt_size ho
    intro b hb
    have hz : (s.heap.push { cls := .type "tuple_iterator", data := .fields #[.ref l, .int 0 0] }).objs.size = s.heap.objs.size + 1 := Heap.size_push ..
    show b < (s.heap.push { cls := .type "tuple_iterator", data := .fields #[.ref l, .int 0 0] }).objs.size
    rw [hz]
    simp only [List.mem_cons, List.not_mem_nil, or_false] at hb
    rcases hb with rfl | rfl
    · exact Nat.lt_succ_self _
    · exact Nat.lt_succ_of_lt lt
  · obtain ⟨o, ho, _⟩ := hl
    exact Nat.ne_of_lt (Heap.lt_size ho)
theorem oldT {h h' : Heap} {o : Obj} {I : Addr} (hI : I = h.objs.size) (hk : ∀ b u, b ∉ [I] → (h.push o).get? b = some u → h'.get? b = some u) : ∀ b u, h.get? b = some u → h'.get? b = some u := fun b u e =>
  hk b u (by rw [hI]; simpa using Nat.ne_of_lt (Heap.lt_size e)) (Heap.get?_push_of_some _ e)
theorem sumT_raw (hh : A.handled = none) (hl : s.heap.IsTuple l its.toArray) (hi : IntsAre its ns)
    (h : ∀ h' tk t', (∀ b o, s.heap.get? b = some o → h'.get? b = some o) → Q (.int ns.sum t') { s with heap := h', toks := tk }) : wpAny (model prog w) A (call (.builtin "sum") [.ref l]) Q E s := by
  obtain ⟨xs, e⟩ := hi.allInts.items
  have hn : numsOf (intItems xs).toList = ns := by rw [← e]; exact hi.numsOf
  rw [nums_intItems] at hn
  rw [e] at hl
  refine call_sum_walkG (iterT hl fun s₂ e2 st hfp hlI => ?_)
  subst e2
  refine ⟨_, _, _, _, _, _, numAt xs, rfl, Walks.tuple (A := A.in1) hh _ l hlI (intItems xs), st, hfp, (fun _ _ => intItems_at), fun h' tk t' hk => ?_⟩
  have z := h h' tk t' (oldT rfl hk)
  rw [preSum_eq, List.take_of_length_le (by simp [intItems]), hn]
  exact z
theorem maxT_raw (hh : A.handled = none) (hl : s.heap.IsTuple l its.toArray) (hi : IntsAre its ns) (hne : 0 < ns.length)
    (h : ∀ h' tk M t', (∀ b o, s.heap.get? b = some o → h'.get? b = some o) → M ∈ ns → (∀ a, a ∈ ns → a ≤ M) → Q (.int M t') { s with heap := h', toks := tk }) : wpAny (model prog w) A (call (.builtin "max") [.ref l]) Q E s := by
  obtain ⟨xs, e⟩ := hi.allInts.items
  have hn : numsOf (intItems xs).toList = ns := by rw [← e]; exact hi.numsOf
  rw [nums_intItems] at hn
  subst hn
  rw [e] at hl
  have hsz : 0 < xs.size := by simpa using hne
  refine call_max_walk (iterT hl fun s₂ e2 st hfp hlI => ?_)
  subst e2
  refine ⟨_, _, _, _, _, _, _, rfl, Walks.tuple (A := A.in1) hh _ l hlI (intItems xs), st, hfp, by simpa [intItems] using hsz, CmpOf.ints_gt (numAt xs) (fun _ _ => intItems_at), fun v h' tk hP hk => ?_⟩
  have hv : (intItems xs)[argBest (fun i j => decide (numAt xs i > numAt xs j)) (xs.size - 1)]? = some v := by simpa [intItems] using hP
  obtain ⟨t, rfl⟩ := intItems_at hv
  obtain ⟨h1, h2⟩ := argBest_gt (numAt xs) (xs.size - 1)
  refine h h' tk _ t (oldT rfl hk) ?_ fun a ha => ?_
  · rw [numAt_eq]; exact PySem.getD_mem (by rw [List.length_map, Array.length_toList]; omega)
  · obtain ⟨j, hj, rfl⟩ := mem_getD ha
    rw [List.length_map, Array.length_toList] at hj
    rw [← numAt_eq]; exact h2 j (by omega)
theorem minT_raw (hh : A.handled = none) (hl : s.heap.IsTuple l its.toArray) (hi : IntsAre its ns) (hne : 0 < ns.length)
    (h : ∀ h' tk M t', (∀ b o, s.heap.get? b = some o → h'.get? b = some o) → M ∈ ns → (∀ a, a ∈ ns → M ≤ a) → Q (.int M t') { s with heap := h', toks := tk }) : wpAny (model prog w) A (call (.builtin "min") [.ref l]) Q E s := by
  obtain ⟨xs, e⟩ := hi.allInts.items
  have hn : numsOf (intItems xs).toList = ns := by rw [← e]; exact hi.numsOf
  rw [nums_intItems] at hn
  subst hn
  rw [e] at hl
  have hsz : 0 < xs.size := by simpa using hne
  refine call_min_walk (iterT hl fun s₂ e2 st hfp hlI => ?_)
  subst e2
  refine ⟨_, _, _, _, _, _, _, rfl, Walks.tuple (A := A.in1) hh _ l hlI (intItems xs), st, hfp, by simpa [intItems] using hsz, CmpOf.ints_lt (numAt xs) (fun _ _ => intItems_at), fun v h' tk hP hk => ?_⟩
  have hv : (intItems xs)[argBest (fun i j => decide (numAt xs i < numAt xs j)) (xs.size - 1)]? = some v := by simpa [intItems] using hP
  obtain ⟨t, rfl⟩ := intItems_at hv
  obtain ⟨h1, h2⟩ := argBest_lt (numAt xs) (xs.size - 1)
  refine h h' tk _ t (oldT rfl hk) ?_ fun a ha => ?_
  · rw [numAt_eq]; exact PySem.getD_mem (by rw [List.length_map, Array.length_toList]; omega)
  · obtain ⟨j, hj, rfl⟩ := mem_getD ha
    rw [List.length_map, Array.length_toList] at hj
    rw [← numAt_eq]; exact h2 j (by omega)
end
section
variable {X : Cx} {N : List Str} {sc : Scope} {fr : List Str} {g : GF} {G : GI} {W : WX} {a : Expr} {pos p2 : Pos} {oa : Op} {F H : Hp} {x : V} {d d1 : D} {Q : VK}
def rSumA (K : PySem.W.Frag) : List V → Hp → VK → Prop := fun vs H Q => ∃ (a : Addr) (ns : List Int), vs = [V.ref a] ∧ (SqL K H a (ns.map V.int) ∨ SqT K H a (ns.map V.int)) ∧ Q (.int ns.sum) H
def rMaxA (K : PySem.W.Frag) : List V → Hp → VK → Prop := fun vs H Q => ∃ (a : Addr) (ns : List Int), vs = [V.ref a] ∧ (SqL K H a (ns.map V.int) ∨ SqT K H a (ns.map V.int)) ∧ 0 < ns.length ∧ ∀ m, m ∈ ns → (∀ y, y ∈ ns → y ≤ m) → Q (.int m) H
def rMinA (K : PySem.W.Frag) : List V → Hp → VK → Prop := fun vs H Q => ∃ (a : Addr) (ns : List Int), vs = [V.ref a] ∧ (SqL K H a (ns.map V.int) ∨ SqT K H a (ns.map V.int)) ∧ 0 < ns.length ∧ ∀ m, m ∈ ns → (∀ y, y ∈ ns → m ≤ y) → Q (.int m) H
theorem cr_sumA (hc : X.calm = true) : CallR X (.builtin "sum") (rSumA X.K) := by
  intro pins s σ H vs us Q I r h
  obtain ⟨a, ns, rfl, hs | hs, q⟩ := h
  · exact cr_sum hc pins s σ H _ us Q I r ⟨a, ns, rfl, hs, q⟩
  · obtain ⟨its, rv, hl, _⟩ := I.tuple hs
    rw [Vals.ref1 r]
    exact sumT_raw (I.ok.hd hc) (show s.heap.IsTuple a its.toArray from hl) rv.ints fun h' tk t' hk => ⟨.int _, H, I.kept hk, ⟨_, rfl⟩, q⟩
theorem cr_maxA (hc : X.calm = true) : CallR X (.builtin "max") (rMaxA X.K) := by
  intro pins s σ H vs us Q I r h
  obtain ⟨a, ns, rfl, hs | hs, hne, q⟩ := h
  · exact cr_max hc pins s σ H _ us Q I r ⟨a, ns, rfl, hs, hne, q⟩
  · obtain ⟨its, rv, hl, _⟩ := I.tuple hs
    rw [Vals.ref1 r]
    exact maxT_raw (I.ok.hd hc) (show s.heap.IsTuple a its.toArray from hl) rv.ints hne fun h' tk m t' hk h1 h2 => ⟨.int _, H, I.kept hk, ⟨_, rfl⟩, q m h1 h2⟩
theorem cr_minA (hc : X.calm = true) : CallR X (.builtin "min") (rMinA X.K) := by
  intro pins s σ H vs us Q I r h
  obtain ⟨a, ns, rfl, hs | hs, hne, q⟩ := h
  · exact cr_min hc pins s σ H _ us Q I r ⟨a, ns, rfl, hs, hne, q⟩
  · obtain ⟨its, rv, hl, _⟩ := I.tuple hs
    rw [Vals.ref1 r]
    exact minT_raw (I.ok.hd hc) (show s.heap.IsTuple a its.toArray from hl) rv.ints hne fun h' tk m t' hk h1 h2 => ⟨.int _, H, I.kept hk, ⟨_, rfl⟩, q m h1 h2⟩
def seqI : D → Option (List Int)
  | .lst _ xs => intsD xs
  | .tup xs => intsD xs
  | _ => none
def sumA (d : D) : Option D := (seqI d).map fun ns => .int ns.sum
def max1A (d : D) : Option D := (seqI d).bind fun ns => if 0 < ns.length then some (.int (maxL ns)) else none
def min1A (d : D) : Option D := (seqI d).bind fun ns => if 0 < ns.length then some (.int (minL ns)) else none
theorem seqI_rep {G : GI} {ns : List Int} (s : Sb F H) (r1 : RB G F H x d1) (h : seqI d1 = some ns) : ∃ a, x = .ref a ∧ (SqL G.K H a (ns.map V.int) ∨ SqT G.K H a (ns.map V.int)) := by
  cases d1 with
  | lst o xs =>
    obtain ⟨_, a, vs, rfl, ha, ra⟩ := r1.lst_inv s
    rw [ints_rep ra h] at ha
    exact ⟨a, rfl, .inl (SqL.of ha)⟩
  | tup xs =>
    obtain ⟨a, vs, rfl, ha, ra⟩ := r1.tup_inv
    rw [ints_rep ra h] at ha
    exact ⟨a, rfl, .inr (SqT.of (s _ _ ha))⟩
  | _ => cases h
theorem hr_sumA {G : GI} (s : Sb F H) (r1 : RB G F H x d1) (h : sumA d1 = some d) (k : KR G F H d Q) : rSumA G.K [x] H Q := by
  unfold sumA at h
  cases q : seqI d1 with
  | none => rw [q] at h; cases h
  | some ns =>
    rw [q] at h
    injection h with h; subst h
    obtain ⟨a, rfl, ha⟩ := seqI_rep s r1 q
    exact ⟨a, ns, rfl, ha, k.z s (.int _)⟩
theorem hr_max1A {G : GI} (s : Sb F H) (r1 : RB G F H x d1) (h : max1A d1 = some d) (k : KR G F H d Q) : rMaxA G.K [x] H Q := by
  unfold max1A at h
  cases q : seqI d1 with
  | none => rw [q] at h; cases h
  | some ns =>
    rw [q] at h
    have h : (if 0 < ns.length then some (D.int (maxL ns)) else none) = some d := h
    split at h
    · rename_i hl
      injection h with h; subst h
      obtain ⟨a, rfl, ha⟩ := seqI_rep s r1 q
      refine ⟨a, ns, rfl, ha, hl, fun m h1 h2 => ?_⟩
      obtain ⟨h3, h4⟩ := maxL_ok ns hl
      have e : m = maxL ns := Int.le_antisymm (h4 m h1) (h2 _ h3)
      rw [e]
      exact k.z s (.int _)
    · cases h
theorem hr_min1A {G : GI} (s : Sb F H) (r1 : RB G F H x d1) (h : min1A d1 = some d) (k : KR G F H d Q) : rMinA G.K [x] H Q := by
  unfold min1A at h
  cases q : seqI d1 with
  | none => rw [q] at h; cases h
  | some ns =>
    rw [q] at h
    have h : (if 0 < ns.length then some (D.int (minL ns)) else none) = some d := h
    split at h
    · rename_i hl
      injection h with h; subst h
      obtain ⟨a, rfl, ha⟩ := seqI_rep s r1 q
      refine ⟨a, ns, rfl, ha, hl, fun m h1 h2 => ?_⟩
      obtain ⟨h3, h4⟩ := minL_ok ns hl
      have e : m = minL ns := Int.le_antisymm (h2 _ h3) (h4 m h1)
      rw [e]
      exact k.z s (.int _)
    · cases h
theorem se_sumA (C : Cn X N sc fr) (h1 : ("sum" : Str) ∈ fr) (h2 : glB sc "sum" = true) (ha : SOp X g W a oa) (hs : starEach [a] X.env = (false, eval a X.env) :: starEach [] X.env) : SE X g W (.Call (.Name "sum" p2) [a] [] pos) (mOp1 sumA oa) :=
  se_b1 C (id := "sum") (cr_sumA C.calm) (by decide +kernel) (by decide) (by decide) (fun F H x d1 d Q s r1 h k => hr_sumA s r1 h k) h1 h2 ha hs
theorem se_max1A (C : Cn X N sc fr) (h1 : ("max" : Str) ∈ fr) (h2 : glB sc "max" = true) (ha : SOp X g W a oa) (hs : starEach [a] X.env = (false, eval a X.env) :: starEach [] X.env) : SE X g W (.Call (.Name "max" p2) [a] [] pos) (mOp1 max1A oa) :=
  se_b1 C (id := "max") (cr_maxA C.calm) (by decide +kernel) (by decide) (by decide) (fun F H x d1 d Q s r1 h k => hr_max1A s r1 h k) h1 h2 ha hs
theorem se_min1A (C : Cn X N sc fr) (h1 : ("min" : Str) ∈ fr) (h2 : glB sc "min" = true) (ha : SOp X g W a oa) (hs : starEach [a] X.env = (false, eval a X.env) :: starEach [] X.env) : SE X g W (.Call (.Name "min" p2) [a] [] pos) (mOp1 min1A oa) :=
  se_b1 C (id := "min") (cr_minA C.calm) (by decide +kernel) (by decide) (by decide) (fun F H x d1 d Q s r1 h k => hr_min1A s r1 h k) h1 h2 ha hs
end
end EV

namespace LW
open PySem PySem.Spec PyProof.Rows L2 EV
def top (i : Nat) : Stmt := PySem.Challenge.pw_fairanyprice_k71_what_is_a_source.main.body.getD i (.Pass ⟨0, 0, 0, 0⟩)
def g0 (K : PySem.W.Frag) : GF := ⟨fun _ => 0, fun c => match c with
  | 0 => He.ga K "OwnError"
  | 1 => He.ga K "BadSource"
  | _ => 0, fun c => match c with
  | 1 => "at"
  | _ => ""⟩
def k1 : ClD := ⟨"BadSource", "BadSource.__init__", "at", "at", (clFn (top 2)).1, (clFn (top 2)).2⟩
theorem kok1 : SupOk k1 := ⟨_, _, _, _, _, _, _, _, _, _, _, _, _, rfl, rfl, rfl, rfl, by decide, by decide, rfl, rfl, rfl, fun _ _ _ _ _ _ _ _ _ => rfl⟩
def FR : List Str := ["super", "len", "abs", "int", "tuple", "list", "sum", "max", "min", "isinstance", "range", "zip", "enumerate", "bool"]
theorem fr_super : ("super" : Str) ∈ FR := by decide +kernel
theorem fr_len : ("len" : Str) ∈ FR := by decide +kernel
theorem fr_abs : ("abs" : Str) ∈ FR := by decide +kernel
theorem fr_int : ("int" : Str) ∈ FR := by decide +kernel
theorem fr_tuple : ("tuple" : Str) ∈ FR := by decide +kernel
theorem fr_list : ("list" : Str) ∈ FR := by decide +kernel
theorem fr_sum : ("sum" : Str) ∈ FR := by decide +kernel
theorem fr_max : ("max" : Str) ∈ FR := by decide +kernel
theorem fr_min : ("min" : Str) ∈ FR := by decide +kernel
theorem fr_isinstance : ("isinstance" : Str) ∈ FR := by decide +kernel
theorem fr_range : ("range" : Str) ∈ FR := by decide +kernel
theorem fr_zip : ("zip" : Str) ∈ FR := by decide +kernel
theorem fr_enumerate : ("enumerate" : Str) ∈ FR := by decide +kernel
theorem fr_bool : ("bool" : Str) ∈ FR := by decide +kernel
def d4 : He.DefD := ⟨("is_int", none), "is_int", "is_int", defArgs (top 4), defBody (top 4), defScope (top 4), [], []⟩
def d5 : He.DefD := ⟨("is_number", none), "is_number", "is_number", defArgs (top 5), defBody (top 5), defScope (top 5), [.int 0, .non], []⟩
def d6 : He.DefD := ⟨("is_tuple", none), "is_tuple", "is_tuple", defArgs (top 6), defBody (top 6), defScope (top 6), [.non], []⟩
def d7 : He.DefD := ⟨("is_numbers", none), "is_numbers", "is_numbers", defArgs (top 7), defBody (top 7), defScope (top 7), [.int 0, .non], []⟩
def d10 : He.DefD := ⟨("drawn_signs", none), "drawn_signs", "drawn_signs", defArgs (top 10), defBody (top 10), defScope (top 10), [], []⟩
def d11 : He.DefD := ⟨("drawn_rooms", none), "drawn_rooms", "drawn_rooms", defArgs (top 11), defBody (top 11), defScope (top 11), [], []⟩
def d12 : He.DefD := ⟨("does_settle", none), "does_settle", "does_settle", defArgs (top 12), defBody (top 12), defScope (top 12), [], []⟩
def d13 : He.DefD := ⟨("are_chances", none), "are_chances", "are_chances", defArgs (top 13), defBody (top 13), defScope (top 13), [], []⟩
def d14 : He.DefD := ⟨("source_fault", none), "source_fault", "source_fault", defArgs (top 14), defBody (top 14), defScope (top 14), [], []⟩
def d15 : He.DefD := ⟨("check_source", none), "check_source", "check_source", defArgs (top 15), defBody (top 15), defScope (top 15), [], []⟩
def d17 : He.DefD := ⟨("_law_take", none), "_law_take", "_law_take", defArgs (top 17), defBody (top 17), defScope (top 17), [], []⟩
def d18 : He.DefD := ⟨("_law_pick", none), "_law_pick", "_law_pick", defArgs (top 18), defBody (top 18), defScope (top 18), [], []⟩
def d19 : He.DefD := ⟨("_law_same", none), "_law_same", "_law_same", defArgs (top 19), defBody (top 19), defScope (top 19), [], []⟩
def d20 : He.DefD := ⟨("_law_closed", none), "_law_closed", "_law_closed", defArgs (top 20), defBody (top 20), defScope (top 20), [], []⟩
def d21 : He.DefD := ⟨("_law_service", none), "_law_service", "_law_service", defArgs (top 21), defBody (top 21), defScope (top 21), [], []⟩
def d22 : He.DefD := ⟨("_law_is_number", none), "_law_is_number", "_law_is_number", defArgs (top 22), defBody (top 22), defScope (top 22), [], []⟩
def d23 : He.DefD := ⟨("_law_box", none), "_law_box", "_law_box", defArgs (top 23), defBody (top 23), defScope (top 23), [], []⟩
def d24 : He.DefD := ⟨("_law_led", none), "_law_led", "_law_led", defArgs (top 24), defBody (top 24), defScope (top 24), [], []⟩
def d25 : He.DefD := ⟨("_law_chances", none), "_law_chances", "_law_chances", defArgs (top 25), defBody (top 25), defScope (top 25), [], []⟩
def d26 : He.DefD := ⟨("_law_rooms_from", none), "_law_rooms_from", "_law_rooms_from", defArgs (top 26), defBody (top 26), defScope (top 26), [], []⟩
def d27 : He.DefD := ⟨("_law_fault", none), "_law_fault", "_law_fault", defArgs (top 27), defBody (top 27), defScope (top 27), [], []⟩
def d28 : He.DefD := ⟨("_law_due", none), "_law_due", "_law_due", defArgs (top 28), defBody (top 28), defScope (top 28), [], []⟩
def d29 : He.DefD := ⟨("_law_asked", none), "_law_asked", "_law_asked", defArgs (top 29), defBody (top 29), defScope (top 29), [], []⟩
def d30 : He.DefD := ⟨("_law_alike", none), "_law_alike", "_law_alike", defArgs (top 30), defBody (top 30), defScope (top 30), [], []⟩
def d31 : He.DefD := ⟨("_law_put", none), "_law_put", "_law_put", defArgs (top 31), defBody (top 31), defScope (top 31), [], []⟩
def d32 : He.DefD := ⟨("_law_bent", none), "_law_bent", "_law_bent", defArgs (top 32), defBody (top 32), defScope (top 32), [], []⟩
def d33 : He.DefD := ⟨("_law_whole", none), "_law_whole", "_law_whole", defArgs (top 33), defBody (top 33), defScope (top 33), [], []⟩
def d34 : He.DefD := ⟨("_law_book_of", none), "_law_book_of", "_law_book_of", defArgs (top 34), defBody (top 34), defScope (top 34), [], []⟩
def d35 : He.DefD := ⟨("_law_ends", none), "_law_ends", "_law_ends", defArgs (top 35), defBody (top 35), defScope (top 35), [], []⟩
def d36 : He.DefD := ⟨("law", none), "law", "law", defArgs (top 36), defBody (top 36), defScope (top 36), [], []⟩
structure Dn (P : Program) (w : World) (K : PySem.W.Frag) (mg : Str → Option Value) (fd : Nat → FuncData) : Prop where
  f4 : FunD K d4.name d4.qual d4.params d4.body d4.scope (d4.dvs K) (d4.kws K) (He.fAd K d4.at_) (fd 4)
  m4 : mg "is_int" = some (.ref (He.fAd K d4.at_))
  f5 : FunD K d5.name d5.qual d5.params d5.body d5.scope (d5.dvs K) (d5.kws K) (He.fAd K d5.at_) (fd 5)
  m5 : mg "is_number" = some (.ref (He.fAd K d5.at_))
  f6 : FunD K d6.name d6.qual d6.params d6.body d6.scope (d6.dvs K) (d6.kws K) (He.fAd K d6.at_) (fd 6)
  m6 : mg "is_tuple" = some (.ref (He.fAd K d6.at_))
  f7 : FunD K d7.name d7.qual d7.params d7.body d7.scope (d7.dvs K) (d7.kws K) (He.fAd K d7.at_) (fd 7)
  m7 : mg "is_numbers" = some (.ref (He.fAd K d7.at_))
  f10 : FunD K d10.name d10.qual d10.params d10.body d10.scope (d10.dvs K) (d10.kws K) (He.fAd K d10.at_) (fd 10)
  m10 : mg "drawn_signs" = some (.ref (He.fAd K d10.at_))
  f11 : FunD K d11.name d11.qual d11.params d11.body d11.scope (d11.dvs K) (d11.kws K) (He.fAd K d11.at_) (fd 11)
  m11 : mg "drawn_rooms" = some (.ref (He.fAd K d11.at_))
  f12 : FunD K d12.name d12.qual d12.params d12.body d12.scope (d12.dvs K) (d12.kws K) (He.fAd K d12.at_) (fd 12)
  m12 : mg "does_settle" = some (.ref (He.fAd K d12.at_))
  f13 : FunD K d13.name d13.qual d13.params d13.body d13.scope (d13.dvs K) (d13.kws K) (He.fAd K d13.at_) (fd 13)
  m13 : mg "are_chances" = some (.ref (He.fAd K d13.at_))
  f14 : FunD K d14.name d14.qual d14.params d14.body d14.scope (d14.dvs K) (d14.kws K) (He.fAd K d14.at_) (fd 14)
  m14 : mg "source_fault" = some (.ref (He.fAd K d14.at_))
  f15 : FunD K d15.name d15.qual d15.params d15.body d15.scope (d15.dvs K) (d15.kws K) (He.fAd K d15.at_) (fd 15)
  m15 : mg "check_source" = some (.ref (He.fAd K d15.at_))
  f17 : FunD K d17.name d17.qual d17.params d17.body d17.scope (d17.dvs K) (d17.kws K) (He.fAd K d17.at_) (fd 17)
  m17 : mg "_law_take" = some (.ref (He.fAd K d17.at_))
  f18 : FunD K d18.name d18.qual d18.params d18.body d18.scope (d18.dvs K) (d18.kws K) (He.fAd K d18.at_) (fd 18)
  m18 : mg "_law_pick" = some (.ref (He.fAd K d18.at_))
  f19 : FunD K d19.name d19.qual d19.params d19.body d19.scope (d19.dvs K) (d19.kws K) (He.fAd K d19.at_) (fd 19)
  m19 : mg "_law_same" = some (.ref (He.fAd K d19.at_))
  f20 : FunD K d20.name d20.qual d20.params d20.body d20.scope (d20.dvs K) (d20.kws K) (He.fAd K d20.at_) (fd 20)
  m20 : mg "_law_closed" = some (.ref (He.fAd K d20.at_))
  f21 : FunD K d21.name d21.qual d21.params d21.body d21.scope (d21.dvs K) (d21.kws K) (He.fAd K d21.at_) (fd 21)
  m21 : mg "_law_service" = some (.ref (He.fAd K d21.at_))
  f22 : FunD K d22.name d22.qual d22.params d22.body d22.scope (d22.dvs K) (d22.kws K) (He.fAd K d22.at_) (fd 22)
  m22 : mg "_law_is_number" = some (.ref (He.fAd K d22.at_))
  f23 : FunD K d23.name d23.qual d23.params d23.body d23.scope (d23.dvs K) (d23.kws K) (He.fAd K d23.at_) (fd 23)
  m23 : mg "_law_box" = some (.ref (He.fAd K d23.at_))
  f24 : FunD K d24.name d24.qual d24.params d24.body d24.scope (d24.dvs K) (d24.kws K) (He.fAd K d24.at_) (fd 24)
  m24 : mg "_law_led" = some (.ref (He.fAd K d24.at_))
  f25 : FunD K d25.name d25.qual d25.params d25.body d25.scope (d25.dvs K) (d25.kws K) (He.fAd K d25.at_) (fd 25)
  m25 : mg "_law_chances" = some (.ref (He.fAd K d25.at_))
  f26 : FunD K d26.name d26.qual d26.params d26.body d26.scope (d26.dvs K) (d26.kws K) (He.fAd K d26.at_) (fd 26)
  m26 : mg "_law_rooms_from" = some (.ref (He.fAd K d26.at_))
  f27 : FunD K d27.name d27.qual d27.params d27.body d27.scope (d27.dvs K) (d27.kws K) (He.fAd K d27.at_) (fd 27)
  m27 : mg "_law_fault" = some (.ref (He.fAd K d27.at_))
  f28 : FunD K d28.name d28.qual d28.params d28.body d28.scope (d28.dvs K) (d28.kws K) (He.fAd K d28.at_) (fd 28)
  m28 : mg "_law_due" = some (.ref (He.fAd K d28.at_))
  f29 : FunD K d29.name d29.qual d29.params d29.body d29.scope (d29.dvs K) (d29.kws K) (He.fAd K d29.at_) (fd 29)
  m29 : mg "_law_asked" = some (.ref (He.fAd K d29.at_))
  f30 : FunD K d30.name d30.qual d30.params d30.body d30.scope (d30.dvs K) (d30.kws K) (He.fAd K d30.at_) (fd 30)
  m30 : mg "_law_alike" = some (.ref (He.fAd K d30.at_))
  f31 : FunD K d31.name d31.qual d31.params d31.body d31.scope (d31.dvs K) (d31.kws K) (He.fAd K d31.at_) (fd 31)
  m31 : mg "_law_put" = some (.ref (He.fAd K d31.at_))
  f32 : FunD K d32.name d32.qual d32.params d32.body d32.scope (d32.dvs K) (d32.kws K) (He.fAd K d32.at_) (fd 32)
  m32 : mg "_law_bent" = some (.ref (He.fAd K d32.at_))
  f33 : FunD K d33.name d33.qual d33.params d33.body d33.scope (d33.dvs K) (d33.kws K) (He.fAd K d33.at_) (fd 33)
  m33 : mg "_law_whole" = some (.ref (He.fAd K d33.at_))
  f34 : FunD K d34.name d34.qual d34.params d34.body d34.scope (d34.dvs K) (d34.kws K) (He.fAd K d34.at_) (fd 34)
  m34 : mg "_law_book_of" = some (.ref (He.fAd K d34.at_))
  f35 : FunD K d35.name d35.qual d35.params d35.body d35.scope (d35.dvs K) (d35.kws K) (He.fAd K d35.at_) (fd 35)
  m35 : mg "_law_ends" = some (.ref (He.fAd K d35.at_))
  f36 : FunD K d36.name d36.qual d36.params d36.body d36.scope (d36.dvs K) (d36.kws K) (He.fAd K d36.at_) (fd 36)
  m36 : mg "law" = some (.ref (He.fAd K d36.at_))
  fr : ∀ x ∈ FR, mg x = none
  mx0 : mg "OwnError" = some (.ref ((g0 K).ca 0))
  mx1 : mg "BadSource" = some (.ref ((g0 K).ca 1))
  x1 : ExK P w K mg (g0 K) 1 "BadSource"
  xf1 : XfC K ((g0 K).ca 1)
  xe1 : ExcC K ((g0 K).ca 1)
  xo1 : PySem.W.findIn K (.ref ((g0 K).ca 1)) "at" = some none
  em1_1 : PySem.W.exmOne K (.ref ((g0 K).ca 1)) (.ref ((g0 K).ca 1)) = some true
  em1_0 : PySem.W.exmOne K (.ref ((g0 K).ca 1)) (.ref ((g0 K).ca 0)) = some true
  gi_MOST_CHANCE : ∃ t, mg "MOST_CHANCE" = some (.int 60 t)
def cg_1 : Nat → Option Bool
  | 1 => some true
  | _ => none
theorem cg_ok_1 {P : Program} {w : World} {K : PySem.W.Frag} {mg : Str → Option Value} {fd : Nat → FuncData} (T : Dn P w K mg fd) (c : Nat) (b : Bool) (h : cg_1 c = some b) : PySem.W.exmOne K (.ref ((g0 K).ca c)) (.ref ((g0 K).ca 1)) = some b := by
  unfold cg_1 at h
  split at h
  · injection h with h; subst h; exact T.em1_1
  · cases h
def cg_0 : Nat → Option Bool
  | 1 => some true
  | _ => none
theorem cg_ok_0 {P : Program} {w : World} {K : PySem.W.Frag} {mg : Str → Option Value} {fd : Nat → FuncData} (T : Dn P w K mg fd) (c : Nat) (b : Bool) (h : cg_0 c = some b) : PySem.W.exmOne K (.ref ((g0 K).ca c)) (.ref ((g0 K).ca 0)) = some b := by
  unfold cg_0 at h
  split at h
  · injection h with h; subst h; exact T.em1_0
  · cases h
/-! ### is_int -/
abbrev N4 : List Str := ["value"]
abbrev mask_4 : List Bool := [false]
theorem S4 : FnScope N4 ["value"] (defScope (top 4)) := ⟨rfl, rfl, rfl, by decide +kernel, rfl, by decide +kernel, by decide +kernel⟩
theorem bind_4 {K : PySem.W.Frag} {f : Addr} {fd : FuncData} (F : FunD K d4.name d4.qual d4.params d4.body d4.scope (d4.dvs K) (d4.kws K) f fd) : Binds K fd ["value"] [] := FunD.bindsN F fun _ _ _ _ _ _ us hl => match us, hl with | [_], _ => rfl
def m_4 : MS := (mSeq (mRet (mAnd (.e (mOp1 (fun d => (isiD .int d).map .bl) (.v 0))) (mNot (.e (mOp1 (fun d => (isiD .bool d).map .bl) (.v 0))))))
  RS.nx)
def c_4 : List D → RC := callF 1 mask_4 m_4
theorem b_4 {X : Cx} {W : WX} {fd : Nat → FuncData} (C : Cf X W N4 (defScope (top 4)) FR) (R : Room 0 X.A) (T : Dn X.prog X.w X.K X.mg fd) : SSs X (g0 X.K) W (lix 0 mask_4) (defBody (top 4)) m_4 := by
  have h0 : varB N4 (defScope (top 4)) 0 "value" = true := by decide +kernel
  have g_bool : glB (defScope (top 4)) "bool" = true := by decide +kernel
  have g_int : glB (defScope (top 4)) "int" = true := by decide +kernel
  have g_isinstance : glB (defScope (top 4)) "isinstance" = true := by decide +kernel
  unfold m_4
  exact (sss_cons (ss_ret (se_and (SOp.e (se_isi (T := .int) C.toCn fr_isinstance g_isinstance fr_int g_int (SOp.v C.toCn h0) rfl)) (se_and1 (se_not (SOp.e (se_isi (T := .bool) C.toCn fr_isinstance g_isinstance fr_bool g_bool (SOp.v C.toCn h0) rfl))))))
  sss_nil)
theorem ok_4 {P : Program} {w : World} {K : PySem.W.Frag} {mg : Str → Option Value} {base : Heap} {fd : Nat → FuncData} (T : Dn P w K mg fd) : FnOk P w K mg base (L2.CX P w) 1 (He.fAd K d4.at_) (fd 4) ["value"] (Prom ⟨g0 K, K⟩ mask_4 c_4) :=
  fn_okC T.f4 S4 rfl (by decide) T.fr fun X W e1 e2 e3 e4 e5 R C => by
    subst e1 e2 e3 e4 e5
    exact b_4 C R T
/-! ### is_number -/
abbrev N5 : List Str := ["value", "least", "most"]
abbrev mask_5 : List Bool := [false, false, false]
theorem S5 : FnScope N5 ["value", "least", "most"] (defScope (top 5)) := ⟨rfl, rfl, rfl, by decide +kernel, rfl, by decide +kernel, by decide +kernel⟩
theorem bd_5_3 {K : PySem.W.Frag} {f : Addr} {fd : FuncData} (F : FunD K d5.name d5.qual d5.params d5.body d5.scope (d5.dvs K) (d5.kws K) f fd) : ∃ ds, Vals ([] : List V) ds ∧ Binds K fd ["value", "least", "most"] ds := FunD.binds1 F 3 2 (fun z => by cases z) rfl fun _ _ _ _ _ _ _ us its h1 h2 => match us, its, h1, h2 with | [_, _, _], [_, _], _, _ => ⟨_, rfl, rfl⟩
def m_5 : MS := (mSeq (mRet (mAnd (.e (mCall c_4 mask_4 [] [.t (mV 0)])) (mAnd (.e (mOp2 (cmpD fun i j => decide (j ≤ i)) (.v 0) (.v 1))) (mOr (.e (mOp1 (fun d => some (.bl (isN d))) (.v 2))) (mOp2 (cmpD fun i j => decide (i ≤ j)) (.v 0) (.v 2))))))
  RS.nx)
def c_5 : List D → RC := callF 3 mask_5 m_5
theorem b_5 {X : Cx} {W : WX} {fd : Nat → FuncData} (C : Cf X W N5 (defScope (top 5)) FR) (R : Room 1 X.A) (T : Dn X.prog X.w X.K X.mg fd) : SSs X (g0 X.K) W (lix 0 mask_5) (defBody (top 5)) m_5 := by
  have h0 : varB N5 (defScope (top 5)) 0 "value" = true := by decide +kernel
  have h1 : varB N5 (defScope (top 5)) 1 "least" = true := by decide +kernel
  have h2 : varB N5 (defScope (top 5)) 2 "most" = true := by decide +kernel
  have g_is_int : glB (defScope (top 5)) "is_int" = true := by decide +kernel
  unfold m_5
  exact (sss_cons (ss_ret (se_and (SOp.e (se_call (dvs := []) (ds := []) C.tk (ok_4 T) (R.mono (by decide)) (gl_ok C.toCn g_is_int) T.m4 T.f4.kp (bind_4 T.f4) .nil (fun _ _ => .nil) (sa_consT (se_v C.toCn h0) sa_nil rfl) (by decide) rfl rfl)) (se_and (SOp.e (se_ge (SOp.v C.toCn h0) (SOp.v C.toCn h1))) (se_and1 (se_or (SOp.e (se_isN (SOp.v C.toCn h2))) (se_and1 (se_le (SOp.v C.toCn h0) (SOp.v C.toCn h2))))))))
  sss_nil)
theorem ok_5 {P : Program} {w : World} {K : PySem.W.Frag} {mg : Str → Option Value} {base : Heap} {fd : Nat → FuncData} (T : Dn P w K mg fd) : FnOk P w K mg base (L2.CX P w) 2 (He.fAd K d5.at_) (fd 5) ["value", "least", "most"] (Prom ⟨g0 K, K⟩ mask_5 c_5) :=
  fn_okC T.f5 S5 rfl (by decide) T.fr fun X W e1 e2 e3 e4 e5 R C => by
    subst e1 e2 e3 e4 e5
    exact b_5 C R T
/-! ### is_tuple -/
abbrev N6 : List Str := ["value", "many"]
abbrev mask_6 : List Bool := [false, false]
theorem S6 : FnScope N6 ["value", "many"] (defScope (top 6)) := ⟨rfl, rfl, rfl, by decide +kernel, rfl, by decide +kernel, by decide +kernel⟩
theorem bd_6_2 {K : PySem.W.Frag} {f : Addr} {fd : FuncData} (F : FunD K d6.name d6.qual d6.params d6.body d6.scope (d6.dvs K) (d6.kws K) f fd) : ∃ ds, Vals ([] : List V) ds ∧ Binds K fd ["value", "many"] ds := FunD.binds1 F 2 1 (fun z => by cases z) rfl fun _ _ _ _ _ _ _ us its h1 h2 => match us, its, h1, h2 with | [_, _], [_], _, _ => ⟨_, rfl, rfl⟩
def m_6 : MS := (mSeq (mRet (mAnd (.e (mOp1 (fun d => (isiD .tuple d).map .bl) (.v 0))) (mOr (.e (mOp1 (fun d => some (.bl (isN d))) (.v 1))) (mOp2 eqD (.e (mOp1 lenD (.v 0))) (.v 1)))))
  RS.nx)
def c_6 : List D → RC := callF 2 mask_6 m_6
theorem b_6 {X : Cx} {W : WX} {fd : Nat → FuncData} (C : Cf X W N6 (defScope (top 6)) FR) (R : Room 0 X.A) (T : Dn X.prog X.w X.K X.mg fd) : SSs X (g0 X.K) W (lix 0 mask_6) (defBody (top 6)) m_6 := by
  have h0 : varB N6 (defScope (top 6)) 0 "value" = true := by decide +kernel
  have h1 : varB N6 (defScope (top 6)) 1 "many" = true := by decide +kernel
  have g_isinstance : glB (defScope (top 6)) "isinstance" = true := by decide +kernel
  have g_len : glB (defScope (top 6)) "len" = true := by decide +kernel
  have g_tuple : glB (defScope (top 6)) "tuple" = true := by decide +kernel
  unfold m_6
  exact (sss_cons (ss_ret (se_and (SOp.e (se_isi (T := .tuple) C.toCn fr_isinstance g_isinstance fr_tuple g_tuple (SOp.v C.toCn h0) rfl)) (se_and1 (se_or (SOp.e (se_isN (SOp.v C.toCn h1))) (se_and1 (se_eq C.toCn (SOp.e (se_len C.toCn fr_len g_len (SOp.v C.toCn h0) rfl)) (SOp.v C.toCn h1)))))))
  sss_nil)
theorem ok_6 {P : Program} {w : World} {K : PySem.W.Frag} {mg : Str → Option Value} {base : Heap} {fd : Nat → FuncData} (T : Dn P w K mg fd) : FnOk P w K mg base (L2.CX P w) 1 (He.fAd K d6.at_) (fd 6) ["value", "many"] (Prom ⟨g0 K, K⟩ mask_6 c_6) :=
  fn_okC T.f6 S6 rfl (by decide) T.fr fun X W e1 e2 e3 e4 e5 R C => by
    subst e1 e2 e3 e4 e5
    exact b_6 C R T
/-! ### is_numbers -/
abbrev N7 : List Str := ["value", "many", "least", "most", "one"]
abbrev mask_7 : List Bool := [false, false, false, false]
theorem S7 : FnScope N7 ["value", "many", "least", "most"] (defScope (top 7)) := ⟨rfl, rfl, rfl, by decide +kernel, rfl, by decide +kernel, by decide +kernel⟩
theorem bd_7_4 {K : PySem.W.Frag} {f : Addr} {fd : FuncData} (F : FunD K d7.name d7.qual d7.params d7.body d7.scope (d7.dvs K) (d7.kws K) f fd) : ∃ ds, Vals ([] : List V) ds ∧ Binds K fd ["value", "many", "least", "most"] ds := FunD.binds1 F 4 2 (fun z => by cases z) rfl fun _ _ _ _ _ _ _ us its h1 h2 => match us, its, h1, h2 with | [_, _, _, _], [_, _], _, _ => ⟨_, rfl, rfl⟩
def q_7_1 : ME := (mV 4)
def t_7_2 : ME := (mTNot (mTru (.e (mCall c_5 mask_5 [] [.t (mV 4), .t (mV 2), .t (mV 3)]))))
def m_7 : MS := (mSeq (mRet (mAnd (.e (mCall c_6 mask_6 [] [.t (mV 0), .t (mV 1)])) (mOp2 eqD (.e (mOp1 lenD (.e (mLc [4] (.v 4) (mIt (mV 0)) t_7_2 q_7_1)))) (.e (mC (.int 0))))))
  RS.nx)
def c_7 : List D → RC := callF 5 mask_7 m_7
theorem b_7 {X : Cx} {W : WX} {fd : Nat → FuncData} (C : Cf X W N7 (defScope (top 7)) FR) (R : Room 2 X.A) (T : Dn X.prog X.w X.K X.mg fd) : SSs X (g0 X.K) W (lix 0 mask_7) (defBody (top 7)) m_7 := by
  have h0 : varB N7 (defScope (top 7)) 0 "value" = true := by decide +kernel
  have h1 : varB N7 (defScope (top 7)) 1 "many" = true := by decide +kernel
  have g_is_tuple : glB (defScope (top 7)) "is_tuple" = true := by decide +kernel
  have g_len : glB (defScope (top 7)) "len" = true := by decide +kernel
  unfold m_7
  exact (sss_cons (ss_ret (se_and (SOp.e (se_callD (dvs := []) C.tk (ok_6 T) (R.mono (by decide)) (gl_ok C.toCn g_is_tuple) T.m6 T.f6.kp (bd_6_2 T.f6) (fun _ _ => .nil) (sa_consT (se_v C.toCn h0) (sa_consT (se_v C.toCn h1) sa_nil rfl) rfl) (by decide) rfl rfl)) (se_and1 (se_eq C.toCn (SOp.e (se_len C.toCn fr_len g_len (SOp.e (se_lcC (own' := [("one", 4)]) (t := (.v 4)) C.toCn (si_seq (se_v C.toCn h0)) (by decide +kernel) (fun _ _ _ _ _ C1 => (pg_b C1 (by decide +kernel))) (fun L hL => (gok_vb (by decide) L hL)) (fun _ _ _ _ _ C1 => (pts_one (st_not (st_tru (SOp.e (se_callD (dvs := []) EV.takes0 (ok_5 T) (R.mono (by decide)) (gl_ok C1 (by decide +kernel)) T.m5 T.f5.kp (bd_5_3 T.f5) (fun _ _ => .nil) (sa_consT (se_v C1 (by decide +kernel)) (sa_consT (se_v C1 (by decide +kernel)) (sa_consT (se_v C1 (by decide +kernel)) sa_nil rfl) rfl) rfl) (by decide) rfl rfl)) (fun _ => rfl))))) (fun _ _ _ _ _ C1 => (se_v C1 (by decide +kernel))) (fun _ => rfl))) rfl)) (SOp.e (se_int (g := g0 X.K) (W := W)))))))
  sss_nil)
theorem ok_7 {P : Program} {w : World} {K : PySem.W.Frag} {mg : Str → Option Value} {base : Heap} {fd : Nat → FuncData} (T : Dn P w K mg fd) : FnOk P w K mg base (L2.CX P w) 3 (He.fAd K d7.at_) (fd 7) ["value", "many", "least", "most"] (Prom ⟨g0 K, K⟩ mask_7 c_7) :=
  fn_okC T.f7 S7 rfl (by decide) T.fr fun X W e1 e2 e3 e4 e5 R C => by
    subst e1 e2 e3 e4 e5
    exact b_7 C R T
/-! ### drawn_signs -/
abbrev N10 : List Str := ["source", "room", "sign", "chance"]
abbrev mask_10 : List Bool := [false, false]
theorem S10 : FnScope N10 ["source", "room"] (defScope (top 10)) := ⟨rfl, rfl, rfl, by decide +kernel, rfl, by decide +kernel, by decide +kernel⟩
theorem bind_10 {K : PySem.W.Frag} {f : Addr} {fd : FuncData} (F : FunD K d10.name d10.qual d10.params d10.body d10.scope (d10.dvs K) (d10.kws K) f fd) : Binds K fd ["source", "room"] [] := FunD.bindsN F fun _ _ _ _ _ _ us hl => match us, hl with | [_, _], _ => rfl
def q_10_1 : ME := (mV 2)
def t_10_2 : ME := (mOp2 (cmpD fun i j => decide (j < i)) (.v 3) (.e (mC (.int 0))))
def m_10 : MS := (mSeq (mRet (mLc [2, 3] (.t [(.v 2), (.v 3)]) (mEnum (mOp2 ixD (.v 0) (.v 1))) t_10_2 q_10_1))
  RS.nx)
def c_10 : List D → RC := callF 4 mask_10 m_10
theorem b_10 {X : Cx} {W : WX} {fd : Nat → FuncData} (C : Cf X W N10 (defScope (top 10)) FR) (R : Room 0 X.A) (T : Dn X.prog X.w X.K X.mg fd) : SSs X (g0 X.K) W (lix 0 mask_10) (defBody (top 10)) m_10 := by
  have h0 : varB N10 (defScope (top 10)) 0 "source" = true := by decide +kernel
  have h1 : varB N10 (defScope (top 10)) 1 "room" = true := by decide +kernel
  have g_enumerate : glB (defScope (top 10)) "enumerate" = true := by decide +kernel
  unfold m_10
  exact (sss_cons (ss_ret (se_lcC (own' := [("sign", 2), ("chance", 3)]) (t := (.t [(.v 2), (.v 3)])) C.toCn (si_enum C.toCn fr_enumerate g_enumerate (se_ix C.toCn (SOp.v C.toCn h0) (SOp.v C.toCn h1) (fun _ _ => rfl)) rfl rfl) (by decide +kernel) (fun _ _ _ _ _ C1 => (pg_tup C1.calm (pgs_cons (pg_b C1 (by decide +kernel)) (pgs_cons (pg_b C1 (by decide +kernel)) pgs_nil)))) (fun L hL => (gok_t rfl rfl (gsok_cons (gok_vb (by decide) L hL) (gsok_cons (gok_vb (by decide) L hL) gsok_nil)))) (fun _ _ _ _ _ C1 => (pts_one (st_gt (SOp.v C1 (by decide +kernel)) (SOp.e (se_int (g := g0 X.K) (W := W0)))))) (fun _ _ _ _ _ C1 => (se_v C1 (by decide +kernel))) (fun _ => rfl)))
  sss_nil)
theorem ok_10 {P : Program} {w : World} {K : PySem.W.Frag} {mg : Str → Option Value} {base : Heap} {fd : Nat → FuncData} (T : Dn P w K mg fd) : FnOk P w K mg base (L2.CX P w) 1 (He.fAd K d10.at_) (fd 10) ["source", "room"] (Prom ⟨g0 K, K⟩ mask_10 c_10) :=
  fn_okC T.f10 S10 rfl (by decide) T.fr fun X W e1 e2 e3 e4 e5 R C => by
    subst e1 e2 e3 e4 e5
    exact b_10 C R T
/-! ### drawn_rooms -/
abbrev N11 : List Str := ["book", "source", "start", "rooms", "at", "sign", "after"]
abbrev mask_11 : List Bool := [false, false, false]
theorem S11 : FnScope N11 ["book", "source", "start"] (defScope (top 11)) := ⟨rfl, rfl, rfl, by decide +kernel, rfl, by decide +kernel, by decide +kernel⟩
theorem bind_11 {K : PySem.W.Frag} {f : Addr} {fd : FuncData} (F : FunD K d11.name d11.qual d11.params d11.body d11.scope (d11.dvs K) (d11.kws K) f fd) : Binds K fd ["book", "source", "start"] [] := FunD.bindsN F fun _ _ _ _ _ _ us hl => match us, hl with | [_, _, _], _ => rfl
def s_11_1 : MS := (mSeq (mAsg (.v 6) (mOp2 ixD (.e (mOp2 ixD (.e (mOp2 ixD (.v 0) (.e (mOp2 ixD (.v 3) (.v 4))))) (.v 5))) (.e (mC (.int 2)))))
  (mSeq (mIfS (mOp2 notinB (.v 6) (.v 3)) (mSeq (mExpr (mApp 3 (mV 6)))
  RS.nx) RS.nx)
  RS.nx))
def t_11_2 : ME := (mOp2 (cmpD fun i j => decide (i < j)) (.v 4) (.e (mOp1 lenD (.v 3))))
def s_11_3 : MS := (mSeq (mFor [] (.v 5) (mIt (mCall c_10 mask_10 [] [.t (mV 1), .t (mOp2 ixD (.v 3) (.v 4))])) s_11_1)
  (mSeq (mAug 4 (fun i j => i + j) (mC (.int 1)))
  RS.nx))
def m_11 : MS := (mSeq (mPar [3, 4] [.t (mLst [.t (mV 2)]), .t (mC (.int 0))])
  (mSeq (mWhile t_11_2 s_11_3)
  (mSeq (mRet (mMv 3))
  RS.nx)))
def c_11 : List D → RC := callF 7 mask_11 m_11
theorem b_11 {X : Cx} {W : WX} {fd : Nat → FuncData} (C : Cf X W N11 (defScope (top 11)) FR) (R : Room 1 X.A) (T : Dn X.prog X.w X.K X.mg fd) : SSs X (g0 X.K) W (lix 0 mask_11) (defBody (top 11)) m_11 := by
  have h0 : varB N11 (defScope (top 11)) 0 "book" = true := by decide +kernel
  have h1 : varB N11 (defScope (top 11)) 1 "source" = true := by decide +kernel
  have h2 : varB N11 (defScope (top 11)) 2 "start" = true := by decide +kernel
  have h3 : varB N11 (defScope (top 11)) 3 "rooms" = true := by decide +kernel
  have h4 : varB N11 (defScope (top 11)) 4 "at" = true := by decide +kernel
  have h5 : varB N11 (defScope (top 11)) 5 "sign" = true := by decide +kernel
  have h6 : varB N11 (defScope (top 11)) 6 "after" = true := by decide +kernel
  have g_drawn_signs : glB (defScope (top 11)) "drawn_signs" = true := by decide +kernel
  have g_len : glB (defScope (top 11)) "len" = true := by decide +kernel
  unfold m_11
  exact (sss_cons (ss_parC C (by decide +kernel) (by decide +kernel) (by decide) (sa_consT (se_lst (g := g0 X.K) (W := W) (sa_consT (se_v C.toCn h2) sa_nil rfl)) (sa_consT (se_int (g := g0 X.K) (W := W)) sa_nil rfl) rfl) (by kernel_rfl) (by decide))
  (sss_cons (ss_while C.po (st_lt (SOp.v C.toCn h4) (SOp.e (se_len C.toCn fr_len g_len (SOp.v C.toCn h3) rfl))) (sss_cons (ss_for (Ls := []) (t := (.v 5)) C.po C.calm (si_seq (se_call (dvs := []) (ds := []) C.tk (ok_10 T) (R.mono (by decide)) (gl_ok C.toCn g_drawn_signs) T.m10 T.f10.kp (bind_10 T.f10) .nil (fun _ _ => .nil) (sa_consT (se_v C.toCn h1) (sa_consT (se_ix C.toCn (SOp.v C.toCn h3) (SOp.v C.toCn h4) (fun _ _ => rfl)) sa_nil rfl) rfl) (by decide) rfl rfl)) (pg_f C (by decide +kernel)) (gok_v (by decide)) (sss_cons (ss_setC C (by decide +kernel) (se_ix C.toCn (SOp.e (se_ix C.toCn (SOp.e (se_ix C.toCn (SOp.v C.toCn h0) (SOp.e (se_ix C.toCn (SOp.v C.toCn h3) (SOp.v C.toCn h4) (fun _ _ => rfl))) (fun _ _ => rfl))) (SOp.v C.toCn h5) (fun _ _ => rfl))) (SOp.e (se_int (g := g0 X.K) (W := W))) (fun _ _ => rfl)) (by decide) rfl)
  (sss_cons (ss_if (st_notin C.toCn (SOp.v C.toCn h6) (SOp.v C.toCn h3) rfl) (sss_cons (ss_expr (se_app C.toCn h3 (se_v C.toCn h6) rfl rfl) rfl)
  sss_nil) sss_nil)
  sss_nil)) (fun _ => rfl))
  (sss_cons (ss_augC C (by decide +kernel) (se_int (g := g0 X.K) (W := W)) ip_add (by decide))
  sss_nil)))
  (sss_cons (ss_ret (se_mv C.toCn h3))
  sss_nil)))
theorem ok_11 {P : Program} {w : World} {K : PySem.W.Frag} {mg : Str → Option Value} {base : Heap} {fd : Nat → FuncData} (T : Dn P w K mg fd) : FnOk P w K mg base (L2.CX P w) 2 (He.fAd K d11.at_) (fd 11) ["book", "source", "start"] (Prom ⟨g0 K, K⟩ mask_11 c_11) :=
  fn_okC T.f11 S11 rfl (by decide) T.fr fun X W e1 e2 e3 e4 e5 R C => by
    subst e1 e2 e3 e4 e5
    exact b_11 C R T
/-! ### does_settle -/
abbrev N12 : List Str := ["book", "source", "rooms", "shared", "room", "led", "goal"]
abbrev mask_12 : List Bool := [false, false]
theorem S12 : FnScope N12 ["book", "source"] (defScope (top 12)) := ⟨rfl, rfl, rfl, by decide +kernel, rfl, by decide +kernel, by decide +kernel⟩
theorem bind_12 {K : PySem.W.Frag} {f : Addr} {fd : FuncData} (F : FunD K d12.name d12.qual d12.params d12.body d12.scope (d12.dvs K) (d12.kws K) f fd) : Binds K fd ["book", "source"] [] := FunD.bindsN F fun _ _ _ _ _ _ us hl => match us, hl with | [_, _], _ => rfl
def q_12_1 : ME := (mV 6)
def t_12_2 : ME := (mOp2 inB (.v 6) (.v 5))
def s_12_3 : MS := (mSeq (mAsg (.v 5) (mCall c_11 mask_11 [] [.t (mV 0), .t (mV 1), .t (mV 4)]))
  (mSeq (mAsg (.v 3) (mLc [6] (.v 6) (mIt (mV 3)) t_12_2 q_12_1))
  RS.nx))
def m_12 : MS := (mSeq (mAsg (.v 2) (mCall c_11 mask_11 [] [.t (mV 0), .t (mV 1), .t (mC (.int 0))]))
  (mSeq (mAsg (.v 3) (mV 2))
  (mSeq (mFor [] (.v 4) (mIt (mV 2)) s_12_3)
  (mSeq (mRet (mOp2 (cmpD fun i j => decide (j < i)) (.e (mOp1 lenD (.v 3))) (.e (mC (.int 0)))))
  RS.nx))))
def c_12 : List D → RC := callF 7 mask_12 m_12
theorem b_12 {X : Cx} {W : WX} {fd : Nat → FuncData} (C : Cf X W N12 (defScope (top 12)) FR) (R : Room 2 X.A) (T : Dn X.prog X.w X.K X.mg fd) : SSs X (g0 X.K) W (lix 0 mask_12) (defBody (top 12)) m_12 := by
  have h0 : varB N12 (defScope (top 12)) 0 "book" = true := by decide +kernel
  have h1 : varB N12 (defScope (top 12)) 1 "source" = true := by decide +kernel
  have h2 : varB N12 (defScope (top 12)) 2 "rooms" = true := by decide +kernel
  have h3 : varB N12 (defScope (top 12)) 3 "shared" = true := by decide +kernel
  have h4 : varB N12 (defScope (top 12)) 4 "room" = true := by decide +kernel
  have g_drawn_rooms : glB (defScope (top 12)) "drawn_rooms" = true := by decide +kernel
  have g_len : glB (defScope (top 12)) "len" = true := by decide +kernel
  unfold m_12
  exact (sss_cons (ss_setC C (by decide +kernel) (se_call (dvs := []) (ds := []) C.tk (ok_11 T) (R.mono (by decide)) (gl_ok C.toCn g_drawn_rooms) T.m11 T.f11.kp (bind_11 T.f11) .nil (fun _ _ => .nil) (sa_consT (se_v C.toCn h0) (sa_consT (se_v C.toCn h1) (sa_consT (se_int (g := g0 X.K) (W := W)) sa_nil rfl) rfl) rfl) (by decide) rfl rfl) (by decide) rfl)
  (sss_cons (ss_setC C (by decide +kernel) (se_v C.toCn h2) (by decide) rfl)
  (sss_cons (ss_for (Ls := []) (t := (.v 4)) C.po C.calm (si_seq (se_v C.toCn h2)) (pg_f C (by decide +kernel)) (gok_v (by decide)) (sss_cons (ss_setC C (by decide +kernel) (se_call (dvs := []) (ds := []) C.tk (ok_11 T) (R.mono (by decide)) (gl_ok C.toCn g_drawn_rooms) T.m11 T.f11.kp (bind_11 T.f11) .nil (fun _ _ => .nil) (sa_consT (se_v C.toCn h0) (sa_consT (se_v C.toCn h1) (sa_consT (se_v C.toCn h4) sa_nil rfl) rfl) rfl) (by decide) rfl rfl) (by decide) rfl)
  (sss_cons (ss_setLcC C (by decide +kernel) rfl rfl (by decide +kernel) (by decide) (si_seq (se_v C.toCn h3)) (own' := [("goal", 6)]) (t := (.v 6)) (by decide +kernel) (fun _ _ _ _ _ C1 => (pg_b C1 (by decide +kernel))) (fun L hL => (gok_vb (by decide) L hL)) (fun _ _ _ _ _ C1 => (pts_one (st_in C1 (SOp.v C1 (by decide +kernel)) (SOp.v C1 (by decide +kernel)) rfl))) (fun _ _ _ _ _ C1 => (se_v C1 (by decide +kernel))) (fun _ => rfl))
  sss_nil)) (fun _ => rfl))
  (sss_cons (ss_ret (se_gt (SOp.e (se_len C.toCn fr_len g_len (SOp.v C.toCn h3) rfl)) (SOp.e (se_int (g := g0 X.K) (W := W)))))
  sss_nil))))
theorem ok_12 {P : Program} {w : World} {K : PySem.W.Frag} {mg : Str → Option Value} {base : Heap} {fd : Nat → FuncData} (T : Dn P w K mg fd) : FnOk P w K mg base (L2.CX P w) 3 (He.fAd K d12.at_) (fd 12) ["book", "source"] (Prom ⟨g0 K, K⟩ mask_12 c_12) :=
  fn_okC T.f12 S12 rfl (by decide) T.fr fun X W e1 e2 e3 e4 e5 R C => by
    subst e1 e2 e3 e4 e5
    exact b_12 C R T
/-! ### are_chances -/
abbrev N13 : List Str := ["value", "room", "step", "chance"]
abbrev mask_13 : List Bool := [false, false]
theorem S13 : FnScope N13 ["value", "room"] (defScope (top 13)) := ⟨rfl, rfl, rfl, by decide +kernel, rfl, by decide +kernel, by decide +kernel⟩
theorem bind_13 {K : PySem.W.Frag} {f : Addr} {fd : FuncData} (F : FunD K d13.name d13.qual d13.params d13.body d13.scope (d13.dvs K) (d13.kws K) f fd) : Binds K fd ["value", "room"] [] := FunD.bindsN F fun _ _ _ _ _ _ us hl => match us, hl with | [_, _], _ => rfl
def q_13_1 : ME := (mV 2)
def t_13_2 : ME := (mTAnd (mOp1 (fun d => some (.bl (isN d))) (.v 2)) (mOp2 (cmpD fun i j => decide (j < i)) (.v 3) (.e (mC (.int 0)))))
def m_13 : MS := (mSeq (mIfS (mTNot (mTru (.e (mCall c_7 mask_7 [] [.t (mV 0), .t (mOp1 lenD (.v 1)), .t (mC (.int 0)), .t (mC (.int 60))])))) (mSeq (mRet (mC (.bl false)))
  RS.nx) RS.nx)
  (mSeq (mRet (mOp2 eqD (.e (mOp1 lenD (.e (mLc [2, 3] (.t [(.v 2), (.v 3)]) (mZip2 (mV 1) (mV 0)) t_13_2 q_13_1)))) (.e (mC (.int 0)))))
  RS.nx))
def c_13 : List D → RC := callF 4 mask_13 m_13
theorem b_13 {X : Cx} {W : WX} {fd : Nat → FuncData} (C : Cf X W N13 (defScope (top 13)) FR) (R : Room 3 X.A) (T : Dn X.prog X.w X.K X.mg fd) : SSs X (g0 X.K) W (lix 0 mask_13) (defBody (top 13)) m_13 := by
  have h0 : varB N13 (defScope (top 13)) 0 "value" = true := by decide +kernel
  have h1 : varB N13 (defScope (top 13)) 1 "room" = true := by decide +kernel
  have g_MOST_CHANCE : glB (defScope (top 13)) "MOST_CHANCE" = true := by decide +kernel
  have g_is_numbers : glB (defScope (top 13)) "is_numbers" = true := by decide +kernel
  have g_len : glB (defScope (top 13)) "len" = true := by decide +kernel
  have g_zip : glB (defScope (top 13)) "zip" = true := by decide +kernel
  unfold m_13
  exact (sss_cons (ss_if (st_not (st_tru (SOp.e (se_callD (dvs := []) C.tk (ok_7 T) (R.mono (by decide)) (gl_ok C.toCn g_is_numbers) T.m7 T.f7.kp (bd_7_4 T.f7) (fun _ _ => .nil) (sa_consT (se_v C.toCn h0) (sa_consT (se_len C.toCn fr_len g_len (SOp.v C.toCn h1) rfl) (sa_consT (se_int (g := g0 X.K) (W := W)) (sa_consT (se_gint C.toCn g_MOST_CHANCE T.gi_MOST_CHANCE (by decide)) sa_nil rfl) rfl) rfl) rfl) (by decide) rfl rfl)) (fun _ => rfl))) (sss_cons (ss_ret (se_bl (g := g0 X.K) (W := W)))
  sss_nil) sss_nil)
  (sss_cons (ss_ret (se_eq C.toCn (SOp.e (se_len C.toCn fr_len g_len (SOp.e (se_lcC (own' := [("step", 2), ("chance", 3)]) (t := (.t [(.v 2), (.v 3)])) C.toCn (si_zip2 C.toCn fr_zip g_zip (se_v C.toCn h1) (se_v C.toCn h0) rfl rfl rfl) (by decide +kernel) (fun _ _ _ _ _ C1 => (pg_tup C1.calm (pgs_cons (pg_b C1 (by decide +kernel)) (pgs_cons (pg_b C1 (by decide +kernel)) pgs_nil)))) (fun L hL => (gok_t rfl rfl (gsok_cons (gok_vb (by decide) L hL) (gsok_cons (gok_vb (by decide) L hL) gsok_nil)))) (fun _ _ _ _ _ C1 => (pts_one (st_bool (sw_and (st_isN (SOp.v C1 (by decide +kernel))) (sw_and1 (st_gt (SOp.v C1 (by decide +kernel)) (SOp.e (se_int (g := g0 X.K) (W := W0))))))))) (fun _ _ _ _ _ C1 => (se_v C1 (by decide +kernel))) (fun _ => rfl))) rfl)) (SOp.e (se_int (g := g0 X.K) (W := W)))))
  sss_nil))
theorem ok_13 {P : Program} {w : World} {K : PySem.W.Frag} {mg : Str → Option Value} {base : Heap} {fd : Nat → FuncData} (T : Dn P w K mg fd) : FnOk P w K mg base (L2.CX P w) 4 (He.fAd K d13.at_) (fd 13) ["value", "room"] (Prom ⟨g0 K, K⟩ mask_13 c_13) :=
  fn_okC T.f13 S13 rfl (by decide) T.fr fun X W e1 e2 e3 e4 e5 R C => by
    subst e1 e2 e3 e4 e5
    exact b_13 C R T
/-! ### source_fault -/
abbrev N14 : List Str := ["whole", "value", "book", "number", "room", "still"]
abbrev mask_14 : List Bool := [false, false]
theorem S14 : FnScope N14 ["whole", "value"] (defScope (top 14)) := ⟨rfl, rfl, rfl, by decide +kernel, rfl, by decide +kernel, by decide +kernel⟩
theorem bind_14 {K : PySem.W.Frag} {f : Addr} {fd : FuncData} (F : FunD K d14.name d14.qual d14.params d14.body d14.scope (d14.dvs K) (d14.kws K) f fd) : Binds K fd ["whole", "value"] [] := FunD.bindsN F fun _ _ _ _ _ _ us hl => match us, hl with | [_, _], _ => rfl
def q_14_1 : ME := (mV 4)
def t_14_2 : ME := (mOp2 eqD (.e (mOp1 lenD (.e (mCall c_10 mask_10 [] [.t (mV 1), .t (mV 4)])))) (.e (mC (.int 0))))
def s_14_3 : MS := (mSeq (mIfS (mTNot (mTru (.e (mCall c_13 mask_13 [] [.t (mOp2 ixD (.v 1) (.v 3)), .t (mV 4)])))) (mSeq (mRet (mMv 3))
  RS.nx) RS.nx)
  RS.nx)
def m_14 : MS := (mSeq (mAsg (.v 2) (mOp2 ixD (.v 0) (.e (mC (.int 2)))))
  (mSeq (mIfS (mTNot (mTru (.e (mCall c_6 mask_6 [] [.t (mV 1), .t (mOp1 lenD (.v 2))])))) (mSeq (mRet (mOp1 negD (.e (mC (.int 1)))))
  RS.nx) RS.nx)
  (mSeq (mFor [] (.t [(.v 3), (.v 4)]) (mEnum (mV 2)) s_14_3)
  (mSeq (mAsg (.v 5) (mLc [4] (.v 4) (mIt (mCall c_11 mask_11 [] [.t (mV 2), .t (mV 1), .t (mC (.int 0))])) t_14_2 q_14_1))
  (mSeq (mIfS (mOp2 (cmpD fun i j => decide (j < i)) (.e (mOp1 lenD (.v 5))) (.e (mC (.int 0)))) (mSeq (mRet (mOp1 min1A (.v 5)))
  RS.nx) RS.nx)
  (mSeq (mRet (mIf (mTru (.e (mCall c_12 mask_12 [] [.t (mV 2), .t (mV 1)]))) (mC .non) (mOp1 lenD (.v 2))))
  RS.nx))))))
def c_14 : List D → RC := callF 6 mask_14 m_14
theorem b_14 {X : Cx} {W : WX} {fd : Nat → FuncData} (C : Cf X W N14 (defScope (top 14)) FR) (R : Room 4 X.A) (T : Dn X.prog X.w X.K X.mg fd) : SSs X (g0 X.K) W (lix 0 mask_14) (defBody (top 14)) m_14 := by
  have h0 : varB N14 (defScope (top 14)) 0 "whole" = true := by decide +kernel
  have h1 : varB N14 (defScope (top 14)) 1 "value" = true := by decide +kernel
  have h2 : varB N14 (defScope (top 14)) 2 "book" = true := by decide +kernel
  have h3 : varB N14 (defScope (top 14)) 3 "number" = true := by decide +kernel
  have h4 : varB N14 (defScope (top 14)) 4 "room" = true := by decide +kernel
  have h5 : varB N14 (defScope (top 14)) 5 "still" = true := by decide +kernel
  have g_are_chances : glB (defScope (top 14)) "are_chances" = true := by decide +kernel
  have g_does_settle : glB (defScope (top 14)) "does_settle" = true := by decide +kernel
  have g_drawn_rooms : glB (defScope (top 14)) "drawn_rooms" = true := by decide +kernel
  have g_enumerate : glB (defScope (top 14)) "enumerate" = true := by decide +kernel
  have g_is_tuple : glB (defScope (top 14)) "is_tuple" = true := by decide +kernel
  have g_len : glB (defScope (top 14)) "len" = true := by decide +kernel
  have g_min : glB (defScope (top 14)) "min" = true := by decide +kernel
  unfold m_14
  exact (sss_cons (ss_setC C (by decide +kernel) (se_ix C.toCn (SOp.v C.toCn h0) (SOp.e (se_int (g := g0 X.K) (W := W))) (fun _ _ => rfl)) (by decide) rfl)
  (sss_cons (ss_if (st_not (st_tru (SOp.e (se_callD (dvs := []) C.tk (ok_6 T) (R.mono (by decide)) (gl_ok C.toCn g_is_tuple) T.m6 T.f6.kp (bd_6_2 T.f6) (fun _ _ => .nil) (sa_consT (se_v C.toCn h1) (sa_consT (se_len C.toCn fr_len g_len (SOp.v C.toCn h2) rfl) sa_nil rfl) rfl) (by decide) rfl rfl)) (fun _ => rfl))) (sss_cons (ss_ret (se_neg (SOp.e (se_int (g := g0 X.K) (W := W)))))
  sss_nil) sss_nil)
  (sss_cons (ss_for (Ls := []) (t := (.t [(.v 3), (.v 4)])) C.po C.calm (si_enum C.toCn fr_enumerate g_enumerate (se_v C.toCn h2) rfl rfl) (pg_tup C.toCn.calm (pgs_cons (pg_f C (by decide +kernel)) (pgs_cons (pg_f C (by decide +kernel)) pgs_nil))) (gok_t rfl rfl (gsok_cons (gok_v (by decide)) (gsok_cons (gok_v (by decide)) gsok_nil))) (sss_cons (ss_if (st_not (st_tru (SOp.e (se_call (dvs := []) (ds := []) C.tk (ok_13 T) (R.mono (by decide)) (gl_ok C.toCn g_are_chances) T.m13 T.f13.kp (bind_13 T.f13) .nil (fun _ _ => .nil) (sa_consT (se_ix C.toCn (SOp.v C.toCn h1) (SOp.v C.toCn h3) (fun _ _ => rfl)) (sa_consT (se_v C.toCn h4) sa_nil rfl) rfl) (by decide) rfl rfl)) (fun _ => rfl))) (sss_cons (ss_ret (se_mv C.toCn h3))
  sss_nil) sss_nil)
  sss_nil) (fun _ => rfl))
  (sss_cons (ss_setLcC C (by decide +kernel) rfl rfl (by decide +kernel) (by decide) (si_seq (se_call (dvs := []) (ds := []) C.tk (ok_11 T) (R.mono (by decide)) (gl_ok C.toCn g_drawn_rooms) T.m11 T.f11.kp (bind_11 T.f11) .nil (fun _ _ => .nil) (sa_consT (se_v C.toCn h2) (sa_consT (se_v C.toCn h1) (sa_consT (se_int (g := g0 X.K) (W := W)) sa_nil rfl) rfl) rfl) (by decide) rfl rfl)) (own' := [("room", 4)]) (t := (.v 4)) (by decide +kernel) (fun _ _ _ _ _ C1 => (pg_b C1 (by decide +kernel))) (fun L hL => (gok_vb (by decide) L hL)) (fun _ _ _ _ _ C1 => (pts_one (st_eq C1 (SOp.e (se_len C1 fr_len (by decide +kernel) (SOp.e (se_call (dvs := []) (ds := []) EV.takes0 (ok_10 T) (R.mono (by decide)) (gl_ok C1 (by decide +kernel)) T.m10 T.f10.kp (bind_10 T.f10) .nil (fun _ _ => .nil) (sa_consT (se_v C1 (by decide +kernel)) (sa_consT (se_v C1 (by decide +kernel)) sa_nil rfl) rfl) (by decide) rfl rfl)) rfl)) (SOp.e (se_int (g := g0 X.K) (W := W0)))))) (fun _ _ _ _ _ C1 => (se_v C1 (by decide +kernel))) (fun _ => rfl))
  (sss_cons (ss_if (st_gt (SOp.e (se_len C.toCn fr_len g_len (SOp.v C.toCn h5) rfl)) (SOp.e (se_int (g := g0 X.K) (W := W)))) (sss_cons (ss_ret (se_min1A C.toCn fr_min g_min (SOp.v C.toCn h5) rfl))
  sss_nil) sss_nil)
  (sss_cons (ss_ret (se_if (st_tru (SOp.e (se_call (dvs := []) (ds := []) C.tk (ok_12 T) (R.mono (by decide)) (gl_ok C.toCn g_does_settle) T.m12 T.f12.kp (bind_12 T.f12) .nil (fun _ _ => .nil) (sa_consT (se_v C.toCn h2) (sa_consT (se_v C.toCn h1) sa_nil rfl) rfl) (by decide) rfl rfl)) (fun _ => rfl)) (se_non (g := g0 X.K) (W := W)) (se_len C.toCn fr_len g_len (SOp.v C.toCn h2) rfl)))
  sss_nil))))))
theorem ok_14 {P : Program} {w : World} {K : PySem.W.Frag} {mg : Str → Option Value} {base : Heap} {fd : Nat → FuncData} (T : Dn P w K mg fd) : FnOk P w K mg base (L2.CX P w) 5 (He.fAd K d14.at_) (fd 14) ["whole", "value"] (Prom ⟨g0 K, K⟩ mask_14 c_14) :=
  fn_okC T.f14 S14 rfl (by decide) T.fr fun X W e1 e2 e3 e4 e5 R C => by
    subst e1 e2 e3 e4 e5
    exact b_14 C R T
/-! ### check_source -/
abbrev N15 : List Str := ["whole", "value", "fault"]
abbrev mask_15 : List Bool := [false, false]
theorem S15 : FnScope N15 ["whole", "value"] (defScope (top 15)) := ⟨rfl, rfl, rfl, by decide +kernel, rfl, by decide +kernel, by decide +kernel⟩
theorem bind_15 {K : PySem.W.Frag} {f : Addr} {fd : FuncData} (F : FunD K d15.name d15.qual d15.params d15.body d15.scope (d15.dvs K) (d15.kws K) f fd) : Binds K fd ["whole", "value"] [] := FunD.bindsN F fun _ _ _ _ _ _ us hl => match us, hl with | [_, _], _ => rfl
def m_15 : MS := (mSeq (mAsg (.v 2) (mCall c_14 mask_14 [] [.t (mV 0), .t (mV 1)]))
  (mSeq (mIfS (mOp1 (fun d => some (.bl (!isN d))) (.v 2)) (mSeq (mRaise 1 (mV 2))
  RS.nx) RS.nx)
  (mSeq (mRet (mMv 1))
  RS.nx)))
def c_15 : List D → RC := callF 3 mask_15 m_15
theorem b_15 {X : Cx} {W : WX} {fd : Nat → FuncData} (C : Cf X W N15 (defScope (top 15)) FR) (R : Room 5 X.A) (T : Dn X.prog X.w X.K X.mg fd) : SSs X (g0 X.K) W (lix 0 mask_15) (defBody (top 15)) m_15 := by
  have h0 : varB N15 (defScope (top 15)) 0 "whole" = true := by decide +kernel
  have h1 : varB N15 (defScope (top 15)) 1 "value" = true := by decide +kernel
  have h2 : varB N15 (defScope (top 15)) 2 "fault" = true := by decide +kernel
  have g_BadSource : glB (defScope (top 15)) "BadSource" = true := by decide +kernel
  have g_source_fault : glB (defScope (top 15)) "source_fault" = true := by decide +kernel
  unfold m_15
  exact (sss_cons (ss_setC C (by decide +kernel) (se_call (dvs := []) (ds := []) C.tk (ok_14 T) (R.mono (by decide)) (gl_ok C.toCn g_source_fault) T.m14 T.f14.kp (bind_14 T.f14) .nil (fun _ _ => .nil) (sa_consT (se_v C.toCn h0) (sa_consT (se_v C.toCn h1) sa_nil rfl) rfl) (by decide) rfl rfl) (by decide) rfl)
  (sss_cons (ss_if (st_notN (SOp.v C.toCn h2)) (sss_cons (ss_raise C T.x1 (T.fr _ fr_super) (k := 0) (R.mono (by decide)) g_BadSource (se_v C.toCn h2) (by decide) rfl)
  sss_nil) sss_nil)
  (sss_cons (ss_ret (se_mv C.toCn h1))
  sss_nil)))
theorem ok_15 {P : Program} {w : World} {K : PySem.W.Frag} {mg : Str → Option Value} {base : Heap} {fd : Nat → FuncData} (T : Dn P w K mg fd) : FnOk P w K mg base (L2.CX P w) 6 (He.fAd K d15.at_) (fd 15) ["whole", "value"] (Prom ⟨g0 K, K⟩ mask_15 c_15) :=
  fn_okC T.f15 S15 rfl (by decide) T.fr fun X W e1 e2 e3 e4 e5 R C => by
    subst e1 e2 e3 e4 e5
    exact b_15 C R T
/-! ### _law_take -/
abbrev N17 : List Str := ["box", "many", "digit", "raw"]
abbrev mask_17 : List Bool := [true, false]
theorem S17 : FnScope N17 ["box", "many"] (defScope (top 17)) := ⟨rfl, rfl, rfl, by decide +kernel, rfl, by decide +kernel, by decide +kernel⟩
theorem bind_17 {K : PySem.W.Frag} {f : Addr} {fd : FuncData} (F : FunD K d17.name d17.qual d17.params d17.body d17.scope (d17.dvs K) (d17.kws K) f fd) : Binds K fd ["box", "many"] [] := FunD.bindsN F fun _ _ _ _ _ _ us hl => match us, hl with | [_, _], _ => rfl
def m_17 : MS := (mSeq (mIfS (mOp2 (cmpD fun i j => decide (j < i)) (.e (mOp2 ixD (.v 0) (.e (mC (.int 0))))) (.e (mC (.int 0)))) (mSeq (mAsg (.v 2) (mOp2 modD (.e (mOp1 intD (.e (mOp2 ixD (.v 0) (.e (mC (.int 0))))))) (.v 1)))
  (mSeq (mSet 0 (.e (mC (.int 0))) (mOp2 fdivD (.e (mOp2 ixD (.v 0) (.e (mC (.int 0))))) (.v 1)))
  (mSeq (mRet (mMv 2))
  RS.nx))) RS.nx)
  (mSeq (mAsg (.v 3) (mOp2 modD (.e (mOp1 intD (.e (mOp2 addD (.e (mOp2 mulD (.e (mOp2 ixD (.v 0) (.e (mC (.int 1))))) (.e (mC (.int 39373))))) (.e (mC (.int 211))))))) (.e (mC (.int 2147483647)))))
  (mSeq (mSet 0 (.e (mC (.int 1))) (mOp2 addD (.e (mOp2 modD (.e (mOp1 intD (.e (mOp2 addD (.e (mOp2 mulD (.v 3) (.e (mC (.int 40692))))) (.e (mC (.int 97))))))) (.e (mC (.int 2147483563))))) (.e (mC (.int 1)))))
  (mSeq (mRet (mOp2 modD (.e (mOp1 intD (.e (mOp2 fdivD (.e (mOp2 addD (.e (mOp2 mulD (.v 3) (.e (mC (.int 2147483629))))) (.e (mOp2 ixD (.v 0) (.e (mC (.int 1))))))) (.e (mC (.int 8233))))))) (.v 1)))
  RS.nx))))
def c_17 : List D → RC := callF 4 mask_17 m_17
theorem b_17 {X : Cx} {W : WX} {fd : Nat → FuncData} (C : Cf X W N17 (defScope (top 17)) FR) (R : Room 0 X.A) (T : Dn X.prog X.w X.K X.mg fd) : SSs X (g0 X.K) W (lix 0 mask_17) (defBody (top 17)) m_17 := by
  have h0 : varB N17 (defScope (top 17)) 0 "box" = true := by decide +kernel
  have h1 : varB N17 (defScope (top 17)) 1 "many" = true := by decide +kernel
  have h2 : varB N17 (defScope (top 17)) 2 "digit" = true := by decide +kernel
  have h3 : varB N17 (defScope (top 17)) 3 "raw" = true := by decide +kernel
  have g_int : glB (defScope (top 17)) "int" = true := by decide +kernel
  unfold m_17
  exact (sss_cons (ss_if (st_gt (SOp.e (se_ix C.toCn (SOp.v C.toCn h0) (SOp.e (se_int (g := g0 X.K) (W := W))) (fun _ _ => rfl))) (SOp.e (se_int (g := g0 X.K) (W := W)))) (sss_cons (ss_setC C (by decide +kernel) (se_mod (SOp.e (se_int1 C.toCn fr_int g_int (SOp.e (se_ix C.toCn (SOp.v C.toCn h0) (SOp.e (se_int (g := g0 X.K) (W := W))) (fun _ _ => rfl))) rfl)) (SOp.v C.toCn h1)) (by decide) rfl)
  (sss_cons (ss_sub C.toCn h0 (SOp.e (se_int (g := g0 X.K) (W := W))) (se_fdiv (SOp.e (se_ix C.toCn (SOp.v C.toCn h0) (SOp.e (se_int (g := g0 X.K) (W := W))) (fun _ _ => rfl))) (SOp.v C.toCn h1)) rfl rfl rfl (fun _ => rfl))
  (sss_cons (ss_ret (se_mv C.toCn h2))
  sss_nil))) sss_nil)
  (sss_cons (ss_setC C (by decide +kernel) (se_mod (SOp.e (se_int1 C.toCn fr_int g_int (SOp.e (se_add (SOp.e (se_mul (SOp.e (se_ix C.toCn (SOp.v C.toCn h0) (SOp.e (se_int (g := g0 X.K) (W := W))) (fun _ _ => rfl))) (SOp.e (se_int (g := g0 X.K) (W := W))))) (SOp.e (se_int (g := g0 X.K) (W := W))))) rfl)) (SOp.e (se_int (g := g0 X.K) (W := W)))) (by decide) rfl)
  (sss_cons (ss_sub C.toCn h0 (SOp.e (se_int (g := g0 X.K) (W := W))) (se_add (SOp.e (se_mod (SOp.e (se_int1 C.toCn fr_int g_int (SOp.e (se_add (SOp.e (se_mul (SOp.v C.toCn h3) (SOp.e (se_int (g := g0 X.K) (W := W))))) (SOp.e (se_int (g := g0 X.K) (W := W))))) rfl)) (SOp.e (se_int (g := g0 X.K) (W := W))))) (SOp.e (se_int (g := g0 X.K) (W := W)))) rfl rfl rfl (fun _ => rfl))
  (sss_cons (ss_ret (se_mod (SOp.e (se_int1 C.toCn fr_int g_int (SOp.e (se_fdiv (SOp.e (se_add (SOp.e (se_mul (SOp.v C.toCn h3) (SOp.e (se_int (g := g0 X.K) (W := W))))) (SOp.e (se_ix C.toCn (SOp.v C.toCn h0) (SOp.e (se_int (g := g0 X.K) (W := W))) (fun _ _ => rfl))))) (SOp.e (se_int (g := g0 X.K) (W := W))))) rfl)) (SOp.v C.toCn h1)))
  sss_nil))))
theorem ok_17 {P : Program} {w : World} {K : PySem.W.Frag} {mg : Str → Option Value} {base : Heap} {fd : Nat → FuncData} (T : Dn P w K mg fd) : FnOk P w K mg base (L2.CX P w) 1 (He.fAd K d17.at_) (fd 17) ["box", "many"] (Prom ⟨g0 K, K⟩ mask_17 c_17) :=
  fn_okC T.f17 S17 rfl (by decide) T.fr fun X W e1 e2 e3 e4 e5 R C => by
    subst e1 e2 e3 e4 e5
    exact b_17 C R T
/-! ### _law_pick -/
abbrev N18 : List Str := ["box", "some"]
abbrev mask_18 : List Bool := [true, false]
theorem S18 : FnScope N18 ["box", "some"] (defScope (top 18)) := ⟨rfl, rfl, rfl, by decide +kernel, rfl, by decide +kernel, by decide +kernel⟩
theorem bind_18 {K : PySem.W.Frag} {f : Addr} {fd : FuncData} (F : FunD K d18.name d18.qual d18.params d18.body d18.scope (d18.dvs K) (d18.kws K) f fd) : Binds K fd ["box", "some"] [] := FunD.bindsN F fun _ _ _ _ _ _ us hl => match us, hl with | [_, _], _ => rfl
def m_18 : MS := (mSeq (mRet (mOp2 ixD (.v 1) (.e (mCall c_17 mask_17 [] [.l 0, .t (mOp1 lenD (.v 1))]))))
  RS.nx)
def c_18 : List D → RC := callF 2 mask_18 m_18
theorem b_18 {X : Cx} {W : WX} {fd : Nat → FuncData} (C : Cf X W N18 (defScope (top 18)) FR) (R : Room 1 X.A) (T : Dn X.prog X.w X.K X.mg fd) : SSs X (g0 X.K) W (lix 0 mask_18) (defBody (top 18)) m_18 := by
  have h0 : varB N18 (defScope (top 18)) 0 "box" = true := by decide +kernel
  have h1 : varB N18 (defScope (top 18)) 1 "some" = true := by decide +kernel
  have g__law_take : glB (defScope (top 18)) "_law_take" = true := by decide +kernel
  have g_len : glB (defScope (top 18)) "len" = true := by decide +kernel
  unfold m_18
  exact (sss_cons (ss_ret (se_ix C.toCn (SOp.v C.toCn h1) (SOp.e (se_call (dvs := []) (ds := []) C.tk (ok_17 T) (R.mono (by decide)) (gl_ok C.toCn g__law_take) T.m17 T.f17.kp (bind_17 T.f17) .nil (fun _ _ => .nil) (sa_consL (pv_ok C.toCn h0) (sa_consT (se_len C.toCn fr_len g_len (SOp.v C.toCn h1) rfl) sa_nil rfl) rfl) (by decide) rfl rfl)) (fun _ _ => rfl)))
  sss_nil)
theorem ok_18 {P : Program} {w : World} {K : PySem.W.Frag} {mg : Str → Option Value} {base : Heap} {fd : Nat → FuncData} (T : Dn P w K mg fd) : FnOk P w K mg base (L2.CX P w) 2 (He.fAd K d18.at_) (fd 18) ["box", "some"] (Prom ⟨g0 K, K⟩ mask_18 c_18) :=
  fn_okC T.f18 S18 rfl (by decide) T.fr fun X W e1 e2 e3 e4 e5 R C => by
    subst e1 e2 e3 e4 e5
    exact b_18 C R T
/-! ### _law_same -/
abbrev N19 : List Str := ["told", "due", "one", "other"]
abbrev mask_19 : List Bool := [false, false]
theorem S19 : FnScope N19 ["told", "due"] (defScope (top 19)) := ⟨rfl, rfl, rfl, by decide +kernel, rfl, by decide +kernel, by decide +kernel⟩
theorem bind_19 {K : PySem.W.Frag} {f : Addr} {fd : FuncData} (F : FunD K d19.name d19.qual d19.params d19.body d19.scope (d19.dvs K) (d19.kws K) f fd) : Binds K fd ["told", "due"] [] := FunD.bindsN F fun _ _ _ _ _ _ us hl => match us, hl with | [_, _], _ => rfl
def s_19_1 (self : List D → RC) : MS := (mSeq (mIfS (mTNot (mTru (.e (mCall self mask_19 [] [.t (mV 2), .t (mV 3)])))) (mSeq (mRet (mC (.bl false)))
  RS.nx) RS.nx)
  RS.nx)
def m_19 (self : List D → RC) : MS := (mSeq (mIfS (mTru (.e (mOp1 (fun d => (isiD .tuple d).map .bl) (.v 1)))) (mSeq (mIfS (mTOr (mTNot (mTru (.e (mOp1 (fun d => (isiD .tuple d).map .bl) (.v 0))))) (mOp2 neD (.e (mOp1 lenD (.v 0))) (.e (mOp1 lenD (.v 1))))) (mSeq (mRet (mC (.bl false)))
  RS.nx) RS.nx)
  (mSeq (mFor [] (.t [(.v 2), (.v 3)]) (mZip2 (mV 0) (mV 1)) (s_19_1 self))
  (mSeq (mRet (mC (.bl true)))
  RS.nx))) RS.nx)
  (mSeq (mIfS (mOp1 (fun d => some (.bl (isN d))) (.v 1)) (mSeq (mRet (mOp1 (fun d => some (.bl (isN d))) (.v 0)))
  RS.nx) RS.nx)
  (mSeq (mIfS (mTOr (mOp1 (fun d => some (.bl (isB true d))) (.v 1)) (mOp1 (fun d => some (.bl (isB false d))) (.v 1))) (mSeq (mRet (mAnd (.e (mOp1 (fun d => (isiD .bool d).map .bl) (.v 0))) (mOp2 eqD (.v 0) (.v 1))))
  RS.nx) RS.nx)
  (mSeq (mRet (mAnd (.e (mOp1 (fun d => (isiD .int d).map .bl) (.v 0))) (mAnd (.e (mNot (.e (mOp1 (fun d => (isiD .bool d).map .bl) (.v 0))))) (mOp2 eqD (.v 0) (.v 1)))))
  RS.nx))))
def c_19 : Nat → List D → RC
  | 0 => fun _ => .no
  | n + 1 => callF 4 mask_19 (m_19 (c_19 n))
theorem b_19 {X : Cx} {W : WX} {fd : Nat → FuncData} {n : Nat} {self : List D → RC} (C : Cf X W N19 (defScope (top 19)) FR) (R : Room (0 + n) X.A) (T : Dn X.prog X.w X.K X.mg fd) (S : FnOk X.prog X.w X.K X.mg X.base (L2.CX X.prog X.w) (0 + n) (He.fAd X.K d19.at_) (fd 19) ["told", "due"] (Prom (gOf X (g0 X.K)) mask_19 self)) : SSs X (g0 X.K) W (lix 0 mask_19) (defBody (top 19)) (m_19 self) := by
  have h0 : varB N19 (defScope (top 19)) 0 "told" = true := by decide +kernel
  have h1 : varB N19 (defScope (top 19)) 1 "due" = true := by decide +kernel
  have h2 : varB N19 (defScope (top 19)) 2 "one" = true := by decide +kernel
  have h3 : varB N19 (defScope (top 19)) 3 "other" = true := by decide +kernel
  have g__law_same : glB (defScope (top 19)) "_law_same" = true := by decide +kernel
  have g_bool : glB (defScope (top 19)) "bool" = true := by decide +kernel
  have g_int : glB (defScope (top 19)) "int" = true := by decide +kernel
  have g_isinstance : glB (defScope (top 19)) "isinstance" = true := by decide +kernel
  have g_len : glB (defScope (top 19)) "len" = true := by decide +kernel
  have g_tuple : glB (defScope (top 19)) "tuple" = true := by decide +kernel
  have g_zip : glB (defScope (top 19)) "zip" = true := by decide +kernel
  unfold m_19
  exact (sss_cons (ss_if (st_tru (SOp.e (se_isi (T := .tuple) C.toCn fr_isinstance g_isinstance fr_tuple g_tuple (SOp.v C.toCn h1) rfl)) (fun _ => rfl)) (sss_cons (ss_if (st_bool (sw_or (st_not (st_tru (SOp.e (se_isi (T := .tuple) C.toCn fr_isinstance g_isinstance fr_tuple g_tuple (SOp.v C.toCn h0) rfl)) (fun _ => rfl))) (sw_or1 (st_ne C.toCn (SOp.e (se_len C.toCn fr_len g_len (SOp.v C.toCn h0) rfl)) (SOp.e (se_len C.toCn fr_len g_len (SOp.v C.toCn h1) rfl)))))) (sss_cons (ss_ret (se_bl (g := g0 X.K) (W := W)))
  sss_nil) sss_nil)
  (sss_cons (ss_for (Ls := []) (t := (.t [(.v 2), (.v 3)])) C.po C.calm (si_zip2 C.toCn fr_zip g_zip (se_v C.toCn h0) (se_v C.toCn h1) rfl rfl rfl) (pg_tup C.toCn.calm (pgs_cons (pg_f C (by decide +kernel)) (pgs_cons (pg_f C (by decide +kernel)) pgs_nil))) (gok_t rfl rfl (gsok_cons (gok_v (by decide)) (gsok_cons (gok_v (by decide)) gsok_nil))) (sss_cons (ss_if (st_not (st_tru (SOp.e (se_call (dvs := []) (ds := []) C.tk S R (gl_ok C.toCn g__law_same) T.m19 T.f19.kp (bind_19 T.f19) .nil (fun _ _ => .nil) (sa_consT (se_v C.toCn h2) (sa_consT (se_v C.toCn h3) sa_nil rfl) rfl) (by decide) rfl rfl)) (fun _ => rfl))) (sss_cons (ss_ret (se_bl (g := g0 X.K) (W := W)))
  sss_nil) sss_nil)
  sss_nil) (fun _ => rfl))
  (sss_cons (ss_ret (se_bl (g := g0 X.K) (W := W)))
  sss_nil))) sss_nil)
  (sss_cons (ss_if (st_isN (SOp.v C.toCn h1)) (sss_cons (ss_ret (se_isN (SOp.v C.toCn h0)))
  sss_nil) sss_nil)
  (sss_cons (ss_if (st_bool (sw_or (st_isB (SOp.v C.toCn h1)) (sw_or1 (st_isB (SOp.v C.toCn h1))))) (sss_cons (ss_ret (se_and (SOp.e (se_isi (T := .bool) C.toCn fr_isinstance g_isinstance fr_bool g_bool (SOp.v C.toCn h0) rfl)) (se_and1 (se_eq C.toCn (SOp.v C.toCn h0) (SOp.v C.toCn h1)))))
  sss_nil) sss_nil)
  (sss_cons (ss_ret (se_and (SOp.e (se_isi (T := .int) C.toCn fr_isinstance g_isinstance fr_int g_int (SOp.v C.toCn h0) rfl)) (se_and (SOp.e (se_not (SOp.e (se_isi (T := .bool) C.toCn fr_isinstance g_isinstance fr_bool g_bool (SOp.v C.toCn h0) rfl)))) (se_and1 (se_eq C.toCn (SOp.v C.toCn h0) (SOp.v C.toCn h1))))))
  sss_nil))))
theorem ok_19 {P : Program} {w : World} {K : PySem.W.Frag} {mg : Str → Option Value} {base : Heap} {fd : Nat → FuncData} (T : Dn P w K mg fd) : ∀ n, FnOk P w K mg base (L2.CX P w) (0 + n) (He.fAd K d19.at_) (fd 19) ["told", "due"] (Prom ⟨g0 K, K⟩ mask_19 (c_19 n))
  | 0 => fn_no rfl
  | n + 1 => fn_okC T.f19 S19 rfl (by decide) T.fr fun X W e1 e2 e3 e4 e5 R C => by
    subst e1 e2 e3 e4 e5
    exact b_19 C R T (ok_19 T n)
/-! ### _law_closed -/
abbrev N20 : List Str := ["prices", "many", "found", "stop", "one", "two", "row"]
abbrev mask_20 : List Bool := [true]
theorem S20 : FnScope N20 ["prices"] (defScope (top 20)) := ⟨rfl, rfl, rfl, by decide +kernel, rfl, by decide +kernel, by decide +kernel⟩
theorem bind_20 {K : PySem.W.Frag} {f : Addr} {fd : FuncData} (F : FunD K d20.name d20.qual d20.params d20.body d20.scope (d20.dvs K) (d20.kws K) f fd) : Binds K fd ["prices"] [] := FunD.bindsN F fun _ _ _ _ _ _ us hl => match us, hl with | [_], _ => rfl
def q_20_1 : ME := (mOp1 tupleD (.v 6))
def s_20_2 : MS := (mSeq (mSet2 2 (.s 4) (.s 5) (mOp2 min2D (.e (mIx2 2 (.s 4) (.s 5))) (.e (mOp2 addD (.e (mIx2 2 (.s 4) (.s 3))) (.e (mIx2 2 (.s 3) (.s 5)))))))
  RS.nx)
def s_20_3 : MS := (mSeq (mFor [] (.v 5) (mRg1 (mV 1)) s_20_2)
  RS.nx)
def s_20_4 : MS := (mSeq (mFor [] (.v 4) (mRg1 (mV 1)) s_20_3)
  RS.nx)
def q_20_5 : ME := (mOp1 listD (.v 6))
def m_20 : MS := (mSeq (mPar [1, 2] [.t (mOp1 lenD (.v 0)), .t (mLc [6] (.v 6) (mIt (mV 0)) mTrue q_20_5)])
  (mSeq (mFor [] (.v 3) (mRg1 (mV 1)) s_20_4)
  (mSeq (mRet (mOp1 tupleD (.e (mLc [6] (.v 6) (mIt (mV 2)) mTrue q_20_1))))
  RS.nx)))
def c_20 : List D → RC := callF 7 mask_20 m_20
theorem b_20 {X : Cx} {W : WX} {fd : Nat → FuncData} (C : Cf X W N20 (defScope (top 20)) FR) (R : Room 0 X.A) (T : Dn X.prog X.w X.K X.mg fd) : SSs X (g0 X.K) W (lix 0 mask_20) (defBody (top 20)) m_20 := by
  have h0 : varB N20 (defScope (top 20)) 0 "prices" = true := by decide +kernel
  have h1 : varB N20 (defScope (top 20)) 1 "many" = true := by decide +kernel
  have h2 : varB N20 (defScope (top 20)) 2 "found" = true := by decide +kernel
  have h3 : varB N20 (defScope (top 20)) 3 "stop" = true := by decide +kernel
  have h4 : varB N20 (defScope (top 20)) 4 "one" = true := by decide +kernel
  have h5 : varB N20 (defScope (top 20)) 5 "two" = true := by decide +kernel
  have g_len : glB (defScope (top 20)) "len" = true := by decide +kernel
  have g_min : glB (defScope (top 20)) "min" = true := by decide +kernel
  have g_range : glB (defScope (top 20)) "range" = true := by decide +kernel
  have g_tuple : glB (defScope (top 20)) "tuple" = true := by decide +kernel
  unfold m_20
  exact (sss_cons (ss_parC C (by decide +kernel) (by decide +kernel) (by decide) (sa_consT (se_len C.toCn fr_len g_len (SOp.v C.toCn h0) rfl) (sa_consT (se_lcC (own' := [("row", 6)]) (t := (.v 6)) C.toCn (si_seq (se_v C.toCn h0)) (by decide +kernel) (fun _ _ _ _ _ C1 => (pg_b C1 (by decide +kernel))) (fun L hL => (gok_vb (by decide) L hL)) (fun _ _ _ _ _ C1 => (pts_true pts_nil)) (fun _ _ _ _ _ C1 => (se_list C1 fr_list (by decide +kernel) (SOp.v C1 (by decide +kernel)) rfl)) (fun _ => rfl)) sa_nil rfl) rfl) (by kernel_rfl) (by decide))
  (sss_cons (ss_for (Ls := []) (t := (.v 3)) C.po C.calm (si_rg1 C.toCn fr_range g_range (se_v C.toCn h1) rfl) (pg_f C (by decide +kernel)) (gok_v (by decide)) (sss_cons (ss_for (Ls := []) (t := (.v 4)) C.po C.calm (si_rg1 C.toCn fr_range g_range (se_v C.toCn h1) rfl) (pg_f C (by decide +kernel)) (gok_v (by decide)) (sss_cons (ss_for (Ls := []) (t := (.v 5)) C.po C.calm (si_rg1 C.toCn fr_range g_range (se_v C.toCn h1) rfl) (pg_f C (by decide +kernel)) (gok_v (by decide)) (sss_cons (ss_sub2 C.toCn h2 (sx_s C.toCn h4) (sx_s C.toCn h5) (fun _ _ => rfl) (se_min2 C.toCn fr_min g_min (SOp.e (se_ix2 C.toCn h2 (sx_s C.toCn h4) (sx_s C.toCn h5) (fun _ _ => rfl) (fun _ _ => rfl))) (SOp.e (se_add (SOp.e (se_ix2 C.toCn h2 (sx_s C.toCn h4) (sx_s C.toCn h3) (fun _ _ => rfl) (fun _ _ => rfl))) (SOp.e (se_ix2 C.toCn h2 (sx_s C.toCn h3) (sx_s C.toCn h5) (fun _ _ => rfl) (fun _ _ => rfl))))) rfl rfl rfl) rfl rfl rfl (fun _ => rfl))
  sss_nil) (fun _ => rfl))
  sss_nil) (fun _ => rfl))
  sss_nil) (fun _ => rfl))
  (sss_cons (ss_ret (se_tuple C.toCn fr_tuple g_tuple (SOp.e (se_lcC (own' := [("row", 6)]) (t := (.v 6)) C.toCn (si_seq (se_v C.toCn h2)) (by decide +kernel) (fun _ _ _ _ _ C1 => (pg_b C1 (by decide +kernel))) (fun L hL => (gok_vb (by decide) L hL)) (fun _ _ _ _ _ C1 => (pts_true pts_nil)) (fun _ _ _ _ _ C1 => (se_tuple C1 fr_tuple (by decide +kernel) (SOp.v C1 (by decide +kernel)) rfl)) (fun _ => rfl))) rfl))
  sss_nil)))
theorem ok_20 {P : Program} {w : World} {K : PySem.W.Frag} {mg : Str → Option Value} {base : Heap} {fd : Nat → FuncData} (T : Dn P w K mg fd) : FnOk P w K mg base (L2.CX P w) 1 (He.fAd K d20.at_) (fd 20) ["prices"] (Prom ⟨g0 K, K⟩ mask_20 c_20) :=
  fn_okC T.f20 S20 rfl (by decide) T.fr fun X W e1 e2 e3 e4 e5 R C => by
    subst e1 e2 e3 e4 e5
    exact b_20 C R T
/-! ### _law_service -/
abbrev N21 : List Str := ["box", "standings", "tasks", "dear", "bars", "rows", "one", "costs", "task", "row", "two"]
abbrev mask_21 : List Bool := [true, false, false, false, false]
theorem S21 : FnScope N21 ["box", "standings", "tasks", "dear", "bars"] (defScope (top 21)) := ⟨rfl, rfl, rfl, by decide +kernel, rfl, by decide +kernel, by decide +kernel⟩
theorem bind_21 {K : PySem.W.Frag} {f : Addr} {fd : FuncData} (F : FunD K d21.name d21.qual d21.params d21.body d21.scope (d21.dvs K) (d21.kws K) f fd) : Binds K fd ["box", "standings", "tasks", "dear", "bars"] [] := FunD.bindsN F fun _ _ _ _ _ _ us hl => match us, hl with | [_, _, _, _, _], _ => rfl
def q_21_1 : ME := (mV 6)
def t_21_2 : ME := (mOp1 (fun d => some (.bl (!isN d))) (.v 6))
def q_21_3 : ME := (mFz (mIf (mOp2 eqD (.e (mCall c_17 mask_17 [] [.l 0, .t (mV 4)])) (.e (mC (.int 0)))) (mC .non) (mCall c_18 mask_18 [] [.l 0, .t (mLst [.t (mC (.int 0)), .t (mC (.int 1)), .t (mFz (mCall c_17 mask_17 [] [.l 0, .t (mOp2 addD (.v 3) (.e (mC (.int 1))))]))])])))
def s_21_4 : MS := (mSeq (mAsg (.v 9) (mLc [6] (.v 6) (mItV 5) mTrue q_21_3))
  (mSeq (mIfS (mOp2 eqD (.e (mLc [6] (.v 6) (mItV 9) t_21_2 q_21_1)) (.e (mLst []))) (mSeq (mSet 9 (.e (mCall c_17 mask_17 [] [.l 0, .t (mV 1)])) (mFz (mCall c_17 mask_17 [] [.l 0, .t (mC (.int 2))])))
  RS.nx) RS.nx)
  (mSeq (mExpr (mApp 7 (mOp1 tupleD (.v 9))))
  RS.nx)))
def q_21_5 : ME := (mFz (mIf (mOp2 eqD (.v 6) (.v 10)) (mC (.int 0)) (mCall c_17 mask_17 [] [.l 0, .t (mOp2 addD (.v 3) (.e (mC (.int 1))))])))
def s_21_6 : MS := (mSeq (mExpr (mApp 5 (mOp1 tupleD (.e (mLc [10] (.v 10) (mRg1 (mV 1)) mTrue q_21_5)))))
  RS.nx)
def m_21 : MS := (mSeq (mAsg (.v 5) (mLst []))
  (mSeq (mFor [] (.v 6) (mRg1 (mV 1)) s_21_6)
  (mSeq (mAsg (.v 7) (mLst []))
  (mSeq (mFor [] (.v 8) (mRg1 (mV 2)) s_21_4)
  (mSeq (mRet (mTup [.t (mCall c_20 mask_20 [] [.l 5]), .t (mOp1 tupleD (.v 7))]))
  RS.nx)))))
def c_21 : List D → RC := callF 11 mask_21 m_21
theorem b_21 {X : Cx} {W : WX} {fd : Nat → FuncData} (C : Cf X W N21 (defScope (top 21)) FR) (R : Room 2 X.A) (T : Dn X.prog X.w X.K X.mg fd) : SSs X (g0 X.K) W (lix 0 mask_21) (defBody (top 21)) m_21 := by
  have h0 : varB N21 (defScope (top 21)) 0 "box" = true := by decide +kernel
  have h1 : varB N21 (defScope (top 21)) 1 "standings" = true := by decide +kernel
  have h2 : varB N21 (defScope (top 21)) 2 "tasks" = true := by decide +kernel
  have h5 : varB N21 (defScope (top 21)) 5 "rows" = true := by decide +kernel
  have h7 : varB N21 (defScope (top 21)) 7 "costs" = true := by decide +kernel
  have h9 : varB N21 (defScope (top 21)) 9 "row" = true := by decide +kernel
  have g__law_closed : glB (defScope (top 21)) "_law_closed" = true := by decide +kernel
  have g__law_take : glB (defScope (top 21)) "_law_take" = true := by decide +kernel
  have g_range : glB (defScope (top 21)) "range" = true := by decide +kernel
  have g_tuple : glB (defScope (top 21)) "tuple" = true := by decide +kernel
  unfold m_21
  exact (sss_cons (ss_setC C (by decide +kernel) (se_lst (g := g0 X.K) (W := W) sa_nil) (by decide) rfl)
  (sss_cons (ss_for (Ls := []) (t := (.v 6)) C.po C.calm (si_rg1 C.toCn fr_range g_range (se_v C.toCn h1) rfl) (pg_f C (by decide +kernel)) (gok_v (by decide)) (sss_cons (ss_expr (se_app C.toCn h5 (se_tuple C.toCn fr_tuple g_tuple (SOp.e (se_lcC (own' := [("two", 10)]) (t := (.v 10)) C.toCn (si_rg1 C.toCn fr_range g_range (se_v C.toCn h1) rfl) (by decide +kernel) (fun _ _ _ _ _ C1 => (pg_b C1 (by decide +kernel))) (fun L hL => (gok_vb (by decide) L hL)) (fun _ _ _ _ _ C1 => (pts_true pts_nil)) (fun _ _ _ _ _ C1 => (se_fz (se_if (st_eq C1 (SOp.v C1 (by decide +kernel)) (SOp.v C1 (by decide +kernel))) (se_int (g := g0 X.K) (W := W0)) (se_call (dvs := []) (ds := []) EV.takes0 (ok_17 T) (R.mono (by decide)) (gl_ok C1 (by decide +kernel)) T.m17 T.f17.kp (bind_17 T.f17) .nil (fun _ _ => .nil) (sa_consL (pv_ok C1 (by decide +kernel)) (sa_consT (se_add (SOp.v C1 (by decide +kernel)) (SOp.e (se_int (g := g0 X.K) (W := W0)))) sa_nil rfl) rfl) (by decide) rfl rfl)))) (fun _ => rfl))) rfl) rfl rfl) rfl)
  sss_nil) (fun _ => rfl))
  (sss_cons (ss_setC C (by decide +kernel) (se_lst (g := g0 X.K) (W := W) sa_nil) (by decide) rfl)
  (sss_cons (ss_for (Ls := []) (t := (.v 8)) C.po C.calm (si_rg1 C.toCn fr_range g_range (se_v C.toCn h2) rfl) (pg_f C (by decide +kernel)) (gok_v (by decide)) (sss_cons (ss_setLcC C (by decide +kernel) rfl rfl (by decide +kernel) (by decide) (si_v C.toCn h5) (own' := [("one", 6)]) (t := (.v 6)) (by decide +kernel) (fun _ _ _ _ _ C1 => (pg_b C1 (by decide +kernel))) (fun L hL => (gok_vb (by decide) L hL)) (fun _ _ _ _ _ C1 => (pts_true pts_nil)) (fun _ _ _ _ _ C1 => (se_fz (se_if (st_eq C1 (SOp.e (se_call (dvs := []) (ds := []) EV.takes0 (ok_17 T) (R.mono (by decide)) (gl_ok C1 (by decide +kernel)) T.m17 T.f17.kp (bind_17 T.f17) .nil (fun _ _ => .nil) (sa_consL (pv_ok C1 (by decide +kernel)) (sa_consT (se_v C1 (by decide +kernel)) sa_nil rfl) rfl) (by decide) rfl rfl)) (SOp.e (se_int (g := g0 X.K) (W := W0)))) (se_non (g := g0 X.K) (W := W0)) (se_call (dvs := []) (ds := []) EV.takes0 (ok_18 T) (R.mono (by decide)) (gl_ok C1 (by decide +kernel)) T.m18 T.f18.kp (bind_18 T.f18) .nil (fun _ _ => .nil) (sa_consL (pv_ok C1 (by decide +kernel)) (sa_consT (se_lst (g := g0 X.K) (W := W0) (sa_consT (se_int (g := g0 X.K) (W := W0)) (sa_consT (se_int (g := g0 X.K) (W := W0)) (sa_consT (se_fz (se_call (dvs := []) (ds := []) EV.takes0 (ok_17 T) (R.mono (by decide)) (gl_ok C1 (by decide +kernel)) T.m17 T.f17.kp (bind_17 T.f17) .nil (fun _ _ => .nil) (sa_consL (pv_ok C1 (by decide +kernel)) (sa_consT (se_add (SOp.v C1 (by decide +kernel)) (SOp.e (se_int (g := g0 X.K) (W := W0)))) sa_nil rfl) rfl) (by decide) rfl rfl)) sa_nil rfl) rfl) rfl)) sa_nil rfl) rfl) (by decide) rfl rfl)))) (fun _ => rfl))
  (sss_cons (ss_if (st_eq C.toCn (SOp.e (se_lcC (own' := [("one", 6)]) (t := (.v 6)) C.toCn (si_v C.toCn h9) (by decide +kernel) (fun _ _ _ _ _ C1 => (pg_b C1 (by decide +kernel))) (fun L hL => (gok_vb (by decide) L hL)) (fun _ _ _ _ _ C1 => (pts_one (st_notN (SOp.v C1 (by decide +kernel))))) (fun _ _ _ _ _ C1 => (se_v C1 (by decide +kernel))) (fun _ => rfl))) (SOp.e (se_lst (g := g0 X.K) (W := W) sa_nil))) (sss_cons (ss_sub C.toCn h9 (SOp.e (se_call (dvs := []) (ds := []) C.tk (ok_17 T) (R.mono (by decide)) (gl_ok C.toCn g__law_take) T.m17 T.f17.kp (bind_17 T.f17) .nil (fun _ _ => .nil) (sa_consL (pv_ok C.toCn h0) (sa_consT (se_v C.toCn h1) sa_nil rfl) rfl) (by decide) rfl rfl)) (se_fz (se_call (dvs := []) (ds := []) C.tk (ok_17 T) (R.mono (by decide)) (gl_ok C.toCn g__law_take) T.m17 T.f17.kp (bind_17 T.f17) .nil (fun _ _ => .nil) (sa_consL (pv_ok C.toCn h0) (sa_consT (se_int (g := g0 X.K) (W := W)) sa_nil rfl) rfl) (by decide) rfl rfl)) rfl rfl rfl (fun _ => rfl))
  sss_nil) sss_nil)
  (sss_cons (ss_expr (se_app C.toCn h7 (se_tuple C.toCn fr_tuple g_tuple (SOp.v C.toCn h9) rfl) rfl rfl) rfl)
  sss_nil))) (fun _ => rfl))
  (sss_cons (ss_ret (se_tup (g := g0 X.K) (W := W) (sa_consT (se_call (dvs := []) (ds := []) C.tk (ok_20 T) (R.mono (by decide)) (gl_ok C.toCn g__law_closed) T.m20 T.f20.kp (bind_20 T.f20) .nil (fun _ _ => .nil) (sa_consL (pv_ok C.toCn h5) sa_nil rfl) (by decide) rfl rfl) (sa_consT (se_tuple C.toCn fr_tuple g_tuple (SOp.v C.toCn h7) rfl) sa_nil rfl) rfl)))
  sss_nil)))))
theorem ok_21 {P : Program} {w : World} {K : PySem.W.Frag} {mg : Str → Option Value} {base : Heap} {fd : Nat → FuncData} (T : Dn P w K mg fd) : FnOk P w K mg base (L2.CX P w) 3 (He.fAd K d21.at_) (fd 21) ["box", "standings", "tasks", "dear", "bars"] (Prom ⟨g0 K, K⟩ mask_21 c_21) :=
  fn_okC T.f21 S21 rfl (by decide) T.fr fun X W e1 e2 e3 e4 e5 R C => by
    subst e1 e2 e3 e4 e5
    exact b_21 C R T
/-! ### _law_is_number -/
abbrev N22 : List Str := ["value"]
abbrev mask_22 : List Bool := [false]
theorem S22 : FnScope N22 ["value"] (defScope (top 22)) := ⟨rfl, rfl, rfl, by decide +kernel, rfl, by decide +kernel, by decide +kernel⟩
theorem bind_22 {K : PySem.W.Frag} {f : Addr} {fd : FuncData} (F : FunD K d22.name d22.qual d22.params d22.body d22.scope (d22.dvs K) (d22.kws K) f fd) : Binds K fd ["value"] [] := FunD.bindsN F fun _ _ _ _ _ _ us hl => match us, hl with | [_], _ => rfl
def m_22 : MS := (mSeq (mRet (mAnd (.e (mOp1 (fun d => (isiD .int d).map .bl) (.v 0))) (mNot (.e (mOp1 (fun d => (isiD .bool d).map .bl) (.v 0))))))
  RS.nx)
def c_22 : List D → RC := callF 1 mask_22 m_22
theorem b_22 {X : Cx} {W : WX} {fd : Nat → FuncData} (C : Cf X W N22 (defScope (top 22)) FR) (R : Room 0 X.A) (T : Dn X.prog X.w X.K X.mg fd) : SSs X (g0 X.K) W (lix 0 mask_22) (defBody (top 22)) m_22 := by
  have h0 : varB N22 (defScope (top 22)) 0 "value" = true := by decide +kernel
  have g_bool : glB (defScope (top 22)) "bool" = true := by decide +kernel
  have g_int : glB (defScope (top 22)) "int" = true := by decide +kernel
  have g_isinstance : glB (defScope (top 22)) "isinstance" = true := by decide +kernel
  unfold m_22
  exact (sss_cons (ss_ret (se_and (SOp.e (se_isi (T := .int) C.toCn fr_isinstance g_isinstance fr_int g_int (SOp.v C.toCn h0) rfl)) (se_and1 (se_not (SOp.e (se_isi (T := .bool) C.toCn fr_isinstance g_isinstance fr_bool g_bool (SOp.v C.toCn h0) rfl))))))
  sss_nil)
theorem ok_22 {P : Program} {w : World} {K : PySem.W.Frag} {mg : Str → Option Value} {base : Heap} {fd : Nat → FuncData} (T : Dn P w K mg fd) : FnOk P w K mg base (L2.CX P w) 1 (He.fAd K d22.at_) (fd 22) ["value"] (Prom ⟨g0 K, K⟩ mask_22 c_22) :=
  fn_okC T.f22 S22 rfl (by decide) T.fr fun X W e1 e2 e3 e4 e5 R C => by
    subst e1 e2 e3 e4 e5
    exact b_22 C R T
/-! ### _law_box -/
abbrev N23 : List Str := ["script", "k", "cell", "great"]
abbrev mask_23 : List Bool := [false, false]
theorem S23 : FnScope N23 ["script", "k"] (defScope (top 23)) := ⟨rfl, rfl, rfl, by decide +kernel, rfl, by decide +kernel, by decide +kernel⟩
theorem bind_23 {K : PySem.W.Frag} {f : Addr} {fd : FuncData} (F : FunD K d23.name d23.qual d23.params d23.body d23.scope (d23.dvs K) (d23.kws K) f fd) : Binds K fd ["script", "k"] [] := FunD.bindsN F fun _ _ _ _ _ _ us hl => match us, hl with | [_, _], _ => rfl
def m_23 : MS := (mSeq (mAsg (.v 2) (mOp2 addD (.e (mOp2 mulD (.e (mC (.int 18743))) (.v 1))) (.e (mC (.int 7919)))))
  (mSeq (mIfS (mOp2 (cmpD fun i j => decide (i < j)) (.v 1) (.e (mOp1 lenD (.v 0)))) (mSeq (mAsg (.v 2) (mOp1 absD (.e (mOp1 intD (.e (mOp2 ixD (.v 0) (.v 1)))))))
  RS.nx) (mSeq (mIfS (mOp2 (cmpD fun i j => decide (j < i)) (.e (mOp1 lenD (.v 0))) (.e (mC (.int 0)))) (mSeq (mAsg (.v 2) (mOp2 addD (.v 2) (.e (mOp2 mulD (.e (mOp2 modD (.e (mOp1 intD (.e (mOp1 absD (.e (mOp1 intD (.e (mOp2 ixD (.v 0) (.e (mOp2 modD (.e (mOp1 intD (.v 1))) (.e (mOp1 lenD (.v 0))))))))))))) (.e (mC (.int 2147483563))))) (.e (mC (.int 90011)))))))
  RS.nx) RS.nx)
  RS.nx))
  (mSeq (mAsg (.v 3) (mIf (mOp2 (cmpD fun i j => decide (j ≤ i)) (.v 2) (.e (mOp2 powD (.e (mC (.int 10))) (.e (mC (.int 18)))))) (mV 2) (mC (.int 0))))
  (mSeq (mRet (mLst [.t (mV 3), .t (mOp2 addD (.e (mOp2 modD (.e (mOp1 intD (.e (mOp2 addD (.e (mOp2 mulD (.e (mOp2 modD (.e (mOp1 intD (.v 2))) (.e (mC (.int 2147483563))))) (.e (mC (.int 61001003))))) (.e (mOp2 mulD (.e (mC (.int 7919))) (.v 1))))))) (.e (mC (.int 2147483563))))) (.e (mC (.int 1))))]))
  RS.nx))))
def c_23 : List D → RC := callF 4 mask_23 m_23
theorem b_23 {X : Cx} {W : WX} {fd : Nat → FuncData} (C : Cf X W N23 (defScope (top 23)) FR) (R : Room 0 X.A) (T : Dn X.prog X.w X.K X.mg fd) : SSs X (g0 X.K) W (lix 0 mask_23) (defBody (top 23)) m_23 := by
  have h0 : varB N23 (defScope (top 23)) 0 "script" = true := by decide +kernel
  have h1 : varB N23 (defScope (top 23)) 1 "k" = true := by decide +kernel
  have h2 : varB N23 (defScope (top 23)) 2 "cell" = true := by decide +kernel
  have h3 : varB N23 (defScope (top 23)) 3 "great" = true := by decide +kernel
  have g_abs : glB (defScope (top 23)) "abs" = true := by decide +kernel
  have g_int : glB (defScope (top 23)) "int" = true := by decide +kernel
  have g_len : glB (defScope (top 23)) "len" = true := by decide +kernel
  unfold m_23
  exact (sss_cons (ss_setC C (by decide +kernel) (se_add (SOp.e (se_mul (SOp.e (se_int (g := g0 X.K) (W := W))) (SOp.v C.toCn h1))) (SOp.e (se_int (g := g0 X.K) (W := W)))) (by decide) rfl)
  (sss_cons (ss_if (st_lt (SOp.v C.toCn h1) (SOp.e (se_len C.toCn fr_len g_len (SOp.v C.toCn h0) rfl))) (sss_cons (ss_setC C (by decide +kernel) (se_abs C.toCn fr_abs g_abs (SOp.e (se_int1 C.toCn fr_int g_int (SOp.e (se_ix C.toCn (SOp.v C.toCn h0) (SOp.v C.toCn h1) (fun _ _ => rfl))) rfl)) rfl) (by decide) rfl)
  sss_nil) (sss_cons (ss_if (st_gt (SOp.e (se_len C.toCn fr_len g_len (SOp.v C.toCn h0) rfl)) (SOp.e (se_int (g := g0 X.K) (W := W)))) (sss_cons (ss_setC C (by decide +kernel) (se_add (SOp.v C.toCn h2) (SOp.e (se_mul (SOp.e (se_mod (SOp.e (se_int1 C.toCn fr_int g_int (SOp.e (se_abs C.toCn fr_abs g_abs (SOp.e (se_int1 C.toCn fr_int g_int (SOp.e (se_ix C.toCn (SOp.v C.toCn h0) (SOp.e (se_mod (SOp.e (se_int1 C.toCn fr_int g_int (SOp.v C.toCn h1) rfl)) (SOp.e (se_len C.toCn fr_len g_len (SOp.v C.toCn h0) rfl)))) (fun _ _ => rfl))) rfl)) rfl)) rfl)) (SOp.e (se_int (g := g0 X.K) (W := W))))) (SOp.e (se_int (g := g0 X.K) (W := W)))))) (by decide) rfl)
  sss_nil) sss_nil)
  sss_nil))
  (sss_cons (ss_setC C (by decide +kernel) (se_if (st_ge (SOp.v C.toCn h2) (SOp.e (se_pow (SOp.e (se_int (g := g0 X.K) (W := W))) (SOp.e (se_int (g := g0 X.K) (W := W)))))) (se_v C.toCn h2) (se_int (g := g0 X.K) (W := W))) (by decide) rfl)
  (sss_cons (ss_ret (se_lst (g := g0 X.K) (W := W) (sa_consT (se_v C.toCn h3) (sa_consT (se_add (SOp.e (se_mod (SOp.e (se_int1 C.toCn fr_int g_int (SOp.e (se_add (SOp.e (se_mul (SOp.e (se_mod (SOp.e (se_int1 C.toCn fr_int g_int (SOp.v C.toCn h2) rfl)) (SOp.e (se_int (g := g0 X.K) (W := W))))) (SOp.e (se_int (g := g0 X.K) (W := W))))) (SOp.e (se_mul (SOp.e (se_int (g := g0 X.K) (W := W))) (SOp.v C.toCn h1))))) rfl)) (SOp.e (se_int (g := g0 X.K) (W := W))))) (SOp.e (se_int (g := g0 X.K) (W := W)))) sa_nil rfl) rfl)))
  sss_nil))))
theorem ok_23 {P : Program} {w : World} {K : PySem.W.Frag} {mg : Str → Option Value} {base : Heap} {fd : Nat → FuncData} (T : Dn P w K mg fd) : FnOk P w K mg base (L2.CX P w) 1 (He.fAd K d23.at_) (fd 23) ["script", "k"] (Prom ⟨g0 K, K⟩ mask_23 c_23) :=
  fn_okC T.f23 S23 rfl (by decide) T.fr fun X W e1 e2 e3 e4 e5 R C => by
    subst e1 e2 e3 e4 e5
    exact b_23 C R T
/-! ### _law_led -/
abbrev N24 : List Str := ["box", "many", "signs", "tasks", "worst", "found", "room", "row", "sign", "goal", "wrong", "one"]
abbrev mask_24 : List Bool := [true, false, false, false, false]
theorem S24 : FnScope N24 ["box", "many", "signs", "tasks", "worst"] (defScope (top 24)) := ⟨rfl, rfl, rfl, by decide +kernel, rfl, by decide +kernel, by decide +kernel⟩
theorem bind_24 {K : PySem.W.Frag} {f : Addr} {fd : FuncData} (F : FunD K d24.name d24.qual d24.params d24.body d24.scope (d24.dvs K) (d24.kws K) f fd) : Binds K fd ["box", "many", "signs", "tasks", "worst"] [] := FunD.bindsN F fun _ _ _ _ _ _ us hl => match us, hl with | [_, _, _, _, _], _ => rfl
def q_24_1 : ME := (mV 11)
def t_24_2 : ME := (mOp1 (fun d => some (.bl (!isN d))) (.v 11))
def s_24_3 : MS := (mSeq (mAsg (.v 9) (mCall c_18 mask_18 [] [.l 0, .t (mLst [.t (mOp2 modD (.e (mOp1 intD (.e (mOp2 addD (.v 6) (.e (mC (.int 1))))))) (.v 1)), .t (mC (.int 0)), .t (mV 6), .t (mFz (mCall c_17 mask_17 [] [.l 0, .t (mV 1)]))])]))
  (mSeq (mAsg (.v 10) (mCall c_18 mask_18 [] [.l 0, .t (mLst [.t (mC (.int 0)), .t (mC (.int 0)), .t (mC (.int 0)), .t (mC (.int 1)), .t (mFz (mCall c_17 mask_17 [] [.l 0, .t (mOp2 addD (.v 4) (.e (mC (.int 1))))]))])]))
  (mSeq (mExpr (mApp 7 (mIf (mOp2 (cmpD fun i j => decide (j < i)) (.e (mCall c_17 mask_17 [] [.l 0, .t (mC (.int 8))])) (.e (mC (.int 0)))) (mTup [.t (mCall c_17 mask_17 [] [.l 0, .t (mV 3)]), .t (mV 10), .t (mV 9)]) (mC .non))))
  RS.nx)))
def s_24_4 : MS := (mSeq (mAsg (.v 7) (mLst []))
  (mSeq (mFor [] (.v 8) (mRg1 (mV 2)) s_24_3)
  (mSeq (mIfS (mOp2 eqD (.e (mLc [11] (.v 11) (mItV 7) t_24_2 q_24_1)) (.e (mLst []))) (mSeq (mSet 7 (.e (mCall c_17 mask_17 [] [.l 0, .t (mOp1 lenD (.v 7))])) (mTup [.t (mCall c_17 mask_17 [] [.l 0, .t (mV 3)]), .t (mC (.int 0)), .t (mOp2 modD (.e (mOp1 intD (.e (mOp2 addD (.v 6) (.e (mC (.int 1))))))) (.v 1))]))
  RS.nx) RS.nx)
  (mSeq (mExpr (mApp 5 (mOp1 tupleD (.v 7))))
  RS.nx))))
def m_24 : MS := (mSeq (mAsg (.v 5) (mLst []))
  (mSeq (mFor [] (.v 6) (mRg1 (mV 1)) s_24_4)
  (mSeq (mRet (mOp1 tupleD (.v 5)))
  RS.nx)))
def c_24 : List D → RC := callF 12 mask_24 m_24
theorem b_24 {X : Cx} {W : WX} {fd : Nat → FuncData} (C : Cf X W N24 (defScope (top 24)) FR) (R : Room 2 X.A) (T : Dn X.prog X.w X.K X.mg fd) : SSs X (g0 X.K) W (lix 0 mask_24) (defBody (top 24)) m_24 := by
  have h0 : varB N24 (defScope (top 24)) 0 "box" = true := by decide +kernel
  have h1 : varB N24 (defScope (top 24)) 1 "many" = true := by decide +kernel
  have h2 : varB N24 (defScope (top 24)) 2 "signs" = true := by decide +kernel
  have h3 : varB N24 (defScope (top 24)) 3 "tasks" = true := by decide +kernel
  have h4 : varB N24 (defScope (top 24)) 4 "worst" = true := by decide +kernel
  have h5 : varB N24 (defScope (top 24)) 5 "found" = true := by decide +kernel
  have h6 : varB N24 (defScope (top 24)) 6 "room" = true := by decide +kernel
  have h7 : varB N24 (defScope (top 24)) 7 "row" = true := by decide +kernel
  have h9 : varB N24 (defScope (top 24)) 9 "goal" = true := by decide +kernel
  have h10 : varB N24 (defScope (top 24)) 10 "wrong" = true := by decide +kernel
  have g__law_pick : glB (defScope (top 24)) "_law_pick" = true := by decide +kernel
  have g__law_take : glB (defScope (top 24)) "_law_take" = true := by decide +kernel
  have g_int : glB (defScope (top 24)) "int" = true := by decide +kernel
  have g_len : glB (defScope (top 24)) "len" = true := by decide +kernel
  have g_range : glB (defScope (top 24)) "range" = true := by decide +kernel
  have g_tuple : glB (defScope (top 24)) "tuple" = true := by decide +kernel
  unfold m_24
  exact (sss_cons (ss_setC C (by decide +kernel) (se_lst (g := g0 X.K) (W := W) sa_nil) (by decide) rfl)
  (sss_cons (ss_for (Ls := []) (t := (.v 6)) C.po C.calm (si_rg1 C.toCn fr_range g_range (se_v C.toCn h1) rfl) (pg_f C (by decide +kernel)) (gok_v (by decide)) (sss_cons (ss_setC C (by decide +kernel) (se_lst (g := g0 X.K) (W := W) sa_nil) (by decide) rfl)
  (sss_cons (ss_for (Ls := []) (t := (.v 8)) C.po C.calm (si_rg1 C.toCn fr_range g_range (se_v C.toCn h2) rfl) (pg_f C (by decide +kernel)) (gok_v (by decide)) (sss_cons (ss_setC C (by decide +kernel) (se_call (dvs := []) (ds := []) C.tk (ok_18 T) (R.mono (by decide)) (gl_ok C.toCn g__law_pick) T.m18 T.f18.kp (bind_18 T.f18) .nil (fun _ _ => .nil) (sa_consL (pv_ok C.toCn h0) (sa_consT (se_lst (g := g0 X.K) (W := W) (sa_consT (se_mod (SOp.e (se_int1 C.toCn fr_int g_int (SOp.e (se_add (SOp.v C.toCn h6) (SOp.e (se_int (g := g0 X.K) (W := W))))) rfl)) (SOp.v C.toCn h1)) (sa_consT (se_int (g := g0 X.K) (W := W)) (sa_consT (se_v C.toCn h6) (sa_consT (se_fz (se_call (dvs := []) (ds := []) C.tk (ok_17 T) (R.mono (by decide)) (gl_ok C.toCn g__law_take) T.m17 T.f17.kp (bind_17 T.f17) .nil (fun _ _ => .nil) (sa_consL (pv_ok C.toCn h0) (sa_consT (se_v C.toCn h1) sa_nil rfl) rfl) (by decide) rfl rfl)) sa_nil rfl) rfl) rfl) rfl)) sa_nil rfl) rfl) (by decide) rfl rfl) (by decide) rfl)
  (sss_cons (ss_setC C (by decide +kernel) (se_call (dvs := []) (ds := []) C.tk (ok_18 T) (R.mono (by decide)) (gl_ok C.toCn g__law_pick) T.m18 T.f18.kp (bind_18 T.f18) .nil (fun _ _ => .nil) (sa_consL (pv_ok C.toCn h0) (sa_consT (se_lst (g := g0 X.K) (W := W) (sa_consT (se_int (g := g0 X.K) (W := W)) (sa_consT (se_int (g := g0 X.K) (W := W)) (sa_consT (se_int (g := g0 X.K) (W := W)) (sa_consT (se_int (g := g0 X.K) (W := W)) (sa_consT (se_fz (se_call (dvs := []) (ds := []) C.tk (ok_17 T) (R.mono (by decide)) (gl_ok C.toCn g__law_take) T.m17 T.f17.kp (bind_17 T.f17) .nil (fun _ _ => .nil) (sa_consL (pv_ok C.toCn h0) (sa_consT (se_add (SOp.v C.toCn h4) (SOp.e (se_int (g := g0 X.K) (W := W)))) sa_nil rfl) rfl) (by decide) rfl rfl)) sa_nil rfl) rfl) rfl) rfl) rfl)) sa_nil rfl) rfl) (by decide) rfl rfl) (by decide) rfl)
  (sss_cons (ss_expr (se_app C.toCn h7 (se_if (st_gt (SOp.e (se_call (dvs := []) (ds := []) C.tk (ok_17 T) (R.mono (by decide)) (gl_ok C.toCn g__law_take) T.m17 T.f17.kp (bind_17 T.f17) .nil (fun _ _ => .nil) (sa_consL (pv_ok C.toCn h0) (sa_consT (se_int (g := g0 X.K) (W := W)) sa_nil rfl) rfl) (by decide) rfl rfl)) (SOp.e (se_int (g := g0 X.K) (W := W)))) (se_tup (g := g0 X.K) (W := W) (sa_consT (se_call (dvs := []) (ds := []) C.tk (ok_17 T) (R.mono (by decide)) (gl_ok C.toCn g__law_take) T.m17 T.f17.kp (bind_17 T.f17) .nil (fun _ _ => .nil) (sa_consL (pv_ok C.toCn h0) (sa_consT (se_v C.toCn h3) sa_nil rfl) rfl) (by decide) rfl rfl) (sa_consT (se_v C.toCn h10) (sa_consT (se_v C.toCn h9) sa_nil rfl) rfl) rfl)) (se_non (g := g0 X.K) (W := W))) rfl rfl) rfl)
  sss_nil))) (fun _ => rfl))
  (sss_cons (ss_if (st_eq C.toCn (SOp.e (se_lcC (own' := [("one", 11)]) (t := (.v 11)) C.toCn (si_v C.toCn h7) (by decide +kernel) (fun _ _ _ _ _ C1 => (pg_b C1 (by decide +kernel))) (fun L hL => (gok_vb (by decide) L hL)) (fun _ _ _ _ _ C1 => (pts_one (st_notN (SOp.v C1 (by decide +kernel))))) (fun _ _ _ _ _ C1 => (se_v C1 (by decide +kernel))) (fun _ => rfl))) (SOp.e (se_lst (g := g0 X.K) (W := W) sa_nil))) (sss_cons (ss_sub C.toCn h7 (SOp.e (se_call (dvs := []) (ds := []) C.tk (ok_17 T) (R.mono (by decide)) (gl_ok C.toCn g__law_take) T.m17 T.f17.kp (bind_17 T.f17) .nil (fun _ _ => .nil) (sa_consL (pv_ok C.toCn h0) (sa_consT (se_len C.toCn fr_len g_len (SOp.v C.toCn h7) rfl) sa_nil rfl) rfl) (by decide) rfl rfl)) (se_tup (g := g0 X.K) (W := W) (sa_consT (se_call (dvs := []) (ds := []) C.tk (ok_17 T) (R.mono (by decide)) (gl_ok C.toCn g__law_take) T.m17 T.f17.kp (bind_17 T.f17) .nil (fun _ _ => .nil) (sa_consL (pv_ok C.toCn h0) (sa_consT (se_v C.toCn h3) sa_nil rfl) rfl) (by decide) rfl rfl) (sa_consT (se_int (g := g0 X.K) (W := W)) (sa_consT (se_mod (SOp.e (se_int1 C.toCn fr_int g_int (SOp.e (se_add (SOp.v C.toCn h6) (SOp.e (se_int (g := g0 X.K) (W := W))))) rfl)) (SOp.v C.toCn h1)) sa_nil rfl) rfl) rfl)) rfl rfl rfl (fun _ => rfl))
  sss_nil) sss_nil)
  (sss_cons (ss_expr (se_app C.toCn h5 (se_tuple C.toCn fr_tuple g_tuple (SOp.v C.toCn h7) rfl) rfl rfl) rfl)
  sss_nil)))) (fun _ => rfl))
  (sss_cons (ss_ret (se_tuple C.toCn fr_tuple g_tuple (SOp.v C.toCn h5) rfl))
  sss_nil)))
theorem ok_24 {P : Program} {w : World} {K : PySem.W.Frag} {mg : Str → Option Value} {base : Heap} {fd : Nat → FuncData} (T : Dn P w K mg fd) : FnOk P w K mg base (L2.CX P w) 3 (He.fAd K d24.at_) (fd 24) ["box", "many", "signs", "tasks", "worst"] (Prom ⟨g0 K, K⟩ mask_24 c_24) :=
  fn_okC T.f24 S24 rfl (by decide) T.fr fun X W e1 e2 e3 e4 e5 R C => by
    subst e1 e2 e3 e4 e5
    exact b_24 C R T
/-! ### _law_chances -/
abbrev N25 : List Str := ["box", "book", "most", "found", "room", "row", "sign"]
abbrev mask_25 : List Bool := [true, false, false]
theorem S25 : FnScope N25 ["box", "book", "most"] (defScope (top 25)) := ⟨rfl, rfl, rfl, by decide +kernel, rfl, by decide +kernel, by decide +kernel⟩
theorem bind_25 {K : PySem.W.Frag} {f : Addr} {fd : FuncData} (F : FunD K d25.name d25.qual d25.params d25.body d25.scope (d25.dvs K) (d25.kws K) f fd) : Binds K fd ["box", "book", "most"] [] := FunD.bindsN F fun _ _ _ _ _ _ us hl => match us, hl with | [_, _, _], _ => rfl
def q_25_1 : ME := (mFz (mIf (mOp1 (fun d => some (.bl (isN d))) (.v 6)) (mC (.int 0)) (mCall c_18 mask_18 [] [.l 0, .t (mLst [.t (mC (.int 0)), .t (mC (.int 1)), .t (mC (.int 1)), .t (mC (.int 2)), .t (mC (.int 3)), .t (mFz (mCall c_17 mask_17 [] [.l 0, .t (mOp2 addD (.v 2) (.e (mC (.int 1))))]))])])))
def s_25_2 : MS := (mSeq (mAsg (.v 5) (mLc [6] (.v 6) (mIt (mV 4)) mTrue q_25_1))
  (mSeq (mExpr (mApp 3 (mOp1 tupleD (.v 5))))
  RS.nx))
def m_25 : MS := (mSeq (mAsg (.v 3) (mLst []))
  (mSeq (mFor [] (.v 4) (mIt (mV 1)) s_25_2)
  (mSeq (mRet (mOp1 tupleD (.v 3)))
  RS.nx)))
def c_25 : List D → RC := callF 7 mask_25 m_25
theorem b_25 {X : Cx} {W : WX} {fd : Nat → FuncData} (C : Cf X W N25 (defScope (top 25)) FR) (R : Room 2 X.A) (T : Dn X.prog X.w X.K X.mg fd) : SSs X (g0 X.K) W (lix 0 mask_25) (defBody (top 25)) m_25 := by
  have h1 : varB N25 (defScope (top 25)) 1 "book" = true := by decide +kernel
  have h3 : varB N25 (defScope (top 25)) 3 "found" = true := by decide +kernel
  have h4 : varB N25 (defScope (top 25)) 4 "room" = true := by decide +kernel
  have h5 : varB N25 (defScope (top 25)) 5 "row" = true := by decide +kernel
  have g_tuple : glB (defScope (top 25)) "tuple" = true := by decide +kernel
  unfold m_25
  exact (sss_cons (ss_setC C (by decide +kernel) (se_lst (g := g0 X.K) (W := W) sa_nil) (by decide) rfl)
  (sss_cons (ss_for (Ls := []) (t := (.v 4)) C.po C.calm (si_seq (se_v C.toCn h1)) (pg_f C (by decide +kernel)) (gok_v (by decide)) (sss_cons (ss_setLcC C (by decide +kernel) rfl rfl (by decide +kernel) (by decide) (si_seq (se_v C.toCn h4)) (own' := [("sign", 6)]) (t := (.v 6)) (by decide +kernel) (fun _ _ _ _ _ C1 => (pg_b C1 (by decide +kernel))) (fun L hL => (gok_vb (by decide) L hL)) (fun _ _ _ _ _ C1 => (pts_true pts_nil)) (fun _ _ _ _ _ C1 => (se_fz (se_if (st_isN (SOp.v C1 (by decide +kernel))) (se_int (g := g0 X.K) (W := W0)) (se_call (dvs := []) (ds := []) EV.takes0 (ok_18 T) (R.mono (by decide)) (gl_ok C1 (by decide +kernel)) T.m18 T.f18.kp (bind_18 T.f18) .nil (fun _ _ => .nil) (sa_consL (pv_ok C1 (by decide +kernel)) (sa_consT (se_lst (g := g0 X.K) (W := W0) (sa_consT (se_int (g := g0 X.K) (W := W0)) (sa_consT (se_int (g := g0 X.K) (W := W0)) (sa_consT (se_int (g := g0 X.K) (W := W0)) (sa_consT (se_int (g := g0 X.K) (W := W0)) (sa_consT (se_int (g := g0 X.K) (W := W0)) (sa_consT (se_fz (se_call (dvs := []) (ds := []) EV.takes0 (ok_17 T) (R.mono (by decide)) (gl_ok C1 (by decide +kernel)) T.m17 T.f17.kp (bind_17 T.f17) .nil (fun _ _ => .nil) (sa_consL (pv_ok C1 (by decide +kernel)) (sa_consT (se_add (SOp.v C1 (by decide +kernel)) (SOp.e (se_int (g := g0 X.K) (W := W0)))) sa_nil rfl) rfl) (by decide) rfl rfl)) sa_nil rfl) rfl) rfl) rfl) rfl) rfl)) sa_nil rfl) rfl) (by decide) rfl rfl)))) (fun _ => rfl))
  (sss_cons (ss_expr (se_app C.toCn h3 (se_tuple C.toCn fr_tuple g_tuple (SOp.v C.toCn h5) rfl) rfl rfl) rfl)
  sss_nil)) (fun _ => rfl))
  (sss_cons (ss_ret (se_tuple C.toCn fr_tuple g_tuple (SOp.v C.toCn h3) rfl))
  sss_nil)))
theorem ok_25 {P : Program} {w : World} {K : PySem.W.Frag} {mg : Str → Option Value} {base : Heap} {fd : Nat → FuncData} (T : Dn P w K mg fd) : FnOk P w K mg base (L2.CX P w) 3 (He.fAd K d25.at_) (fd 25) ["box", "book", "most"] (Prom ⟨g0 K, K⟩ mask_25 c_25) :=
  fn_okC T.f25 S25 rfl (by decide) T.fr fun X W e1 e2 e3 e4 e5 R C => by
    subst e1 e2 e3 e4 e5
    exact b_25 C R T
/-! ### _law_rooms_from -/
abbrev N26 : List Str := ["book", "source", "start", "line", "at", "sign"]
abbrev mask_26 : List Bool := [false, false, false]
theorem S26 : FnScope N26 ["book", "source", "start"] (defScope (top 26)) := ⟨rfl, rfl, rfl, by decide +kernel, rfl, by decide +kernel, by decide +kernel⟩
theorem bind_26 {K : PySem.W.Frag} {f : Addr} {fd : FuncData} (F : FunD K d26.name d26.qual d26.params d26.body d26.scope (d26.dvs K) (d26.kws K) f fd) : Binds K fd ["book", "source", "start"] [] := FunD.bindsN F fun _ _ _ _ _ _ us hl => match us, hl with | [_, _, _], _ => rfl
def s_26_1 : MS := (mSeq (mIfS (mTAnd (mOp2 (cmpD fun i j => decide (j < i)) (.e (mOp2 ixD (.e (mOp2 ixD (.v 1) (.e (mOp2 ixD (.v 3) (.v 4))))) (.v 5))) (.e (mC (.int 0)))) (mOp2 notinB (.e (mOp2 ixD (.e (mOp2 ixD (.e (mOp2 ixD (.v 0) (.e (mOp2 ixD (.v 3) (.v 4))))) (.v 5))) (.e (mC (.int 2))))) (.v 3))) (mSeq (mExpr (mApp 3 (mOp2 ixD (.e (mOp2 ixD (.e (mOp2 ixD (.v 0) (.e (mOp2 ixD (.v 3) (.v 4))))) (.v 5))) (.e (mC (.int 2))))))
  RS.nx) RS.nx)
  RS.nx)
def s_26_2 : MS := (mSeq (mIfS (mOp2 (cmpD fun i j => decide (i < j)) (.v 4) (.e (mOp1 lenD (.v 3)))) (mSeq (mFor [] (.v 5) (mRg1 (mOp1 lenD (.e (mOp2 ixD (.v 0) (.e (mC (.int 0))))))) s_26_1)
  RS.nx) RS.nx)
  RS.nx)
def m_26 : MS := (mSeq (mAsg (.v 3) (mLst [.t (mV 2)]))
  (mSeq (mFor [] (.v 4) (mRg1 (mOp1 lenD (.v 0))) s_26_2)
  (mSeq (mRet (mMv 3))
  RS.nx)))
def c_26 : List D → RC := callF 6 mask_26 m_26
theorem b_26 {X : Cx} {W : WX} {fd : Nat → FuncData} (C : Cf X W N26 (defScope (top 26)) FR) (R : Room 0 X.A) (T : Dn X.prog X.w X.K X.mg fd) : SSs X (g0 X.K) W (lix 0 mask_26) (defBody (top 26)) m_26 := by
  have h0 : varB N26 (defScope (top 26)) 0 "book" = true := by decide +kernel
  have h1 : varB N26 (defScope (top 26)) 1 "source" = true := by decide +kernel
  have h2 : varB N26 (defScope (top 26)) 2 "start" = true := by decide +kernel
  have h3 : varB N26 (defScope (top 26)) 3 "line" = true := by decide +kernel
  have h4 : varB N26 (defScope (top 26)) 4 "at" = true := by decide +kernel
  have h5 : varB N26 (defScope (top 26)) 5 "sign" = true := by decide +kernel
  have g_len : glB (defScope (top 26)) "len" = true := by decide +kernel
  have g_range : glB (defScope (top 26)) "range" = true := by decide +kernel
  unfold m_26
  exact (sss_cons (ss_setC C (by decide +kernel) (se_lst (g := g0 X.K) (W := W) (sa_consT (se_v C.toCn h2) sa_nil rfl)) (by decide) rfl)
  (sss_cons (ss_for (Ls := []) (t := (.v 4)) C.po C.calm (si_rg1 C.toCn fr_range g_range (se_len C.toCn fr_len g_len (SOp.v C.toCn h0) rfl) rfl) (pg_f C (by decide +kernel)) (gok_v (by decide)) (sss_cons (ss_if (st_lt (SOp.v C.toCn h4) (SOp.e (se_len C.toCn fr_len g_len (SOp.v C.toCn h3) rfl))) (sss_cons (ss_for (Ls := []) (t := (.v 5)) C.po C.calm (si_rg1 C.toCn fr_range g_range (se_len C.toCn fr_len g_len (SOp.e (se_ix C.toCn (SOp.v C.toCn h0) (SOp.e (se_int (g := g0 X.K) (W := W))) (fun _ _ => rfl))) rfl) rfl) (pg_f C (by decide +kernel)) (gok_v (by decide)) (sss_cons (ss_if (st_bool (sw_and (st_gt (SOp.e (se_ix C.toCn (SOp.e (se_ix C.toCn (SOp.v C.toCn h1) (SOp.e (se_ix C.toCn (SOp.v C.toCn h3) (SOp.v C.toCn h4) (fun _ _ => rfl))) (fun _ _ => rfl))) (SOp.v C.toCn h5) (fun _ _ => rfl))) (SOp.e (se_int (g := g0 X.K) (W := W)))) (sw_and1 (st_notin C.toCn (SOp.e (se_ix C.toCn (SOp.e (se_ix C.toCn (SOp.e (se_ix C.toCn (SOp.v C.toCn h0) (SOp.e (se_ix C.toCn (SOp.v C.toCn h3) (SOp.v C.toCn h4) (fun _ _ => rfl))) (fun _ _ => rfl))) (SOp.v C.toCn h5) (fun _ _ => rfl))) (SOp.e (se_int (g := g0 X.K) (W := W))) (fun _ _ => rfl))) (SOp.v C.toCn h3) rfl)))) (sss_cons (ss_expr (se_app C.toCn h3 (se_ix C.toCn (SOp.e (se_ix C.toCn (SOp.e (se_ix C.toCn (SOp.v C.toCn h0) (SOp.e (se_ix C.toCn (SOp.v C.toCn h3) (SOp.v C.toCn h4) (fun _ _ => rfl))) (fun _ _ => rfl))) (SOp.v C.toCn h5) (fun _ _ => rfl))) (SOp.e (se_int (g := g0 X.K) (W := W))) (fun _ _ => rfl)) rfl rfl) rfl)
  sss_nil) sss_nil)
  sss_nil) (fun _ => rfl))
  sss_nil) sss_nil)
  sss_nil) (fun _ => rfl))
  (sss_cons (ss_ret (se_mv C.toCn h3))
  sss_nil)))
theorem ok_26 {P : Program} {w : World} {K : PySem.W.Frag} {mg : Str → Option Value} {base : Heap} {fd : Nat → FuncData} (T : Dn P w K mg fd) : FnOk P w K mg base (L2.CX P w) 1 (He.fAd K d26.at_) (fd 26) ["book", "source", "start"] (Prom ⟨g0 K, K⟩ mask_26 c_26) :=
  fn_okC T.f26 S26 rfl (by decide) T.fr fun X W e1 e2 e3 e4 e5 R C => by
    subst e1 e2 e3 e4 e5
    exact b_26 C R T
/-! ### _law_fault -/
abbrev N27 : List Str := ["book", "source", "drawn", "still", "goals", "room", "led", "goal"]
abbrev mask_27 : List Bool := [false, false]
theorem S27 : FnScope N27 ["book", "source"] (defScope (top 27)) := ⟨rfl, rfl, rfl, by decide +kernel, rfl, by decide +kernel, by decide +kernel⟩
theorem bind_27 {K : PySem.W.Frag} {f : Addr} {fd : FuncData} (F : FunD K d27.name d27.qual d27.params d27.body d27.scope (d27.dvs K) (d27.kws K) f fd) : Binds K fd ["book", "source"] [] := FunD.bindsN F fun _ _ _ _ _ _ us hl => match us, hl with | [_, _], _ => rfl
def q_27_1 : ME := (mV 7)
def t_27_2 : ME := (mOp2 inB (.v 7) (.v 6))
def s_27_3 : MS := (mSeq (mAsg (.v 6) (mCall c_26 mask_26 [] [.t (mV 0), .t (mV 1), .t (mV 5)]))
  (mSeq (mAsg (.v 4) (mLc [7] (.v 7) (mIt (mV 4)) t_27_2 q_27_1))
  RS.nx))
def q_27_4 : ME := (mV 5)
def t_27_5 : ME := (mOp2 eqD (.e (mOp1 sumA (.e (mOp2 ixD (.v 1) (.v 5))))) (.e (mC (.int 0))))
def m_27 : MS := (mSeq (mAsg (.v 2) (mCall c_26 mask_26 [] [.t (mV 0), .t (mV 1), .t (mC (.int 0))]))
  (mSeq (mAsg (.v 3) (mLc [5] (.v 5) (mIt (mV 2)) t_27_5 q_27_4))
  (mSeq (mIfS (mOp2 neD (.v 3) (.e (mLst []))) (mSeq (mRet (mOp1 min1A (.v 3)))
  RS.nx) RS.nx)
  (mSeq (mAsg (.v 4) (mV 2))
  (mSeq (mFor [] (.v 5) (mIt (mV 2)) s_27_3)
  (mSeq (mRet (mIf (mOp2 neD (.v 4) (.e (mLst []))) (mC .non) (mOp1 lenD (.v 0))))
  RS.nx))))))
def c_27 : List D → RC := callF 8 mask_27 m_27
theorem b_27 {X : Cx} {W : WX} {fd : Nat → FuncData} (C : Cf X W N27 (defScope (top 27)) FR) (R : Room 1 X.A) (T : Dn X.prog X.w X.K X.mg fd) : SSs X (g0 X.K) W (lix 0 mask_27) (defBody (top 27)) m_27 := by
  have h0 : varB N27 (defScope (top 27)) 0 "book" = true := by decide +kernel
  have h1 : varB N27 (defScope (top 27)) 1 "source" = true := by decide +kernel
  have h2 : varB N27 (defScope (top 27)) 2 "drawn" = true := by decide +kernel
  have h3 : varB N27 (defScope (top 27)) 3 "still" = true := by decide +kernel
  have h4 : varB N27 (defScope (top 27)) 4 "goals" = true := by decide +kernel
  have h5 : varB N27 (defScope (top 27)) 5 "room" = true := by decide +kernel
  have g__law_rooms_from : glB (defScope (top 27)) "_law_rooms_from" = true := by decide +kernel
  have g_len : glB (defScope (top 27)) "len" = true := by decide +kernel
  have g_min : glB (defScope (top 27)) "min" = true := by decide +kernel
  unfold m_27
  exact (sss_cons (ss_setC C (by decide +kernel) (se_call (dvs := []) (ds := []) C.tk (ok_26 T) (R.mono (by decide)) (gl_ok C.toCn g__law_rooms_from) T.m26 T.f26.kp (bind_26 T.f26) .nil (fun _ _ => .nil) (sa_consT (se_v C.toCn h0) (sa_consT (se_v C.toCn h1) (sa_consT (se_int (g := g0 X.K) (W := W)) sa_nil rfl) rfl) rfl) (by decide) rfl rfl) (by decide) rfl)
  (sss_cons (ss_setLcC C (by decide +kernel) rfl rfl (by decide +kernel) (by decide) (si_seq (se_v C.toCn h2)) (own' := [("room", 5)]) (t := (.v 5)) (by decide +kernel) (fun _ _ _ _ _ C1 => (pg_b C1 (by decide +kernel))) (fun L hL => (gok_vb (by decide) L hL)) (fun _ _ _ _ _ C1 => (pts_one (st_eq C1 (SOp.e (se_sumA C1 fr_sum (by decide +kernel) (SOp.e (se_ix C1 (SOp.v C1 (by decide +kernel)) (SOp.v C1 (by decide +kernel)) (fun _ _ => rfl))) rfl)) (SOp.e (se_int (g := g0 X.K) (W := W0)))))) (fun _ _ _ _ _ C1 => (se_v C1 (by decide +kernel))) (fun _ => rfl))
  (sss_cons (ss_if (st_ne C.toCn (SOp.v C.toCn h3) (SOp.e (se_lst (g := g0 X.K) (W := W) sa_nil))) (sss_cons (ss_ret (se_min1A C.toCn fr_min g_min (SOp.v C.toCn h3) rfl))
  sss_nil) sss_nil)
  (sss_cons (ss_setC C (by decide +kernel) (se_v C.toCn h2) (by decide) rfl)
  (sss_cons (ss_for (Ls := []) (t := (.v 5)) C.po C.calm (si_seq (se_v C.toCn h2)) (pg_f C (by decide +kernel)) (gok_v (by decide)) (sss_cons (ss_setC C (by decide +kernel) (se_call (dvs := []) (ds := []) C.tk (ok_26 T) (R.mono (by decide)) (gl_ok C.toCn g__law_rooms_from) T.m26 T.f26.kp (bind_26 T.f26) .nil (fun _ _ => .nil) (sa_consT (se_v C.toCn h0) (sa_consT (se_v C.toCn h1) (sa_consT (se_v C.toCn h5) sa_nil rfl) rfl) rfl) (by decide) rfl rfl) (by decide) rfl)
  (sss_cons (ss_setLcC C (by decide +kernel) rfl rfl (by decide +kernel) (by decide) (si_seq (se_v C.toCn h4)) (own' := [("goal", 7)]) (t := (.v 7)) (by decide +kernel) (fun _ _ _ _ _ C1 => (pg_b C1 (by decide +kernel))) (fun L hL => (gok_vb (by decide) L hL)) (fun _ _ _ _ _ C1 => (pts_one (st_in C1 (SOp.v C1 (by decide +kernel)) (SOp.v C1 (by decide +kernel)) rfl))) (fun _ _ _ _ _ C1 => (se_v C1 (by decide +kernel))) (fun _ => rfl))
  sss_nil)) (fun _ => rfl))
  (sss_cons (ss_ret (se_if (st_ne C.toCn (SOp.v C.toCn h4) (SOp.e (se_lst (g := g0 X.K) (W := W) sa_nil))) (se_non (g := g0 X.K) (W := W)) (se_len C.toCn fr_len g_len (SOp.v C.toCn h0) rfl)))
  sss_nil))))))
theorem ok_27 {P : Program} {w : World} {K : PySem.W.Frag} {mg : Str → Option Value} {base : Heap} {fd : Nat → FuncData} (T : Dn P w K mg fd) : FnOk P w K mg base (L2.CX P w) 2 (He.fAd K d27.at_) (fd 27) ["book", "source"] (Prom ⟨g0 K, K⟩ mask_27 c_27) :=
  fn_okC T.f27 S27 rfl (by decide) T.fr fun X W e1 e2 e3 e4 e5 R C => by
    subst e1 e2 e3 e4 e5
    exact b_27 C R T
/-! ### _law_due -/
abbrev N28 : List Str := ["book", "value", "room", "entry", "sign", "chance", "fault"]
abbrev mask_28 : List Bool := [false, false]
theorem S28 : FnScope N28 ["book", "value"] (defScope (top 28)) := ⟨rfl, rfl, rfl, by decide +kernel, rfl, by decide +kernel, by decide +kernel⟩
theorem bind_28 {K : PySem.W.Frag} {f : Addr} {fd : FuncData} (F : FunD K d28.name d28.qual d28.params d28.body d28.scope (d28.dvs K) (d28.kws K) f fd) : Binds K fd ["book", "value"] [] := FunD.bindsN F fun _ _ _ _ _ _ us hl => match us, hl with | [_, _], _ => rfl
def s_28_1 : MS := (mSeq (mIfS (mTOr (mTNot (mTru (.e (mCall c_22 mask_22 [] [.t (mV 5)])))) (mTOr (mOp2 (cmpD fun i j => decide (i < j)) (.v 5) (.e (mC (.int 0)))) (mTOr (mOp2 (cmpD fun i j => decide (j < i)) (.v 5) (.e (mC (.int 60)))) (mTAnd (mOp1 (fun d => some (.bl (isN d))) (.v 4)) (mOp2 neD (.v 5) (.e (mC (.int 0)))))))) (mSeq (mRet (mTup [.t (mC (.str "refused")), .t (mV 2)]))
  RS.nx) RS.nx)
  RS.nx)
def s_28_2 : MS := (mSeq (mAsg (.v 3) (mOp2 ixD (.v 1) (.v 2)))
  (mSeq (mIfS (mTOr (mTNot (mTru (.e (mOp1 (fun d => (isiD .tuple d).map .bl) (.v 3))))) (mOp2 neD (.e (mOp1 lenD (.v 3))) (.e (mOp1 lenD (.e (mOp2 ixD (.v 0) (.v 2))))))) (mSeq (mRet (mTup [.t (mC (.str "refused")), .t (mV 2)]))
  RS.nx) RS.nx)
  (mSeq (mFor [] (.t [(.v 4), (.v 5)]) (mZip2 (mOp2 ixD (.v 0) (.v 2)) (mV 3)) s_28_1)
  RS.nx)))
def m_28 : MS := (mSeq (mIfS (mTOr (mTNot (mTru (.e (mOp1 (fun d => (isiD .tuple d).map .bl) (.v 1))))) (mOp2 neD (.e (mOp1 lenD (.v 1))) (.e (mOp1 lenD (.v 0))))) (mSeq (mRet (mTup [.t (mC (.str "refused")), .t (mOp2 subD (.e (mC (.int 0))) (.e (mC (.int 1))))]))
  RS.nx) RS.nx)
  (mSeq (mFor [] (.v 2) (mRg1 (mOp1 lenD (.v 0))) s_28_2)
  (mSeq (mAsg (.v 6) (mCall c_27 mask_27 [] [.t (mV 0), .t (mV 1)]))
  (mSeq (mRet (mIf (mOp1 (fun d => some (.bl (isN d))) (.v 6)) (mTup [.t (mC (.str "told")), .t (mV 1)]) (mTup [.t (mC (.str "refused")), .t (mV 6)])))
  RS.nx))))
def c_28 : List D → RC := callF 7 mask_28 m_28
theorem b_28 {X : Cx} {W : WX} {fd : Nat → FuncData} (C : Cf X W N28 (defScope (top 28)) FR) (R : Room 2 X.A) (T : Dn X.prog X.w X.K X.mg fd) : SSs X (g0 X.K) W (lix 0 mask_28) (defBody (top 28)) m_28 := by
  have h0 : varB N28 (defScope (top 28)) 0 "book" = true := by decide +kernel
  have h1 : varB N28 (defScope (top 28)) 1 "value" = true := by decide +kernel
  have h2 : varB N28 (defScope (top 28)) 2 "room" = true := by decide +kernel
  have h3 : varB N28 (defScope (top 28)) 3 "entry" = true := by decide +kernel
  have h4 : varB N28 (defScope (top 28)) 4 "sign" = true := by decide +kernel
  have h5 : varB N28 (defScope (top 28)) 5 "chance" = true := by decide +kernel
  have h6 : varB N28 (defScope (top 28)) 6 "fault" = true := by decide +kernel
  have g__law_fault : glB (defScope (top 28)) "_law_fault" = true := by decide +kernel
  have g__law_is_number : glB (defScope (top 28)) "_law_is_number" = true := by decide +kernel
  have g_isinstance : glB (defScope (top 28)) "isinstance" = true := by decide +kernel
  have g_len : glB (defScope (top 28)) "len" = true := by decide +kernel
  have g_range : glB (defScope (top 28)) "range" = true := by decide +kernel
  have g_tuple : glB (defScope (top 28)) "tuple" = true := by decide +kernel
  have g_zip : glB (defScope (top 28)) "zip" = true := by decide +kernel
  unfold m_28
  exact (sss_cons (ss_if (st_bool (sw_or (st_not (st_tru (SOp.e (se_isi (T := .tuple) C.toCn fr_isinstance g_isinstance fr_tuple g_tuple (SOp.v C.toCn h1) rfl)) (fun _ => rfl))) (sw_or1 (st_ne C.toCn (SOp.e (se_len C.toCn fr_len g_len (SOp.v C.toCn h1) rfl)) (SOp.e (se_len C.toCn fr_len g_len (SOp.v C.toCn h0) rfl)))))) (sss_cons (ss_ret (se_tup (g := g0 X.K) (W := W) (sa_consT (se_str (g := g0 X.K) (W := W)) (sa_consT (se_sub (SOp.e (se_int (g := g0 X.K) (W := W))) (SOp.e (se_int (g := g0 X.K) (W := W)))) sa_nil rfl) rfl)))
  sss_nil) sss_nil)
  (sss_cons (ss_for (Ls := []) (t := (.v 2)) C.po C.calm (si_rg1 C.toCn fr_range g_range (se_len C.toCn fr_len g_len (SOp.v C.toCn h0) rfl) rfl) (pg_f C (by decide +kernel)) (gok_v (by decide)) (sss_cons (ss_setC C (by decide +kernel) (se_ix C.toCn (SOp.v C.toCn h1) (SOp.v C.toCn h2) (fun _ _ => rfl)) (by decide) rfl)
  (sss_cons (ss_if (st_bool (sw_or (st_not (st_tru (SOp.e (se_isi (T := .tuple) C.toCn fr_isinstance g_isinstance fr_tuple g_tuple (SOp.v C.toCn h3) rfl)) (fun _ => rfl))) (sw_or1 (st_ne C.toCn (SOp.e (se_len C.toCn fr_len g_len (SOp.v C.toCn h3) rfl)) (SOp.e (se_len C.toCn fr_len g_len (SOp.e (se_ix C.toCn (SOp.v C.toCn h0) (SOp.v C.toCn h2) (fun _ _ => rfl))) rfl)))))) (sss_cons (ss_ret (se_tup (g := g0 X.K) (W := W) (sa_consT (se_str (g := g0 X.K) (W := W)) (sa_consT (se_v C.toCn h2) sa_nil rfl) rfl)))
  sss_nil) sss_nil)
  (sss_cons (ss_for (Ls := []) (t := (.t [(.v 4), (.v 5)])) C.po C.calm (si_zip2 C.toCn fr_zip g_zip (se_ix C.toCn (SOp.v C.toCn h0) (SOp.v C.toCn h2) (fun _ _ => rfl)) (se_v C.toCn h3) rfl rfl rfl) (pg_tup C.toCn.calm (pgs_cons (pg_f C (by decide +kernel)) (pgs_cons (pg_f C (by decide +kernel)) pgs_nil))) (gok_t rfl rfl (gsok_cons (gok_v (by decide)) (gsok_cons (gok_v (by decide)) gsok_nil))) (sss_cons (ss_if (st_bool (sw_or (st_not (st_tru (SOp.e (se_call (dvs := []) (ds := []) C.tk (ok_22 T) (R.mono (by decide)) (gl_ok C.toCn g__law_is_number) T.m22 T.f22.kp (bind_22 T.f22) .nil (fun _ _ => .nil) (sa_consT (se_v C.toCn h5) sa_nil rfl) (by decide) rfl rfl)) (fun _ => rfl))) (sw_or (st_lt (SOp.v C.toCn h5) (SOp.e (se_int (g := g0 X.K) (W := W)))) (sw_or (st_gt (SOp.v C.toCn h5) (SOp.e (se_int (g := g0 X.K) (W := W)))) (sw_or1 (st_bool (sw_and (st_isN (SOp.v C.toCn h4)) (sw_and1 (st_ne C.toCn (SOp.v C.toCn h5) (SOp.e (se_int (g := g0 X.K) (W := W)))))))))))) (sss_cons (ss_ret (se_tup (g := g0 X.K) (W := W) (sa_consT (se_str (g := g0 X.K) (W := W)) (sa_consT (se_v C.toCn h2) sa_nil rfl) rfl)))
  sss_nil) sss_nil)
  sss_nil) (fun _ => rfl))
  sss_nil))) (fun _ => rfl))
  (sss_cons (ss_setC C (by decide +kernel) (se_call (dvs := []) (ds := []) C.tk (ok_27 T) (R.mono (by decide)) (gl_ok C.toCn g__law_fault) T.m27 T.f27.kp (bind_27 T.f27) .nil (fun _ _ => .nil) (sa_consT (se_v C.toCn h0) (sa_consT (se_v C.toCn h1) sa_nil rfl) rfl) (by decide) rfl rfl) (by decide) rfl)
  (sss_cons (ss_ret (se_if (st_isN (SOp.v C.toCn h6)) (se_tup (g := g0 X.K) (W := W) (sa_consT (se_str (g := g0 X.K) (W := W)) (sa_consT (se_v C.toCn h1) sa_nil rfl) rfl)) (se_tup (g := g0 X.K) (W := W) (sa_consT (se_str (g := g0 X.K) (W := W)) (sa_consT (se_v C.toCn h6) sa_nil rfl) rfl))))
  sss_nil))))
theorem ok_28 {P : Program} {w : World} {K : PySem.W.Frag} {mg : Str → Option Value} {base : Heap} {fd : Nat → FuncData} (T : Dn P w K mg fd) : FnOk P w K mg base (L2.CX P w) 3 (He.fAd K d28.at_) (fd 28) ["book", "value"] (Prom ⟨g0 K, K⟩ mask_28 c_28) :=
  fn_okC T.f28 S28 rfl (by decide) T.fr fun X W e1 e2 e3 e4 e5 R C => by
    subst e1 e2 e3 e4 e5
    exact b_28 C R T
/-! ### _law_asked -/
abbrev N29 : List Str := ["whole", "value", "e"]
abbrev mask_29 : List Bool := [false, false]
theorem S29 : FnScope N29 ["whole", "value"] (defScope (top 29)) := ⟨rfl, rfl, rfl, by decide +kernel, rfl, by decide +kernel, by decide +kernel⟩
theorem bind_29 {K : PySem.W.Frag} {f : Addr} {fd : FuncData} (F : FunD K d29.name d29.qual d29.params d29.body d29.scope (d29.dvs K) (d29.kws K) f fd) : Binds K fd ["whole", "value"] [] := FunD.bindsN F fun _ _ _ _ _ _ us hl => match us, hl with | [_, _], _ => rfl
def m_29 : MS := (mSeq (mTryS 2 cg_1 (fun c => decide (c = 1)) "refused" (mSeq (mRet (mTup [.t (mC (.str "told")), .t (mCall c_15 mask_15 [] [.t (mV 0), .t (mV 1)])]))
  RS.nx))
  RS.nx)
def c_29 : List D → RC := callF 3 mask_29 m_29
theorem b_29 {X : Cx} {W : WX} {fd : Nat → FuncData} (C : Cf X W N29 (defScope (top 29)) FR) (R : Room 6 X.A) (T : Dn X.prog X.w X.K X.mg fd) : SSs X (g0 X.K) W (lix 0 mask_29) (defBody (top 29)) m_29 := by
  have h0 : varB N29 (defScope (top 29)) 0 "whole" = true := by decide +kernel
  have h1 : varB N29 (defScope (top 29)) 1 "value" = true := by decide +kernel
  have g_BadSource : glB (defScope (top 29)) "BadSource" = true := by decide +kernel
  have g_check_source : glB (defScope (top 29)) "check_source" = true := by decide +kernel
  unfold m_29
  exact (sss_cons (ss_tryS (cc := 1) (cg := cg_1) (al := fun c => decide (c = 1)) C g_BadSource T.mx1 (by decide) (by decide +kernel) (by decide) (cg_ok_1 T) (fun pn xe W C => (sss_cons (ss_ret (se_tup (g := g0 X.K) (W := W) (sa_consT (se_str (g := g0 X.K) (W := W)) (sa_consT (se_call (dvs := []) (ds := []) C.tk (ok_15 T) (R.mono (by decide)) (gl_ok C.toCn g_check_source) T.m15 T.f15.kp (bind_15 T.f15) .nil (fun _ _ => .nil) (sa_consT (se_v C.toCn h0) (sa_consT (se_v C.toCn h1) sa_nil rfl) rfl) (by decide) rfl rfl) sa_nil rfl) rfl)))
  sss_nil)) (fun c a dd oe pn h1 h2 hz hf => by
    have h3 : c = 1 := by simpa using h2
    rcases h3 with rfl
    · exact (g_tell T.xf1 T.xo1 rfl hz hf (locL_ok C.toCn (i := 2) (by decide +kernel)).1 (.inl (locL_ok C.toCn (i := 2) (by decide +kernel)).2) (by decide) (by decide) rfl rfl rfl)
))
  sss_nil)
theorem ok_29 {P : Program} {w : World} {K : PySem.W.Frag} {mg : Str → Option Value} {base : Heap} {fd : Nat → FuncData} (T : Dn P w K mg fd) : FnOk P w K mg base (L2.CX P w) 7 (He.fAd K d29.at_) (fd 29) ["whole", "value"] (Prom ⟨g0 K, K⟩ mask_29 c_29) :=
  fn_okC T.f29 S29 rfl (by decide) T.fr fun X W e1 e2 e3 e4 e5 R C => by
    subst e1 e2 e3 e4 e5
    exact b_29 C R T
/-! ### _law_alike -/
abbrev N30 : List Str := ["told", "due"]
abbrev mask_30 : List Bool := [false, false]
theorem S30 : FnScope N30 ["told", "due"] (defScope (top 30)) := ⟨rfl, rfl, rfl, by decide +kernel, rfl, by decide +kernel, by decide +kernel⟩
theorem bind_30 {K : PySem.W.Frag} {f : Addr} {fd : FuncData} (F : FunD K d30.name d30.qual d30.params d30.body d30.scope (d30.dvs K) (d30.kws K) f fd) : Binds K fd ["told", "due"] [] := FunD.bindsN F fun _ _ _ _ _ _ us hl => match us, hl with | [_, _], _ => rfl
def m_30 : MS := (mSeq (mIfS (mOp2 neD (.e (mOp2 ixD (.v 0) (.e (mC (.int 0))))) (.e (mOp2 ixD (.v 1) (.e (mC (.int 0)))))) (mSeq (mRet (mC (.bl false)))
  RS.nx) RS.nx)
  (mSeq (mRet (mCall (c_19 40) mask_19 [] [.t (mOp2 ixD (.v 0) (.e (mC (.int 1)))), .t (mOp2 ixD (.v 1) (.e (mC (.int 1))))]))
  RS.nx))
def c_30 : List D → RC := callF 2 mask_30 m_30
theorem b_30 {X : Cx} {W : WX} {fd : Nat → FuncData} (C : Cf X W N30 (defScope (top 30)) FR) (R : Room 40 X.A) (T : Dn X.prog X.w X.K X.mg fd) : SSs X (g0 X.K) W (lix 0 mask_30) (defBody (top 30)) m_30 := by
  have h0 : varB N30 (defScope (top 30)) 0 "told" = true := by decide +kernel
  have h1 : varB N30 (defScope (top 30)) 1 "due" = true := by decide +kernel
  have g__law_same : glB (defScope (top 30)) "_law_same" = true := by decide +kernel
  unfold m_30
  exact (sss_cons (ss_if (st_ne C.toCn (SOp.e (se_ix C.toCn (SOp.v C.toCn h0) (SOp.e (se_int (g := g0 X.K) (W := W))) (fun _ _ => rfl))) (SOp.e (se_ix C.toCn (SOp.v C.toCn h1) (SOp.e (se_int (g := g0 X.K) (W := W))) (fun _ _ => rfl)))) (sss_cons (ss_ret (se_bl (g := g0 X.K) (W := W)))
  sss_nil) sss_nil)
  (sss_cons (ss_ret (se_call (dvs := []) (ds := []) C.tk (ok_19 T 40) (R.mono (by decide)) (gl_ok C.toCn g__law_same) T.m19 T.f19.kp (bind_19 T.f19) .nil (fun _ _ => .nil) (sa_consT (se_ix C.toCn (SOp.v C.toCn h0) (SOp.e (se_int (g := g0 X.K) (W := W))) (fun _ _ => rfl)) (sa_consT (se_ix C.toCn (SOp.v C.toCn h1) (SOp.e (se_int (g := g0 X.K) (W := W))) (fun _ _ => rfl)) sa_nil rfl) rfl) (by decide) rfl rfl))
  sss_nil))
theorem ok_30 {P : Program} {w : World} {K : PySem.W.Frag} {mg : Str → Option Value} {base : Heap} {fd : Nat → FuncData} (T : Dn P w K mg fd) : FnOk P w K mg base (L2.CX P w) 41 (He.fAd K d30.at_) (fd 30) ["told", "due"] (Prom ⟨g0 K, K⟩ mask_30 c_30) :=
  fn_okC T.f30 S30 rfl (by decide) T.fr fun X W e1 e2 e3 e4 e5 R C => by
    subst e1 e2 e3 e4 e5
    exact b_30 C R T
/-! ### _law_put -/
abbrev N31 : List Str := ["row", "at", "more"]
abbrev mask_31 : List Bool := [false, false, false]
theorem S31 : FnScope N31 ["row", "at", "more"] (defScope (top 31)) := ⟨rfl, rfl, rfl, by decide +kernel, rfl, by decide +kernel, by decide +kernel⟩
theorem bind_31 {K : PySem.W.Frag} {f : Addr} {fd : FuncData} (F : FunD K d31.name d31.qual d31.params d31.body d31.scope (d31.dvs K) (d31.kws K) f fd) : Binds K fd ["row", "at", "more"] [] := FunD.bindsN F fun _ _ _ _ _ _ us hl => match us, hl with | [_, _, _], _ => rfl
def m_31 : MS := (mSeq (mRet (mOp2 addD (.e (mOp2 addD (.e (mSl (mV 0) none (some (mV 1)))) (.e (mTup [.t (mV 2)])))) (.e (mSl (mV 0) (some (mOp2 addD (.v 1) (.e (mC (.int 1))))) none))))
  RS.nx)
def c_31 : List D → RC := callF 3 mask_31 m_31
theorem b_31 {X : Cx} {W : WX} {fd : Nat → FuncData} (C : Cf X W N31 (defScope (top 31)) FR) (R : Room 0 X.A) (T : Dn X.prog X.w X.K X.mg fd) : SSs X (g0 X.K) W (lix 0 mask_31) (defBody (top 31)) m_31 := by
  have h0 : varB N31 (defScope (top 31)) 0 "row" = true := by decide +kernel
  have h1 : varB N31 (defScope (top 31)) 1 "at" = true := by decide +kernel
  have h2 : varB N31 (defScope (top 31)) 2 "more" = true := by decide +kernel
  unfold m_31
  exact (sss_cons (ss_ret (se_add (SOp.e (se_add (SOp.e (se_slice (se_v C.toCn h0) po_n (po_s (se_v C.toCn h1)))) (SOp.e (se_tup (g := g0 X.K) (W := W) (sa_consT (se_v C.toCn h2) sa_nil rfl))))) (SOp.e (se_slice (se_v C.toCn h0) (po_s (se_add (SOp.v C.toCn h1) (SOp.e (se_int (g := g0 X.K) (W := W))))) po_n))))
  sss_nil)
theorem ok_31 {P : Program} {w : World} {K : PySem.W.Frag} {mg : Str → Option Value} {base : Heap} {fd : Nat → FuncData} (T : Dn P w K mg fd) : FnOk P w K mg base (L2.CX P w) 1 (He.fAd K d31.at_) (fd 31) ["row", "at", "more"] (Prom ⟨g0 K, K⟩ mask_31 c_31) :=
  fn_okC T.f31 S31 rfl (by decide) T.fr fun X W e1 e2 e3 e4 e5 R C => by
    subst e1 e2 e3 e4 e5
    exact b_31 C R T
/-! ### _law_bent -/
abbrev N32 : List Str := ["box", "book", "value", "many", "signs", "room", "sign", "row", "odd", "found", "entry", "chance", "twice", "one"]
abbrev mask_32 : List Bool := [true, false, false]
theorem S32 : FnScope N32 ["box", "book", "value"] (defScope (top 32)) := ⟨rfl, rfl, rfl, by decide +kernel, rfl, by decide +kernel, by decide +kernel⟩
theorem bind_32 {K : PySem.W.Frag} {f : Addr} {fd : FuncData} (F : FunD K d32.name d32.qual d32.params d32.body d32.scope (d32.dvs K) (d32.kws K) f fd) : Binds K fd ["box", "book", "value"] [] := FunD.bindsN F fun _ _ _ _ _ _ us hl => match us, hl with | [_, _, _], _ => rfl
def q_32_1 : ME := (mC (.int 0))
def q_32_2 : ME := (mIf (mOp2 eqD (.v 13) (.v 6)) (mC (.int 1)) (mC (.int 0)))
def q_32_3 : ME := (mIf (mOp2 eqD (.v 13) (.v 6)) (mC (.int 1)) (mC (.int 0)))
def q_32_4 : ME := (mC (.int 0))
def s_32_5 : MS := (mSeq (mExpr (mApp 9 (mFz (mCall c_31 mask_31 [] [.t (mV 2), .t (mV 5), .t (mCall c_31 mask_31 [] [.t (mV 7), .t (mV 6), .t (mV 11)])]))))
  RS.nx)
def s_32_6 : MS := (mSeq (mExpr (mApp 9 (mFz (mCall c_31 mask_31 [] [.t (mV 2), .t (mV 5), .t (mV 10)]))))
  RS.nx)
def m_32 : MS := (mSeq (mPar [3, 4] [.t (mOp1 lenD (.v 1)), .t (mOp1 lenD (.e (mOp2 ixD (.v 1) (.e (mC (.int 0))))))])
  (mSeq (mAsg (.t [(.v 5), (.v 6)]) (mTup [.t (mCall c_17 mask_17 [] [.l 0, .t (mV 3)]), .t (mCall c_17 mask_17 [] [.l 0, .t (mV 4)])]))
  (mSeq (mAsg (.v 7) (mOp2 ixD (.v 2) (.v 5)))
  (mSeq (mAsg (.v 8) (mLst [.t (mC .non), .t (mC (.bl true)), .t (mC (.bl false)), .t (mC (.int 61)), .t (mOp2 subD (.e (mC (.int 0))) (.e (mC (.int 1)))), .t (mOp2 powD (.e (mC (.int 10))) (.e (mC (.int 30)))), .t (mC (.str "1")), .t (mTup [.t (mC (.int 1))]), .t (mFz (mLst [.t (mC (.int 1))])), .t (mC (.int 60)), .t (mC (.int 0))]))
  (mSeq (mAsg (.v 9) (mLst [.t (mFz (mOp1 listD (.v 2))), .t (mOp2 addD (.v 2) (.e (mTup [.t (mV 7)]))), .t (mSl (mV 2) none (some (mOp2 subD (.v 3) (.e (mC (.int 1)))))), .t (mV 7), .t (mC .non), .t (mTup []), .t (mC (.str "source")), .t (mTup [.t (mV 2)]), .t (mC (.int 7))]))
  (mSeq (mFor [] (.v 10) (mIt (mLst [.t (mFz (mOp1 listD (.v 7))), .t (mOp2 addD (.v 7) (.e (mTup [.t (mC (.int 0))]))), .t (mSl (mV 7) none (some (mOp2 subD (.v 4) (.e (mC (.int 1)))))), .t (mC .non), .t (mC (.int 3)), .t (mC (.str "row")), .t (mTup [.t (mV 7)]), .t (mTup [])])) s_32_6)
  (mSeq (mFor [] (.v 11) (mIt (mV 8)) s_32_5)
  (mSeq (mExpr (mApp 9 (mFz (mCall c_31 mask_31 [] [.t (mV 2), .t (mV 5), .t (mOp1 tupleD (.e (mLc [13] (.v 13) (mIt (mV 7)) mTrue q_32_4)))]))))
  (mSeq (mExpr (mApp 9 (mFz (mCall c_31 mask_31 [] [.t (mV 2), .t (mV 5), .t (mOp1 tupleD (.e (mLc [13] (.v 13) (mRg1 (mV 4)) mTrue q_32_3)))]))))
  (mSeq (mExpr (mApp 9 (mFz (mCall c_31 mask_31 [] [.t (mV 2), .t (mC (.int 0)), .t (mOp1 tupleD (.e (mLc [13] (.v 13) (mRg1 (mV 4)) mTrue q_32_2)))]))))
  (mSeq (mAsg (.v 12) (mCall c_31 mask_31 [] [.t (mV 2), .t (mOp2 subD (.v 3) (.e (mC (.int 1)))), .t (mCall c_31 mask_31 [] [.t (mOp2 ixD (.v 2) (.e (mOp2 subD (.v 3) (.e (mC (.int 1)))))), .t (mC (.int 0)), .t (mC (.int 61))])]))
  (mSeq (mExpr (mApp 9 (mFz (mCall c_31 mask_31 [] [.t (mV 12), .t (mV 5), .t (mOp1 tupleD (.e (mLc [13] (.v 13) (mIt (mV 7)) mTrue q_32_1)))]))))
  (mSeq (mExpr (mApp 9 (mFz (mCall c_31 mask_31 [] [.t (mV 12), .t (mV 5), .t (mCall c_31 mask_31 [] [.t (mV 7), .t (mV 6), .t (mOp2 subD (.e (mC (.int 0))) (.e (mC (.int 2))))])]))))
  (mSeq (mRet (mMv 9))
  RS.nx))))))))))))))
def c_32 : List D → RC := callF 14 mask_32 m_32
theorem b_32 {X : Cx} {W : WX} {fd : Nat → FuncData} (C : Cf X W N32 (defScope (top 32)) FR) (R : Room 1 X.A) (T : Dn X.prog X.w X.K X.mg fd) : SSs X (g0 X.K) W (lix 0 mask_32) (defBody (top 32)) m_32 := by
  have h0 : varB N32 (defScope (top 32)) 0 "box" = true := by decide +kernel
  have h1 : varB N32 (defScope (top 32)) 1 "book" = true := by decide +kernel
  have h2 : varB N32 (defScope (top 32)) 2 "value" = true := by decide +kernel
  have h3 : varB N32 (defScope (top 32)) 3 "many" = true := by decide +kernel
  have h4 : varB N32 (defScope (top 32)) 4 "signs" = true := by decide +kernel
  have h5 : varB N32 (defScope (top 32)) 5 "room" = true := by decide +kernel
  have h6 : varB N32 (defScope (top 32)) 6 "sign" = true := by decide +kernel
  have h7 : varB N32 (defScope (top 32)) 7 "row" = true := by decide +kernel
  have h8 : varB N32 (defScope (top 32)) 8 "odd" = true := by decide +kernel
  have h9 : varB N32 (defScope (top 32)) 9 "found" = true := by decide +kernel
  have h10 : varB N32 (defScope (top 32)) 10 "entry" = true := by decide +kernel
  have h11 : varB N32 (defScope (top 32)) 11 "chance" = true := by decide +kernel
  have h12 : varB N32 (defScope (top 32)) 12 "twice" = true := by decide +kernel
  have g__law_put : glB (defScope (top 32)) "_law_put" = true := by decide +kernel
  have g__law_take : glB (defScope (top 32)) "_law_take" = true := by decide +kernel
  have g_len : glB (defScope (top 32)) "len" = true := by decide +kernel
  have g_list : glB (defScope (top 32)) "list" = true := by decide +kernel
  have g_range : glB (defScope (top 32)) "range" = true := by decide +kernel
  have g_tuple : glB (defScope (top 32)) "tuple" = true := by decide +kernel
  unfold m_32
  exact (sss_cons (ss_parC C (by decide +kernel) (by decide +kernel) (by decide) (sa_consT (se_len C.toCn fr_len g_len (SOp.v C.toCn h1) rfl) (sa_consT (se_len C.toCn fr_len g_len (SOp.e (se_ix C.toCn (SOp.v C.toCn h1) (SOp.e (se_int (g := g0 X.K) (W := W))) (fun _ _ => rfl))) rfl) sa_nil rfl) rfl) (by kernel_rfl) (by decide))
  (sss_cons (ss_asgC C (se_tup (g := g0 X.K) (W := W) (sa_consT (se_call (dvs := []) (ds := []) C.tk (ok_17 T) (R.mono (by decide)) (gl_ok C.toCn g__law_take) T.m17 T.f17.kp (bind_17 T.f17) .nil (fun _ _ => .nil) (sa_consL (pv_ok C.toCn h0) (sa_consT (se_v C.toCn h3) sa_nil rfl) rfl) (by decide) rfl rfl) (sa_consT (se_call (dvs := []) (ds := []) C.tk (ok_17 T) (R.mono (by decide)) (gl_ok C.toCn g__law_take) T.m17 T.f17.kp (bind_17 T.f17) .nil (fun _ _ => .nil) (sa_consL (pv_ok C.toCn h0) (sa_consT (se_v C.toCn h4) sa_nil rfl) rfl) (by decide) rfl rfl) sa_nil rfl) rfl)) (pg_tup C.toCn.calm (pgs_cons (pg_f C (by decide +kernel)) (pgs_cons (pg_f C (by decide +kernel)) pgs_nil))) (gok_t rfl rfl (gsok_cons (gok_v (by decide)) (gsok_cons (gok_v (by decide)) gsok_nil))) rfl (by kernel_rfl) rfl)
  (sss_cons (ss_setC C (by decide +kernel) (se_ix C.toCn (SOp.v C.toCn h2) (SOp.v C.toCn h5) (fun _ _ => rfl)) (by decide) rfl)
  (sss_cons (ss_setC C (by decide +kernel) (se_lst (g := g0 X.K) (W := W) (sa_consT (se_non (g := g0 X.K) (W := W)) (sa_consT (se_bl (g := g0 X.K) (W := W)) (sa_consT (se_bl (g := g0 X.K) (W := W)) (sa_consT (se_int (g := g0 X.K) (W := W)) (sa_consT (se_sub (SOp.e (se_int (g := g0 X.K) (W := W))) (SOp.e (se_int (g := g0 X.K) (W := W)))) (sa_consT (se_pow (SOp.e (se_int (g := g0 X.K) (W := W))) (SOp.e (se_int (g := g0 X.K) (W := W)))) (sa_consT (se_str (g := g0 X.K) (W := W)) (sa_consT (se_tup (g := g0 X.K) (W := W) (sa_consT (se_int (g := g0 X.K) (W := W)) sa_nil rfl)) (sa_consT (se_fz (se_lst (g := g0 X.K) (W := W) (sa_consT (se_int (g := g0 X.K) (W := W)) sa_nil rfl))) (sa_consT (se_int (g := g0 X.K) (W := W)) (sa_consT (se_int (g := g0 X.K) (W := W)) sa_nil rfl) rfl) rfl) rfl) rfl) rfl) rfl) rfl) rfl) rfl) rfl)) (by decide) rfl)
  (sss_cons (ss_setC C (by decide +kernel) (se_lst (g := g0 X.K) (W := W) (sa_consT (se_fz (se_list C.toCn fr_list g_list (SOp.v C.toCn h2) rfl)) (sa_consT (se_add (SOp.v C.toCn h2) (SOp.e (se_tup (g := g0 X.K) (W := W) (sa_consT (se_v C.toCn h7) sa_nil rfl)))) (sa_consT (se_slice (se_v C.toCn h2) po_n (po_s (se_sub (SOp.v C.toCn h3) (SOp.e (se_int (g := g0 X.K) (W := W)))))) (sa_consT (se_v C.toCn h7) (sa_consT (se_non (g := g0 X.K) (W := W)) (sa_consT (se_tup (g := g0 X.K) (W := W) sa_nil) (sa_consT (se_str (g := g0 X.K) (W := W)) (sa_consT (se_tup (g := g0 X.K) (W := W) (sa_consT (se_v C.toCn h2) sa_nil rfl)) (sa_consT (se_int (g := g0 X.K) (W := W)) sa_nil rfl) rfl) rfl) rfl) rfl) rfl) rfl) rfl) rfl)) (by decide) rfl)
  (sss_cons (ss_for (Ls := []) (t := (.v 10)) C.po C.calm (si_seq (se_lst (g := g0 X.K) (W := W) (sa_consT (se_fz (se_list C.toCn fr_list g_list (SOp.v C.toCn h7) rfl)) (sa_consT (se_add (SOp.v C.toCn h7) (SOp.e (se_tup (g := g0 X.K) (W := W) (sa_consT (se_int (g := g0 X.K) (W := W)) sa_nil rfl)))) (sa_consT (se_slice (se_v C.toCn h7) po_n (po_s (se_sub (SOp.v C.toCn h4) (SOp.e (se_int (g := g0 X.K) (W := W)))))) (sa_consT (se_non (g := g0 X.K) (W := W)) (sa_consT (se_int (g := g0 X.K) (W := W)) (sa_consT (se_str (g := g0 X.K) (W := W)) (sa_consT (se_tup (g := g0 X.K) (W := W) (sa_consT (se_v C.toCn h7) sa_nil rfl)) (sa_consT (se_tup (g := g0 X.K) (W := W) sa_nil) sa_nil rfl) rfl) rfl) rfl) rfl) rfl) rfl) rfl))) (pg_f C (by decide +kernel)) (gok_v (by decide)) (sss_cons (ss_expr (se_app C.toCn h9 (se_fz (se_call (dvs := []) (ds := []) C.tk (ok_31 T) (R.mono (by decide)) (gl_ok C.toCn g__law_put) T.m31 T.f31.kp (bind_31 T.f31) .nil (fun _ _ => .nil) (sa_consT (se_v C.toCn h2) (sa_consT (se_v C.toCn h5) (sa_consT (se_v C.toCn h10) sa_nil rfl) rfl) rfl) (by decide) rfl rfl)) rfl rfl) rfl)
  sss_nil) (fun _ => rfl))
  (sss_cons (ss_for (Ls := []) (t := (.v 11)) C.po C.calm (si_seq (se_v C.toCn h8)) (pg_f C (by decide +kernel)) (gok_v (by decide)) (sss_cons (ss_expr (se_app C.toCn h9 (se_fz (se_call (dvs := []) (ds := []) C.tk (ok_31 T) (R.mono (by decide)) (gl_ok C.toCn g__law_put) T.m31 T.f31.kp (bind_31 T.f31) .nil (fun _ _ => .nil) (sa_consT (se_v C.toCn h2) (sa_consT (se_v C.toCn h5) (sa_consT (se_call (dvs := []) (ds := []) C.tk (ok_31 T) (R.mono (by decide)) (gl_ok C.toCn g__law_put) T.m31 T.f31.kp (bind_31 T.f31) .nil (fun _ _ => .nil) (sa_consT (se_v C.toCn h7) (sa_consT (se_v C.toCn h6) (sa_consT (se_v C.toCn h11) sa_nil rfl) rfl) rfl) (by decide) rfl rfl) sa_nil rfl) rfl) rfl) (by decide) rfl rfl)) rfl rfl) rfl)
  sss_nil) (fun _ => rfl))
  (sss_cons (ss_expr (se_app C.toCn h9 (se_fz (se_call (dvs := []) (ds := []) C.tk (ok_31 T) (R.mono (by decide)) (gl_ok C.toCn g__law_put) T.m31 T.f31.kp (bind_31 T.f31) .nil (fun _ _ => .nil) (sa_consT (se_v C.toCn h2) (sa_consT (se_v C.toCn h5) (sa_consT (se_tuple C.toCn fr_tuple g_tuple (SOp.e (se_lcC (own' := [("one", 13)]) (t := (.v 13)) C.toCn (si_seq (se_v C.toCn h7)) (by decide +kernel) (fun _ _ _ _ _ C1 => (pg_b C1 (by decide +kernel))) (fun L hL => (gok_vb (by decide) L hL)) (fun _ _ _ _ _ C1 => (pts_true pts_nil)) (fun _ _ _ _ _ C1 => (se_int (g := g0 X.K) (W := W0))) (fun _ => rfl))) rfl) sa_nil rfl) rfl) rfl) (by decide) rfl rfl)) rfl rfl) rfl)
  (sss_cons (ss_expr (se_app C.toCn h9 (se_fz (se_call (dvs := []) (ds := []) C.tk (ok_31 T) (R.mono (by decide)) (gl_ok C.toCn g__law_put) T.m31 T.f31.kp (bind_31 T.f31) .nil (fun _ _ => .nil) (sa_consT (se_v C.toCn h2) (sa_consT (se_v C.toCn h5) (sa_consT (se_tuple C.toCn fr_tuple g_tuple (SOp.e (se_lcC (own' := [("one", 13)]) (t := (.v 13)) C.toCn (si_rg1 C.toCn fr_range g_range (se_v C.toCn h4) rfl) (by decide +kernel) (fun _ _ _ _ _ C1 => (pg_b C1 (by decide +kernel))) (fun L hL => (gok_vb (by decide) L hL)) (fun _ _ _ _ _ C1 => (pts_true pts_nil)) (fun _ _ _ _ _ C1 => (se_if (st_eq C1 (SOp.v C1 (by decide +kernel)) (SOp.v C1 (by decide +kernel))) (se_int (g := g0 X.K) (W := W0)) (se_int (g := g0 X.K) (W := W0)))) (fun _ => rfl))) rfl) sa_nil rfl) rfl) rfl) (by decide) rfl rfl)) rfl rfl) rfl)
  (sss_cons (ss_expr (se_app C.toCn h9 (se_fz (se_call (dvs := []) (ds := []) C.tk (ok_31 T) (R.mono (by decide)) (gl_ok C.toCn g__law_put) T.m31 T.f31.kp (bind_31 T.f31) .nil (fun _ _ => .nil) (sa_consT (se_v C.toCn h2) (sa_consT (se_int (g := g0 X.K) (W := W)) (sa_consT (se_tuple C.toCn fr_tuple g_tuple (SOp.e (se_lcC (own' := [("one", 13)]) (t := (.v 13)) C.toCn (si_rg1 C.toCn fr_range g_range (se_v C.toCn h4) rfl) (by decide +kernel) (fun _ _ _ _ _ C1 => (pg_b C1 (by decide +kernel))) (fun L hL => (gok_vb (by decide) L hL)) (fun _ _ _ _ _ C1 => (pts_true pts_nil)) (fun _ _ _ _ _ C1 => (se_if (st_eq C1 (SOp.v C1 (by decide +kernel)) (SOp.v C1 (by decide +kernel))) (se_int (g := g0 X.K) (W := W0)) (se_int (g := g0 X.K) (W := W0)))) (fun _ => rfl))) rfl) sa_nil rfl) rfl) rfl) (by decide) rfl rfl)) rfl rfl) rfl)
  (sss_cons (ss_setC C (by decide +kernel) (se_call (dvs := []) (ds := []) C.tk (ok_31 T) (R.mono (by decide)) (gl_ok C.toCn g__law_put) T.m31 T.f31.kp (bind_31 T.f31) .nil (fun _ _ => .nil) (sa_consT (se_v C.toCn h2) (sa_consT (se_sub (SOp.v C.toCn h3) (SOp.e (se_int (g := g0 X.K) (W := W)))) (sa_consT (se_call (dvs := []) (ds := []) C.tk (ok_31 T) (R.mono (by decide)) (gl_ok C.toCn g__law_put) T.m31 T.f31.kp (bind_31 T.f31) .nil (fun _ _ => .nil) (sa_consT (se_ix C.toCn (SOp.v C.toCn h2) (SOp.e (se_sub (SOp.v C.toCn h3) (SOp.e (se_int (g := g0 X.K) (W := W))))) (fun _ _ => rfl)) (sa_consT (se_int (g := g0 X.K) (W := W)) (sa_consT (se_int (g := g0 X.K) (W := W)) sa_nil rfl) rfl) rfl) (by decide) rfl rfl) sa_nil rfl) rfl) rfl) (by decide) rfl rfl) (by decide) rfl)
  (sss_cons (ss_expr (se_app C.toCn h9 (se_fz (se_call (dvs := []) (ds := []) C.tk (ok_31 T) (R.mono (by decide)) (gl_ok C.toCn g__law_put) T.m31 T.f31.kp (bind_31 T.f31) .nil (fun _ _ => .nil) (sa_consT (se_v C.toCn h12) (sa_consT (se_v C.toCn h5) (sa_consT (se_tuple C.toCn fr_tuple g_tuple (SOp.e (se_lcC (own' := [("one", 13)]) (t := (.v 13)) C.toCn (si_seq (se_v C.toCn h7)) (by decide +kernel) (fun _ _ _ _ _ C1 => (pg_b C1 (by decide +kernel))) (fun L hL => (gok_vb (by decide) L hL)) (fun _ _ _ _ _ C1 => (pts_true pts_nil)) (fun _ _ _ _ _ C1 => (se_int (g := g0 X.K) (W := W0))) (fun _ => rfl))) rfl) sa_nil rfl) rfl) rfl) (by decide) rfl rfl)) rfl rfl) rfl)
  (sss_cons (ss_expr (se_app C.toCn h9 (se_fz (se_call (dvs := []) (ds := []) C.tk (ok_31 T) (R.mono (by decide)) (gl_ok C.toCn g__law_put) T.m31 T.f31.kp (bind_31 T.f31) .nil (fun _ _ => .nil) (sa_consT (se_v C.toCn h12) (sa_consT (se_v C.toCn h5) (sa_consT (se_call (dvs := []) (ds := []) C.tk (ok_31 T) (R.mono (by decide)) (gl_ok C.toCn g__law_put) T.m31 T.f31.kp (bind_31 T.f31) .nil (fun _ _ => .nil) (sa_consT (se_v C.toCn h7) (sa_consT (se_v C.toCn h6) (sa_consT (se_sub (SOp.e (se_int (g := g0 X.K) (W := W))) (SOp.e (se_int (g := g0 X.K) (W := W)))) sa_nil rfl) rfl) rfl) (by decide) rfl rfl) sa_nil rfl) rfl) rfl) (by decide) rfl rfl)) rfl rfl) rfl)
  (sss_cons (ss_ret (se_mv C.toCn h9))
  sss_nil))))))))))))))
theorem ok_32 {P : Program} {w : World} {K : PySem.W.Frag} {mg : Str → Option Value} {base : Heap} {fd : Nat → FuncData} (T : Dn P w K mg fd) : FnOk P w K mg base (L2.CX P w) 2 (He.fAd K d32.at_) (fd 32) ["box", "book", "value"] (Prom ⟨g0 K, K⟩ mask_32 c_32) :=
  fn_okC T.f32 S32 rfl (by decide) T.fr fun X W e1 e2 e3 e4 e5 R C => by
    subst e1 e2 e3 e4 e5
    exact b_32 C R T
/-! ### _law_whole -/
abbrev N33 : List Str := ["box", "book", "service"]
abbrev mask_33 : List Bool := [true, false]
theorem S33 : FnScope N33 ["box", "book"] (defScope (top 33)) := ⟨rfl, rfl, rfl, by decide +kernel, rfl, by decide +kernel, by decide +kernel⟩
theorem bind_33 {K : PySem.W.Frag} {f : Addr} {fd : FuncData} (F : FunD K d33.name d33.qual d33.params d33.body d33.scope (d33.dvs K) (d33.kws K) f fd) : Binds K fd ["box", "book"] [] := FunD.bindsN F fun _ _ _ _ _ _ us hl => match us, hl with | [_, _], _ => rfl
def m_33 : MS := (mSeq (mAsg (.v 2) (mCall c_21 mask_21 [] [.l 0, .t (mOp2 addD (.e (mC (.int 1))) (.e (mCall c_17 mask_17 [] [.l 0, .t (mC (.int 3))]))), .t (mC (.int 6)), .t (mC (.int 3)), .t (mC (.int 9))]))
  (mSeq (mRet (mTup [.t (mV 2), .t (mCall c_21 mask_21 [] [.l 0, .t (mOp2 addD (.e (mC (.int 1))) (.e (mCall c_17 mask_17 [] [.l 0, .t (mC (.int 2))]))), .t (mC (.int 6)), .t (mC (.int 60)), .t (mC (.int 9))]), .t (mV 1)]))
  RS.nx))
def c_33 : List D → RC := callF 3 mask_33 m_33
theorem b_33 {X : Cx} {W : WX} {fd : Nat → FuncData} (C : Cf X W N33 (defScope (top 33)) FR) (R : Room 3 X.A) (T : Dn X.prog X.w X.K X.mg fd) : SSs X (g0 X.K) W (lix 0 mask_33) (defBody (top 33)) m_33 := by
  have h0 : varB N33 (defScope (top 33)) 0 "box" = true := by decide +kernel
  have h1 : varB N33 (defScope (top 33)) 1 "book" = true := by decide +kernel
  have h2 : varB N33 (defScope (top 33)) 2 "service" = true := by decide +kernel
  have g__law_service : glB (defScope (top 33)) "_law_service" = true := by decide +kernel
  have g__law_take : glB (defScope (top 33)) "_law_take" = true := by decide +kernel
  unfold m_33
  exact (sss_cons (ss_setC C (by decide +kernel) (se_call (dvs := []) (ds := []) C.tk (ok_21 T) (R.mono (by decide)) (gl_ok C.toCn g__law_service) T.m21 T.f21.kp (bind_21 T.f21) .nil (fun _ _ => .nil) (sa_consL (pv_ok C.toCn h0) (sa_consT (se_add (SOp.e (se_int (g := g0 X.K) (W := W))) (SOp.e (se_call (dvs := []) (ds := []) C.tk (ok_17 T) (R.mono (by decide)) (gl_ok C.toCn g__law_take) T.m17 T.f17.kp (bind_17 T.f17) .nil (fun _ _ => .nil) (sa_consL (pv_ok C.toCn h0) (sa_consT (se_int (g := g0 X.K) (W := W)) sa_nil rfl) rfl) (by decide) rfl rfl))) (sa_consT (se_int (g := g0 X.K) (W := W)) (sa_consT (se_int (g := g0 X.K) (W := W)) (sa_consT (se_int (g := g0 X.K) (W := W)) sa_nil rfl) rfl) rfl) rfl) rfl) (by decide) rfl rfl) (by decide) rfl)
  (sss_cons (ss_ret (se_tup (g := g0 X.K) (W := W) (sa_consT (se_v C.toCn h2) (sa_consT (se_call (dvs := []) (ds := []) C.tk (ok_21 T) (R.mono (by decide)) (gl_ok C.toCn g__law_service) T.m21 T.f21.kp (bind_21 T.f21) .nil (fun _ _ => .nil) (sa_consL (pv_ok C.toCn h0) (sa_consT (se_add (SOp.e (se_int (g := g0 X.K) (W := W))) (SOp.e (se_call (dvs := []) (ds := []) C.tk (ok_17 T) (R.mono (by decide)) (gl_ok C.toCn g__law_take) T.m17 T.f17.kp (bind_17 T.f17) .nil (fun _ _ => .nil) (sa_consL (pv_ok C.toCn h0) (sa_consT (se_int (g := g0 X.K) (W := W)) sa_nil rfl) rfl) (by decide) rfl rfl))) (sa_consT (se_int (g := g0 X.K) (W := W)) (sa_consT (se_int (g := g0 X.K) (W := W)) (sa_consT (se_int (g := g0 X.K) (W := W)) sa_nil rfl) rfl) rfl) rfl) rfl) (by decide) rfl rfl) (sa_consT (se_v C.toCn h1) sa_nil rfl) rfl) rfl)))
  sss_nil))
theorem ok_33 {P : Program} {w : World} {K : PySem.W.Frag} {mg : Str → Option Value} {base : Heap} {fd : Nat → FuncData} (T : Dn P w K mg fd) : FnOk P w K mg base (L2.CX P w) 4 (He.fAd K d33.at_) (fd 33) ["box", "book"] (Prom ⟨g0 K, K⟩ mask_33 c_33) :=
  fn_okC T.f33 S33 rfl (by decide) T.fr fun X W e1 e2 e3 e4 e5 R C => by
    subst e1 e2 e3 e4 e5
    exact b_33 C R T
/-! ### _law_book_of -/
abbrev N34 : List Str := ["box", "rooms"]
abbrev mask_34 : List Bool := [true]
theorem S34 : FnScope N34 ["box"] (defScope (top 34)) := ⟨rfl, rfl, rfl, by decide +kernel, rfl, by decide +kernel, by decide +kernel⟩
theorem bind_34 {K : PySem.W.Frag} {f : Addr} {fd : FuncData} (F : FunD K d34.name d34.qual d34.params d34.body d34.scope (d34.dvs K) (d34.kws K) f fd) : Binds K fd ["box"] [] := FunD.bindsN F fun _ _ _ _ _ _ us hl => match us, hl with | [_], _ => rfl
def m_34 : MS := (mSeq (mAsg (.v 1) (mCall c_18 mask_18 [] [.l 0, .t (mLst [.t (mC (.int 1)), .t (mC (.int 2)), .t (mC (.int 3)), .t (mC (.int 3)), .t (mC (.int 4)), .t (mFz (mOp2 addD (.e (mC (.int 1))) (.e (mCall c_17 mask_17 [] [.l 0, .t (mC (.int 12))]))))])]))
  (mSeq (mRet (mCall c_24 mask_24 [] [.l 0, .t (mV 1), .t (mOp2 addD (.e (mC (.int 1))) (.e (mCall c_17 mask_17 [] [.l 0, .t (mC (.int 6))]))), .t (mC (.int 6)), .t (mC (.int 9))]))
  RS.nx))
def c_34 : List D → RC := callF 2 mask_34 m_34
theorem b_34 {X : Cx} {W : WX} {fd : Nat → FuncData} (C : Cf X W N34 (defScope (top 34)) FR) (R : Room 3 X.A) (T : Dn X.prog X.w X.K X.mg fd) : SSs X (g0 X.K) W (lix 0 mask_34) (defBody (top 34)) m_34 := by
  have h0 : varB N34 (defScope (top 34)) 0 "box" = true := by decide +kernel
  have h1 : varB N34 (defScope (top 34)) 1 "rooms" = true := by decide +kernel
  have g__law_led : glB (defScope (top 34)) "_law_led" = true := by decide +kernel
  have g__law_pick : glB (defScope (top 34)) "_law_pick" = true := by decide +kernel
  have g__law_take : glB (defScope (top 34)) "_law_take" = true := by decide +kernel
  unfold m_34
  exact (sss_cons (ss_setC C (by decide +kernel) (se_call (dvs := []) (ds := []) C.tk (ok_18 T) (R.mono (by decide)) (gl_ok C.toCn g__law_pick) T.m18 T.f18.kp (bind_18 T.f18) .nil (fun _ _ => .nil) (sa_consL (pv_ok C.toCn h0) (sa_consT (se_lst (g := g0 X.K) (W := W) (sa_consT (se_int (g := g0 X.K) (W := W)) (sa_consT (se_int (g := g0 X.K) (W := W)) (sa_consT (se_int (g := g0 X.K) (W := W)) (sa_consT (se_int (g := g0 X.K) (W := W)) (sa_consT (se_int (g := g0 X.K) (W := W)) (sa_consT (se_fz (se_add (SOp.e (se_int (g := g0 X.K) (W := W))) (SOp.e (se_call (dvs := []) (ds := []) C.tk (ok_17 T) (R.mono (by decide)) (gl_ok C.toCn g__law_take) T.m17 T.f17.kp (bind_17 T.f17) .nil (fun _ _ => .nil) (sa_consL (pv_ok C.toCn h0) (sa_consT (se_int (g := g0 X.K) (W := W)) sa_nil rfl) rfl) (by decide) rfl rfl)))) sa_nil rfl) rfl) rfl) rfl) rfl) rfl)) sa_nil rfl) rfl) (by decide) rfl rfl) (by decide) rfl)
  (sss_cons (ss_ret (se_call (dvs := []) (ds := []) C.tk (ok_24 T) (R.mono (by decide)) (gl_ok C.toCn g__law_led) T.m24 T.f24.kp (bind_24 T.f24) .nil (fun _ _ => .nil) (sa_consL (pv_ok C.toCn h0) (sa_consT (se_v C.toCn h1) (sa_consT (se_add (SOp.e (se_int (g := g0 X.K) (W := W))) (SOp.e (se_call (dvs := []) (ds := []) C.tk (ok_17 T) (R.mono (by decide)) (gl_ok C.toCn g__law_take) T.m17 T.f17.kp (bind_17 T.f17) .nil (fun _ _ => .nil) (sa_consL (pv_ok C.toCn h0) (sa_consT (se_int (g := g0 X.K) (W := W)) sa_nil rfl) rfl) (by decide) rfl rfl))) (sa_consT (se_int (g := g0 X.K) (W := W)) (sa_consT (se_int (g := g0 X.K) (W := W)) sa_nil rfl) rfl) rfl) rfl) rfl) (by decide) rfl rfl))
  sss_nil))
theorem ok_34 {P : Program} {w : World} {K : PySem.W.Frag} {mg : Str → Option Value} {base : Heap} {fd : Nat → FuncData} (T : Dn P w K mg fd) : FnOk P w K mg base (L2.CX P w) 4 (He.fAd K d34.at_) (fd 34) ["box"] (Prom ⟨g0 K, K⟩ mask_34 c_34) :=
  fn_okC T.f34 S34 rfl (by decide) T.fr fun X W e1 e2 e3 e4 e5 R C => by
    subst e1 e2 e3 e4 e5
    exact b_34 C R T
/-! ### _law_ends -/
abbrev N35 : List Str := ["rent", "book", "whole", "met", "value", "due"]
abbrev mask_35 : List Bool := []
theorem S35 : FnScope N35 [] (defScope (top 35)) := ⟨rfl, rfl, rfl, by decide +kernel, rfl, by decide +kernel, by decide +kernel⟩
theorem bind_35 {K : PySem.W.Frag} {f : Addr} {fd : FuncData} (F : FunD K d35.name d35.qual d35.params d35.body d35.scope (d35.dvs K) (d35.kws K) f fd) : Binds K fd [] [] := FunD.bindsN F fun _ _ _ _ _ _ us hl => match us, hl with | [], _ => rfl
def s_35_1 : MS := (mSeq (mIfS (mTNot (mTru (.e (mCall c_30 mask_30 [] [.t (mCall c_29 mask_29 [] [.t (mV 2), .t (mV 4)]), .t (mIf (mOp2 eqD (.e (mOp2 ixD (.v 5) (.e (mC (.int 0))))) (.e (mC (.str "told")))) (mTup [.t (mC (.str "told")), .t (mV 4)]) (mV 5))])))) (mSeq (mRet (mC (.bl false)))
  RS.nx) RS.nx)
  RS.nx)
def m_35 : MS := (mSeq (mAsg (.v 0) (mTup [.t (mTup [.t (mTup [.t (mC (.int 0)), .t (mC (.int 2))]), .t (mTup [.t (mC (.int 0)), .t (mC (.int 0))])]), .t (mTup [.t (mTup [.t (mC (.int 1)), .t (mC (.int 0))]), .t (mTup [.t (mC (.int 0)), .t (mC .non)])])]))
  (mSeq (mAsg (.v 1) (mTup [.t (mTup [.t (mTup [.t (mC (.int 0)), .t (mC (.int 0)), .t (mC (.int 1))]), .t (mTup [.t (mC (.int 1)), .t (mC (.int 0)), .t (mC (.int 2))])]), .t (mTup [.t (mTup [.t (mC (.int 0)), .t (mC (.int 0)), .t (mC (.int 1))]), .t (mC .non)]), .t (mTup [.t (mTup [.t (mC (.int 1)), .t (mC (.int 0)), .t (mC (.int 2))]), .t (mTup [.t (mC (.int 0)), .t (mC (.int 0)), .t (mC (.int 1))])]), .t (mTup [.t (mC .non), .t (mC .non)])]))
  (mSeq (mAsg (.v 2) (mTup [.t (mV 0), .t (mV 0), .t (mV 1)]))
  (mSeq (mAsg (.v 3) (mTup [.t (mV 0), .t (mV 0), .t (mTup [.t (mTup [.t (mTup [.t (mC (.int 0)), .t (mC (.int 0)), .t (mC (.int 2))]), .t (mTup [.t (mC (.int 1)), .t (mC (.int 0)), .t (mC (.int 1))])]), .t (mTup [.t (mTup [.t (mC (.int 0)), .t (mC (.int 0)), .t (mC (.int 1))]), .t (mC .non)]), .t (mTup [.t (mTup [.t (mC (.int 1)), .t (mC (.int 0)), .t (mC (.int 2))]), .t (mC .non)])])]))
  (mSeq (mIfS (mTNot (mTru (.e (mCall c_30 mask_30 [] [.t (mCall c_29 mask_29 [] [.t (mV 3), .t (mTup [.t (mTup [.t (mC (.int 1)), .t (mC (.int 1))]), .t (mTup [.t (mC (.int 0)), .t (mC (.int 0))]), .t (mTup [.t (mC (.int 0)), .t (mC (.int 0))])])]), .t (mTup [.t (mC (.str "refused")), .t (mC (.int 1))])])))) (mSeq (mRet (mC (.bl false)))
  RS.nx) RS.nx)
  (mSeq (mFor [] (.t [(.v 4), (.v 5)]) (mIt (mLst [.t (mTup [.t (mTup [.t (mTup [.t (mC (.int 1)), .t (mC (.int 1))]), .t (mTup [.t (mC (.int 1)), .t (mC (.int 0))]), .t (mTup [.t (mC (.int 1)), .t (mC (.int 0))]), .t (mTup [.t (mC (.int 0)), .t (mC (.int 0))])]), .t (mTup [.t (mC (.str "refused")), .t (mC (.int 4))])]), .t (mTup [.t (mTup [.t (mTup [.t (mC (.int 1)), .t (mC (.int 1))]), .t (mTup [.t (mC (.int 1)), .t (mC (.int 0))]), .t (mTup [.t (mC (.int 0)), .t (mC (.int 1))]), .t (mTup [.t (mC (.int 0)), .t (mC (.int 0))])]), .t (mTup [.t (mC (.str "told")), .t (mC .non)])]), .t (mTup [.t (mTup [.t (mTup [.t (mC (.int 1)), .t (mC (.int 0))]), .t (mTup [.t (mC (.int 1)), .t (mC (.int 0))]), .t (mTup [.t (mC (.int 0)), .t (mC (.int 0))]), .t (mTup [.t (mC (.int 0)), .t (mC (.int 0))])]), .t (mTup [.t (mC (.str "told")), .t (mC .non)])]), .t (mTup [.t (mTup [.t (mTup [.t (mC (.int 0)), .t (mC (.int 1))]), .t (mTup [.t (mC (.int 0)), .t (mC (.int 0))]), .t (mTup [.t (mC (.int 1)), .t (mC (.int 0))]), .t (mTup [.t (mC (.int 0)), .t (mC (.int 0))])]), .t (mTup [.t (mC (.str "told")), .t (mC .non)])]), .t (mTup [.t (mTup [.t (mTup [.t (mC (.int 1)), .t (mC (.int 1))]), .t (mTup [.t (mC (.int 0)), .t (mC (.int 0))]), .t (mTup [.t (mC (.int 1)), .t (mC (.int 0))]), .t (mTup [.t (mC (.int 0)), .t (mC (.int 0))])]), .t (mTup [.t (mC (.str "refused")), .t (mC (.int 1))])]), .t (mTup [.t (mTup [.t (mTup [.t (mC (.int 1)), .t (mC (.int 1))]), .t (mTup [.t (mC (.int 1)), .t (mC (.int 1))]), .t (mTup [.t (mC (.int 1)), .t (mC (.int 0))]), .t (mTup [.t (mC (.int 0)), .t (mC (.int 0))])]), .t (mTup [.t (mC (.str "refused")), .t (mC (.int 1))])]), .t (mTup [.t (mTup [.t (mTup [.t (mC (.int 1)), .t (mC (.int 1))]), .t (mTup [.t (mC (.int 1)), .t (mC (.int 0))]), .t (mTup [.t (mC (.int 1)), .t (mC (.int 0))]), .t (mTup [.t (mC (.int 0)), .t (mC (.int 1))])]), .t (mTup [.t (mC (.str "refused")), .t (mC (.int 3))])]), .t (mTup [.t (mTup [.t (mTup [.t (mC (.int 0)), .t (mC (.int 0))]), .t (mTup [.t (mC (.int 0)), .t (mC (.int 0))]), .t (mTup [.t (mC (.int 0)), .t (mC (.int 0))]), .t (mTup [.t (mC (.int 0)), .t (mC (.int 0))])]), .t (mTup [.t (mC (.str "refused")), .t (mC (.int 0))])])])) s_35_1)
  (mSeq (mRet (mC (.bl true)))
  RS.nx)))))))
def c_35 : List D → RC := callF 6 mask_35 m_35
theorem b_35 {X : Cx} {W : WX} {fd : Nat → FuncData} (C : Cf X W N35 (defScope (top 35)) FR) (R : Room 41 X.A) (T : Dn X.prog X.w X.K X.mg fd) : SSs X (g0 X.K) W (lix 0 mask_35) (defBody (top 35)) m_35 := by
  have h0 : varB N35 (defScope (top 35)) 0 "rent" = true := by decide +kernel
  have h1 : varB N35 (defScope (top 35)) 1 "book" = true := by decide +kernel
  have h2 : varB N35 (defScope (top 35)) 2 "whole" = true := by decide +kernel
  have h3 : varB N35 (defScope (top 35)) 3 "met" = true := by decide +kernel
  have h4 : varB N35 (defScope (top 35)) 4 "value" = true := by decide +kernel
  have h5 : varB N35 (defScope (top 35)) 5 "due" = true := by decide +kernel
  have g__law_alike : glB (defScope (top 35)) "_law_alike" = true := by decide +kernel
  have g__law_asked : glB (defScope (top 35)) "_law_asked" = true := by decide +kernel
  unfold m_35
  exact (sss_cons (ss_setC C (by decide +kernel) (se_tup (g := g0 X.K) (W := W) (sa_consT (se_tup (g := g0 X.K) (W := W) (sa_consT (se_tup (g := g0 X.K) (W := W) (sa_consT (se_int (g := g0 X.K) (W := W)) (sa_consT (se_int (g := g0 X.K) (W := W)) sa_nil rfl) rfl)) (sa_consT (se_tup (g := g0 X.K) (W := W) (sa_consT (se_int (g := g0 X.K) (W := W)) (sa_consT (se_int (g := g0 X.K) (W := W)) sa_nil rfl) rfl)) sa_nil rfl) rfl)) (sa_consT (se_tup (g := g0 X.K) (W := W) (sa_consT (se_tup (g := g0 X.K) (W := W) (sa_consT (se_int (g := g0 X.K) (W := W)) (sa_consT (se_int (g := g0 X.K) (W := W)) sa_nil rfl) rfl)) (sa_consT (se_tup (g := g0 X.K) (W := W) (sa_consT (se_int (g := g0 X.K) (W := W)) (sa_consT (se_non (g := g0 X.K) (W := W)) sa_nil rfl) rfl)) sa_nil rfl) rfl)) sa_nil rfl) rfl)) (by decide) rfl)
  (sss_cons (ss_setC C (by decide +kernel) (se_tup (g := g0 X.K) (W := W) (sa_consT (se_tup (g := g0 X.K) (W := W) (sa_consT (se_tup (g := g0 X.K) (W := W) (sa_consT (se_int (g := g0 X.K) (W := W)) (sa_consT (se_int (g := g0 X.K) (W := W)) (sa_consT (se_int (g := g0 X.K) (W := W)) sa_nil rfl) rfl) rfl)) (sa_consT (se_tup (g := g0 X.K) (W := W) (sa_consT (se_int (g := g0 X.K) (W := W)) (sa_consT (se_int (g := g0 X.K) (W := W)) (sa_consT (se_int (g := g0 X.K) (W := W)) sa_nil rfl) rfl) rfl)) sa_nil rfl) rfl)) (sa_consT (se_tup (g := g0 X.K) (W := W) (sa_consT (se_tup (g := g0 X.K) (W := W) (sa_consT (se_int (g := g0 X.K) (W := W)) (sa_consT (se_int (g := g0 X.K) (W := W)) (sa_consT (se_int (g := g0 X.K) (W := W)) sa_nil rfl) rfl) rfl)) (sa_consT (se_non (g := g0 X.K) (W := W)) sa_nil rfl) rfl)) (sa_consT (se_tup (g := g0 X.K) (W := W) (sa_consT (se_tup (g := g0 X.K) (W := W) (sa_consT (se_int (g := g0 X.K) (W := W)) (sa_consT (se_int (g := g0 X.K) (W := W)) (sa_consT (se_int (g := g0 X.K) (W := W)) sa_nil rfl) rfl) rfl)) (sa_consT (se_tup (g := g0 X.K) (W := W) (sa_consT (se_int (g := g0 X.K) (W := W)) (sa_consT (se_int (g := g0 X.K) (W := W)) (sa_consT (se_int (g := g0 X.K) (W := W)) sa_nil rfl) rfl) rfl)) sa_nil rfl) rfl)) (sa_consT (se_tup (g := g0 X.K) (W := W) (sa_consT (se_non (g := g0 X.K) (W := W)) (sa_consT (se_non (g := g0 X.K) (W := W)) sa_nil rfl) rfl)) sa_nil rfl) rfl) rfl) rfl)) (by decide) rfl)
  (sss_cons (ss_setC C (by decide +kernel) (se_tup (g := g0 X.K) (W := W) (sa_consT (se_v C.toCn h0) (sa_consT (se_v C.toCn h0) (sa_consT (se_v C.toCn h1) sa_nil rfl) rfl) rfl)) (by decide) rfl)
  (sss_cons (ss_setC C (by decide +kernel) (se_tup (g := g0 X.K) (W := W) (sa_consT (se_v C.toCn h0) (sa_consT (se_v C.toCn h0) (sa_consT (se_tup (g := g0 X.K) (W := W) (sa_consT (se_tup (g := g0 X.K) (W := W) (sa_consT (se_tup (g := g0 X.K) (W := W) (sa_consT (se_int (g := g0 X.K) (W := W)) (sa_consT (se_int (g := g0 X.K) (W := W)) (sa_consT (se_int (g := g0 X.K) (W := W)) sa_nil rfl) rfl) rfl)) (sa_consT (se_tup (g := g0 X.K) (W := W) (sa_consT (se_int (g := g0 X.K) (W := W)) (sa_consT (se_int (g := g0 X.K) (W := W)) (sa_consT (se_int (g := g0 X.K) (W := W)) sa_nil rfl) rfl) rfl)) sa_nil rfl) rfl)) (sa_consT (se_tup (g := g0 X.K) (W := W) (sa_consT (se_tup (g := g0 X.K) (W := W) (sa_consT (se_int (g := g0 X.K) (W := W)) (sa_consT (se_int (g := g0 X.K) (W := W)) (sa_consT (se_int (g := g0 X.K) (W := W)) sa_nil rfl) rfl) rfl)) (sa_consT (se_non (g := g0 X.K) (W := W)) sa_nil rfl) rfl)) (sa_consT (se_tup (g := g0 X.K) (W := W) (sa_consT (se_tup (g := g0 X.K) (W := W) (sa_consT (se_int (g := g0 X.K) (W := W)) (sa_consT (se_int (g := g0 X.K) (W := W)) (sa_consT (se_int (g := g0 X.K) (W := W)) sa_nil rfl) rfl) rfl)) (sa_consT (se_non (g := g0 X.K) (W := W)) sa_nil rfl) rfl)) sa_nil rfl) rfl) rfl)) sa_nil rfl) rfl) rfl)) (by decide) rfl)
  (sss_cons (ss_if (st_not (st_tru (SOp.e (se_call (dvs := []) (ds := []) C.tk (ok_30 T) (R.mono (by decide)) (gl_ok C.toCn g__law_alike) T.m30 T.f30.kp (bind_30 T.f30) .nil (fun _ _ => .nil) (sa_consT (se_call (dvs := []) (ds := []) C.tk (ok_29 T) (R.mono (by decide)) (gl_ok C.toCn g__law_asked) T.m29 T.f29.kp (bind_29 T.f29) .nil (fun _ _ => .nil) (sa_consT (se_v C.toCn h3) (sa_consT (se_tup (g := g0 X.K) (W := W) (sa_consT (se_tup (g := g0 X.K) (W := W) (sa_consT (se_int (g := g0 X.K) (W := W)) (sa_consT (se_int (g := g0 X.K) (W := W)) sa_nil rfl) rfl)) (sa_consT (se_tup (g := g0 X.K) (W := W) (sa_consT (se_int (g := g0 X.K) (W := W)) (sa_consT (se_int (g := g0 X.K) (W := W)) sa_nil rfl) rfl)) (sa_consT (se_tup (g := g0 X.K) (W := W) (sa_consT (se_int (g := g0 X.K) (W := W)) (sa_consT (se_int (g := g0 X.K) (W := W)) sa_nil rfl) rfl)) sa_nil rfl) rfl) rfl)) sa_nil rfl) rfl) (by decide) rfl rfl) (sa_consT (se_tup (g := g0 X.K) (W := W) (sa_consT (se_str (g := g0 X.K) (W := W)) (sa_consT (se_int (g := g0 X.K) (W := W)) sa_nil rfl) rfl)) sa_nil rfl) rfl) (by decide) rfl rfl)) (fun _ => rfl))) (sss_cons (ss_ret (se_bl (g := g0 X.K) (W := W)))
  sss_nil) sss_nil)
  (sss_cons (ss_for (Ls := []) (t := (.t [(.v 4), (.v 5)])) C.po C.calm (si_seq (se_lst (g := g0 X.K) (W := W) (sa_consT (se_tup (g := g0 X.K) (W := W) (sa_consT (se_tup (g := g0 X.K) (W := W) (sa_consT (se_tup (g := g0 X.K) (W := W) (sa_consT (se_int (g := g0 X.K) (W := W)) (sa_consT (se_int (g := g0 X.K) (W := W)) sa_nil rfl) rfl)) (sa_consT (se_tup (g := g0 X.K) (W := W) (sa_consT (se_int (g := g0 X.K) (W := W)) (sa_consT (se_int (g := g0 X.K) (W := W)) sa_nil rfl) rfl)) (sa_consT (se_tup (g := g0 X.K) (W := W) (sa_consT (se_int (g := g0 X.K) (W := W)) (sa_consT (se_int (g := g0 X.K) (W := W)) sa_nil rfl) rfl)) (sa_consT (se_tup (g := g0 X.K) (W := W) (sa_consT (se_int (g := g0 X.K) (W := W)) (sa_consT (se_int (g := g0 X.K) (W := W)) sa_nil rfl) rfl)) sa_nil rfl) rfl) rfl) rfl)) (sa_consT (se_tup (g := g0 X.K) (W := W) (sa_consT (se_str (g := g0 X.K) (W := W)) (sa_consT (se_int (g := g0 X.K) (W := W)) sa_nil rfl) rfl)) sa_nil rfl) rfl)) (sa_consT (se_tup (g := g0 X.K) (W := W) (sa_consT (se_tup (g := g0 X.K) (W := W) (sa_consT (se_tup (g := g0 X.K) (W := W) (sa_consT (se_int (g := g0 X.K) (W := W)) (sa_consT (se_int (g := g0 X.K) (W := W)) sa_nil rfl) rfl)) (sa_consT (se_tup (g := g0 X.K) (W := W) (sa_consT (se_int (g := g0 X.K) (W := W)) (sa_consT (se_int (g := g0 X.K) (W := W)) sa_nil rfl) rfl)) (sa_consT (se_tup (g := g0 X.K) (W := W) (sa_consT (se_int (g := g0 X.K) (W := W)) (sa_consT (se_int (g := g0 X.K) (W := W)) sa_nil rfl) rfl)) (sa_consT (se_tup (g := g0 X.K) (W := W) (sa_consT (se_int (g := g0 X.K) (W := W)) (sa_consT (se_int (g := g0 X.K) (W := W)) sa_nil rfl) rfl)) sa_nil rfl) rfl) rfl) rfl)) (sa_consT (se_tup (g := g0 X.K) (W := W) (sa_consT (se_str (g := g0 X.K) (W := W)) (sa_consT (se_non (g := g0 X.K) (W := W)) sa_nil rfl) rfl)) sa_nil rfl) rfl)) (sa_consT (se_tup (g := g0 X.K) (W := W) (sa_consT (se_tup (g := g0 X.K) (W := W) (sa_consT (se_tup (g := g0 X.K) (W := W) (sa_consT (se_int (g := g0 X.K) (W := W)) (sa_consT (se_int (g := g0 X.K) (W := W)) sa_nil rfl) rfl)) (sa_consT (se_tup (g := g0 X.K) (W := W) (sa_consT (se_int (g := g0 X.K) (W := W)) (sa_consT (se_int (g := g0 X.K) (W := W)) sa_nil rfl) rfl)) (sa_consT (se_tup (g := g0 X.K) (W := W) (sa_consT (se_int (g := g0 X.K) (W := W)) (sa_consT (se_int (g := g0 X.K) (W := W)) sa_nil rfl) rfl)) (sa_consT (se_tup (g := g0 X.K) (W := W) (sa_consT (se_int (g := g0 X.K) (W := W)) (sa_consT (se_int (g := g0 X.K) (W := W)) sa_nil rfl) rfl)) sa_nil rfl) rfl) rfl) rfl)) (sa_consT (se_tup (g := g0 X.K) (W := W) (sa_consT (se_str (g := g0 X.K) (W := W)) (sa_consT (se_non (g := g0 X.K) (W := W)) sa_nil rfl) rfl)) sa_nil rfl) rfl)) (sa_consT (se_tup (g := g0 X.K) (W := W) (sa_consT (se_tup (g := g0 X.K) (W := W) (sa_consT (se_tup (g := g0 X.K) (W := W) (sa_consT (se_int (g := g0 X.K) (W := W)) (sa_consT (se_int (g := g0 X.K) (W := W)) sa_nil rfl) rfl)) (sa_consT (se_tup (g := g0 X.K) (W := W) (sa_consT (se_int (g := g0 X.K) (W := W)) (sa_consT (se_int (g := g0 X.K) (W := W)) sa_nil rfl) rfl)) (sa_consT (se_tup (g := g0 X.K) (W := W) (sa_consT (se_int (g := g0 X.K) (W := W)) (sa_consT (se_int (g := g0 X.K) (W := W)) sa_nil rfl) rfl)) (sa_consT (se_tup (g := g0 X.K) (W := W) (sa_consT (se_int (g := g0 X.K) (W := W)) (sa_consT (se_int (g := g0 X.K) (W := W)) sa_nil rfl) rfl)) sa_nil rfl) rfl) rfl) rfl)) (sa_consT (se_tup (g := g0 X.K) (W := W) (sa_consT (se_str (g := g0 X.K) (W := W)) (sa_consT (se_non (g := g0 X.K) (W := W)) sa_nil rfl) rfl)) sa_nil rfl) rfl)) (sa_consT (se_tup (g := g0 X.K) (W := W) (sa_consT (se_tup (g := g0 X.K) (W := W) (sa_consT (se_tup (g := g0 X.K) (W := W) (sa_consT (se_int (g := g0 X.K) (W := W)) (sa_consT (se_int (g := g0 X.K) (W := W)) sa_nil rfl) rfl)) (sa_consT (se_tup (g := g0 X.K) (W := W) (sa_consT (se_int (g := g0 X.K) (W := W)) (sa_consT (se_int (g := g0 X.K) (W := W)) sa_nil rfl) rfl)) (sa_consT (se_tup (g := g0 X.K) (W := W) (sa_consT (se_int (g := g0 X.K) (W := W)) (sa_consT (se_int (g := g0 X.K) (W := W)) sa_nil rfl) rfl)) (sa_consT (se_tup (g := g0 X.K) (W := W) (sa_consT (se_int (g := g0 X.K) (W := W)) (sa_consT (se_int (g := g0 X.K) (W := W)) sa_nil rfl) rfl)) sa_nil rfl) rfl) rfl) rfl)) (sa_consT (se_tup (g := g0 X.K) (W := W) (sa_consT (se_str (g := g0 X.K) (W := W)) (sa_consT (se_int (g := g0 X.K) (W := W)) sa_nil rfl) rfl)) sa_nil rfl) rfl)) (sa_consT (se_tup (g := g0 X.K) (W := W) (sa_consT (se_tup (g := g0 X.K) (W := W) (sa_consT (se_tup (g := g0 X.K) (W := W) (sa_consT (se_int (g := g0 X.K) (W := W)) (sa_consT (se_int (g := g0 X.K) (W := W)) sa_nil rfl) rfl)) (sa_consT (se_tup (g := g0 X.K) (W := W) (sa_consT (se_int (g := g0 X.K) (W := W)) (sa_consT (se_int (g := g0 X.K) (W := W)) sa_nil rfl) rfl)) (sa_consT (se_tup (g := g0 X.K) (W := W) (sa_consT (se_int (g := g0 X.K) (W := W)) (sa_consT (se_int (g := g0 X.K) (W := W)) sa_nil rfl) rfl)) (sa_consT (se_tup (g := g0 X.K) (W := W) (sa_consT (se_int (g := g0 X.K) (W := W)) (sa_consT (se_int (g := g0 X.K) (W := W)) sa_nil rfl) rfl)) sa_nil rfl) rfl) rfl) rfl)) (sa_consT (se_tup (g := g0 X.K) (W := W) (sa_consT (se_str (g := g0 X.K) (W := W)) (sa_consT (se_int (g := g0 X.K) (W := W)) sa_nil rfl) rfl)) sa_nil rfl) rfl)) (sa_consT (se_tup (g := g0 X.K) (W := W) (sa_consT (se_tup (g := g0 X.K) (W := W) (sa_consT (se_tup (g := g0 X.K) (W := W) (sa_consT (se_int (g := g0 X.K) (W := W)) (sa_consT (se_int (g := g0 X.K) (W := W)) sa_nil rfl) rfl)) (sa_consT (se_tup (g := g0 X.K) (W := W) (sa_consT (se_int (g := g0 X.K) (W := W)) (sa_consT (se_int (g := g0 X.K) (W := W)) sa_nil rfl) rfl)) (sa_consT (se_tup (g := g0 X.K) (W := W) (sa_consT (se_int (g := g0 X.K) (W := W)) (sa_consT (se_int (g := g0 X.K) (W := W)) sa_nil rfl) rfl)) (sa_consT (se_tup (g := g0 X.K) (W := W) (sa_consT (se_int (g := g0 X.K) (W := W)) (sa_consT (se_int (g := g0 X.K) (W := W)) sa_nil rfl) rfl)) sa_nil rfl) rfl) rfl) rfl)) (sa_consT (se_tup (g := g0 X.K) (W := W) (sa_consT (se_str (g := g0 X.K) (W := W)) (sa_consT (se_int (g := g0 X.K) (W := W)) sa_nil rfl) rfl)) sa_nil rfl) rfl)) (sa_consT (se_tup (g := g0 X.K) (W := W) (sa_consT (se_tup (g := g0 X.K) (W := W) (sa_consT (se_tup (g := g0 X.K) (W := W) (sa_consT (se_int (g := g0 X.K) (W := W)) (sa_consT (se_int (g := g0 X.K) (W := W)) sa_nil rfl) rfl)) (sa_consT (se_tup (g := g0 X.K) (W := W) (sa_consT (se_int (g := g0 X.K) (W := W)) (sa_consT (se_int (g := g0 X.K) (W := W)) sa_nil rfl) rfl)) (sa_consT (se_tup (g := g0 X.K) (W := W) (sa_consT (se_int (g := g0 X.K) (W := W)) (sa_consT (se_int (g := g0 X.K) (W := W)) sa_nil rfl) rfl)) (sa_consT (se_tup (g := g0 X.K) (W := W) (sa_consT (se_int (g := g0 X.K) (W := W)) (sa_consT (se_int (g := g0 X.K) (W := W)) sa_nil rfl) rfl)) sa_nil rfl) rfl) rfl) rfl)) (sa_consT (se_tup (g := g0 X.K) (W := W) (sa_consT (se_str (g := g0 X.K) (W := W)) (sa_consT (se_int (g := g0 X.K) (W := W)) sa_nil rfl) rfl)) sa_nil rfl) rfl)) sa_nil rfl) rfl) rfl) rfl) rfl) rfl) rfl) rfl))) (pg_tup C.toCn.calm (pgs_cons (pg_f C (by decide +kernel)) (pgs_cons (pg_f C (by decide +kernel)) pgs_nil))) (gok_t rfl rfl (gsok_cons (gok_v (by decide)) (gsok_cons (gok_v (by decide)) gsok_nil))) (sss_cons (ss_if (st_not (st_tru (SOp.e (se_call (dvs := []) (ds := []) C.tk (ok_30 T) (R.mono (by decide)) (gl_ok C.toCn g__law_alike) T.m30 T.f30.kp (bind_30 T.f30) .nil (fun _ _ => .nil) (sa_consT (se_call (dvs := []) (ds := []) C.tk (ok_29 T) (R.mono (by decide)) (gl_ok C.toCn g__law_asked) T.m29 T.f29.kp (bind_29 T.f29) .nil (fun _ _ => .nil) (sa_consT (se_v C.toCn h2) (sa_consT (se_v C.toCn h4) sa_nil rfl) rfl) (by decide) rfl rfl) (sa_consT (se_if (st_eq C.toCn (SOp.e (se_ix C.toCn (SOp.v C.toCn h5) (SOp.e (se_int (g := g0 X.K) (W := W))) (fun _ _ => rfl))) (SOp.e (se_str (g := g0 X.K) (W := W)))) (se_tup (g := g0 X.K) (W := W) (sa_consT (se_str (g := g0 X.K) (W := W)) (sa_consT (se_v C.toCn h4) sa_nil rfl) rfl)) (se_v C.toCn h5)) sa_nil rfl) rfl) (by decide) rfl rfl)) (fun _ => rfl))) (sss_cons (ss_ret (se_bl (g := g0 X.K) (W := W)))
  sss_nil) sss_nil)
  sss_nil) (fun _ => rfl))
  (sss_cons (ss_ret (se_bl (g := g0 X.K) (W := W)))
  sss_nil)))))))
theorem ok_35 {P : Program} {w : World} {K : PySem.W.Frag} {mg : Str → Option Value} {base : Heap} {fd : Nat → FuncData} (T : Dn P w K mg fd) : FnOk P w K mg base (L2.CX P w) 42 (He.fAd K d35.at_) (fd 35) [] (Prom ⟨g0 K, K⟩ mask_35 c_35) :=
  fn_okC T.f35 S35 rfl (by decide) T.fr fun X W e1 e2 e3 e4 e5 R C => by
    subst e1 e2 e3 e4 e5
    exact b_35 C R T
/-! ### law -/
abbrev N36 : List Str := ["script", "k", "box", "book", "whole", "back", "room", "at", "sure", "right", "value", "turn", "sign"]
abbrev mask_36 : List Bool := [false]
theorem S36 : FnScope N36 ["script"] (defScope (top 36)) := ⟨rfl, rfl, rfl, by decide +kernel, rfl, by decide +kernel, by decide +kernel⟩
theorem bind_36 {K : PySem.W.Frag} {f : Addr} {fd : FuncData} (F : FunD K d36.name d36.qual d36.params d36.body d36.scope (d36.dvs K) (d36.kws K) f fd) : Binds K fd ["script"] [] := FunD.bindsN F fun _ _ _ _ _ _ us hl => match us, hl with | [_], _ => rfl
def s_36_1 : MS := (mSeq (mIfS (mTNot (mTru (.e (mCall c_30 mask_30 [] [.t (mCall c_29 mask_29 [] [.t (mV 4), .t (mV 10)]), .t (mCall c_28 mask_28 [] [.t (mV 3), .t (mV 10)])])))) (mSeq (mRet (mC (.bl false)))
  RS.nx) RS.nx)
  RS.nx)
def s_36_2 : MS := (mSeq (mAsg (.v 10) (mCall c_25 mask_25 [] [.l 2, .t (mV 3), .t (mC (.int 60))]))
  (mSeq (mIfS (mTNot (mTru (.e (mCall c_30 mask_30 [] [.t (mCall c_29 mask_29 [] [.t (mV 4), .t (mV 10)]), .t (mCall c_28 mask_28 [] [.t (mV 3), .t (mV 10)])])))) (mSeq (mRet (mC (.bl false)))
  RS.nx) RS.nx)
  RS.nx))
def s_36_3 : MS := (mSeq (mIfS (mTNot (mTru (.e (mCall c_30 mask_30 [] [.t (mCall c_29 mask_29 [] [.t (mV 8), .t (mV 10)]), .t (mCall c_28 mask_28 [] [.t (mOp2 ixD (.v 8) (.e (mC (.int 2)))), .t (mV 10)])])))) (mSeq (mRet (mC (.bl false)))
  RS.nx) RS.nx)
  RS.nx)
def q_36_4 : ME := (mFz (mIf (mOp1 (fun d => some (.bl (isN d))) (.v 12)) (mC (.int 0)) (mOp2 addD (.e (mC (.int 1))) (.e (mCall c_17 mask_17 [] [.l 2, .t (mC (.int 60))])))))
def q_36_5 : ME := (mOp1 tupleD (.e (mLc [12] (.v 12) (mIt (mV 6)) mTrue q_36_4)))
def q_36_6 : ME := (mV 12)
def t_36_7 : ME := (mOp1 (fun d => some (.bl (!isN d))) (.e (mOp2 ixD (.v 6) (.v 12))))
def s_36_8 : MS := (mSeq (mAsg (.v 7) (mOp1 min1A (.e (mLc [12] (.v 12) (mRg1 (mOp1 lenD (.v 6))) t_36_7 q_36_6))))
  (mSeq (mExpr (mApp 5 (mFz (mCall c_31 mask_31 [] [.t (mV 6), .t (mV 7), .t (mTup [.t (mOp2 ixD (.e (mOp2 ixD (.v 6) (.v 7))) (.e (mC (.int 0)))), .t (mOp2 ixD (.e (mOp2 ixD (.v 6) (.v 7))) (.e (mC (.int 1)))), .t (mC (.int 0))])]))))
  RS.nx))
def s_36_9 : MS := (mSeq (mAsg (.v 2) (mCall c_23 mask_23 [] [.t (mV 0), .t (mV 1)]))
  (mSeq (mAsg (.v 3) (mCall c_34 mask_34 [] [.l 2]))
  (mSeq (mAsg (.v 4) (mCall c_33 mask_33 [] [.l 2, .t (mV 3)]))
  (mSeq (mAsg (.v 5) (mLst []))
  (mSeq (mFor [] (.v 6) (mIt (mV 3)) s_36_8)
  (mSeq (mAsg (.v 8) (mTup [.t (mOp2 ixD (.v 4) (.e (mC (.int 0)))), .t (mOp2 ixD (.v 4) (.e (mC (.int 1)))), .t (mOp1 tupleD (.v 5))]))
  (mSeq (mAsg (.v 9) (mOp1 tupleD (.e (mLc [6] (.v 6) (mItV 5) mTrue q_36_5))))
  (mSeq (mIfS (mTNot (mTru (.e (mCall c_30 mask_30 [] [.t (mCall c_29 mask_29 [] [.t (mV 8), .t (mV 9)]), .t (mTup [.t (mC (.str "told")), .t (mV 9)])])))) (mSeq (mRet (mC (.bl false)))
  RS.nx) RS.nx)
  (mSeq (mFor [] (.v 10) (mIt (mCall c_32 mask_32 [] [.l 2, .t (mOp2 ixD (.v 8) (.e (mC (.int 2)))), .t (mV 9)])) s_36_3)
  (mSeq (mFor [] (.v 11) (mRg1 (mC (.int 6))) s_36_2)
  (mSeq (mFor [] (.v 10) (mIt (mCall c_32 mask_32 [] [.l 2, .t (mV 3), .t (mV 10)])) s_36_1)
  RS.nx)))))))))))
def m_36 : MS := (mSeq (mTryO cg_0 (mSeq (mIfS (mTNot (mTru (.e (mCall c_35 mask_35 [] [])))) (mSeq (mRet (mC (.bl false)))
  RS.nx) RS.nx)
  (mSeq (mFor [] (.v 1) (mRg1 (mOp2 max2D (.e (mC (.int 2))) (.e (mOp2 min2D (.e (mOp1 lenD (.v 0))) (.e (mC (.int 4))))))) s_36_9)
  (mSeq (mRet (mC (.bl true)))
  RS.nx))) (mSeq (mRet (mC (.bl false)))
  RS.nx))
  RS.nx)
def c_36 : List D → RC := callF 13 mask_36 m_36
theorem b_36 {X : Cx} {W : WX} {fd : Nat → FuncData} (C : Cf X W N36 (defScope (top 36)) FR) (R : Room 42 X.A) (T : Dn X.prog X.w X.K X.mg fd) : SSs X (g0 X.K) W (lix 0 mask_36) (defBody (top 36)) m_36 := by
  have h0 : varB N36 (defScope (top 36)) 0 "script" = true := by decide +kernel
  have h1 : varB N36 (defScope (top 36)) 1 "k" = true := by decide +kernel
  have h2 : varB N36 (defScope (top 36)) 2 "box" = true := by decide +kernel
  have h3 : varB N36 (defScope (top 36)) 3 "book" = true := by decide +kernel
  have h4 : varB N36 (defScope (top 36)) 4 "whole" = true := by decide +kernel
  have h5 : varB N36 (defScope (top 36)) 5 "back" = true := by decide +kernel
  have h6 : varB N36 (defScope (top 36)) 6 "room" = true := by decide +kernel
  have h7 : varB N36 (defScope (top 36)) 7 "at" = true := by decide +kernel
  have h8 : varB N36 (defScope (top 36)) 8 "sure" = true := by decide +kernel
  have h9 : varB N36 (defScope (top 36)) 9 "right" = true := by decide +kernel
  have h10 : varB N36 (defScope (top 36)) 10 "value" = true := by decide +kernel
  have g_OwnError : glB (defScope (top 36)) "OwnError" = true := by decide +kernel
  have g__law_alike : glB (defScope (top 36)) "_law_alike" = true := by decide +kernel
  have g__law_asked : glB (defScope (top 36)) "_law_asked" = true := by decide +kernel
  have g__law_bent : glB (defScope (top 36)) "_law_bent" = true := by decide +kernel
  have g__law_book_of : glB (defScope (top 36)) "_law_book_of" = true := by decide +kernel
  have g__law_box : glB (defScope (top 36)) "_law_box" = true := by decide +kernel
  have g__law_chances : glB (defScope (top 36)) "_law_chances" = true := by decide +kernel
  have g__law_due : glB (defScope (top 36)) "_law_due" = true := by decide +kernel
  have g__law_ends : glB (defScope (top 36)) "_law_ends" = true := by decide +kernel
  have g__law_put : glB (defScope (top 36)) "_law_put" = true := by decide +kernel
  have g__law_whole : glB (defScope (top 36)) "_law_whole" = true := by decide +kernel
  have g_len : glB (defScope (top 36)) "len" = true := by decide +kernel
  have g_max : glB (defScope (top 36)) "max" = true := by decide +kernel
  have g_min : glB (defScope (top 36)) "min" = true := by decide +kernel
  have g_range : glB (defScope (top 36)) "range" = true := by decide +kernel
  have g_tuple : glB (defScope (top 36)) "tuple" = true := by decide +kernel
  unfold m_36
  exact (sss_cons (ss_tryO (cc := 0) (cg := cg_0) C g_OwnError T.mx0 (by decide) (cg_ok_0 T) (fun pn xe W C => (sss_cons (ss_if (st_not (st_tru (SOp.e (se_call0 (dvs := []) (ds := []) C.tk (ok_35 T) (R.mono (by decide)) (gl_ok C.toCn g__law_ends) T.m35 T.f35.kp (bind_35 T.f35) .nil (fun _ _ => .nil) (by decide))) (fun _ => rfl))) (sss_cons (ss_ret (se_bl (g := g0 X.K) (W := W)))
  sss_nil) sss_nil)
  (sss_cons (ss_for (Ls := []) (t := (.v 1)) C.po C.calm (si_rg1 C.toCn fr_range g_range (se_max2 C.toCn fr_max g_max (SOp.e (se_int (g := g0 X.K) (W := W))) (SOp.e (se_min2 C.toCn fr_min g_min (SOp.e (se_len C.toCn fr_len g_len (SOp.v C.toCn h0) rfl)) (SOp.e (se_int (g := g0 X.K) (W := W))) rfl rfl rfl)) rfl rfl rfl) rfl) (pg_f C (by decide +kernel)) (gok_v (by decide)) (sss_cons (ss_setC C (by decide +kernel) (se_call (dvs := []) (ds := []) C.tk (ok_23 T) (R.mono (by decide)) (gl_ok C.toCn g__law_box) T.m23 T.f23.kp (bind_23 T.f23) .nil (fun _ _ => .nil) (sa_consT (se_v C.toCn h0) (sa_consT (se_v C.toCn h1) sa_nil rfl) rfl) (by decide) rfl rfl) (by decide) rfl)
  (sss_cons (ss_setC C (by decide +kernel) (se_call (dvs := []) (ds := []) C.tk (ok_34 T) (R.mono (by decide)) (gl_ok C.toCn g__law_book_of) T.m34 T.f34.kp (bind_34 T.f34) .nil (fun _ _ => .nil) (sa_consL (pv_ok C.toCn h2) sa_nil rfl) (by decide) rfl rfl) (by decide) rfl)
  (sss_cons (ss_setC C (by decide +kernel) (se_call (dvs := []) (ds := []) C.tk (ok_33 T) (R.mono (by decide)) (gl_ok C.toCn g__law_whole) T.m33 T.f33.kp (bind_33 T.f33) .nil (fun _ _ => .nil) (sa_consL (pv_ok C.toCn h2) (sa_consT (se_v C.toCn h3) sa_nil rfl) rfl) (by decide) rfl rfl) (by decide) rfl)
  (sss_cons (ss_setC C (by decide +kernel) (se_lst (g := g0 X.K) (W := W) sa_nil) (by decide) rfl)
  (sss_cons (ss_for (Ls := []) (t := (.v 6)) C.po C.calm (si_seq (se_v C.toCn h3)) (pg_f C (by decide +kernel)) (gok_v (by decide)) (sss_cons (ss_setC C (by decide +kernel) (se_min1A C.toCn fr_min g_min (SOp.e (se_lcC (own' := [("sign", 12)]) (t := (.v 12)) C.toCn (si_rg1 C.toCn fr_range g_range (se_len C.toCn fr_len g_len (SOp.v C.toCn h6) rfl) rfl) (by decide +kernel) (fun _ _ _ _ _ C1 => (pg_b C1 (by decide +kernel))) (fun L hL => (gok_vb (by decide) L hL)) (fun _ _ _ _ _ C1 => (pts_one (st_notN (SOp.e (se_ix C1 (SOp.v C1 (by decide +kernel)) (SOp.v C1 (by decide +kernel)) (fun _ _ => rfl)))))) (fun _ _ _ _ _ C1 => (se_v C1 (by decide +kernel))) (fun _ => rfl))) rfl) (by decide) rfl)
  (sss_cons (ss_expr (se_app C.toCn h5 (se_fz (se_call (dvs := []) (ds := []) C.tk (ok_31 T) (R.mono (by decide)) (gl_ok C.toCn g__law_put) T.m31 T.f31.kp (bind_31 T.f31) .nil (fun _ _ => .nil) (sa_consT (se_v C.toCn h6) (sa_consT (se_v C.toCn h7) (sa_consT (se_tup (g := g0 X.K) (W := W) (sa_consT (se_ix C.toCn (SOp.e (se_ix C.toCn (SOp.v C.toCn h6) (SOp.v C.toCn h7) (fun _ _ => rfl))) (SOp.e (se_int (g := g0 X.K) (W := W))) (fun _ _ => rfl)) (sa_consT (se_ix C.toCn (SOp.e (se_ix C.toCn (SOp.v C.toCn h6) (SOp.v C.toCn h7) (fun _ _ => rfl))) (SOp.e (se_int (g := g0 X.K) (W := W))) (fun _ _ => rfl)) (sa_consT (se_int (g := g0 X.K) (W := W)) sa_nil rfl) rfl) rfl)) sa_nil rfl) rfl) rfl) (by decide) rfl rfl)) rfl rfl) rfl)
  sss_nil)) (fun _ => rfl))
  (sss_cons (ss_setC C (by decide +kernel) (se_tup (g := g0 X.K) (W := W) (sa_consT (se_ix C.toCn (SOp.v C.toCn h4) (SOp.e (se_int (g := g0 X.K) (W := W))) (fun _ _ => rfl)) (sa_consT (se_ix C.toCn (SOp.v C.toCn h4) (SOp.e (se_int (g := g0 X.K) (W := W))) (fun _ _ => rfl)) (sa_consT (se_tuple C.toCn fr_tuple g_tuple (SOp.v C.toCn h5) rfl) sa_nil rfl) rfl) rfl)) (by decide) rfl)
  (sss_cons (ss_setC C (by decide +kernel) (se_tuple C.toCn fr_tuple g_tuple (SOp.e (se_lcC (own' := [("room", 6)]) (t := (.v 6)) C.toCn (si_v C.toCn h5) (by decide +kernel) (fun _ _ _ _ _ C1 => (pg_b C1 (by decide +kernel))) (fun L hL => (gok_vb (by decide) L hL)) (fun _ _ _ _ _ C1 => (pts_true pts_nil)) (fun _ _ _ _ _ C1 => (se_tuple C1 fr_tuple (by decide +kernel) (SOp.e (se_lcC (own' := [("sign", 12)]) (t := (.v 12)) C1 (si_seq (se_v C1 (by decide +kernel))) (by decide +kernel) (fun _ _ _ _ _ C2 => (pg_b C2 (by decide +kernel))) (fun L hL => (gok_vb (by decide) L hL)) (fun _ _ _ _ _ C2 => (pts_true pts_nil)) (fun _ _ _ _ _ C2 => (se_fz (se_if (st_isN (SOp.v C2 (by decide +kernel))) (se_int (g := g0 X.K) (W := W0)) (se_add (SOp.e (se_int (g := g0 X.K) (W := W0))) (SOp.e (se_call (dvs := []) (ds := []) EV.takes0 (ok_17 T) (R.mono (by decide)) (gl_ok C2 (by decide +kernel)) T.m17 T.f17.kp (bind_17 T.f17) .nil (fun _ _ => .nil) (sa_consL (pv_ok C2 (by decide +kernel)) (sa_consT (se_int (g := g0 X.K) (W := W0)) sa_nil rfl) rfl) (by decide) rfl rfl)))))) (fun _ => rfl))) rfl)) (fun _ => rfl))) rfl) (by decide) rfl)
  (sss_cons (ss_if (st_not (st_tru (SOp.e (se_call (dvs := []) (ds := []) C.tk (ok_30 T) (R.mono (by decide)) (gl_ok C.toCn g__law_alike) T.m30 T.f30.kp (bind_30 T.f30) .nil (fun _ _ => .nil) (sa_consT (se_call (dvs := []) (ds := []) C.tk (ok_29 T) (R.mono (by decide)) (gl_ok C.toCn g__law_asked) T.m29 T.f29.kp (bind_29 T.f29) .nil (fun _ _ => .nil) (sa_consT (se_v C.toCn h8) (sa_consT (se_v C.toCn h9) sa_nil rfl) rfl) (by decide) rfl rfl) (sa_consT (se_tup (g := g0 X.K) (W := W) (sa_consT (se_str (g := g0 X.K) (W := W)) (sa_consT (se_v C.toCn h9) sa_nil rfl) rfl)) sa_nil rfl) rfl) (by decide) rfl rfl)) (fun _ => rfl))) (sss_cons (ss_ret (se_bl (g := g0 X.K) (W := W)))
  sss_nil) sss_nil)
  (sss_cons (ss_for (Ls := []) (t := (.v 10)) C.po C.calm (si_seq (se_call (dvs := []) (ds := []) C.tk (ok_32 T) (R.mono (by decide)) (gl_ok C.toCn g__law_bent) T.m32 T.f32.kp (bind_32 T.f32) .nil (fun _ _ => .nil) (sa_consL (pv_ok C.toCn h2) (sa_consT (se_ix C.toCn (SOp.v C.toCn h8) (SOp.e (se_int (g := g0 X.K) (W := W))) (fun _ _ => rfl)) (sa_consT (se_v C.toCn h9) sa_nil rfl) rfl) rfl) (by decide) rfl rfl)) (pg_f C (by decide +kernel)) (gok_v (by decide)) (sss_cons (ss_if (st_not (st_tru (SOp.e (se_call (dvs := []) (ds := []) C.tk (ok_30 T) (R.mono (by decide)) (gl_ok C.toCn g__law_alike) T.m30 T.f30.kp (bind_30 T.f30) .nil (fun _ _ => .nil) (sa_consT (se_call (dvs := []) (ds := []) C.tk (ok_29 T) (R.mono (by decide)) (gl_ok C.toCn g__law_asked) T.m29 T.f29.kp (bind_29 T.f29) .nil (fun _ _ => .nil) (sa_consT (se_v C.toCn h8) (sa_consT (se_v C.toCn h10) sa_nil rfl) rfl) (by decide) rfl rfl) (sa_consT (se_call (dvs := []) (ds := []) C.tk (ok_28 T) (R.mono (by decide)) (gl_ok C.toCn g__law_due) T.m28 T.f28.kp (bind_28 T.f28) .nil (fun _ _ => .nil) (sa_consT (se_ix C.toCn (SOp.v C.toCn h8) (SOp.e (se_int (g := g0 X.K) (W := W))) (fun _ _ => rfl)) (sa_consT (se_v C.toCn h10) sa_nil rfl) rfl) (by decide) rfl rfl) sa_nil rfl) rfl) (by decide) rfl rfl)) (fun _ => rfl))) (sss_cons (ss_ret (se_bl (g := g0 X.K) (W := W)))
  sss_nil) sss_nil)
  sss_nil) (fun _ => rfl))
  (sss_cons (ss_for (Ls := []) (t := (.v 11)) C.po C.calm (si_rg1 C.toCn fr_range g_range (se_int (g := g0 X.K) (W := W)) rfl) (pg_f C (by decide +kernel)) (gok_v (by decide)) (sss_cons (ss_setC C (by decide +kernel) (se_call (dvs := []) (ds := []) C.tk (ok_25 T) (R.mono (by decide)) (gl_ok C.toCn g__law_chances) T.m25 T.f25.kp (bind_25 T.f25) .nil (fun _ _ => .nil) (sa_consL (pv_ok C.toCn h2) (sa_consT (se_v C.toCn h3) (sa_consT (se_int (g := g0 X.K) (W := W)) sa_nil rfl) rfl) rfl) (by decide) rfl rfl) (by decide) rfl)
  (sss_cons (ss_if (st_not (st_tru (SOp.e (se_call (dvs := []) (ds := []) C.tk (ok_30 T) (R.mono (by decide)) (gl_ok C.toCn g__law_alike) T.m30 T.f30.kp (bind_30 T.f30) .nil (fun _ _ => .nil) (sa_consT (se_call (dvs := []) (ds := []) C.tk (ok_29 T) (R.mono (by decide)) (gl_ok C.toCn g__law_asked) T.m29 T.f29.kp (bind_29 T.f29) .nil (fun _ _ => .nil) (sa_consT (se_v C.toCn h4) (sa_consT (se_v C.toCn h10) sa_nil rfl) rfl) (by decide) rfl rfl) (sa_consT (se_call (dvs := []) (ds := []) C.tk (ok_28 T) (R.mono (by decide)) (gl_ok C.toCn g__law_due) T.m28 T.f28.kp (bind_28 T.f28) .nil (fun _ _ => .nil) (sa_consT (se_v C.toCn h3) (sa_consT (se_v C.toCn h10) sa_nil rfl) rfl) (by decide) rfl rfl) sa_nil rfl) rfl) (by decide) rfl rfl)) (fun _ => rfl))) (sss_cons (ss_ret (se_bl (g := g0 X.K) (W := W)))
  sss_nil) sss_nil)
  sss_nil)) (fun _ => rfl))
  (sss_cons (ss_for (Ls := []) (t := (.v 10)) C.po C.calm (si_seq (se_call (dvs := []) (ds := []) C.tk (ok_32 T) (R.mono (by decide)) (gl_ok C.toCn g__law_bent) T.m32 T.f32.kp (bind_32 T.f32) .nil (fun _ _ => .nil) (sa_consL (pv_ok C.toCn h2) (sa_consT (se_v C.toCn h3) (sa_consT (se_v C.toCn h10) sa_nil rfl) rfl) rfl) (by decide) rfl rfl)) (pg_f C (by decide +kernel)) (gok_v (by decide)) (sss_cons (ss_if (st_not (st_tru (SOp.e (se_call (dvs := []) (ds := []) C.tk (ok_30 T) (R.mono (by decide)) (gl_ok C.toCn g__law_alike) T.m30 T.f30.kp (bind_30 T.f30) .nil (fun _ _ => .nil) (sa_consT (se_call (dvs := []) (ds := []) C.tk (ok_29 T) (R.mono (by decide)) (gl_ok C.toCn g__law_asked) T.m29 T.f29.kp (bind_29 T.f29) .nil (fun _ _ => .nil) (sa_consT (se_v C.toCn h4) (sa_consT (se_v C.toCn h10) sa_nil rfl) rfl) (by decide) rfl rfl) (sa_consT (se_call (dvs := []) (ds := []) C.tk (ok_28 T) (R.mono (by decide)) (gl_ok C.toCn g__law_due) T.m28 T.f28.kp (bind_28 T.f28) .nil (fun _ _ => .nil) (sa_consT (se_v C.toCn h3) (sa_consT (se_v C.toCn h10) sa_nil rfl) rfl) (by decide) rfl rfl) sa_nil rfl) rfl) (by decide) rfl rfl)) (fun _ => rfl))) (sss_cons (ss_ret (se_bl (g := g0 X.K) (W := W)))
  sss_nil) sss_nil)
  sss_nil) (fun _ => rfl))
  sss_nil))))))))))) (fun _ => rfl))
  (sss_cons (ss_ret (se_bl (g := g0 X.K) (W := W)))
  sss_nil)))) (fun a pn => (sss_cons (ss_ret (se_bl (g := g0 X.K) (W := W0)))
  sss_nil)))
  sss_nil)
theorem ok_36 {P : Program} {w : World} {K : PySem.W.Frag} {mg : Str → Option Value} {base : Heap} {fd : Nat → FuncData} (T : Dn P w K mg fd) : FnOk P w K mg base (L2.CX P w) 43 (He.fAd K d36.at_) (fd 36) ["script"] (Prom ⟨g0 K, K⟩ mask_36 c_36) :=
  fn_okC T.f36 S36 rfl (by decide) T.fr fun X W e1 e2 e3 e4 e5 R C => by
    subst e1 e2 e3 e4 e5
    exact b_36 C R T
end LW

set_option exponentiation.threshold 2000
namespace LW
open PySem PySem.Spec L2 EV
/-- a comprehension that filters and maps, its frame kept -/
theorem lc_gen {own : List Nat} {tg : CT} {cond elt : ME} {E : DEnv} (E1 : D → DEnv) (p : D → Bool) (f : D → D) : ∀ (ds acc : List D), acc.length + ds.length ≤ 1000 →
    (∀ d ∈ ds, put tg d E = some (E1 d) ∧ cond (E1 d) = .ok (.bl (p d)) (E1 d) ∧ (p d = true → elt (E1 d) = .ok (f d) (E1 d)) ∧ wipeE own (E1 d) = E) → lcL own tg cond elt ds acc E = .ok (acc ++ (ds.filter p).map f) E
  | [], acc, _, _ => by simp [lcL]
  | d :: ds, acc, hl, h => by
    obtain ⟨h1, h2, h3, h4⟩ := h d (List.mem_cons_self ..)
    simp only [List.length_cons] at hl
    unfold lcL
    rw [h1]
    simp only
    rw [h2]
    cases hp : p d with
    | true =>
      simp only
      rw [h3 hp]
      have hlt : acc.length < LIM := by rw [LIM_is]; omega
      simp only [hlt, if_true, h4]
      rw [lc_gen E1 p f ds (acc ++ [f d]) (by simp; omega) fun x hx => h x (List.mem_cons_of_mem _ hx)]
      rw [List.filter_cons_of_pos hp]
      simp
    | false =>
      simp only [h4]
      rw [lc_gen E1 p f ds acc (by omega) fun x hx => h x (List.mem_cons_of_mem _ hx)]
      rw [List.filter_cons_of_neg (by simp [hp])]
def isint : D → Bool
  | .int _ => true
  | _ => false
theorem fz_lst {o : Bool} {xs : List D} (h : fz (.lst o xs) = true) : o = false ∧ fzs xs = true := by
  cases o with
  | true => cases h
  | false => exact ⟨rfl, h⟩
theorem isint_ok {d : D} (h : okV d = true) (hz : fz d = true) : c_4 [d] = .ok (.bl (isint d)) [] := by
  unfold c_4 callF m_4
  cases d with
  | tup xs => have hz2 : fzs xs = true := hz; simp [isint, hz2]
  | lst o xs =>
    obtain ⟨rfl, hz2⟩ := fz_lst hz
    simp [isint, hz2]
  | _ => simp [okV] at h <;> simp [isint]
theorem isint2_ok {d : D} (h : okV d = true) (hz : fz d = true) : c_22 [d] = .ok (.bl (isint d)) [] := by
  unfold c_22 callF m_22
  cases d with
  | tup xs => have hz2 : fzs xs = true := hz; simp [isint, hz2]
  | lst o xs =>
    obtain ⟨rfl, hz2⟩ := fz_lst hz
    simp [isint, hz2]
  | _ => simp [okV] at h <;> simp [isint]
def num60 : D → Bool
  | .int i => decide (0 ≤ i) && decide (i ≤ 60)
  | _ => false
theorem isnum_ok {d : D} (h : okV d = true) (hz : fz d = true) : c_5 [d, .int 0, .int 60] = .ok (.bl (num60 d)) [] := by
  have h1 := isint_ok h hz
  unfold c_5 callF m_5
  cases d with
  | tup xs => have hz2 : fzs xs = true := hz; simp [num60, isint, hz2] at h1 ⊢; simp [h1]
  | lst o xs =>
    obtain ⟨rfl, hz2⟩ := fz_lst hz
    simp [num60, isint, hz2] at h1 ⊢; simp [h1]
  | int i =>
    simp [num60, isint] at h1 ⊢
    by_cases hl : 0 ≤ i <;> simp [h1, hl]
  | _ => simp [okV] at h <;> (simp [num60, isint] at h1 ⊢; simp [h1])
def istup (n : Int) : D → Bool
  | .tup xs => (xs.length : Int) == n
  | _ => false
theorem istup_ok {d : D} {n : Int} (h : okV d = true) (hz : fz d = true) : c_6 [d, .int n] = .ok (.bl (istup n d)) [] := by
  unfold c_6 callF m_6
  cases d with
  | tup xs => have hz2 : fzs xs = true := hz; simp [istup, hz2]
  | lst o xs =>
    obtain ⟨rfl, hz2⟩ := fz_lst hz
    simp [istup, hz2]
  | _ => simp [okV] at h <;> simp [istup]
theorem frzs_len : ∀ xs : List D, (frzs xs).length = xs.length
  | [] => rfl
  | x :: xs => congrArg (· + 1) (frzs_len xs)
theorem nat_beq0 (n : Nat) : (((n : Nat) : Int) == 0) = (n == 0) := by
  rw [Bool.eq_iff_iff]
  simp
/-- so many numbers to 60 -/
def nums (n : Nat) : D → Bool
  | .tup cs => (cs.length == n) && cs.all num60
  | _ => false
theorem fz_mem {xs : List D} (h : fzs xs = true) {x : D} (hx : x ∈ xs) : fz x = true := by
  rw [fzs_all, List.all_eq_true] at h
  exact h x hx
theorem nums_ok {d : D} {n : Nat} (hn : n < 500) (h : okV d = true) (hz : fz d = true) (hc : ∀ cs, d = .tup cs → ∀ c ∈ cs, okV c = true) : c_7 [d, .int (n : Nat), .int 0, .int 60] = .ok (.bl (nums n d)) [] := by
  have ht := istup_ok (n := (n : Nat)) h hz
  by_cases h2 : istup (n : Nat) d = true
  · cases d with
    | tup cs =>
      have hl : cs.length = n := by
        have : ((cs.length : Int) == (n : Int)) = true := h2
        have := beq_iff_eq.mp this
        omega
      have hz2 : fzs cs = true := hz
      have hf := frzs_of _ hz2
      rw [h2] at ht
      have lc := lc_gen (own := [4]) (tg := .v 4) (cond := t_7_2) (elt := q_7_1) (E := [some (.tup cs), some (.int (n : Nat)), some (.int 0), some (.int 60), none]) (fun c => [some (.tup cs), some (.int (n : Nat)), some (.int 0), some (.int 60), some c]) (fun c => !num60 c) id cs [] (by simp; omega) (fun c hcm => by
        have zc := fz_mem hz2 hcm
        have h5 := isnum_ok (hc cs rfl c hcm) zc
        refine ⟨rfl, ?_, fun _ => ?_, rfl⟩
        · unfold t_7_2
          simp [zc, h5]
        · unfold q_7_1
          simp [zc])
      have e : ((List.filter (fun c => !num60 c) cs).length == 0) = cs.all num60 := by
        rw [Bool.eq_iff_iff]
        simp [List.filter_eq_nil_iff]
      have en : nums n (.tup cs) = cs.all num60 := by simp [nums, hl]
      rw [en, ← e]
      unfold c_7 callF m_7
      simp [hz2, hf, ht, lc, frzs_len, nat_beq0]
    | _ => cases h2
  · have h2 : istup (n : Nat) d = false := by simpa using h2
    rw [h2] at ht
    have en : nums n d = false := by
      cases d with
      | tup cs =>
        have : ((cs.length : Int) == (n : Int)) = false := h2
        have : cs.length ≠ n := fun e => by rw [e] at this; simp at this
        simp [nums, this]
      | _ => rfl
    rw [en]
    have hf := frz_of _ hz
    unfold c_7 callF m_7
    simp [hz, hf, ht]
end LW

namespace LW
open PySem PySem.Spec L2 EV
/-- a sign of a room: none; or task, wrong, the room behind -/
abbrev Sg := Option (Int × Int × Nat)
def sgD : Sg → D
  | none => .non
  | some (t, w, g) => .tup [.int t, .int w, .int (g : Nat)]
abbrev Rm := List Sg
def rmD (r : Rm) : D := .tup (r.map sgD)
def bkD (B : List Rm) : D := .tup (B.map rmD)
theorem sg_fz (s : Sg) : fz (sgD s) = true := by
  cases s with
  | none => rfl
  | some x => obtain ⟨t, w, g⟩ := x; rfl
theorem sgs_fz (r : Rm) : fzs (r.map sgD) = true := by
  rw [fzs_all, List.all_eq_true]
  intro d hd
  obtain ⟨s, _, rfl⟩ := List.mem_map.mp hd
  exact sg_fz s
theorem rms_fz (B : List Rm) : fzs (B.map rmD) = true := by
  rw [fzs_all, List.all_eq_true]
  intro d hd
  obtain ⟨s, _, rfl⟩ := List.mem_map.mp hd
  exact sgs_fz s
theorem isN_sg (s : Sg) : isN (sgD s) = s.isNone := by
  cases s with
  | none => rfl
  | some x => rfl
/-- a sign that can't come has no chance -/
def okC (s : Sg) : D → Bool
  | .int i => !(s.isNone && decide (0 < i))
  | _ => true
/-- the entry of a room is right -/
def chB (r : Rm) : D → Bool
  | .tup cs => (cs.length == r.length) && (cs.all num60 && (List.zipWith okC r cs).all id)
  | _ => false
theorem zw_mem {α β γ : Type} {f : α → β → γ} : ∀ {xs : List α} {ys : List β} {z : γ}, z ∈ List.zipWith f xs ys → ∃ x y, x ∈ xs ∧ y ∈ ys ∧ z = f x y
  | [], _, _, h => by simp at h
  | _ :: _, [], _, h => by simp at h
  | x :: xs, y :: ys, z, h => by
    rw [List.zipWith_cons_cons] at h
    rcases List.mem_cons.mp h with e | h
    · exact ⟨x, y, List.mem_cons_self .., List.mem_cons_self .., e⟩
    · obtain ⟨a, b, h1, h2, h3⟩ := zw_mem h
      exact ⟨a, b, List.mem_cons_of_mem _ h1, List.mem_cons_of_mem _ h2, h3⟩
/-- the pairs that count against a row -/
def pBad : D → Bool
  | .tup [s, .int i] => isN s && decide (0 < i)
  | _ => false
theorem bad_all : ∀ (r : Rm) (cs : List D), cs.all num60 = true → ((((List.zipWith (fun x y => D.tup [x, y]) (r.map sgD) cs).filter pBad).map fun d => match d with
    | .tup (s :: _) => s
    | d => d).length == 0) = (List.zipWith okC r cs).all id
  | [], cs, _ => by simp
  | _ :: _, [], _ => by simp
  | s :: r, c :: cs, h => by
    rw [List.all_cons, Bool.and_eq_true] at h
    obtain ⟨h1, h2⟩ := h
    have ih := bad_all r cs h2
    cases c with
    | int i =>
      rw [List.map_cons, List.zipWith_cons_cons, List.zipWith_cons_cons, List.all_cons, ← ih]
      by_cases hb : (s.isNone && decide (0 < i)) = true
      · rw [List.filter_cons_of_pos (by show (isN (sgD s) && decide (0 < i)) = true; rw [isN_sg]; exact hb)]
        simp [okC, hb]
      · rw [List.filter_cons_of_neg (by show ¬ (isN (sgD s) && decide (0 < i)) = true; rw [isN_sg]; exact hb)]
        have hb : (s.isNone && decide (0 < i)) = false := by simpa using hb
        simp [okC, hb]
    | _ => cases h1
theorem num_int {c : D} (h : num60 c = true) : ∃ i : Int, c = .int i ∧ 0 ≤ i ∧ i ≤ 60 := by
  cases c with
  | int i =>
    have h : (decide (0 ≤ i) && decide (i ≤ 60)) = true := h
    rw [Bool.and_eq_true, decide_eq_true_eq, decide_eq_true_eq] at h
    exact ⟨i, rfl, h.1, h.2⟩
  | _ => cases h
theorem are_ok {d : D} {r : Rm} (hr : r.length < 500) (h : okV d = true) (hz : fz d = true) (hc : ∀ cs, d = .tup cs → ∀ c ∈ cs, okV c = true) : c_13 [d, rmD r] = .ok (.bl (chB r d)) [] := by
  have hn := nums_ok (d := d) (n := r.length) hr h hz hc
  have zr := sgs_fz r
  have fr := frzs_of _ zr
  have fd := frz_of _ hz
  have hrl : ((r.map sgD).length : Int) = (r.length : Nat) := by simp
  by_cases h2 : nums r.length d = true
  · cases d with
    | tup cs =>
      have h3 : (cs.length == r.length) = true ∧ cs.all num60 = true := by
        have : ((cs.length == r.length) && cs.all num60) = true := h2
        rwa [Bool.and_eq_true] at this
      have hl : cs.length = r.length := by simpa using h3.1
      have zc : fzs cs = true := hz
      have fc := frzs_of _ zc
      rw [h2] at hn
      have lc := lc_gen (own := [2, 3]) (tg := .t [.v 2, .v 3]) (cond := t_13_2) (elt := q_13_1) (E := [some (.tup cs), some (rmD r), none, none]) (fun p => match p with
          | .tup [x, y] => [some (.tup cs), some (rmD r), some x, some y]
          | _ => []) pBad (fun d => match d with
          | .tup (s :: _) => s
          | d => d) (List.zipWith (fun x y => D.tup [x, y]) (r.map sgD) cs) [] (by simp; omega) (fun p hp => by
        obtain ⟨x, y, hx, hy, rfl⟩ := zw_mem hp
        obtain ⟨s, _, rfl⟩ := List.mem_map.mp hx
        obtain ⟨i, rfl, _, _⟩ := num_int (List.all_eq_true.mp h3.2 y hy)
        have zs := sg_fz s
        refine ⟨by simp, ?_, fun _ => ?_, rfl⟩
        · show t_13_2 [some (.tup cs), some (rmD r), some (sgD s), some (.int i)] = .ok (.bl (isN (sgD s) && decide (0 < i))) [some (.tup cs), some (rmD r), some (sgD s), some (.int i)]
          unfold t_13_2
          cases s with
          | none => simp [sgD]
          | some x => obtain ⟨t, w, g⟩ := x; simp [sgD]
        · show q_13_1 [some (.tup cs), some (rmD r), some (sgD s), some (.int i)] = .ok (sgD s) [some (.tup cs), some (rmD r), some (sgD s), some (.int i)]
          unfold q_13_1
          simp [zs])
      have e := bad_all r cs h3.2
      have en : chB r (.tup cs) = (List.zipWith okC r cs).all id := by simp [chB, hl, h3.2]
      rw [en, ← e]
      unfold c_13 callF m_13
      unfold rmD at lc ⊢
      simp [zc, hn, zr, fr, fc, lc, frzs_len, nat_beq0]
    | _ => cases h2
  · have h2 : nums r.length d = false := by simpa using h2
    rw [h2] at hn
    have en : chB r d = false := by
      cases d with
      | tup cs =>
        have : ((cs.length == r.length) && cs.all num60) = false := h2
        show ((cs.length == r.length) && (cs.all num60 && _)) = false
        rw [← Bool.and_assoc, this]
        rfl
      | _ => rfl
    rw [en]
    unfold c_13 callF m_13
    unfold rmD
    simp [hz, hn, zr, fr, fd]
end LW

namespace LW
open PySem PySem.Spec L2 EV
abbrev refD (k : Int) : D := .tup [.str "refused", .int k]
theorem pair_ok {bd v e : D} {k : Int} {s : Sg} {c : D} {x6 : Option D} (hv : okV c = true) (hz : fz c = true) : s_28_1 [some bd, some v, some (.int k), some e, some (sgD s), some c, x6] =
    if (num60 c && okC s c) = true then .nx [some bd, some v, some (.int k), some e, some (sgD s), some c, x6] else .rt (refD k) [some bd, some v, some (.int k), some e, some (sgD s), some c, x6] := by
  have h4 := isint2_ok hv hz
  unfold s_28_1
  cases c with
  | int i =>
    have h4 : c_22 [D.int i] = .ok (.bl true) [] := h4
    by_cases h0 : i < 0
    · have : ¬ 0 ≤ i := by omega
      simp [h4, h0, num60, this]
    · have h0' : 0 ≤ i := by omega
      by_cases h6 : 60 < i
      · have : ¬ i ≤ 60 := by omega
        simp [h4, h0, h6, num60, this]
      · have h6' : i ≤ 60 := by omega
        cases s with
        | none =>
          by_cases hi : i = 0
          · subst hi
            simp [h4, num60, okC, sgD]
          · have hp : 0 < i := by omega
            have hb : (i == 0) = false := by simpa using hi
            simp [h4, h0, h6, h0', h6', num60, okC, sgD, hb, hp]
        | some x =>
          obtain ⟨t, w, g⟩ := x
          simp [h4, h0, h6, h0', h6', num60, okC, sgD]
  | tup xs => 
    have hz2 : fzs xs = true := hz
    have h4 : c_22 [D.tup xs] = .ok (.bl false) [] := h4
    simp [h4, num60, hz2]
  | lst o xs =>
    obtain ⟨rfl, hz2⟩ := fz_lst hz
    have h4 : c_22 [D.lst false xs] = .ok (.bl false) [] := h4
    simp [h4, num60, hz2]
  | non => have h4 : c_22 [D.non] = .ok (.bl false) [] := h4; simp [h4, num60]
  | bl b => have h4 : c_22 [D.bl b] = .ok (.bl false) [] := h4; simp [h4, num60]
  | str b => have h4 : c_22 [D.str b] = .ok (.bl false) [] := h4; simp [h4, num60]
  | _ => cases hv
theorem row_ok {bd v e : D} {k : Int} {x6 : Option D} : ∀ (r : Rm) (cs : List D) (x4 x5 : Option D), cs.length = r.length → (∀ c ∈ cs, okV c = true ∧ fz c = true) →
    ((cs.all num60 && (List.zipWith okC r cs).all id) = true → ∃ y4 y5, forL (.t [.v 4, .v 5]) s_28_1 (List.zipWith (fun x y => D.tup [x, y]) (r.map sgD) cs) [some bd, some v, some (.int k), some e, x4, x5, x6] = .nx [some bd, some v, some (.int k), some e, y4, y5, x6]) ∧
    ((cs.all num60 && (List.zipWith okC r cs).all id) = false → ∃ e', forL (.t [.v 4, .v 5]) s_28_1 (List.zipWith (fun x y => D.tup [x, y]) (r.map sgD) cs) [some bd, some v, some (.int k), some e, x4, x5, x6] = .rt (refD k) e')
  | [], [], x4, x5, _, _ => ⟨fun _ => ⟨x4, x5, rfl⟩, fun h => by simp at h⟩
  | [], _ :: _, _, _, h, _ => by simp at h
  | _ :: _, [], _, _, h, _ => by simp at h
  | s :: r, c :: cs, x4, x5, hl, hc => by
    obtain ⟨cv, cz⟩ := hc c (List.mem_cons_self ..)
    have hp := pair_ok (bd := bd) (v := v) (e := e) (k := k) (s := s) (x6 := x6) cv cz
    obtain ⟨ih1, ih2⟩ := row_ok (bd := bd) (v := v) (e := e) (k := k) (x6 := x6) r cs (some (sgD s)) (some c) (by simpa using hl) fun x hx => hc x (List.mem_cons_of_mem _ hx)
    have es : (((c :: cs).all num60) && (List.zipWith okC (s :: r) (c :: cs)).all id) = ((num60 c && okC s c) && (cs.all num60 && (List.zipWith okC r cs).all id)) := by
      rw [List.all_cons, List.zipWith_cons_cons, List.all_cons]
      simp only [id]
      cases num60 c <;> cases okC s c <;> simp
    have st : ∀ (R : RS), (if (num60 c && okC s c) = true then forL (.t [.v 4, .v 5]) s_28_1 (List.zipWith (fun x y => D.tup [x, y]) (r.map sgD) cs) [some bd, some v, some (.int k), some e, some (sgD s), some c, x6] else .rt (refD k) [some bd, some v, some (.int k), some e, some (sgD s), some c, x6]) = R →
        forL (.t [.v 4, .v 5]) s_28_1 (List.zipWith (fun x y => D.tup [x, y]) ((s :: r).map sgD) (c :: cs)) [some bd, some v, some (.int k), some e, x4, x5, x6] = R := by
      rintro R rfl
      rw [List.map_cons, List.zipWith_cons_cons]
      conv => lhs; unfold forL
      simp only [put_t, puts_cons, put_v, Option.bind_some, puts_nil, List.set_cons_succ, List.set_cons_zero]
      rw [hp]
      cases (num60 c && okC s c) <;> rfl
    rw [es]
    cases hb : (num60 c && okC s c) with
    | true =>
      rw [hb] at st
      simp only [if_true, Bool.true_and] at st ⊢
      refine ⟨fun h => ?_, fun h => ?_⟩
      · obtain ⟨y4, y5, h1⟩ := ih1 h
        exact ⟨y4, y5, st _ h1⟩
      · obtain ⟨e', h1⟩ := ih2 h
        exact ⟨e', st _ h1⟩
    | false =>
      rw [hb] at st
      simp only [Bool.false_and, Bool.false_eq_true, if_false] at st ⊢
      exact ⟨fun h => h.elim, fun _ => ⟨_, st _ rfl⟩⟩
theorem atI_at {α : Type} {xs : List α} {k : Nat} {x : α} (h : xs[k]? = some x) : atI xs (k : Nat) = some x := by
  obtain ⟨hk, h2⟩ := List.getElem?_eq_some_iff.mp h
  simp [atI, ixN, hk, h2]
/-- what the checks may look into -/
def deepV (d : D) : Prop := okV d = true ∧ fz d = true ∧ ∀ cs, d = .tup cs → ∀ c ∈ cs, okV c = true
theorem room_ok {B : List Rm} {es : List D} {k : Nat} {x3 x4 x5 x6 : Option D} {r : Rm} {d : D} (hr : B[k]? = some r) (hd : es[k]? = some d) (hv : deepV d) (hze : fzs es = true) (hrl : r.length < 500) :
    (chB r d = true → ∃ y3 y4 y5, s_28_2 [some (bkD B), some (.tup es), some (.int (k : Nat)), x3, x4, x5, x6] = .nx [some (bkD B), some (.tup es), some (.int (k : Nat)), y3, y4, y5, x6]) ∧
    (chB r d = false → ∃ e', s_28_2 [some (bkD B), some (.tup es), some (.int (k : Nat)), x3, x4, x5, x6] = .rt (refD (k : Nat)) e') := by
  obtain ⟨v1, v2, v3⟩ := hv
  have i1 : atI es (k : Nat) = some d := atI_at hd
  have i2 : atI (B.map rmD) (k : Nat) = some (rmD r) := atI_at (by rw [List.getElem?_map, hr]; rfl)
  have zr : fzs (r.map sgD) = true := sgs_fz r
  have fr := frzs_of _ zr
  have zb := rms_fz B
  have fd := frz_of _ v2
  by_cases ht : ∃ cs, d = .tup cs ∧ cs.length = r.length
  · obtain ⟨cs, rfl, hl⟩ := ht
    have zc : fzs cs = true := v2
    have fc := frzs_of _ zc
    obtain ⟨r1, r2⟩ := row_ok (bd := bkD B) (v := .tup es) (e := .tup cs) (k := (k : Nat)) (x6 := x6) r cs x4 x5 hl fun c hc => ⟨v3 cs rfl c hc, fz_mem zc hc⟩
    have en : chB r (.tup cs) = (cs.all num60 && (List.zipWith okC r cs).all id) := by simp [chB, hl]
    rw [en]
    refine ⟨fun h => ?_, fun h => ?_⟩
    · obtain ⟨y4, y5, h1⟩ := r1 h
      refine ⟨some (.tup cs), y4, y5, ?_⟩
      unfold s_28_2
      unfold bkD rmD at *
      simp [zb, i1, i2, hze, zc, fc, hl, zr, fr, h1]
    · obtain ⟨e', h1⟩ := r2 h
      refine ⟨e', ?_⟩
      unfold s_28_2
      unfold bkD rmD at *
      simp [zb, i1, i2, hze, zc, fc, hl, zr, fr, h1]
  · have en : chB r d = false := by
      cases d with
      | tup cs =>
        have : (cs.length == r.length) = false := by
          rw [beq_eq_false_iff_ne]
          exact fun e => ht ⟨cs, rfl, e⟩
        show ((cs.length == r.length) && _) = false
        rw [this]
        rfl
      | _ => rfl
    rw [en]
    refine ⟨(fun h => by cases h), fun _ => ?_⟩
    refine ⟨[some (bkD B), some (.tup es), some (.int (k : Nat)), some d, x4, x5, x6], ?_⟩
    unfold s_28_2
    unfold bkD rmD at *
    cases d with
    | tup cs =>
      have hl : cs.length ≠ r.length := fun e => ht ⟨cs, rfl, e⟩
      have hl2 : ((cs.length : Int) == (r.length : Int)) = false := by
        rw [beq_eq_false_iff_ne]
        omega
      have zc : fzs cs = true := v2
      have fc := frzs_of _ zc
      simp [zb, i1, i2, hze, zc, fc, zr, fr, hl2]
    | lst o xs =>
      obtain ⟨rfl, hz2⟩ := fz_lst v2
      have f2 := frzs_of _ hz2
      simp [zb, i1, hze, hz2, f2]
    | non => simp [zb, i1, hze]
    | bl b => simp [zb, i1, hze]
    | int b => simp [zb, i1, hze]
    | str b => simp [zb, i1, hze]
    | _ => cases v1
end LW

namespace LW
open PySem PySem.Spec L2 EV
/-- the rooms behind the drawn signs of one room, noted -/
def vis : Rm → List Int → List Nat → List Nat
  | some (_, _, g) :: rm, c :: cs, L => vis rm cs (if 0 < c ∧ g ∉ L then L ++ [g] else L)
  | none :: rm, _ :: cs, L => vis rm cs L
  | _, _, L => L
def walk (B : List Rm) (S : List (List Int)) : Nat → Nat → List Nat → List Nat
  | 0, _, L => L
  | n + 1, k, L => match L[k]? with
    | some r => walk B S n (k + 1) (vis (B.getD r []) (S.getD r []) L)
    | none => L
/-- a matrix of chances that fits the book -/
structure Mat (B : List Rm) (S : List (List Int)) (si : Nat) : Prop where
  bl : B.length < 100
  b0 : 0 < B.length
  s0 : 0 < si
  sl : si < 100
  len : S.length = B.length
  rl : ∀ r ∈ B, r.length = si
  cl : ∀ c ∈ S, c.length = si
  pos : ∀ c ∈ S, ∀ x ∈ c, 0 ≤ x ∧ x ≤ 60
  nn : ∀ (i j : Nat) (r : Rm) (c : List Int), B[i]? = some r → S[i]? = some c → r[j]? = some none → c[j]? = some 0
  go : ∀ r ∈ B, ∀ t w g, some (t, w, g) ∈ r → g < B.length
/-- rooms told once, and there -/
def Ok (n : Nat) (L : List Nat) : Prop := L.Nodup ∧ ∀ x ∈ L, x < n
theorem pigeon : ∀ (n : Nat) {L : List Nat}, Ok n L → L.length ≤ n
  | 0, L, h => by
    cases L with
    | nil => exact Nat.le_refl _
    | cons x L => exact absurd (h.2 x (List.mem_cons_self ..)) (Nat.not_lt_zero _)
  | n + 1, L, h => by
    by_cases hn : n ∈ L
    · have h1 : Ok n (L.erase n) := ⟨h.1.erase n, fun x hx => by
        have h2 := (List.Nodup.mem_erase_iff h.1).mp hx
        have := h.2 x h2.2
        omega⟩
      have h2 := pigeon n h1
      rw [List.length_erase_of_mem hn] at h2
      omega
    · have h1 : Ok n L := ⟨h.1, fun x hx => by
        have h2 : x ≠ n := fun e => hn (e ▸ hx)
        have := h.2 x hx
        omega⟩
      exact Nat.le_succ_of_le (pigeon n h1)
theorem Ok.add {n : Nat} {L : List Nat} {g : Nat} (h : Ok n L) (hg : g < n) (hn : g ∉ L) : Ok n (L ++ [g]) := by
  refine ⟨List.nodup_append.mpr ⟨h.1, by simp, fun a ha b hb => ?_⟩, fun x hx => ?_⟩
  · rw [List.mem_singleton.mp hb]
    exact fun e => hn (e ▸ ha)
  · rcases List.mem_append.mp hx with hx | hx
    · exact h.2 x hx
    · rw [List.mem_singleton.mp hx]; exact hg
/-- it grows at its end -/
theorem vis_pre : ∀ (rm : Rm) (cs : List Int) (L : List Nat), L <+: vis rm cs L
  | some (t, w, g) :: rm, c :: cs, L => by
    unfold vis
    split
    · exact (List.prefix_append L [g]).trans (vis_pre rm cs _)
    · exact vis_pre rm cs L
  | none :: rm, _ :: cs, L => by
    unfold vis
    exact vis_pre rm cs L
  | [], _, L => by simp [vis]
  | some _ :: _, [], L => by simp [vis]
  | none :: _, [], L => by simp [vis]
theorem vis_ok {n : Nat} : ∀ (rm : Rm) (cs : List Int) (L : List Nat), Ok n L → (∀ t w g, some (t, w, g) ∈ rm → g < n) → Ok n (vis rm cs L)
  | some (t, w, g) :: rm, c :: cs, L, h, hg => by
    unfold vis
    refine vis_ok rm cs _ ?_ fun t w g h => hg t w g (List.mem_cons_of_mem _ h)
    split
    · rename_i z
      exact h.add (hg t w g (List.mem_cons_self ..)) z.2
    · exact h
  | none :: rm, _ :: cs, L, h, hg => by
    unfold vis
    exact vis_ok rm cs L h fun t w g h => hg t w g (List.mem_cons_of_mem _ h)
  | [], _, L, h, _ => by simpa [vis] using h
  | some _ :: _, [], L, h, _ => by simpa [vis] using h
  | none :: _, [], L, h, _ => by simpa [vis] using h
theorem getD_at {α : Type} {xs : List α} {k : Nat} {d : α} (h : k < xs.length) : xs[k]? = some (xs.getD k d) := by
  rw [List.getD_eq_getElem?_getD, List.getElem?_eq_getElem h]
  rfl
theorem Mat.at_ {B : List Rm} {S : List (List Int)} {si : Nat} (M : Mat B S si) {r : Nat} (h : r < B.length) : B[r]? = some (B.getD r []) ∧ S[r]? = some (S.getD r []) := ⟨getD_at h, getD_at (by rw [M.len]; exact h)⟩
theorem walk_pre {B : List Rm} {S : List (List Int)} : ∀ (n k : Nat) (L : List Nat), L <+: walk B S n k L
  | 0, _, L => List.prefix_refl L
  | n + 1, k, L => by
    unfold walk
    cases L[k]? with
    | none => exact List.prefix_refl L
    | some r => exact (vis_pre _ _ L).trans (walk_pre n (k + 1) _)
theorem walk_ok {B : List Rm} {S : List (List Int)} {si : Nat} (M : Mat B S si) : ∀ (n k : Nat) (L : List Nat), Ok B.length L → Ok B.length (walk B S n k L)
  | 0, _, L, h => h
  | n + 1, k, L, h => by
    unfold walk
    cases q : L[k]? with
    | none => exact h
    | some r =>
      have hr := h.2 r (List.mem_of_getElem? q)
      exact walk_ok M n (k + 1) _ (vis_ok _ _ L h fun t w g hg => M.go _ (List.mem_of_getElem? (M.at_ hr).1) t w g hg)
/-- all rooms that can come from r by drawn signs -/
def from_ (B : List Rm) (S : List (List Int)) (r : Nat) : List Nat := walk B S B.length 0 [r]
theorem from_ok {B : List Rm} {S : List (List Int)} {si : Nat} (M : Mat B S si) {r : Nat} (hr : r < B.length) : Ok B.length (from_ B S r) :=
  walk_ok M _ _ _ ⟨by simp, fun x hx => by rw [List.mem_singleton.mp hx]; exact hr⟩
theorem walk_end {B : List Rm} {S : List (List Int)} {n k : Nat} {L : List Nat} (h : L.length ≤ k) : walk B S n k L = L := by
  cases n with
  | zero => rfl
  | succ n =>
    unfold walk
    rw [List.getElem?_eq_none h]
end LW

namespace LW
open PySem PySem.Spec L2 EV
theorem at0 {d : D} {ds : List D} : atI (d :: ds) 0 = some d := by simp [atI, ixN]
theorem at1 {d d1 : D} {ds : List D} : atI (d :: d1 :: ds) 1 = some d1 := by
  have : (1 : Int) < (ds.length : Int) + 1 + 1 := by omega
  simp [atI, ixN, this]
theorem at2 {d d1 d2 : D} {ds : List D} : atI (d :: d1 :: d2 :: ds) 2 = some d2 := by
  have : (2 : Int) < (ds.length : Int) + 1 + 1 + 1 := by omega
  simp [atI, ixN, this]
abbrev nD (n : Nat) : D := .int (n : Nat)
abbrev iL (L : List Nat) : List D := L.map nD
abbrev rwI (c : List Int) : D := .tup (c.map D.int)
abbrev srcD (S : List (List Int)) : D := .tup (S.map rwI)
theorem iL_fz (L : List Nat) : fzs (iL L) = true := by
  rw [fzs_all, List.all_eq_true]
  intro d hd
  obtain ⟨n, _, rfl⟩ := List.mem_map.mp hd
  rfl
theorem rwI_fz (c : List Int) : fzs (c.map D.int) = true := by
  rw [fzs_all, List.all_eq_true]
  intro d hd
  obtain ⟨n, _, rfl⟩ := List.mem_map.mp hd
  rfl
theorem src_fz (S : List (List Int)) : fzs (S.map rwI) = true := by
  rw [fzs_all, List.all_eq_true]
  intro d hd
  obtain ⟨c, _, rfl⟩ := List.mem_map.mp hd
  exact rwI_fz c
theorem any_iL {g : Nat} : ∀ {L : List Nat}, ((iL L).any fun z => eqvD z (nD g)) = decide (g ∈ L)
  | [] => by simp
  | n :: L => by
    show (eqvD (nD n) (nD g) || (iL L).any fun z => eqvD z (nD g)) = _
    rw [any_iL (g := g) (L := L)]
    have : eqvD (nD n) (nD g) = decide (g = n) := by
      show (((n : Nat) : Int) == ((g : Nat) : Int)) = _
      rw [Bool.eq_iff_iff]
      simp
      omega
    rw [this, Bool.eq_iff_iff]
    simp
theorem okS_iL {m : Nat} : ∀ {L : List Nat}, eqOks (m + 1) (iL L) = true
  | [] => rfl
  | n :: L => by
    show (eqOk (m + 1) (nD n) && eqOks (m + 1) (iL L)) = true
    rw [okS_iL (m := m) (L := L)]
    rfl
theorem in_iL {g : Nat} {o : Bool} {L : List Nat} : inB (nD g) (.lst o (iL L)) = some (.bl (decide (g ∈ L))) := by
  have h : inD (nD g) (.lst o (iL L)) = some (.bl (decide (g ∈ L))) := by
    show (if eqOk 60 (nD g) && eqOks 59 (iL L) then some (D.bl ((iL L).any fun z => eqvD z (nD g))) else none) = _
    rw [okS_iL (m := 58), any_iL]
    rfl
  unfold inB
  rw [h]
theorem notin_iL {g : Nat} {o : Bool} {L : List Nat} : notinB (nD g) (.lst o (iL L)) = some (.bl (!decide (g ∈ L))) := by
  have h : inD (nD g) (.lst o (iL L)) = some (.bl (decide (g ∈ L))) := by
    show (if eqOk 60 (nD g) && eqOks 59 (iL L) then some (D.bl ((iL L).any fun z => eqvD z (nD g))) else none) = _
    rw [okS_iL (m := 58), any_iL]
    rfl
  unfold notinB
  rw [h]
/-- the numbers of drawn signs -/
def sgs : Nat → List Int → List Nat
  | k, c :: cs => if 0 < c then k :: sgs (k + 1) cs else sgs (k + 1) cs
  | _, [] => []
def pPos : D → Bool
  | .tup [_, .int c] => decide (0 < c)
  | _ => false
def pFst : D → D
  | .tup (x :: _) => x
  | d => d
theorem sgs_filter : ∀ (k : Nat) (c : List Int), ((numD k (c.map D.int)).filter pPos).map pFst = iL (sgs k c)
  | _, [] => rfl
  | k, c :: cs => by
    rw [List.map_cons]
    unfold numD sgs
    by_cases h : 0 < c
    · rw [List.filter_cons_of_pos (by show decide (0 < c) = true; simpa using h), if_pos h]
      rw [List.map_cons, sgs_filter (k + 1) cs]
      rfl
    · rw [List.filter_cons_of_neg (by show ¬ decide (0 < c) = true; simpa using h), if_neg h, sgs_filter (k + 1) cs]
theorem drawn_ok {S : List (List Int)} {r : Nat} {c : List Int} (h : S[r]? = some c) (hl : c.length < 500) : c_10 [srcD S, nD r] = .ok (.lst true (iL (sgs 0 c))) [] := by
  have z1 := src_fz S
  have z2 := rwI_fz c
  have f2 := frzs_of _ z2
  have i1 : atI (S.map rwI) (r : Nat) = some (rwI c) := atI_at (by rw [List.getElem?_map, h]; rfl)
  have lc := lc_gen (own := [2, 3]) (tg := .t [.v 2, .v 3]) (cond := t_10_2) (elt := q_10_1) (E := [some (srcD S), some (nD r), none, none]) (fun p => match p with
      | .tup [x, y] => [some (srcD S), some (nD r), some x, some y]
      | _ => []) pPos pFst (numD 0 (c.map D.int)) [] (by simp [numD_len]; omega) (fun p hp => by
    obtain ⟨k, hk⟩ := List.getElem?_of_mem hp
    obtain ⟨x, hx, rfl⟩ := numD_nth hk
    rw [List.getElem?_map] at hx
    cases hc : c[k]? with
    | none => rw [hc] at hx; cases hx
    | some i =>
      rw [hc] at hx
      injection hx with hx
      subst hx
      refine ⟨by simp, ?_, fun _ => ?_, rfl⟩
      · show t_10_2 [some (srcD S), some (nD r), some (nD k), some (.int i)] = .ok (.bl (decide (0 < i))) [some (srcD S), some (nD r), some (nD k), some (.int i)]
        unfold t_10_2
        simp
      · show q_10_1 [some (srcD S), some (nD r), some (nD k), some (.int i)] = .ok (nD k) [some (srcD S), some (nD r), some (nD k), some (.int i)]
        unfold q_10_1
        simp)
  rw [List.nil_append, sgs_filter] at lc
  unfold c_10 callF m_10
  simp [z1, z2, f2, i1, lc]
end LW

namespace LW
open PySem PySem.Spec L2 EV
abbrev wf (B : List Rm) (S : List (List Int)) (x2 : Option D) (L : List Nat) (k : Nat) (x5 x6 : Option D) : DEnv := [some (bkD B), some (srcD S), x2, some (.lst true (iL L)), some (nD k), x5, x6]
section
variable {B : List Rm} {S : List (List Int)} {si : Nat}
theorem atB {r : Nat} {room : Rm} (h : B[r]? = some room) : atI (B.map rmD) (r : Nat) = some (rmD room) := atI_at (by rw [List.getElem?_map, h]; rfl)
theorem atR {k : Nat} {room : Rm} {s : Sg} (h : room[k]? = some s) : atI (room.map sgD) (k : Nat) = some (sgD s) := atI_at (by rw [List.getElem?_map, h]; rfl)
theorem atL {k r : Nat} {L : List Nat} (h : L[k]? = some r) : atI (iL L) (k : Nat) = some (nD r) := atI_at (by rw [List.getElem?_map, h]; rfl)
theorem step11 {x2 x6 : Option D} {L : List Nat} {at_ r k g : Nat} {t w : Int} {room : Rm} (h1 : L[at_]? = some r) (h2 : B[r]? = some room) (h3 : room[k]? = some (some (t, w, g))) (hl : L.length < 1000) :
    s_11_1 (wf B S x2 L at_ (some (nD k)) x6) = .nx (wf B S x2 (if g ∉ L then L ++ [g] else L) at_ (some (nD k)) (some (nD g))) := by
  have zb := rms_fz B
  have zr := sgs_fz room
  have fr := frzs_of _ zr
  have zl := iL_fz L
  have fl := frzs_of _ zl
  have ni := notin_iL (g := g) (o := false) (L := L)
  have i1 := atL h1
  have i2 := atB h2
  have i3 := atR h3
  have hl2 : L.length < 1000000 := by omega
  unfold s_11_1
  by_cases hg : g ∈ L
  · simp [wf, bkD, zb, zr, fr, zl, fl, i1, i2, i3, sgD, at2, ni, hg, rmD]
  · simp [wf, bkD, zb, zr, fr, zl, fl, i1, i2, i3, sgD, at2, ni, hg, hl2, rmD]
theorem pre_at {L L' : List Nat} {k r : Nat} (h : L[k]? = some r) (p : L <+: L') : L'[k]? = some r := by
  obtain ⟨t, rfl⟩ := p
  rw [List.getElem?_append_left (List.getElem?_eq_some_iff.mp h).1]
  exact h
theorem inner11 {x2 : Option D} {at_ r : Nat} {room : Rm} (h2 : B[r]? = some room) (hgo : ∀ t w g, some (t, w, g) ∈ room → g < B.length) (hbl : B.length < 100) : ∀ (rm : Rm) (cs : List Int) (k : Nat) (L : List Nat) (x5 x6 : Option D), rm.length = cs.length → L[at_]? = some r → Ok B.length L → (∀ j, room[k + j]? = rm[j]?) → (∀ j : Nat, rm[j]? = some none → cs[j]? = some 0) →
    ∃ y5 y6, forL (.v 5) s_11_1 (iL (sgs k cs)) (wf B S x2 L at_ x5 x6) = .nx (wf B S x2 (vis rm cs L) at_ y5 y6)
  | [], [], k, L, x5, x6, _, _, _, _, _ => ⟨x5, x6, by simp [sgs, vis, forL]⟩
  | [], _ :: _, _, _, _, _, h, _, _, _, _ => by simp at h
  | _ :: _, [], _, _, _, _, h, _, _, _, _ => by simp at h
  | s :: rm, c :: cs, k, L, x5, x6, hl, h1, hok, hr, hn => by
    have hr' : ∀ j, room[k + 1 + j]? = rm[j]? := fun j => by
      have := hr (j + 1)
      rw [show k + 1 + j = k + (j + 1) from by omega]; exact this
    have hn' : ∀ j : Nat, rm[j]? = some none → cs[j]? = some 0 := fun j hj => by
      have := hn (j + 1) hj
      simpa using this
    have hl' : rm.length = cs.length := by simpa using hl
    by_cases hc : 0 < c
    · cases s with
      | none =>
        have := hn 0 rfl
        injection this with this
        omega
      | some x =>
        obtain ⟨t, w, g⟩ := x
        have h3 : room[k]? = some (some (t, w, g)) := hr 0
        have hlen := pigeon _ hok
        have st := step11 (S := S) (x2 := x2) (x6 := x6) h1 h2 h3 (by omega)
        have hok' : Ok B.length (if g ∉ L then L ++ [g] else L) := by
          split
          · rename_i z
            exact hok.add (hgo t w g (List.mem_of_getElem? h3)) z
          · exact hok
        have h1' : (if g ∉ L then L ++ [g] else L)[at_]? = some r := by
          split
          · exact pre_at h1 (List.prefix_append L [g])
          · exact h1
        obtain ⟨y5, y6, ih⟩ := inner11 (x2 := x2) h2 hgo hbl rm cs (k + 1) _ (some (nD k)) (some (nD g)) hl' h1' hok' hr' hn'
        refine ⟨y5, y6, ?_⟩
        have e1 : sgs k (c :: cs) = k :: sgs (k + 1) cs := by
          conv => lhs; unfold sgs
          rw [if_pos hc]
        have e2 : vis (some (t, w, g) :: rm) (c :: cs) L = vis rm cs (if g ∉ L then L ++ [g] else L) := by
          conv => lhs; unfold vis
          simp [hc]
        rw [e1, e2]
        show forL (.v 5) s_11_1 (nD k :: iL (sgs (k + 1) cs)) _ = _
        conv => lhs; unfold forL
        simp only [put_v, List.set_cons_succ, List.set_cons_zero]
        rw [st]
        exact ih
    · obtain ⟨y5, y6, ih⟩ := inner11 (x2 := x2) h2 hgo hbl rm cs (k + 1) L x5 x6 hl' h1 hok hr' hn'
      refine ⟨y5, y6, ?_⟩
      have e1 : sgs k (c :: cs) = sgs (k + 1) cs := by
        conv => lhs; unfold sgs
        rw [if_neg hc]
      have e2 : vis (s :: rm) (c :: cs) L = vis rm cs L := by
        cases s with
        | none => rfl
        | some x =>
          obtain ⟨t, w, g⟩ := x
          conv => lhs; unfold vis
          simp [hc]
      rw [e1, e2]
      exact ih
theorem rooms_ok (M : Mat B S si) {r : Nat} (hr : r < B.length) : c_11 [bkD B, srcD S, nD r] = .ok (.lst true (iL (from_ B S r))) [] := by
  have zb : fz (bkD B) = true := rms_fz B
  have zs : fz (srcD S) = true := src_fz S
  have H : ∃ k y5 y6, whileN t_11_2 s_11_3 FUEL (wf B S (some (nD r)) [r] 0 none none) = .nx (wf B S (some (nD r)) (from_ B S r) k y5 y6) := by
    refine whileN_rule (t := t_11_2) (m := s_11_3) (fun R => ∃ k y5 y6, R = .nx (wf B S (some (nD r)) (from_ B S r) k y5 y6))
      (fun μ e => ∃ L k x5 x6, e = wf B S (some (nD r)) L k x5 x6 ∧ μ + k = B.length ∧ Ok B.length L ∧ walk B S μ k L = from_ B S r) ?_ FUEL B.length _
      ⟨[r], 0, none, none, rfl, by omega, ⟨by simp, fun x hx => by rw [List.mem_singleton.mp hx]; exact hr⟩, rfl⟩ (by rw [FUEL_eq]; have := M.bl; omega)
    rintro μ e ⟨L, k, x5, x6, rfl, hμ, hok, hw⟩
    have hlen := pigeon _ hok
    have ht : t_11_2 (wf B S (some (nD r)) L k x5 x6) = .ok (.bl (decide (k < L.length))) (wf B S (some (nD r)) L k x5 x6) := by
      have zl := iL_fz L
      unfold t_11_2
      simp [wf, zl]
    rw [ht, stB_ok]
    by_cases hk : k < L.length
    · rw [if_pos (by simpa using hk)]
      have hLk : L[k]? = some L[k] := List.getElem?_eq_getElem hk
      have hq : L[k] < B.length := hok.2 _ (List.getElem_mem hk)
      obtain ⟨b1, b2⟩ := M.at_ hq
      generalize L[k] = q at *
      have c1 := M.cl _ (List.mem_of_getElem? b2)
      have r1 := M.rl _ (List.mem_of_getElem? b1)
      have hd := drawn_ok (S := S) (r := q) b2 (by have := M.sl; omega)
      obtain ⟨y5, y6, hi⟩ := inner11 (S := S) (x2 := some (nD r)) b1 (M.go _ (List.mem_of_getElem? b1)) M.bl (B.getD q []) (S.getD q []) 0 L x5 x6 (by rw [c1, r1]) hLk hok (fun j => by rw [Nat.zero_add]) (fun j hj => M.nn q j _ _ b1 b2 hj)
      have zl := iL_fz L
      have fl := frzs_of _ zl
      have i1 := atL hLk
      have zg := iL_fz (sgs 0 (S.getD q []))
      have fg := frzs_of _ zg
      have hs : s_11_3 (wf B S (some (nD r)) L k x5 x6) = .nx (wf B S (some (nD r)) (vis (B.getD q []) (S.getD q []) L) (k + 1) y5 y6) := by
        unfold s_11_3
        have zs2 := src_fz S
        have hi2 : forL (.v 5) s_11_1 (iL (sgs 0 (S.getD q []))) [some (bkD B), some (srcD S), some (nD r), some (.lst true (iL L)), some (nD k), x5, x6] = .nx (wf B S (some (nD r)) (vis (B.getD q []) (S.getD q []) L) k y5 y6) := hi
        simp only [wf] at hi2 ⊢
        generalize S.getD q [] = row at *
        simp [zs2, zl, fl, i1, hd, zg, fg, hi2, mAug]
      rw [hs]
      obtain ⟨n, rfl⟩ : ∃ n, μ = n + 1 := ⟨μ - 1, by omega⟩
      refine ⟨n, Nat.lt_succ_self _, _, k + 1, y5, y6, rfl, by omega, vis_ok _ _ _ hok (M.go _ (List.mem_of_getElem? b1)), ?_⟩
      rw [← hw]
      conv => rhs; unfold walk
      rw [hLk]
    · rw [if_neg (by simpa using hk)]
      rw [walk_end (by omega)] at hw
      exact ⟨k, x5, x6, by rw [hw]⟩
  obtain ⟨k, y5, y6, H⟩ := H
  have H2 : whileN t_11_2 s_11_3 FUEL [some (bkD B), some (srcD S), some (nD r), some (.lst true [nD r]), some (.int 0), none, none] = .nx (wf B S (some (nD r)) (from_ B S r) k y5 y6) := H
  unfold c_11 callF m_11
  simp [H2]
end
end LW

namespace LW
open PySem PySem.Spec L2 EV
abbrev lf (B : List Rm) (S : List (List Int)) (x2 : Option D) (L : List Nat) (x4 x5 : Option D) : DEnv := [some (bkD B), some (srcD S), x2, some (.lst true (iL L)), x4, x5]
section
variable {B : List Rm} {S : List (List Int)} {si : Nat}
theorem atS {r : Nat} {row : List Int} (h : S[r]? = some row) : atI (S.map rwI) (r : Nat) = some (rwI row) := atI_at (by rw [List.getElem?_map, h]; rfl)
theorem atC {k : Nat} {row : List Int} {c : Int} (h : row[k]? = some c) : atI (row.map D.int) (k : Nat) = some (.int c) := atI_at (by rw [List.getElem?_map, h]; rfl)
theorem step26 {x2 : Option D} {L : List Nat} {at_ r k : Nat} {c : Int} {s : Sg} {room : Rm} {row : List Int} (h1 : L[at_]? = some r) (h2 : B[r]? = some room) (h2' : S[r]? = some row) (h3 : room[k]? = some s) (h3' : row[k]? = some c) (hn : s = none → c = 0) (hl : L.length < 1000) :
    s_26_1 (lf B S x2 L (some (nD at_)) (some (nD k))) = .nx (lf B S x2 (match s with
      | some (_, _, g) => if 0 < c ∧ g ∉ L then L ++ [g] else L
      | none => L) (some (nD at_)) (some (nD k))) := by
  have zb := rms_fz B
  have zs := src_fz S
  have zr := sgs_fz room
  have fr := frzs_of _ zr
  have zw := rwI_fz row
  have fw := frzs_of _ zw
  have zl := iL_fz L
  have fl := frzs_of _ zl
  have i1 := atL h1
  have i2 := atB h2
  have i3 := atR h3
  have j2 := atS h2'
  have j3 := atC h3'
  have hl2 : L.length < 1000000 := by omega
  unfold s_26_1
  cases s with
  | none =>
    have hc := hn rfl
    subst hc
    simp [lf, bkD, zb, zs, zr, fr, zw, fw, zl, fl, i1, i2, i3, j2, j3, rmD, rwI]
  | some x =>
    obtain ⟨t, w, g⟩ := x
    have ni := notin_iL (g := g) (o := false) (L := L)
    by_cases hc : 0 < c
    · by_cases hg : g ∈ L
      · simp [lf, bkD, zb, zs, zr, fr, zw, fw, zl, fl, i1, i2, i3, j2, j3, rmD, rwI, sgD, at2, ni, hc, hg]
      · simp [lf, bkD, zb, zs, zr, fr, zw, fw, zl, fl, i1, i2, i3, j2, j3, rmD, rwI, sgD, at2, ni, hc, hg, hl2]
    · simp [lf, bkD, zb, zs, zr, fr, zw, fw, zl, fl, i1, i2, i3, j2, j3, rmD, rwI, sgD, at2, ni, hc]
theorem inner26 (M : Mat B S si) {x2 x5 : Option D} {at_ r : Nat} {L : List Nat} (h1 : L[at_]? = some r) (hok : Ok B.length L) :
    ∃ y5, forL (.v 5) s_26_1 (rangeD 0 (si : Nat)) (lf B S x2 L (some (nD at_)) x5) = .nx (lf B S x2 (vis (B.getD r []) (S.getD r []) L) (some (nD at_)) y5) := by
  have hq : r < B.length := hok.2 _ (List.mem_of_getElem? h1)
  obtain ⟨b1, b2⟩ := M.at_ hq
  have c1 := M.cl _ (List.mem_of_getElem? b2)
  have r1 := M.rl _ (List.mem_of_getElem? b1)
  have hgo := M.go _ (List.mem_of_getElem? b1)
  have hnn := fun j hj => M.nn r j _ _ b1 b2 hj
  generalize hF : vis (B.getD r []) (S.getD r []) L = F
  generalize B.getD r [] = room at *
  generalize S.getD r [] = row at *
  refine forL_rule (tg := .v 5) (m := s_26_1) (fun R => ∃ y5, R = .nx (lf B S x2 F (some (nD at_)) y5)) (ds := rangeD 0 (si : Nat))
    (fun j e => ∃ L' x5, e = lf B S x2 L' (some (nD at_)) x5 ∧ vis (room.drop j) (row.drop j) L' = F ∧ L'[at_]? = some r ∧ Ok B.length L') ⟨L, x5, rfl, by simpa using hF, h1, hok⟩ ?_ ?_
  · rintro j d e hj ⟨L', x5, rfl, hv, h1', hok'⟩
    obtain ⟨hd, hlt⟩ := rg_get hj
    subst hd
    have hjs : j < si := by omega
    have h3 : room[j]? = some room[j] := List.getElem?_eq_getElem (by omega)
    have h3' : row[j]? = some row[j] := List.getElem?_eq_getElem (by omega)
    have d1 : room.drop j = room[j] :: room.drop (j + 1) := List.drop_eq_getElem_cons (by omega)
    have d2 : row.drop j = row[j] :: row.drop (j + 1) := List.drop_eq_getElem_cons (by omega)
    generalize room[j]'(by omega) = s at *
    generalize row[j]'(by omega) = c at *
    have hlen := pigeon _ hok'
    have hbl := M.bl
    have st := step26 (x2 := x2) h1' b1 b2 h3 h3' (fun e => by
      subst e
      have := hnn j h3
      rw [h3'] at this
      exact Option.some.inj this) (by omega)
    have e0 : ((0 : Int) + (j : Nat)) = (j : Nat) := by omega
    simp only [put_v, stO_some, List.set_cons_succ, List.set_cons_zero, e0]
    rw [st]
    rw [d1, d2] at hv
    refine ⟨_, _, rfl, ?_, ?_, ?_⟩
    · rw [← hv]
      cases s with
      | none => rfl
      | some x => obtain ⟨t, w, g⟩ := x; rfl
    · cases s with
      | none => exact h1'
      | some x =>
        obtain ⟨t, w, g⟩ := x
        show (if 0 < c ∧ g ∉ L' then L' ++ [g] else L')[at_]? = some r
        split
        · exact pre_at h1' (List.prefix_append L' [g])
        · exact h1'
    · cases s with
      | none => exact hok'
      | some x =>
        obtain ⟨t, w, g⟩ := x
        show Ok B.length (if 0 < c ∧ g ∉ L' then L' ++ [g] else L')
        split
        · rename_i z
          exact hok'.add (hgo t w g (List.mem_of_getElem? h3)) z.2
        · exact hok'
  · rintro e ⟨L', x5, rfl, hv, h1', hok'⟩
    rw [rg_len] at hv
    have e0 : ((si : Int) - 0).toNat = si := by omega
    rw [e0, List.drop_of_length_le (by omega)] at hv
    have : vis [] (row.drop si) L' = L' := by simp [vis]
    rw [this] at hv
    subst hv
    exact ⟨x5, rfl⟩
theorem lrooms_ok (M : Mat B S si) {r : Nat} (hr : r < B.length) : c_26 [bkD B, srcD S, nD r] = .ok (.lst true (iL (from_ B S r))) [] := by
  have zb := rms_fz B
  have zs := src_fz S
  have hbl := M.bl
  have hsl := M.sl
  have H : ∃ y4 y5, forL (.v 4) s_26_2 (rangeD 0 (B.length : Nat)) (lf B S (some (nD r)) [r] none none) = .nx (lf B S (some (nD r)) (from_ B S r) y4 y5) := by
    refine forL_rule (tg := .v 4) (m := s_26_2) (fun R => ∃ y4 y5, R = .nx (lf B S (some (nD r)) (from_ B S r) y4 y5)) (ds := rangeD 0 (B.length : Nat))
      (fun j e => ∃ L x4 x5, e = lf B S (some (nD r)) L x4 x5 ∧ Ok B.length L ∧ walk B S (B.length - j) j L = from_ B S r) ⟨[r], none, none, rfl, ⟨by simp, fun x hx => by rw [List.mem_singleton.mp hx]; exact hr⟩, rfl⟩ ?_ ?_
    · rintro j d e hj ⟨L, x4, x5, rfl, hok, hw⟩
      obtain ⟨hd, hlt⟩ := rg_get hj
      subst hd
      have e0 : ((0 : Int) + (j : Nat)) = (j : Nat) := by omega
      have hjl : j < B.length := by omega
      simp only [put_v, stO_some, List.set_cons_succ, List.set_cons_zero, e0]
      have zl := iL_fz L
      have fl := frzs_of _ zl
      have b0 : B[0]? = some (B[0]'M.b0) := List.getElem?_eq_getElem M.b0
      have l0 := M.rl _ (List.getElem_mem M.b0)
      have i0 : atI (B.map rmD) 0 = some (rmD (B[0]'M.b0)) := atB b0
      have z0 := sgs_fz (B[0]'M.b0)
      have f0 := frzs_of _ z0
      have rg : rngOk (si : Nat) = true := rngOk_s (by omega) (by omega)
      by_cases hk : j < L.length
      · have hLj : L[j]? = some L[j] := List.getElem?_eq_getElem hk
        obtain ⟨y5, hi⟩ := inner26 M (x2 := some (nD r)) (x5 := x5) hLj hok
        have hq : L[j] < B.length := hok.2 _ (List.getElem_mem hk)
        have hs : s_26_2 (lf B S (some (nD r)) L (some (nD j)) x5) = .nx (lf B S (some (nD r)) (vis (B.getD L[j] []) (S.getD L[j] []) L) (some (nD j)) y5) := by
          unfold s_26_2
          simp only [lf, bkD] at hi ⊢
          generalize vis (B.getD L[j] []) (S.getD L[j] []) L = V at *
          generalize (B[0]'M.b0) = room0 at *
          simp [zb, zl, fl, i0, z0, f0, l0, rg, hi, hk, rmD]
        rw [hs]
        refine ⟨_, _, _, rfl, vis_ok _ _ _ hok (M.go _ (List.mem_of_getElem? (M.at_ hq).1)), ?_⟩
        rw [← hw]
        obtain ⟨n, hn⟩ : ∃ n, B.length - j = n + 1 := ⟨B.length - j - 1, by omega⟩
        rw [hn, show B.length - (j + 1) = n from by omega]
        conv => rhs; unfold walk
        rw [hLj]
      · have hs : s_26_2 (lf B S (some (nD r)) L (some (nD j)) x5) = .nx (lf B S (some (nD r)) L (some (nD j)) x5) := by
          unfold s_26_2
          simp [lf, zl, hk]
        rw [hs]
        refine ⟨_, _, _, rfl, hok, ?_⟩
        rw [walk_end (by omega)] at hw ⊢
        exact hw
    · rintro e ⟨L, x4, x5, rfl, hok, hw⟩
      have hlen := pigeon _ hok
      rw [rg_len] at hw
      rw [walk_end (by omega)] at hw
      exact ⟨x4, x5, by rw [hw]⟩
  obtain ⟨y4, y5, H⟩ := H
  have rg : rngOk (B.length : Nat) = true := rngOk_s (by omega) (by omega)
  have H2 : forL (.v 4) s_26_2 (rangeD 0 (B.length : Nat)) [some (bkD B), some (srcD S), some (nD r), some (.lst true [nD r]), none, none] = .nx (lf B S (some (nD r)) (from_ B S r) y4 y5) := H
  simp only [lf, bkD] at H2 ⊢
  have zf := iL_fz (from_ B S r)
  unfold c_26 callF m_26
  simp [zb, zs, rg, H2]
end
end LW

namespace LW
open PySem PySem.Spec L2 EV
section
variable {B : List Rm} {S : List (List Int)} {si : Nat}
def pIn (F : List Nat) : D → Bool
  | .int i => decide (0 ≤ i ∧ i.toNat ∈ F)
  | _ => false
theorem filt_iL {F : List Nat} : ∀ {G : List Nat}, ((iL G).filter (pIn F)).map id = iL (G.filter fun x => decide (x ∈ F))
  | [] => rfl
  | x :: G => by
    have h : pIn F (nD x) = decide (x ∈ F) := by
      show decide (0 ≤ ((x : Nat) : Int) ∧ ((x : Nat) : Int).toNat ∈ F) = _
      rw [Bool.eq_iff_iff]
      simp
    show ((nD x :: iL G).filter (pIn F)).map id = _
    by_cases hx : x ∈ F
    · rw [List.filter_cons_of_pos (by rw [h]; simpa using hx), List.filter_cons_of_pos (by simpa using hx), List.map_cons, filt_iL (F := F) (G := G)]
      rfl
    · rw [List.filter_cons_of_neg (by rw [h]; simpa using hx), List.filter_cons_of_neg (by simpa using hx), filt_iL (F := F) (G := G)]
/-- what all of these rooms lead to -/
def goals (B : List Rm) (S : List (List Int)) (rooms G : List Nat) : List Nat := rooms.foldl (fun G r => G.filter fun x => decide (x ∈ from_ B S r)) G
theorem goals_len : ∀ (rooms G : List Nat), (goals B S rooms G).length ≤ G.length
  | [], G => Nat.le_refl _
  | r :: rooms, G => Nat.le_trans (goals_len rooms _) (List.length_filter_le _ _)
theorem set12 (M : Mat B S si) {R : List Nat} {o : Bool} : ∀ (rooms G : List Nat) (x4 x5 : Option D), (∀ r ∈ rooms, r < B.length) → G.length < 500 →
    ∃ o' y4 y5, forL (.v 4) s_12_3 (iL rooms) [some (bkD B), some (srcD S), some (.lst false (iL R)), some (.lst o (iL G)), x4, x5, none] = .nx [some (bkD B), some (srcD S), some (.lst false (iL R)), some (.lst o' (iL (goals B S rooms G))), y4, y5, none] := by
  intro rooms
  induction rooms generalizing o with
  | nil => exact fun G x4 x5 _ _ => ⟨o, x4, x5, rfl⟩
  | cons r rooms ih =>
    intro G x4 x5 hr hG
    have hrl := hr r (List.mem_cons_self ..)
    have hd := rooms_ok M hrl
    have zb : fz (bkD B) = true := rms_fz B
    have zs := src_fz S
    have zg := iL_fz G
    have fg := frzs_of _ zg
    have fF := iL_fz (from_ B S r)
    have lc := lc_gen (own := [6]) (tg := .v 6) (cond := t_12_2) (elt := q_12_1) (E := [some (bkD B), some (srcD S), some (.lst false (iL R)), some (.lst false (iL G)), some (nD r), some (.lst true (iL (from_ B S r))), none]) (fun x => [some (bkD B), some (srcD S), some (.lst false (iL R)), some (.lst false (iL G)), some (nD r), some (.lst true (iL (from_ B S r))), some x]) (pIn (from_ B S r)) id (iL G) [] (by simp; omega) (fun x hx => by
      obtain ⟨n, _, rfl⟩ := List.mem_map.mp hx
      have hi := in_iL (g := n) (o := false) (L := from_ B S r)
      have hp : pIn (from_ B S r) (nD n) = decide (n ∈ from_ B S r) := by
        show decide (0 ≤ ((n : Nat) : Int) ∧ ((n : Nat) : Int).toNat ∈ from_ B S r) = _
        rw [Bool.eq_iff_iff]
        simp
      refine ⟨by simp, ?_, fun _ => ?_, rfl⟩
      · unfold t_12_2
        rw [hp]
        simp [fF, hi]
      · unfold q_12_1
        simp)
    rw [List.nil_append, filt_iL] at lc
    obtain ⟨o', y4, y5, h⟩ := ih (o := true) (G.filter fun x => decide (x ∈ from_ B S r)) (some (nD r)) (some (.lst true (iL (from_ B S r)))) (fun x hx => hr x (List.mem_cons_of_mem _ hx)) (Nat.lt_of_le_of_lt (List.length_filter_le _ _) hG)
    refine ⟨o', y4, y5, ?_⟩
    have hs : s_12_3 [some (bkD B), some (srcD S), some (.lst false (iL R)), some (.lst o (iL G)), some (nD r), x5, none] = .nx [some (bkD B), some (srcD S), some (.lst false (iL R)), some (.lst true (iL (G.filter fun x => decide (x ∈ from_ B S r)))), some (nD r), some (.lst true (iL (from_ B S r))), none] := by
      unfold s_12_3
      cases o <;> simp [zb, zs, zg, fg, hd, lc]
    show forL (.v 4) s_12_3 (nD r :: iL rooms) _ = _
    conv => lhs; unfold forL
    simp only [put_v, List.set_cons_succ, List.set_cons_zero]
    rw [hs]
    exact h
theorem set27 (M : Mat B S si) {R : List Nat} {X : D} {o : Bool} : ∀ (rooms G : List Nat) (x5 x6 : Option D), (∀ r ∈ rooms, r < B.length) → G.length < 500 →
    ∃ o' y5 y6, forL (.v 5) s_27_3 (iL rooms) [some (bkD B), some (srcD S), some (.lst false (iL R)), some X, some (.lst o (iL G)), x5, x6, none] = .nx [some (bkD B), some (srcD S), some (.lst false (iL R)), some X, some (.lst o' (iL (goals B S rooms G))), y5, y6, none] := by
  intro rooms
  induction rooms generalizing o with
  | nil => exact fun G x5 x6 _ _ => ⟨o, x5, x6, rfl⟩
  | cons r rooms ih =>
    intro G x5 x6 hr hG
    have hrl := hr r (List.mem_cons_self ..)
    have hd := lrooms_ok M hrl
    have zb : fz (bkD B) = true := rms_fz B
    have zs := src_fz S
    have zg := iL_fz G
    have fg := frzs_of _ zg
    have fF := iL_fz (from_ B S r)
    have lc := lc_gen (own := [7]) (tg := .v 7) (cond := t_27_2) (elt := q_27_1) (E := [some (bkD B), some (srcD S), some (.lst false (iL R)), some X, some (.lst false (iL G)), some (nD r), some (.lst true (iL (from_ B S r))), none]) (fun x => [some (bkD B), some (srcD S), some (.lst false (iL R)), some X, some (.lst false (iL G)), some (nD r), some (.lst true (iL (from_ B S r))), some x]) (pIn (from_ B S r)) id (iL G) [] (by simp; omega) (fun x hx => by
      obtain ⟨n, _, rfl⟩ := List.mem_map.mp hx
      have hi := in_iL (g := n) (o := false) (L := from_ B S r)
      have hp : pIn (from_ B S r) (nD n) = decide (n ∈ from_ B S r) := by
        show decide (0 ≤ ((n : Nat) : Int) ∧ ((n : Nat) : Int).toNat ∈ from_ B S r) = _
        rw [Bool.eq_iff_iff]
        simp
      refine ⟨by simp, ?_, fun _ => ?_, rfl⟩
      · unfold t_27_2
        rw [hp]
        simp [fF, hi]
      · unfold q_27_1
        simp)
    rw [List.nil_append, filt_iL] at lc
    obtain ⟨o', y5, y6, h⟩ := ih (o := true) (G.filter fun x => decide (x ∈ from_ B S r)) (some (nD r)) (some (.lst true (iL (from_ B S r)))) (fun x hx => hr x (List.mem_cons_of_mem _ hx)) (Nat.lt_of_le_of_lt (List.length_filter_le _ _) hG)
    refine ⟨o', y5, y6, ?_⟩
    have hs : s_27_3 [some (bkD B), some (srcD S), some (.lst false (iL R)), some X, some (.lst o (iL G)), some (nD r), x6, none] = .nx [some (bkD B), some (srcD S), some (.lst false (iL R)), some X, some (.lst true (iL (G.filter fun x => decide (x ∈ from_ B S r)))), some (nD r), some (.lst true (iL (from_ B S r))), none] := by
      unfold s_27_3
      cases o <;> simp [zb, zs, zg, fg, hd, lc]
    show forL (.v 5) s_27_3 (nD r :: iL rooms) _ = _
    conv => lhs; unfold forL
    simp only [put_v, List.set_cons_succ, List.set_cons_zero]
    rw [hs]
    exact h
abbrev R0 (B : List Rm) (S : List (List Int)) : List Nat := from_ B S 0
def settles (B : List Rm) (S : List (List Int)) : Bool := !(goals B S (R0 B S) (R0 B S)).isEmpty
theorem R0_len (M : Mat B S si) : (R0 B S).length < 100 := Nat.lt_of_le_of_lt (pigeon _ (from_ok M M.b0)) M.bl
theorem settle_ok (M : Mat B S si) : c_12 [bkD B, srcD S] = .ok (.bl (settles B S)) [] := by
  have hd := rooms_ok M M.b0
  have zb : fz (bkD B) = true := rms_fz B
  have zs := src_fz S
  have zr := iL_fz (R0 B S)
  have fr := frzs_of _ zr
  have hl := R0_len M
  obtain ⟨o', y4, y5, h⟩ := set12 M (R := R0 B S) (o := false) (R0 B S) (R0 B S) none none (from_ok M M.b0).2 (by omega)
  have hd' : c_11 [bkD B, srcD S, .int 0] = .ok (.lst true (iL (R0 B S))) [] := hd
  have zq := iL_fz (goals B S (R0 B S) (R0 B S))
  have fq := frzs_of _ zq
  have e : settles B S = decide (0 < (goals B S (R0 B S) (R0 B S)).length) := by
    unfold settles
    cases goals B S (R0 B S) (R0 B S) <;> simp
  rw [e]
  generalize goals B S (R0 B S) (R0 B S) = G at *
  unfold c_12 callF m_12
  simp [zb, zs, hd', zr, fr, h, zq, fq]
/-- rooms where nothing is drawn -/
def still (S : List (List Int)) (R : List Nat) : List Nat := R.filter fun r => (S.getD r []).sum == 0
def mn (X : List Nat) : Int := minL (X.map fun n => ((n : Nat) : Int))
theorem intsD_iL : ∀ X : List Nat, intsD (iL X) = some (X.map fun n => ((n : Nat) : Int))
  | [] => rfl
  | x :: X => by
    show (intsD (iL X)).map (((x : Nat) : Int) :: ·) = _
    rw [intsD_iL X]
    rfl
theorem intsD_rw : ∀ c : List Int, intsD (c.map D.int) = some c
  | [] => rfl
  | x :: c => by
    show (intsD (c.map D.int)).map (x :: ·) = _
    rw [intsD_rw c]
    rfl
/-- the fault by the graph -/
def gflt (B : List Rm) (S : List (List Int)) : D := if (still S (R0 B S)).isEmpty then (if settles B S then .non else .int (B.length : Nat)) else .int (mn (still S (R0 B S)))
def pSum (S : List (List Int)) : D → Bool
  | .int i => (S.getD i.toNat []).sum == 0
  | _ => false
theorem filt_sum : ∀ {G : List Nat}, ((iL G).filter (pSum S)).map id = iL (still S G)
  | [] => rfl
  | x :: G => by
    have h : pSum S (nD x) = ((S.getD x []).sum == 0) := by
      show ((S.getD (((x : Nat) : Int).toNat) []).sum == 0) = _
      rw [Int.toNat_natCast]
    show ((nD x :: iL G).filter (pSum S)).map id = iL ((x :: G).filter fun r => (S.getD r []).sum == 0)
    by_cases hx : ((S.getD x []).sum == 0) = true
    · rw [List.filter_cons_of_pos (by rw [h]; exact hx), List.filter_cons_of_pos (p := fun r => (S.getD r []).sum == 0) (a := x) hx, List.map_cons, filt_sum (G := G)]
      rfl
    · rw [List.filter_cons_of_neg (by rw [h]; exact hx), List.filter_cons_of_neg (p := fun r => (S.getD r []).sum == 0) (a := x) hx, filt_sum (G := G)]
      rfl
theorem ne_nil {o o2 : Bool} {X : List Nat} : neD (.lst o (iL X)) (.lst o2 []) = some (.bl (!X.isEmpty)) := by
  show (if eqOks 59 (iL X) && eqOks 59 [] then some (D.bl (!eqvDs (iL X) [])) else none) = _
  rw [okS_iL (m := 58)]
  cases X <;> rfl
theorem lfault_ok (M : Mat B S si) : c_27 [bkD B, srcD S] = .ok (gflt B S) [] := by
  have hd := lrooms_ok M M.b0
  have zb : fz (bkD B) = true := rms_fz B
  have zs := src_fz S
  have zr := iL_fz (R0 B S)
  have fr := frzs_of _ zr
  have hl := R0_len M
  have hok := from_ok M M.b0
  have hd' : c_26 [bkD B, srcD S, .int 0] = .ok (.lst true (iL (R0 B S))) [] := hd
  have lc := lc_gen (own := [5]) (tg := .v 5) (cond := t_27_5) (elt := q_27_4) (E := [some (bkD B), some (srcD S), some (.lst false (iL (R0 B S))), none, none, none, none, none]) (fun x => [some (bkD B), some (srcD S), some (.lst false (iL (R0 B S))), none, none, some x, none, none]) (pSum S) id (iL (R0 B S)) [] (by simp; omega) (fun x hx => by
    obtain ⟨n, hn, rfl⟩ := List.mem_map.mp hx
    obtain ⟨b1, b2⟩ := M.at_ (hok.2 n hn)
    have j2 := atS b2
    have zw := rwI_fz (S.getD n [])
    have fw := frzs_of _ zw
    have is := intsD_rw (S.getD n [])
    have hp : pSum S (nD n) = ((S.getD n []).sum == 0) := by
      show ((S.getD (((n : Nat) : Int).toNat) []).sum == 0) = _
      rw [Int.toNat_natCast]
    refine ⟨by simp, ?_, fun _ => ?_, rfl⟩
    · rw [hp]
      generalize S.getD n [] = row at *
      unfold t_27_5
      simp [zs, j2, zw, fw, rwI, sumA, seqI, is]
    · unfold q_27_4
      simp)
  rw [List.nil_append, filt_sum] at lc
  have zq := iL_fz (still S (R0 B S))
  have fq := frzs_of _ zq
  have nn := ne_nil (o := true) (o2 := false) (X := still S (R0 B S))
  have nn2 := ne_nil (o := false) (o2 := false) (X := still S (R0 B S))
  have ii := intsD_iL (still S (R0 B S))
  unfold gflt
  by_cases hs : (still S (R0 B S)).isEmpty = true
  · obtain ⟨o', y5, y6, h⟩ := set27 M (R := R0 B S) (X := .lst true (iL (still S (R0 B S)))) (o := false) (R0 B S) (R0 B S) none none hok.2 (by omega)
    have mm := fun o => ne_nil (o := o) (o2 := false) (X := goals B S (R0 B S) (R0 B S))
    have zq2 := iL_fz (goals B S (R0 B S) (R0 B S))
    have fq2 := frzs_of _ zq2
    rw [hs] at nn nn2
    have e : settles B S = !(goals B S (R0 B S) (R0 B S)).isEmpty := rfl
    rw [if_pos hs, e]
    generalize goals B S (R0 B S) (R0 B S) = G at *
    have zr' : fzs (iL (from_ B S 0)) = true := zr
    generalize hR : R0 B S = R at *
    generalize still S R = Z at *
    simp only [bkD] at hd' h zb lc ⊢
    unfold c_27 callF m_27
    cases hG : G.isEmpty with
    | true =>
      rw [hG] at mm
      simp [zb, rms_fz B, zs, hd', zr, fr, lc, zq, fq, nn, nn2, h, mm, zq2, fq2, hG]
    | false =>
      rw [hG] at mm
      simp [zb, rms_fz B, zs, hd', zr, fr, lc, zq, fq, nn, nn2, h, mm, zq2, fq2, hG]
  · have hs : (still S (R0 B S)).isEmpty = false := by simpa using hs
    rw [hs] at nn nn2
    rw [hs]
    have hp : 0 < (still S (R0 B S)).length := by
      cases h : still S (R0 B S) with
      | nil => rw [h] at hs; cases hs
      | cons _ _ => simp
    unfold mn
    generalize hR : R0 B S = R at *
    generalize still S R = Z at *
    simp only [bkD] at hd' zb lc ⊢
    unfold c_27 callF m_27
    simp [zb, rms_fz B, zs, hd', zr, fr, lc, zq, fq, nn, nn2, min1A, seqI, ii, hp]
end
end LW

namespace LW
open PySem PySem.Spec L2 EV
structure Bk (B : List Rm) (si : Nat) : Prop where
  bl : B.length < 100
  b0 : 0 < B.length
  s0 : 0 < si
  sl : si < 100
  rl : ∀ r ∈ B, r.length = si
  go : ∀ r ∈ B, ∀ t w g, some (t, w, g) ∈ r → g < B.length
section
variable {B : List Rm} {S : List (List Int)} {si : Nat}
theorem all_ints : ∀ {cs : List D}, cs.all num60 = true → ∃ c : List Int, cs = c.map D.int ∧ ∀ x ∈ c, 0 ≤ x ∧ x ≤ 60
  | [], _ => ⟨[], rfl, fun x hx => nomatch hx⟩
  | d :: cs, h => by
    rw [List.all_cons, Bool.and_eq_true] at h
    obtain ⟨i, rfl, h1, h2⟩ := num_int h.1
    obtain ⟨c, rfl, h3⟩ := all_ints h.2
    refine ⟨i :: c, rfl, fun x hx => ?_⟩
    rcases List.mem_cons.mp hx with rfl | hx
    · exact ⟨h1, h2⟩
    · exact h3 x hx
theorem okC_zero : ∀ {r : Rm} {c : List Int} {j : Nat}, (List.zipWith okC r (c.map D.int)).all id = true → (∀ x ∈ c, 0 ≤ x ∧ x ≤ 60) → c.length = r.length → r[j]? = some none → c[j]? = some 0
  | [], _, j, _, _, _, h => by simp at h
  | _ :: _, [], _, _, _, hl, _ => by simp at hl
  | s :: r, x :: c, 0, h, hp, hl, hj => by
    injection hj with hj
    subst hj
    rw [List.map_cons, List.zipWith_cons_cons, List.all_cons, Bool.and_eq_true] at h
    have h1 : (!(true && decide (0 < x))) = true := h.1
    have := (hp x (List.mem_cons_self ..)).1
    have h2 : ¬ 0 < x := by simpa using h1
    have : x = 0 := by omega
    subst this
    rfl
  | s :: r, x :: c, j + 1, h, hp, hl, hj => by
    rw [List.map_cons, List.zipWith_cons_cons, List.all_cons, Bool.and_eq_true] at h
    exact okC_zero (r := r) (c := c) (j := j) h.2 (fun y hy => hp y (List.mem_cons_of_mem _ hy)) (by simpa using hl) hj
theorem row_of {r : Rm} {d : D} (h : chB r d = true) : ∃ c : List Int, d = rwI c ∧ c.length = r.length ∧ (∀ x ∈ c, 0 ≤ x ∧ x ≤ 60) ∧ ∀ j : Nat, r[j]? = some none → c[j]? = some 0 := by
  cases d with
  | tup cs =>
    have h : ((cs.length == r.length) && (cs.all num60 && (List.zipWith okC r cs).all id)) = true := h
    rw [Bool.and_eq_true, Bool.and_eq_true] at h
    obtain ⟨h1, h2, h3⟩ := h
    obtain ⟨c, rfl, h4⟩ := all_ints h2
    have hl : c.length = r.length := by simpa using h1
    exact ⟨c, rfl, hl, h4, fun j hj => okC_zero h3 h4 hl hj⟩
  | _ => cases h
theorem mat_of (K : Bk B si) {es : List D} (hl : es.length = B.length) (h : ∀ (k : Nat) r d, B[k]? = some r → es[k]? = some d → chB r d = true) : ∃ S, es = S.map rwI ∧ Mat B S si := by
  have H : ∀ (Bs : List Rm) (es : List D), es.length = Bs.length → (∀ (k : Nat) r d, Bs[k]? = some r → es[k]? = some d → chB r d = true) → ∃ S : List (List Int), es = S.map rwI ∧ S.length = Bs.length ∧ (∀ (k : Nat) r c, Bs[k]? = some r → S[k]? = some c → c.length = r.length ∧ (∀ x ∈ c, 0 ≤ x ∧ x ≤ 60) ∧ ∀ j : Nat, r[j]? = some none → c[j]? = some 0) := by
    intro Bs
    induction Bs with
    | nil =>
      intro es hl _
      cases es with
      | nil => exact ⟨[], rfl, rfl, fun k r c hk => by simp at hk⟩
      | cons _ _ => simp at hl
    | cons r Bs ih =>
      intro es hl hc
      cases es with
      | nil => simp at hl
      | cons d es =>
        obtain ⟨S, h1, h2, h3⟩ := ih es (by simpa using hl) fun k r' d' hk hd => hc (k + 1) r' d' hk hd
        obtain ⟨c, rfl, c1, c2, c3⟩ := row_of (hc 0 r d rfl rfl)
        refine ⟨c :: S, by rw [h1]; rfl, by simp [h2], fun k r' c' hk hd => ?_⟩
        cases k with
        | zero =>
          injection hk with hk
          injection hd with hd
          subst hk hd
          exact ⟨c1, c2, c3⟩
        | succ k => exact h3 k r' c' hk hd
  obtain ⟨S, h1, h2, h3⟩ := H B es hl h
  refine ⟨S, h1, K.bl, K.b0, K.s0, K.sl, h2, K.rl, fun c hc => ?_, fun c hc => ?_, fun i j r c hi hc hj => (h3 i r c hi hc).2.2 j hj, K.go⟩
  · obtain ⟨k, hk⟩ := List.getElem?_of_mem hc
    have hlt : k < B.length := by rw [← h2]; exact (List.getElem?_eq_some_iff.mp hk).1
    have := h3 k _ c (List.getElem?_eq_getElem hlt) hk
    rw [this.1]
    exact K.rl _ (List.getElem_mem hlt)
  · obtain ⟨k, hk⟩ := List.getElem?_of_mem hc
    have hlt : k < B.length := by rw [← h2]; exact (List.getElem?_eq_some_iff.mp hk).1
    exact (h3 k _ c (List.getElem?_eq_getElem hlt) hk).2.1
/-- what may be asked -/
def askV (v : D) : Prop := okV v = true ∧ fz v = true ∧ ∀ es, v = .tup es → ∀ e ∈ es, deepV e
abbrev whD (s0 s1 : D) (B : List Rm) : D := .tup [s0, s1, bkD B]
theorem step14 {s0 s1 : D} {es : List D} {k : Nat} {r : Rm} {d : D} (z0 : fz s0 = true) (z1 : fz s1 = true) (hr : B[k]? = some r) (hd : es[k]? = some d) (hv : deepV d) (hze : fzs es = true) (hrl : r.length < 500) :
    s_14_3 [some (whD s0 s1 B), some (.tup es), some (bkD B), some (nD k), some (rmD r), none] = if chB r d = true then .nx [some (whD s0 s1 B), some (.tup es), some (bkD B), some (nD k), some (rmD r), none] else .rt (nD k) [some (whD s0 s1 B), some (.tup es), some (bkD B), none, some (rmD r), none] := by
  obtain ⟨v1, v2, v3⟩ := hv
  have i1 : atI es (k : Nat) = some d := atI_at hd
  have hc := are_ok hrl v1 v2 v3
  have zr : fz (rmD r) = true := sgs_fz r
  have fd := frz_of _ v2
  unfold s_14_3
  cases h : chB r d with
  | true =>
    rw [h] at hc
    simp [hze, i1, v2, fd, zr, hc]
  | false =>
    rw [h] at hc
    simp [hze, i1, v2, fd, zr, hc]
end
end LW

namespace LW
open PySem PySem.Spec L2 EV
theorem first_bad (g : Nat → Bool) : ∀ n, (∀ k, k < n → g k = true) ∨ ∃ k0, k0 < n ∧ g k0 = false ∧ ∀ j, j < k0 → g j = true
  | 0 => .inl fun k h => absurd h (Nat.not_lt_zero k)
  | n + 1 => by
    rcases first_bad g n with h | ⟨k0, h1, h2, h3⟩
    · cases hn : g n with
      | true =>
        refine .inl fun k hk => ?_
        by_cases e : k = n
        · rw [e]; exact hn
        · exact h k (by omega)
      | false => exact .inr ⟨n, Nat.lt_succ_self n, hn, h⟩
    · exact .inr ⟨k0, Nat.lt_succ_of_lt h1, h2, h3⟩
section
variable {B : List Rm} {S : List (List Int)} {si : Nat} {s0 s1 : D} {es : List D}
/-- room k's entry is right -/
def gd (B : List Rm) (es : List D) (k : Nat) : Bool := chB (B.getD k []) (es.getD k .non)
structure Vw (B : List Rm) (si : Nat) (es : List D) : Prop where
  K : Bk B si
  hl : es.length = B.length
  hz : fzs es = true
  dv : ∀ e ∈ es, deepV e
theorem Vw.at_ (V : Vw B si es) {k : Nat} (h : k < B.length) : B[k]? = some (B.getD k []) ∧ es[k]? = some (es.getD k .non) ∧ deepV (es.getD k .non) ∧ (B.getD k []).length < 500 := by
  have h1 : B[k]? = some (B.getD k []) := getD_at h
  have h2 : es[k]? = some (es.getD k .non) := getD_at (by rw [V.hl]; exact h)
  refine ⟨h1, h2, V.dv _ (List.mem_of_getElem? h2), ?_⟩
  rw [V.K.rl _ (List.mem_of_getElem? h1)]
  have := V.K.sl
  omega
theorem loop14 (V : Vw B si es) (z0 : fz s0 = true) (z1 : fz s1 = true) :
    ((∀ k, k < B.length → gd B es k = true) → ∃ y3 y4, (y4 = none ∨ ∃ r, y4 = some (rmD r)) ∧ forL (.t [.v 3, .v 4]) s_14_3 (numD 0 (B.map rmD)) [some (whD s0 s1 B), some (.tup es), some (bkD B), none, none, none] = .nx [some (whD s0 s1 B), some (.tup es), some (bkD B), y3, y4, none]) ∧
    (∀ k0, k0 < B.length → gd B es k0 = false → (∀ j, j < k0 → gd B es j = true) → ∃ e, forL (.t [.v 3, .v 4]) s_14_3 (numD 0 (B.map rmD)) [some (whD s0 s1 B), some (.tup es), some (bkD B), none, none, none] = .rt (nD k0) e) := by
  have key : ∀ (k : Nat) (d : D), (numD 0 (B.map rmD))[k]? = some d → k < B.length ∧ d = .tup [nD k, rmD (B.getD k [])] := fun k d h => by
    obtain ⟨x, h1, h2⟩ := numD_nth h
    rw [List.getElem?_map] at h1
    have hk : k < B.length := by
      cases q : B[k]? with
      | none => rw [q] at h1; cases h1
      | some _ => exact (List.getElem?_eq_some_iff.mp q).1
    rw [(V.at_ hk).1] at h1
    injection h1 with h1
    exact ⟨hk, by rw [h2, ← h1]⟩
  refine ⟨fun hg => ?_, fun k0 hk0 hb hj => ?_⟩
  · refine forL_rule (tg := .t [.v 3, .v 4]) (m := s_14_3) (fun R => ∃ y3 y4, (y4 = none ∨ ∃ r, y4 = some (rmD r)) ∧ R = .nx [some (whD s0 s1 B), some (.tup es), some (bkD B), y3, y4, none]) (ds := numD 0 (B.map rmD))
      (fun _ e => ∃ x3 x4, (x4 = none ∨ ∃ r, x4 = some (rmD r)) ∧ e = [some (whD s0 s1 B), some (.tup es), some (bkD B), x3, x4, none]) ⟨none, none, .inl rfl, rfl⟩ ?_ ?_
    · rintro k d e hd ⟨x3, x4, _, rfl⟩
      obtain ⟨hk, rfl⟩ := key k d hd
      obtain ⟨b1, b2, b3, b4⟩ := V.at_ hk
      have st := step14 z0 z1 b1 b2 b3 V.hz b4
      have : chB (B.getD k []) (es.getD k .non) = true := hg k hk
      rw [if_pos this] at st
      simp only [put_t, puts_cons, put_v, Option.bind_some, puts_nil, stO_some, List.set_cons_succ, List.set_cons_zero]
      rw [st]
      exact ⟨_, _, .inr ⟨_, rfl⟩, rfl⟩
    · rintro e ⟨x3, x4, h4, rfl⟩
      exact ⟨x3, x4, h4, rfl⟩
  · refine forL_rule (tg := .t [.v 3, .v 4]) (m := s_14_3) (fun R => ∃ e, R = .rt (nD k0) e) (ds := numD 0 (B.map rmD))
      (fun j e => j ≤ k0 ∧ ∃ x3 x4, e = [some (whD s0 s1 B), some (.tup es), some (bkD B), x3, x4, none]) ⟨Nat.zero_le _, none, none, rfl⟩ ?_ ?_
    · rintro k d e hd ⟨hle, x3, x4, rfl⟩
      obtain ⟨hk, rfl⟩ := key k d hd
      obtain ⟨b1, b2, b3, b4⟩ := V.at_ hk
      have st := step14 z0 z1 b1 b2 b3 V.hz b4
      simp only [put_t, puts_cons, put_v, Option.bind_some, puts_nil, stO_some, List.set_cons_succ, List.set_cons_zero]
      rw [st]
      by_cases e : k = k0
      · subst e
        have hb' : chB (B.getD k []) (es.getD k .non) = false := hb
        rw [hb']
        exact ⟨_, rfl⟩
      · have : chB (B.getD k []) (es.getD k .non) = true := hj k (by omega)
        rw [if_pos this]
        exact ⟨by omega, _, _, rfl⟩
    · rintro e ⟨hle, x3, x4, rfl⟩
      rw [numD_len, List.length_map] at hle
      omega
theorem loop28 (V : Vw B si es) :
    ((∀ k, k < B.length → gd B es k = true) → ∃ y2 y3 y4 y5, forL (.v 2) s_28_2 (rangeD 0 (B.length : Nat)) [some (bkD B), some (.tup es), none, none, none, none, none] = .nx [some (bkD B), some (.tup es), y2, y3, y4, y5, none]) ∧
    (∀ k0, k0 < B.length → gd B es k0 = false → (∀ j, j < k0 → gd B es j = true) → ∃ e, forL (.v 2) s_28_2 (rangeD 0 (B.length : Nat)) [some (bkD B), some (.tup es), none, none, none, none, none] = .rt (refD (k0 : Nat)) e) := by
  refine ⟨fun hg => ?_, fun k0 hk0 hb hj => ?_⟩
  · refine forL_rule (tg := .v 2) (m := s_28_2) (fun R => ∃ y2 y3 y4 y5, R = .nx [some (bkD B), some (.tup es), y2, y3, y4, y5, none]) (ds := rangeD 0 (B.length : Nat))
      (fun _ e => ∃ x2 x3 x4 x5, e = [some (bkD B), some (.tup es), x2, x3, x4, x5, none]) ⟨none, none, none, none, rfl⟩ ?_ ?_
    · rintro k d e hd ⟨x2, x3, x4, x5, rfl⟩
      obtain ⟨hd', hlt⟩ := rg_get hd
      subst hd'
      have e0 : ((0 : Int) + (k : Nat)) = (k : Nat) := by omega
      have hk : k < B.length := by omega
      obtain ⟨b1, b2, b3, b4⟩ := V.at_ hk
      obtain ⟨y3, y4, y5, st⟩ := (room_ok (x3 := x3) (x4 := x4) (x5 := x5) (x6 := none) b1 b2 b3 V.hz b4).1 (hg k hk)
      simp only [put_v, stO_some, List.set_cons_succ, List.set_cons_zero, e0]
      rw [st]
      exact ⟨_, _, _, _, rfl⟩
    · rintro e ⟨x2, x3, x4, x5, rfl⟩
      exact ⟨_, _, _, _, rfl⟩
  · refine forL_rule (tg := .v 2) (m := s_28_2) (fun R => ∃ e, R = .rt (refD (k0 : Nat)) e) (ds := rangeD 0 (B.length : Nat))
      (fun j e => j ≤ k0 ∧ ∃ x2 x3 x4 x5, e = [some (bkD B), some (.tup es), x2, x3, x4, x5, none]) ⟨Nat.zero_le _, none, none, none, none, rfl⟩ ?_ ?_
    · rintro k d e hd ⟨hle, x2, x3, x4, x5, rfl⟩
      obtain ⟨hd', hlt⟩ := rg_get hd
      subst hd'
      have e0 : ((0 : Int) + (k : Nat)) = (k : Nat) := by omega
      have hk : k < B.length := by omega
      obtain ⟨b1, b2, b3, b4⟩ := V.at_ hk
      have st := room_ok (x3 := x3) (x4 := x4) (x5 := x5) (x6 := none) b1 b2 b3 V.hz b4
      simp only [put_v, stO_some, List.set_cons_succ, List.set_cons_zero, e0]
      by_cases e : k = k0
      · subst e
        obtain ⟨e', s1⟩ := st.2 hb
        rw [s1]
        exact ⟨_, rfl⟩
      · obtain ⟨y3, y4, y5, s1⟩ := st.1 (hj k (by omega))
        rw [s1]
        exact ⟨by omega, _, _, _, _, rfl⟩
    · rintro e ⟨hle, x2, x3, x4, x5, rfl⟩
      rw [rg_len] at hle
      omega
theorem sgs_nil : ∀ {c : List Int} {k : Nat}, (∀ x ∈ c, 0 ≤ x ∧ x ≤ 60) → ((sgs k c).length == 0) = (c.sum == 0)
  | [], k, _ => by simp [sgs]
  | x :: c, k, h => by
    have hx := h x (List.mem_cons_self ..)
    have ih := sgs_nil (c := c) (k := k + 1) fun y hy => h y (List.mem_cons_of_mem _ hy)
    have hs : 0 ≤ c.sum := by
      clear ih
      induction c with
      | nil => exact Int.le_refl _
      | cons y c ih =>
        have := (h y (List.mem_cons_of_mem _ (List.mem_cons_self ..))).1
        have := ih fun z hz => by
          rcases List.mem_cons.mp hz with rfl | hz
          · exact hx
          · exact h z (List.mem_cons_of_mem _ (List.mem_cons_of_mem _ hz))
        rw [List.sum_cons]
        omega
    unfold sgs
    rw [List.sum_cons]
    by_cases hp : 0 < x
    · rw [if_pos hp]
      have : (x + c.sum == 0) = false := by
        rw [beq_eq_false_iff_ne]
        omega
      rw [this]
      rfl
    · rw [if_neg hp, ih]
      have : x = 0 := by omega
      subst this
      rw [Int.zero_add]
end
end LW

namespace LW
open PySem PySem.Spec L2 EV
section
variable {B : List Rm} {S : List (List Int)} {si : Nat} {s0 s1 : D} {es : List D} {v : D}
theorem c14_not (z0 : fz s0 = true) (z1 : fz s1 = true) (hv : okV v = true) (hz : fz v = true) (ht : istup (B.length : Nat) v = false) : c_14 [whD s0 s1 B, v] = .ok (.int (-1)) [] := by
  have h := istup_ok (n := (B.length : Nat)) hv hz
  rw [ht] at h
  have zb := rms_fz B
  have fb := frzs_of _ zb
  have fv := frz_of _ hz
  unfold c_14 callF m_14
  simp [whD, bkD, z0, z1, zb, fb, at2, hz, fv, h, negD]
theorem c28_not (hv : okV v = true) (hz : fz v = true) (ht : istup (B.length : Nat) v = false) : c_28 [bkD B, v] = .ok (refD (-1)) [] := by
  have zb := rms_fz B
  have fv := frz_of _ hz
  unfold c_28 callF m_28
  cases v with
  | tup xs =>
    have hz2 : fzs xs = true := hz
    have : ((xs.length : Int) == (B.length : Int)) = false := ht
    simp [bkD, zb, hz2, this]
  | lst o xs =>
    obtain ⟨rfl, hz2⟩ := fz_lst hz
    simp [bkD, zb, hz2]
  | non => simp [bkD, zb]
  | bl b => simp [bkD, zb]
  | int b => simp [bkD, zb]
  | str b => simp [bkD, zb]
  | _ => cases hv
theorem V_tup (V : Vw B si es) : c_6 [.tup es, .int (B.length : Nat)] = .ok (.bl true) [] := by
  have h := istup_ok (d := .tup es) (n := (B.length : Nat)) rfl V.hz
  have : istup (B.length : Nat) (.tup es) = true := by simp [istup, V.hl]
  rw [this] at h
  exact h
theorem c14_bad (V : Vw B si es) (z0 : fz s0 = true) (z1 : fz s1 = true) {k0 : Nat} (h1 : k0 < B.length) (h2 : gd B es k0 = false) (h3 : ∀ j, j < k0 → gd B es j = true) : c_14 [whD s0 s1 B, .tup es] = .ok (nD k0) [] := by
  have ht := V_tup V
  have zb := rms_fz B
  have fb := frzs_of _ zb
  obtain ⟨e, hl⟩ := (loop14 (s0 := s0) (s1 := s1) V z0 z1).2 k0 h1 h2 h3
  have hz := V.hz
  simp only [whD, bkD] at hl ⊢
  unfold c_14 callF m_14
  simp [z0, z1, zb, fb, at2, hz, ht, hl]
theorem c28_bad (V : Vw B si es) {k0 : Nat} (h1 : k0 < B.length) (h2 : gd B es k0 = false) (h3 : ∀ j, j < k0 → gd B es j = true) : c_28 [bkD B, .tup es] = .ok (refD (k0 : Nat)) [] := by
  have zb := rms_fz B
  obtain ⟨e, hl⟩ := (loop28 V).2 k0 h1 h2 h3
  have hz := V.hz
  have hbl := V.K.bl
  have rg : rngOk (B.length : Nat) = true := rngOk_s (by omega) (by omega)
  have hle := V.hl
  simp only [bkD] at hl ⊢
  unfold c_28 callF m_28
  simp [zb, hz, hle, rg, hl]
theorem rm_fz {r : Rm} : fz (rmD r) = true := sgs_fz r
theorem c14_good (V : Vw B si es) (z0 : fz s0 = true) (z1 : fz s1 = true) (M : Mat B S si) (he : es = S.map rwI) (hg : ∀ k, k < B.length → gd B es k = true) : c_14 [whD s0 s1 B, .tup es] = .ok (gflt B S) [] := by
  have ht := V_tup V
  have zb := rms_fz B
  have fb := frzs_of _ zb
  obtain ⟨y3, y4, h4, hl⟩ := (loop14 (s0 := s0) (s1 := s1) V z0 z1).1 hg
  have hz := V.hz
  have hd := rooms_ok M M.b0
  have hd' : c_11 [bkD B, srcD S, .int 0] = .ok (.lst true (iL (R0 B S))) [] := hd
  have hset := settle_ok M
  have hok := from_ok M M.b0
  have hrl := R0_len M
  have zr := iL_fz (R0 B S)
  have fr := frzs_of _ zr
  subst he
  have zs := src_fz S
  have lc := lc_gen (own := [4]) (tg := .v 4) (cond := t_14_2) (elt := q_14_1) (E := [some (whD s0 s1 B), some (srcD S), some (bkD B), y3, none, none]) (fun x => [some (whD s0 s1 B), some (srcD S), some (bkD B), y3, some x, none]) (pSum S) id (iL (R0 B S)) [] (by simp; omega) (fun x hx => by
    obtain ⟨n, hn, rfl⟩ := List.mem_map.mp hx
    obtain ⟨b1, b2⟩ := M.at_ (hok.2 n hn)
    have c1 := M.cl _ (List.mem_of_getElem? b2)
    have dr := drawn_ok (S := S) (r := n) b2 (by have := M.sl; omega)
    have zg := iL_fz (sgs 0 (S.getD n []))
    have fg := frzs_of _ zg
    have hp : pSum S (nD n) = ((sgs 0 (S.getD n [])).length == 0) := by
      rw [sgs_nil (M.pos _ (List.mem_of_getElem? b2))]
      show ((S.getD (((n : Nat) : Int).toNat) []).sum == 0) = _
      rw [Int.toNat_natCast]
    refine ⟨by simp, ?_, fun _ => ?_, rfl⟩
    · rw [hp]
      generalize S.getD n [] = row at *
      unfold t_14_2
      simp [zs, dr, zg, fg, nat_beq0]
    · unfold q_14_1
      simp)
  rw [List.nil_append, filt_sum] at lc
  have zq := iL_fz (still S (R0 B S))
  have fq := frzs_of _ zq
  have ii := intsD_iL (still S (R0 B S))
  unfold gflt
  by_cases hs : (still S (R0 B S)).isEmpty = true
  · have h0 : (still S (R0 B S)).length = 0 := by simpa using hs
    rw [if_pos hs]
    generalize hR : R0 B S = R at *
    generalize still S R = Z at *
    simp only [whD, bkD] at hl hd' hset lc ⊢
    unfold c_14 callF m_14
    cases hst : settles B S with
    | true =>
      rw [hst] at hset
      rcases h4 with rfl | ⟨rm, rfl⟩ <;> simp [z0, z1, zb, fb, at2, zs, ht, hl, hd', zr, fr, lc, zq, fq, h0, hset, rm_fz]
    | false =>
      rw [hst] at hset
      rcases h4 with rfl | ⟨rm, rfl⟩ <;> simp [z0, z1, zb, fb, at2, zs, ht, hl, hd', zr, fr, lc, zq, fq, h0, hset, rm_fz]
  · have h0 : 0 < (still S (R0 B S)).length := by
      cases h : still S (R0 B S) with
      | nil => rw [h] at hs; exact absurd rfl hs
      | cons _ _ => simp
    rw [if_neg hs]
    unfold mn
    generalize hR : R0 B S = R at *
    generalize still S R = Z at *
    simp only [whD, bkD] at hl hd' hset lc ⊢
    unfold c_14 callF m_14
    rcases h4 with rfl | ⟨rm, rfl⟩ <;> simp [z0, z1, zb, fb, at2, zs, ht, hl, hd', zr, fr, lc, zq, fq, h0, min1A, seqI, ii, rm_fz]
end
end LW

namespace LW
open PySem PySem.Spec L2 EV
section
variable {B : List Rm} {S : List (List Int)} {si : Nat} {s0 s1 : D} {es : List D} {v : D}
theorem gflt_cases (B : List Rm) (S : List (List Int)) : gflt B S = .non ∨ ∃ i : Int, gflt B S = .int i := by
  unfold gflt
  split
  · split
    · exact .inl rfl
    · exact .inr ⟨_, rfl⟩
  · exact .inr ⟨_, rfl⟩
def duD (f v : D) : D := match f with
  | .non => .tup [.str "told", v]
  | f => .tup [.str "refused", f]
theorem c28_good (V : Vw B si es) (M : Mat B S si) (he : es = S.map rwI) (hg : ∀ k, k < B.length → gd B es k = true) : c_28 [bkD B, .tup es] = .ok (duD (gflt B S) (.tup es)) [] := by
  have zb := rms_fz B
  obtain ⟨y2, y3, y4, y5, hl⟩ := (loop28 V).1 hg
  have hz := V.hz
  have hbl := V.K.bl
  have rg : rngOk (B.length : Nat) = true := rngOk_s (by omega) (by omega)
  have hle := V.hl
  have hf := lfault_ok M
  have hf' : c_27 [bkD B, .tup es] = .ok (gflt B S) [] := by rw [he]; exact hf
  simp only [bkD] at hl hf' ⊢
  unfold c_28 callF m_28
  rcases gflt_cases B S with e | ⟨i, e⟩
  · rw [e] at hf' ⊢
    simp [zb, hz, hle, rg, hl, hf', duD]
  · rw [e] at hf' ⊢
    simp [zb, hz, hle, rg, hl, hf', duD]
theorem c15_told {w : D} (hw : fz w = true) (hz : fz v = true) (h : c_14 [w, v] = .ok .non []) : c_15 [w, v] = .ok v [] := by
  unfold c_15 callF m_15
  simp [hw, hz, h]
theorem c15_ref {w : D} {i : Int} (hw : fz w = true) (hz : fz v = true) (h : c_14 [w, v] = .ok (.int i) []) : c_15 [w, v] = .ex 1 (.int i) [] := by
  unfold c_15 callF m_15
  simp [hw, hz, h]
theorem c29_told {w : D} (hw : fz w = true) (hz : fz v = true) (h : c_14 [w, v] = .ok .non []) : c_29 [w, v] = .ok (.tup [.str "told", v]) [] := by
  have h := c15_told hw hz h
  unfold c_29 callF m_29
  simp [hw, hz, h]
theorem c29_ref {w : D} {i : Int} (hw : fz w = true) (hz : fz v = true) (h : c_14 [w, v] = .ok (.int i) []) : c_29 [w, v] = .ok (refD i) [] := by
  have h := c15_ref hw hz h
  unfold c_29 callF m_29
  simp [hw, hz, h, cg_1]
theorem same_ok : ∀ (n : Nat) (d : D), plD n d = true → c_19 (n + 1) [d, d] = .ok (.bl true) [] := by
  intro n
  induction n with
  | zero =>
    intro d h
    cases d <;> simp [plD] at h <;> (unfold c_19 callF m_19; simp)
  | succ n ih =>
    intro d h
    cases d with
    | non => unfold c_19 callF m_19; simp
    | int i => unfold c_19 callF m_19; simp
    | tup ds =>
      have hz := plD_fz _ h
      have hz2 : fzs ds = true := hz
      have hf : frzs ds = ds := by have := frz_of _ hz; simpa using this
      have h : ds.all (plD n) = true := h
      have loop : ∀ e : DEnv, e.length = 4 → ∃ e', forL (.t [.v 2, .v 3]) (s_19_1 (c_19 (n + 1))) (ds.map fun a => D.tup [a, a]) e = .nx e' := by
        intro e he
        refine forL_rule (fun r => ∃ e', r = .nx e') (fun _ e => e.length = 4) he ?_ (fun e _ => ⟨e, rfl⟩)
        intro k d e hk hl
        rw [List.getElem?_map] at hk
        cases h1 : ds[k]? with
        | none => rw [h1] at hk; cases hk
        | some x =>
        rw [h1] at hk
        injection hk with hk
        subst hk
        obtain ⟨o0, o1, o2, o3, rfl⟩ := env4 hl
        have hx := List.all_eq_true.mp h x (List.mem_of_getElem? h1)
        unfold s_19_1
        simp [plD_fz _ hx, ih x hx]
      unfold c_19 callF m_19
      obtain ⟨e', he⟩ := loop [some (.tup ds), some (.tup ds), none, none] rfl
      simp [hz2, hf, he]
    | _ => simp [plD] at h
theorem eq_strs {s : Str} (h : PyData.strOk s = true) : eqD (.str s) (.str s) = some (.bl true) := by
  unfold eqD
  simp [eqOk, h, eqvD]
theorem ne_strs {s : Str} (h : PyData.strOk s = true) : neD (.str s) (.str s) = some (.bl false) := by
  unfold neD
  simp [eqOk, h, eqvD]
theorem so_told : PyData.strOk "told" = true := by decide +kernel
theorem so_ref : PyData.strOk "refused" = true := by decide +kernel
theorem alike_told (h : plD 39 v = true) : c_30 [.tup [.str "told", v], .tup [.str "told", v]] = .ok (.bl true) [] := by
  have hs := same_ok 39 v h
  have hz := plD_fz _ h
  have hf := frz_of _ hz
  unfold c_30 callF m_30
  simp [at0, at1, ne_strs so_told, hz, hf, hs]
theorem alike_ref {i : Int} : c_30 [refD i, refD i] = .ok (.bl true) [] := by
  have hs := same_ok 39 (.int i) rfl
  unfold c_30 callF m_30
  simp [at0, at1, ne_strs so_ref, hs]
theorem wh_fz (z0 : fz s0 = true) (z1 : fz s1 = true) : fz (whD s0 s1 B) = true := by
  show (fz s0 && (fz s1 && (fz (bkD B) && true))) = true
  rw [z0, z1, show fz (bkD B) = true from rms_fz B]
  rfl
theorem pl_ints : ∀ {cs : List Int}, (cs.map D.int).all (plD 37) = true
  | [] => rfl
  | c :: cs => by rw [List.map_cons, List.all_cons, pl_ints]; rfl
theorem pl_src (S : List (List Int)) : plD 39 (srcD S) = true := by
  show (S.map rwI).all (plD 38) = true
  rw [List.all_eq_true]
  intro d hd
  obtain ⟨c, _, rfl⟩ := List.mem_map.mp hd
  exact pl_ints
/-- the law's one question: what is asked answers as what is due -/
theorem asked (K : Bk B si) (z0 : fz s0 = true) (z1 : fz s1 = true) (hv : askV v) : ∃ a, c_29 [whD s0 s1 B, v] = .ok a [] ∧ c_28 [bkD B, v] = .ok a [] ∧ fz a = true ∧ c_30 [a, a] = .ok (.bl true) [] := by
  obtain ⟨v1, v2, v3⟩ := hv
  have hw := wh_fz (B := B) z0 z1
  cases ht : istup (B.length : Nat) v with
  | false => exact ⟨refD (-1), c29_ref hw v2 (c14_not z0 z1 v1 v2 ht), c28_not v1 v2 ht, rfl, alike_ref⟩
  | true =>
    cases v with
    | tup es =>
      have hl : es.length = B.length := by
        have : ((es.length : Int) == ((B.length : Nat) : Int)) = true := ht
        have := eq_of_beq this
        omega
      have V : Vw B si es := ⟨K, hl, v2, v3 es rfl⟩
      rcases first_bad (gd B es) B.length with hg | ⟨k0, h1, h2, h3⟩
      · obtain ⟨S, rfl, M⟩ := mat_of K hl fun k r d hr hd => by
          have hk : k < B.length := (List.getElem?_eq_some_iff.mp hr).1
          obtain ⟨b1, b2, _, _⟩ := V.at_ hk
          rw [hr] at b1
          rw [hd] at b2
          injection b1 with b1
          injection b2 with b2
          rw [b1, b2]
          exact hg k hk
        have e1 := c14_good V z0 z1 M rfl hg
        have e2 := c28_good V M rfl hg
        rcases gflt_cases B S with e | ⟨i, e⟩
        · rw [e] at e1 e2
          exact ⟨_, c29_told hw v2 e1, e2, by show (true && (fzs _ && true)) = true; rw [src_fz]; rfl, alike_told (pl_src S)⟩
        · rw [e] at e1 e2
          exact ⟨_, c29_ref hw v2 e1, e2, rfl, alike_ref⟩
      · exact ⟨refD (k0 : Nat), c29_ref hw v2 (c14_bad V z0 z1 h1 h2 h3), c28_bad V h1 h2 h3, rfl, alike_ref⟩
    | _ => cases ht
end
end LW

namespace LW
open PySem PySem.Spec L2 EV
abbrev bx (a b : Int) : D := .lst true [.int a, .int b]
theorem take_ok (a b m : Int) (hm : 0 < m) (hs : m < 1000000) : ∃ r a' b', 0 ≤ r ∧ r < m ∧ c_17 [bx a b, .int m] = .ok (.int r) [bx a' b'] := by
  unfold c_17 callF m_17
  by_cases h : 0 < a
  · refine ⟨a % m, a / m, b, Int.emod_nonneg _ (by omega), Int.emod_lt_of_pos _ hm, ?_⟩
    simp [h, atI, ixN, md_int hm, div_int hm (divOk_s hm (by omega))]
  · refine ⟨((b * 39373 + 211) % 2147483647 * 2147483629 + ((((b * 39373 + 211) % 2147483647) * 40692 + 97) % 2147483563 + 1)) / 8233 % m, a, (((b * 39373 + 211) % 2147483647) * 40692 + 97) % 2147483563 + 1, Int.emod_nonneg _ (by omega), Int.emod_lt_of_pos _ hm, ?_⟩
    simp [h, atI, ixN, mul_int (mulOk_r (a := b) (b := 39373) (by decide)), md_int (b := 2147483647) (by decide), mul_int (mulOk_r (b := 40692) (by decide)), md_int (b := 2147483563) (by decide), mul_int (mulOk_r (b := 2147483629) (by decide)),
        div_int (b := 8233) (by decide) (by decide), md_int hm]
theorem atI_nat {ds : List D} {r : Int} (h0 : 0 ≤ r) (h1 : r < ds.length) : atI ds r = ds[r.toNat]? := by
  simp [atI, ixN, h0, h1]
theorem pick_ok (a b : Int) (o : Bool) (ds : List D) (h0 : ds ≠ []) (hl : ds.length < 1000000) (hz : fzs ds = true) : ∃ x a' b', x ∈ ds ∧ c_18 [bx a b, .lst o ds] = .ok x [bx a' b'] := by
  have hp : 0 < ds.length := List.length_pos_iff.mpr h0
  obtain ⟨r, a', b', h1, h2, h3⟩ := take_ok a b ds.length (by omega) (by omega)
  have h4 : r.toNat < ds.length := by omega
  refine ⟨ds[r.toNat], a', b', List.getElem_mem h4, ?_⟩
  unfold c_18 callF m_18
  simp [h3, hz, atI_nat h1 h2, h4]
theorem pw18 : powD (.int 10) (.int 18) = some (.int 1000000000000000000) := rfl
theorem atI_in {α : Type} {xs : List α} {k : Int} (h0 : 0 ≤ k) (h1 : k < xs.length) : ∃ x, atI xs k = some x := by
  have h2 : k.toNat < xs.length := by omega
  exact ⟨xs[k.toNat], by simp [atI, ixN, h0, h1, h2]⟩
theorem box_ok (ns : List Int) (k : Int) (hk : 0 ≤ k) : ∃ a b, c_23 [.scr ns, .int k] = .ok (bx a b) [] := by
  unfold c_23 callF m_23
  by_cases h1 : k < (ns.length : Int)
  · obtain ⟨n, hn⟩ := atI_in hk h1
    by_cases h2 : 1000000000000000000 ≤ (if n < 0 then -n else n)
    all_goals simp [h1, hn, h2, pw18, mul_int (mulOk_l (a := 18743) (b := k) (by decide)), mul_int (mulOk_r (b := 61001003) (by decide)), mul_int (mulOk_l (a := 7919) (b := k) (by decide)), md_int (b := 2147483563) (by decide)]
  · by_cases h3 : 0 < ns.length
    · have hm := md_int (a := k) (b := (ns.length : Int)) (by omega)
      obtain ⟨n, hn⟩ := atI_in (xs := ns) (k := k % (ns.length : Int)) (Int.emod_nonneg _ (by omega)) (Int.emod_lt_of_pos _ (by omega))
      by_cases h2 : 1000000000000000000 ≤ 18743 * k + 7919 + (if n < 0 then -n else n) % 2147483563 * 90011
      all_goals simp [h1, hn, h2, h3, hm, pw18, mul_int (mulOk_l (a := 18743) (b := k) (by decide)), mul_int (mulOk_r (b := 61001003) (by decide)), mul_int (mulOk_r (b := 90011) (by decide)), mul_int (mulOk_l (a := 7919) (b := k) (by decide)), md_int (b := 2147483563) (by decide)]
    · by_cases h2 : 1000000000000000000 ≤ 18743 * k + 7919
      all_goals simp [h1, h2, h3, pw18, mul_int (mulOk_l (a := 18743) (b := k) (by decide)), mul_int (mulOk_r (b := 61001003) (by decide)), mul_int (mulOk_l (a := 7919) (b := k) (by decide)), md_int (b := 2147483563) (by decide)]
theorem frzs_app : ∀ {xs ys : List D}, frzs (xs ++ ys) = frzs xs ++ frzs ys
  | [], ys => rfl
  | x :: xs, ys => congrArg (frz x :: ·) (frzs_app (xs := xs) (ys := ys))
theorem set_ok {xs : List D} {k : Nat} {x : D} (hk : k < xs.length) (hl : xs.length < 1000) (hz : fzs xs = true) (hx : fz x = true) : c_31 [.tup xs, .int (k : Nat), x] = .ok (.tup (xs.set k x)) [] := by
  have h1 : cutD xs none (some (k : Nat)) = xs.take k := cut_to (by omega)
  have h2 : cutD xs (some ((k : Int) + 1)) none = xs.drop (k + 1) := by
    have e : ((k : Int) + 1) = ((k + 1 : Nat) : Int) := by omega
    rw [e]
    exact cut_from (by omega)
  have h3 : xs.set k x = xs.take k ++ x :: xs.drop (k + 1) := by
    rw [List.set_eq_take_append_cons_drop, if_pos hk]
  have l1 : (xs.take k).length ≤ 1000 := by rw [List.length_take]; omega
  have l2 : (xs.drop (k + 1)).length ≤ 1000 := by rw [List.length_drop]; omega
  have f0 := frzs_of _ hz
  have f1 := frz_of _ hx
  have hall := hz
  rw [fzs_all, List.all_eq_true] at hall
  have ft : frzs (xs.take k) = xs.take k := frzs_of _ (by rw [fzs_all, List.all_eq_true]; exact fun d hd => hall d (List.mem_of_mem_take hd))
  have fd : frzs (xs.drop (k + 1)) = xs.drop (k + 1) := frzs_of _ (by rw [fzs_all, List.all_eq_true]; exact fun d hd => hall d (List.mem_of_mem_drop hd))
  rw [h3]
  generalize xs.take k = T at *
  generalize xs.drop (k + 1) = U at *
  have l3 : T.length ≤ 999999 := by omega
  have l4 : T.length + 1 + U.length ≤ 1000000 := by omega
  have l5 : T.length + (U.length + 1) ≤ 1000000 := by omega
  unfold c_31 callF m_31
  simp [hz, hx, f0, f1, h1, h2, ft, fd, l3, l4, frzs_app]
end LW

namespace LW
open PySem PySem.Spec L2 EV
/-- a table of whole numbers -/
abbrev Sq (n : Nat) (M : List (List Int)) : Prop := M.length = n ∧ ∀ r ∈ M, r.length = n
abbrev ro (r : List Int) : D := .lst true (r.map .int)
abbrev rz (r : List Int) : D := .lst false (r.map .int)
abbrev rt (r : List Int) : D := .tup (r.map .int)
theorem fzs_ints (r : List Int) : fzs (r.map D.int) = true := by
  rw [fzs_all, List.all_eq_true]
  intro d hd
  obtain ⟨i, _, rfl⟩ := List.mem_map.mp hd
  rfl
theorem frzs_ints (r : List Int) : frzs (r.map D.int) = r.map D.int := by
  induction r with
  | nil => rfl
  | cons i r ih => simp [ih]
theorem fzs_of {ds : List D} (h : ∀ d ∈ ds, fz d = true) : fzs ds = true := by
  rw [fzs_all, List.all_eq_true]; exact h
theorem frzs_of {ds : List D} (h : fzs ds = true) : frzs ds = ds := by
  have := frz_of (.tup ds) h
  simpa using this
theorem atI_nn {α : Type} {xs : List α} {k : Nat} (h : k < xs.length) : atI xs (k : Int) = some xs[k] := by
  simp [atI, ixN, h]
theorem atI_map' {α β : Type} (f : α → β) (xs : List α) (k : Nat) (h : k < xs.length) : atI (xs.map f) (k : Int) = some (f xs[k]) := by
  rw [atI_nn (by simpa using h)]; simp
theorem ix2_ok {M : List (List Int)} {n k : Nat} {i j : IA} {a b : Nat} {e : DEnv} (hM : Sq n M) (hk : e[k]? = some (some (.lst true (M.map ro)))) (hi : ixAt i e = some (a : Int)) (hj : ixAt j e = some (b : Int)) (ha : a < n) (hb : b < n) :
    ∃ v, mIx2 k i j e = .ok (.int v) e := by
  have h1 : a < M.length := by rw [hM.1]; exact ha
  have h2 : b < (M[a]).length := by rw [hM.2 _ (List.getElem_mem h1)]; exact hb
  refine ⟨(M[a])[b], ?_⟩
  unfold mIx2
  rw [hk]
  simp only
  rw [hi, hj]
  simp only
  rw [atI_map' ro M a h1]
  simp only [ro]
  rw [atI_map' D.int _ b h2]
  simp [fzs_ints]
theorem set2_ok {M : List (List Int)} {n k : Nat} {i j : IA} {a b : Nat} {e : DEnv} {m : ME} {v : Int} (hM : Sq n M) (hm : m e = .ok (.int v) e) (hk : e[k]? = some (some (.lst true (M.map ro)))) (hi : ixAt i e = some (a : Int)) (hj : ixAt j e = some (b : Int)) (ha : a < n) (hb : b < n) :
    ∃ M', Sq n M' ∧ mSet2 k i j m e = .nx (e.set k (some (.lst true (M'.map ro)))) := by
  have h1 : a < M.length := by rw [hM.1]; exact ha
  have h2 : b < (M[a]).length := by rw [hM.2 _ (List.getElem_mem h1)]; exact hb
  refine ⟨M.set a ((M[a]).set b v), ⟨by rw [List.length_set]; exact hM.1, fun r hr => ?_⟩, ?_⟩
  · rcases List.mem_or_eq_of_mem_set hr with h | h
    · exact hM.2 r h
    · rw [h, List.length_set]; exact hM.2 _ (List.getElem_mem h1)
  · unfold mSet2
    rw [hm, RE.toS_ok, hk]
    simp only
    rw [hi, hj]
    simp only
    have e1 : ixN (M.map ro).length (a : Int) = some a := by simp [ixN, h1]
    rw [e1]
    simp only
    have e2 : (M.map ro)[a]? = some (ro M[a]) := by simp [h1]
    rw [e2]
    simp only [ro]
    have e3 : ixN ((M[a]).map D.int).length (b : Int) = some b := by simp [ixN, h2]
    rw [e3]
    have e4 : D.lst true ((M[a].map D.int).set b (.int v)) = ro (M[a].set b v) := by simp [ro, List.map_set]
    simp only [fzs_ints, fz_int, Bool.and_self, if_true, e4, List.map_set]
theorem lc_list {e : DEnv} : ∀ {M : List (List Int)} {acc : List D} {o0 o1 o2 o3 o4 o5 : Option D}, M.length + acc.length ≤ 1000000 → lcL [6] (.v 6) mTrue q_20_5 (M.map rt) acc [o0, o1, o2, o3, o4, o5, none] = .ok (acc ++ M.map ro) [o0, o1, o2, o3, o4, o5, none]
  | [], acc, _, _, _, _, _, _, _ => by simp [lcL]
  | r :: M, acc, o0, o1, o2, o3, o4, o5, h => by
    have hl : acc.length < 1000000 := by simp at h; omega
    have ih := lc_list (e := e) (M := M) (acc := acc ++ [ro r]) (o0 := o0) (o1 := o1) (o2 := o2) (o3 := o3) (o4 := o4) (o5 := o5) (by simp at h ⊢; omega)
    simp [lcL, q_20_5, fzs_ints, hl, listD]
    simpa [q_20_5] using ih
theorem lc_tup {e : DEnv} : ∀ {M : List (List Int)} {acc : List D} {o0 o1 o2 o3 o4 o5 : Option D}, M.length + acc.length ≤ 1000000 → lcL [6] (.v 6) mTrue q_20_1 (M.map rz) acc [o0, o1, o2, o3, o4, o5, none] = .ok (acc ++ M.map rt) [o0, o1, o2, o3, o4, o5, none]
  | [], acc, _, _, _, _, _, _, _ => by simp [lcL]
  | r :: M, acc, o0, o1, o2, o3, o4, o5, h => by
    have hl : acc.length < 1000000 := by simp at h; omega
    have ih := lc_tup (e := e) (M := M) (acc := acc ++ [rt r]) (o0 := o0) (o1 := o1) (o2 := o2) (o3 := o3) (o4 := o4) (o5 := o5) (by simp at h ⊢; omega)
    simp [lcL, q_20_1, fzs_ints, hl, tupleD]
    simpa [q_20_1] using ih
theorem fz_rows {o : Bool} (M : List (List Int)) : fzs (M.map rz) = true := fzs_of fun d hd => by
  obtain ⟨r, _, rfl⟩ := List.mem_map.mp hd
  simp [fzs_ints]
theorem frz_rows (M : List (List Int)) : frzs (M.map rz) = M.map rz := frzs_of (fz_rows (o := true) M)
theorem frz_ro (M : List (List Int)) : frzs (M.map ro) = M.map rz := by
  induction M with
  | nil => rfl
  | cons r M ih => simp [ih, frzs_ints]
theorem fz_tups (M : List (List Int)) : fzs (M.map rt) = true := fzs_of fun d hd => by
  obtain ⟨r, _, rfl⟩ := List.mem_map.mp hd
  simp [fzs_ints]
theorem frz_tups (M : List (List Int)) : frzs (M.map rt) = M.map rt := frzs_of (fz_tups M)
theorem closed_ok {n : Nat} {M : List (List Int)} (hM : Sq n M) (hn : n < 1000) : ∃ M', Sq n M' ∧ c_20 [.lst true (M.map rt)] = .ok (.tup (M'.map rt)) [.lst false (M.map rt)] := by
  have l1 : ∀ (p : D) (M : List (List Int)) (s o : Nat) (x : Option D), Sq n M → s < n → o < n → ∃ M' x', Sq n M' ∧ forL (.v 5) s_20_2 (rangeD 0 n) [some p, some (.int n), some (.lst true (M.map ro)), some (.int s), some (.int o), x, none] = .nx [some p, some (.int n), some (.lst true (M'.map ro)), some (.int s), some (.int o), x', none] := by
    intro p M s o x hM hs ho
    refine forL_rule (fun r => ∃ M' x', Sq n M' ∧ r = .nx [some p, some (.int n), some (.lst true (M'.map ro)), some (.int s), some (.int o), x', none]) (fun _ e => ∃ M' x', Sq n M' ∧ e = [some p, some (.int n), some (.lst true (M'.map ro)), some (.int s), some (.int o), x', none]) ⟨M, x, hM, rfl⟩ ?_ ?_
    · rintro k d e hk ⟨M1, x1, hM1, rfl⟩
      have hd := (rg_get hk).1
      have hk2 := (rg_get hk).2
      subst hd
      clear hk
      have hk3 : k < n := by omega
      simp only [put_v, stO_some, List.set_cons_succ, List.set_cons_zero]
      generalize he : [some p, some (D.int n), some (.lst true (M1.map ro)), some (.int s), some (.int o), some (D.int (0 + (k : Nat))), none] = e1
      have a2 : e1[2]? = some (some (.lst true (M1.map ro))) := by rw [← he]; rfl
      have i3 : ixAt (.s 3) e1 = some (s : Int) := by rw [← he]; rfl
      have i4 : ixAt (.s 4) e1 = some (o : Int) := by rw [← he]; rfl
      have i5 : ixAt (.s 5) e1 = some (k : Int) := by rw [← he]; simp [ixAt]
      obtain ⟨v1, q1⟩ := ix2_ok hM1 a2 i4 i5 ho hk3
      obtain ⟨v2, q2⟩ := ix2_ok hM1 a2 i4 i3 ho hs
      obtain ⟨v3, q3⟩ := ix2_ok hM1 a2 i3 i5 hs hk3
      have hm : ∃ v, (mOp2 min2D (.e (mIx2 2 (.s 4) (.s 5))) (.e (mOp2 addD (.e (mIx2 2 (.s 4) (.s 3))) (.e (mIx2 2 (.s 3) (.s 5)))))) e1 = .ok (.int v) e1 := by
        simp [q1, q2, q3]
      obtain ⟨v, hm⟩ := hm
      obtain ⟨M2, hM2, h2⟩ := set2_ok hM1 hm a2 i4 i5 ho hk3
      unfold s_20_2
      rw [ap_seq, h2, ← he]
      simp only [RS.seq_nx, stP_nx, List.set_cons_succ, List.set_cons_zero]
      exact ⟨M2, _, hM2, rfl⟩
    · rintro e ⟨M1, x1, h1, rfl⟩
      exact ⟨M1, x1, h1, rfl⟩
  have rg : rngOk n = true := rngOk_s (by omega) (by omega)
  have l2 : ∀ (p : D) (M : List (List Int)) (s : Nat) (o x : Option D), Sq n M → s < n → ∃ M' o' x', Sq n M' ∧ forL (.v 4) s_20_3 (rangeD 0 n) [some p, some (.int n), some (.lst true (M.map ro)), some (.int s), o, x, none] = .nx [some p, some (.int n), some (.lst true (M'.map ro)), some (.int s), o', x', none] := by
    intro p M s o x hM hs
    refine forL_rule (fun r => ∃ M' o' x', Sq n M' ∧ r = .nx [some p, some (.int n), some (.lst true (M'.map ro)), some (.int s), o', x', none]) (fun _ e => ∃ M' o' x', Sq n M' ∧ e = [some p, some (.int n), some (.lst true (M'.map ro)), some (.int s), o', x', none]) ⟨M, o, x, hM, rfl⟩ ?_ ?_
    · rintro k d e hk ⟨M1, o1, x1, hM1, rfl⟩
      have hd := (rg_get hk).1
      have hk2 := (rg_get hk).2
      subst hd
      clear hk
      have hk3 : k < n := by omega
      obtain ⟨M2, x2, hM2, h2⟩ := l1 p M1 s k x1 hM1 hs hk3
      simp only [put_v, stO_some, List.set_cons_succ, List.set_cons_zero, Int.zero_add]
      have hs3 : s_20_3 [some p, some (.int n), some (.lst true (M1.map ro)), some (.int s), some (.int (k : Nat)), x1, none] = .nx [some p, some (.int n), some (.lst true (M2.map ro)), some (.int s), some (.int (k : Nat)), x2, none] := by
        unfold s_20_3
        simp [rg, h2]
      rw [hs3]
      exact ⟨M2, _, _, hM2, rfl⟩
    · rintro e ⟨M1, o1, x1, h1, rfl⟩
      exact ⟨M1, o1, x1, h1, rfl⟩
  have l3 : ∀ (p : D) (M : List (List Int)) (s o x : Option D), Sq n M → ∃ M' s' o' x', Sq n M' ∧ forL (.v 3) s_20_4 (rangeD 0 n) [some p, some (.int n), some (.lst true (M.map ro)), s, o, x, none] = .nx [some p, some (.int n), some (.lst true (M'.map ro)), s', o', x', none] := by
    intro p M s o x hM
    refine forL_rule (fun r => ∃ M' s' o' x', Sq n M' ∧ r = .nx [some p, some (.int n), some (.lst true (M'.map ro)), s', o', x', none]) (fun _ e => ∃ M' s' o' x', Sq n M' ∧ e = [some p, some (.int n), some (.lst true (M'.map ro)), s', o', x', none]) ⟨M, s, o, x, hM, rfl⟩ ?_ ?_
    · rintro k d e hk ⟨M1, s1, o1, x1, hM1, rfl⟩
      have hd := (rg_get hk).1
      have hk2 := (rg_get hk).2
      subst hd
      clear hk
      have hk3 : k < n := by omega
      obtain ⟨M2, o2, x2, hM2, h2⟩ := l2 p M1 k o1 x1 hM1 hk3
      simp only [put_v, stO_some, List.set_cons_succ, List.set_cons_zero, Int.zero_add]
      have hs4 : s_20_4 [some p, some (.int n), some (.lst true (M1.map ro)), some (.int (k : Nat)), o1, x1, none] = .nx [some p, some (.int n), some (.lst true (M2.map ro)), some (.int (k : Nat)), o2, x2, none] := by
        unfold s_20_4
        simp [rg, h2]
      rw [hs4]
      exact ⟨M2, _, _, _, hM2, rfl⟩
    · rintro e ⟨M1, s1, o1, x1, h1, rfl⟩
      exact ⟨M1, s1, o1, x1, h1, rfl⟩
  obtain ⟨M2, s2, o2, x2, hM2, h2⟩ := l3 (.lst false (M.map rt)) M none none none hM
  refine ⟨M2, hM2, ?_⟩
  have hl : M.length = n := hM.1
  have hl2 : M2.length = n := hM2.1
  have g1 := lc_list (e := []) (M := M) (acc := []) (o0 := some (.lst false (M.map rt))) (o1 := none) (o2 := none) (o3 := none) (o4 := none) (o5 := none) (by simp; omega)
  have g2 := lc_tup (e := []) (M := M2) (acc := []) (o0 := some (.lst false (M.map rt))) (o1 := some (.int n)) (o2 := some (.lst false (M2.map rz))) (o3 := s2) (o4 := o2) (o5 := x2) (by simp; omega)
  unfold c_20 callF m_20
  simp [fz_tups, frz_tups, frz_rows, g1, hl, rg, h2, frz_ro, g2, tupleD, frz_tups]
end LW

namespace LW
open PySem PySem.Spec L2 EV
/-- None or a whole number -/
def leaf : D → Bool
  | .non => true
  | .int _ => true
  | _ => false
theorem leaf_fz {d : D} (h : leaf d = true) : fz d = true := by cases d <;> simp [leaf] at h <;> rfl
theorem leaf_fzs {ds : List D} (h : ∀ d ∈ ds, leaf d = true) : fzs ds = true := fzs_of fun d hd => leaf_fz (h d hd)
theorem leaf_frzs {ds : List D} (h : ∀ d ∈ ds, leaf d = true) : frzs ds = ds := frzs_of (leaf_fzs h)
theorem leaf_eqOks {ds : List D} (h : ∀ d ∈ ds, leaf d = true) (n : Nat) : eqOks (n + 1) ds = true := by
  induction ds with
  | nil => rfl
  | cons d ds ih =>
    have h1 := h d (List.mem_cons_self ..)
    have h2 := ih fun x hx => h x (List.mem_cons_of_mem _ hx)
    show (eqOk (n + 1) d && eqOks (n + 1) ds) = true
    rw [h2]
    cases d <;> simp [leaf] at h1 <;> rfl
/-- a comprehension that draws from the box -/
theorem lc_box {i : Nat} {elt : ME} {E : Int → Int → DEnv} {ds : List D} (P : D → Prop) (hn : ds.length < 1000) (hs : ∀ a b d, d ∈ ds → ∃ y a' b' e3, P y ∧ elt ((E a b).set i (some d)) = .ok y e3 ∧ e3.set i none = E a' b') (a b : Int) :
    ∃ (a' b' : Int) (acc : List D), acc.length = ds.length ∧ (∀ d ∈ acc, P d) ∧ lcL [i] (.v i) mTrue elt ds [] (E a b) = .ok acc (E a' b') := by
  have H := lcL_rule (own := [i]) (tg := .v i) (cond := mTrue) (elt := elt) (ds := ds) (fun k acc e => ∃ a b, acc.length = k ∧ (∀ d ∈ acc, P d) ∧ e = E a b) (acc := []) (e := E a b) ⟨a, b, rfl, (fun d hd => nomatch hd), rfl⟩ (by
    rintro k d acc e hk ⟨a1, b1, hr, hp, rfl⟩
    have hkl := (List.getElem?_eq_some_iff.mp hk).1
    have hl : acc.length < 1000000 := by rw [hr]; omega
    obtain ⟨y, a2, b2, e3, h1, h2, h3⟩ := hs a1 b1 d (List.mem_of_getElem? hk)
    simp only [put_v, stO_some, ap_true, stB_ok, if_true, h2, stE_ok, LIM_is, hl, true_and, wipe_cons, wipe_nil, h3]
    refine ⟨a2, b2, by simp [hr], fun d hd => ?_, rfl⟩
    rcases List.mem_append.mp hd with hd | hd
    · exact hp d hd
    · rw [List.mem_singleton.mp hd]; exact h1)
  obtain ⟨acc, e', h1, a', b', hr, hp, rfl⟩ := H
  exact ⟨a', b', acc, by rw [hr], hp, h1⟩
theorem mem_rg {n : Nat} {d : D} (h : d ∈ rangeD 0 n) : ∃ k : Nat, k < n ∧ d = .int (k : Nat) := by
  obtain ⟨k, hk⟩ := List.getElem?_of_mem h
  obtain ⟨h1, h2⟩ := rg_get hk
  exact ⟨k, by omega, by rw [h1, Int.zero_add]⟩
theorem ints_of {ds : List D} (h : ∀ d ∈ ds, ∃ i, d = .int i) : ∃ r : List Int, ds = r.map D.int := by
  induction ds with
  | nil => exact ⟨[], rfl⟩
  | cons d ds ih =>
    obtain ⟨i, rfl⟩ := h d (List.mem_cons_self ..)
    obtain ⟨r, rfl⟩ := ih fun x hx => h x (List.mem_cons_of_mem _ hx)
    exact ⟨i :: r, rfl⟩
/-- the service's frame -/
abbrev sv (a b : Int) (st ta de ba : Int) (x5 x6 x7 x8 x9 x10 : Option D) : DEnv := [some (bx a b), some (.int st), some (.int ta), some (.int de), some (.int ba), x5, x6, x7, x8, x9, x10]
theorem row_lc {st : Nat} {ta de ba : Int} {o : Int} {x5 x7 x8 x9 : Option D} (hd : 0 ≤ de) (hd2 : de < 1000) (hst : st < 1000) (a b : Int) :
    ∃ (a' b' : Int) (r : List Int), r.length = st ∧ lcL [10] (.v 10) mTrue q_21_5 (rangeD 0 st) [] (sv a b st ta de ba x5 (some (.int o)) x7 x8 x9 none) = .ok (r.map D.int) (sv a' b' st ta de ba x5 (some (.int o)) x7 x8 x9 none) := by
  have H := lc_box (i := 10) (elt := q_21_5) (ds := rangeD 0 st) (E := fun a b => sv a b st ta de ba x5 (some (.int o)) x7 x8 x9 none) (fun d => ∃ i, d = .int i) (by rw [rg_len]; omega) (by
    intro a b d hd
    obtain ⟨k, hk, rfl⟩ := mem_rg hd
    by_cases ho : o = (k : Nat)
    · refine ⟨.int 0, a, b, sv a b st ta de ba x5 (some (.int o)) x7 x8 x9 (some (.int (k : Nat))), ⟨0, rfl⟩, ?_, rfl⟩
      unfold q_21_5
      simp [ho]
    · obtain ⟨v, a2, b2, h3, h4, h5⟩ := take_ok a b (de + 1) (by omega) (by omega)
      refine ⟨.int v, a2, b2, sv a2 b2 st ta de ba x5 (some (.int o)) x7 x8 x9 (some (.int (k : Nat))), ⟨v, rfl⟩, ?_, rfl⟩
      unfold q_21_5
      have ho' : (o == ((k : Nat) : Int)) = false := by simpa using ho
      simp [ho', h5]) a b
  obtain ⟨a', b', acc, h1, h2, h3⟩ := H
  obtain ⟨r, rfl⟩ := ints_of h2
  exact ⟨a', b', r, by rw [rg_len] at h1; simp at h1; omega, h3⟩
theorem ln_map {r : List Int} : (r.map D.int).length = r.length := by simp
/-- the rows of prices -/
theorem rows_loop {st : Nat} {ta de ba : Int} (hd : 0 ≤ de) (hd2 : de < 1000) (hst : st < 1000) (a b : Int) :
    ∃ (a' b' : Int) (M : List (List Int)) (x6 : Option D), (x6 = none ∨ ∃ i : Int, x6 = some (.int i)) ∧ Sq st M ∧ forL (.v 6) s_21_6 (rangeD 0 st) (sv a b st ta de ba (some (.lst true [])) none none none none none) = .nx (sv a' b' st ta de ba (some (.lst true (M.map rt))) x6 none none none none) := by
  have H := forL_rule (tg := .v 6) (m := s_21_6) (fun r => ∃ (a' b' : Int) (M : List (List Int)) (x6 : Option D), (x6 = none ∨ ∃ i : Int, x6 = some (.int i)) ∧ Sq st M ∧ r = .nx (sv a' b' st ta de ba (some (.lst true (M.map rt))) x6 none none none none)) (ds := rangeD 0 st)
    (fun k e => ∃ (a' b' : Int) (M : List (List Int)) (x6 : Option D), (x6 = none ∨ ∃ i : Int, x6 = some (.int i)) ∧ M.length = k ∧ (∀ r ∈ M, r.length = st) ∧ e = sv a' b' st ta de ba (some (.lst true (M.map rt))) x6 none none none none)
    (e := sv a b st ta de ba (some (.lst true [])) none none none none none) ⟨a, b, [], none, .inl rfl, rfl, (fun r hr => nomatch hr), rfl⟩ ?_ ?_
  · exact H
  · rintro k d e hk ⟨a1, b1, M, x6, h6, hM, hr, rfl⟩
    have hk2 := (rg_get hk).2
    have hd' := (rg_get hk).1
    subst hd'
    clear hk
    obtain ⟨a2, b2, r, h1, h2⟩ := row_lc (st := st) (ta := ta) (de := de) (ba := ba) (o := (k : Nat)) (x5 := some (.lst true (M.map rt))) (x7 := none) (x8 := none) (x9 := none) hd hd2 hst a1 b1
    have rg : rngOk st = true := rngOk_s (by omega) (by omega)
    have hs : s_21_6 (sv a1 b1 st ta de ba (some (.lst true (M.map rt))) (some (.int (k : Nat))) none none none none) = .nx (sv a2 b2 st ta de ba (some (.lst true ((M ++ [r]).map rt))) (some (.int (k : Nat))) none none none none) := by
      have hl : M.length < 1000000 := by omega
      unfold s_21_6
      simp [rg, h2, frzs_ints, hl, tupleD]
    simp only [put_v, stO_some, Int.zero_add, List.set_cons_succ, List.set_cons_zero]
    rw [hs]
    refine ⟨a2, b2, M ++ [r], _, .inr ⟨_, rfl⟩, by simp [hM], fun q hq => ?_, rfl⟩
    rcases List.mem_append.mp hq with hq | hq
    · exact hr q hq
    · rw [List.mem_singleton.mp hq]; exact h1
  · rintro e ⟨a1, b1, M, x6, h6, hM, hr, rfl⟩
    exact ⟨a1, b1, M, x6, h6, ⟨by rw [hM, rg_len]; omega, hr⟩, rfl⟩
theorem filt_lc {e0 e1 e2 e3 e4 e5 e10 e7 e8 e9 : Option D} : ∀ {ds acc : List D}, (∀ d ∈ ds, leaf d = true) → ds.length + acc.length < 1000000 → (∀ d ∈ acc, leaf d = true) → ∃ acc', (∀ d ∈ acc', leaf d = true) ∧ lcL [6] (.v 6) t_21_2 q_21_1 ds acc [e0, e1, e2, e3, e4, e5, none, e7, e8, e9, e10] = .ok acc' [e0, e1, e2, e3, e4, e5, none, e7, e8, e9, e10]
  | [], acc, _, _, ha => ⟨acc, ha, by simp [lcL]⟩
  | d :: ds, acc, h, hl, ha => by
    have h1 := h d (List.mem_cons_self ..)
    have h2 : ∀ x ∈ ds, leaf x = true := fun x hx => h x (List.mem_cons_of_mem _ hx)
    have hl2 : acc.length < 1000000 := by simp at hl; omega
    cases d with
    | non =>
      obtain ⟨acc', h3, h4⟩ := filt_lc (e0 := e0) (e1 := e1) (e2 := e2) (e3 := e3) (e4 := e4) (e5 := e5) (e10 := e10) (e7 := e7) (e8 := e8) (e9 := e9) (ds := ds) (acc := acc) h2 (by simp at hl; omega) ha
      refine ⟨acc', h3, ?_⟩
      unfold t_21_2 at h4 ⊢
      simp [lcL, h4]
    | int i =>
      obtain ⟨acc', h3, h4⟩ := filt_lc (e0 := e0) (e1 := e1) (e2 := e2) (e3 := e3) (e4 := e4) (e5 := e5) (e10 := e10) (e7 := e7) (e8 := e8) (e9 := e9) (ds := ds) (acc := acc ++ [.int i]) h2 (by simp at hl ⊢; omega) (fun x hx => by
        rcases List.mem_append.mp hx with hx | hx
        · exact ha x hx
        · rw [List.mem_singleton.mp hx]; rfl)
      refine ⟨acc', h3, ?_⟩
      unfold t_21_2 q_21_1 at h4 ⊢
      simp [lcL, hl2, h4]
    | _ => simp [leaf] at h1
theorem cost_lc {M : List (List Int)} {st : Nat} {ta de ba : Int} {x5 x7 x8 x9 x10 : Option D} (hd : 0 ≤ de) (hd2 : de < 1000) (hb : 0 < ba) (hb2 : ba < 1000) (hM : M.length = st) (hst : st < 1000) (a b : Int) :
    ∃ (a' b' : Int) (acc : List D), acc.length = st ∧ (∀ d ∈ acc, leaf d = true) ∧ lcL [6] (.v 6) mTrue q_21_3 (M.map rt) [] (sv a b st ta de ba x5 none x7 x8 x9 x10) = .ok acc (sv a' b' st ta de ba x5 none x7 x8 x9 x10) := by
  have H := lc_box (i := 6) (ds := M.map rt) (elt := q_21_3) (E := fun a b => sv a b st ta de ba x5 none x7 x8 x9 x10) (fun d => leaf d = true) (by rw [List.length_map]; omega) (by
    intro a b d hd
    obtain ⟨v, a1, b1, h1, h2, h3⟩ := take_ok a b ba hb (by omega)
    by_cases hv : v = 0
    · refine ⟨.non, a1, b1, sv a1 b1 st ta de ba x5 (some d) x7 x8 x9 x10, rfl, ?_, rfl⟩
      unfold q_21_3
      simp [h3, hv]
    · obtain ⟨v2, a2, b2, h4, h5, h6⟩ := take_ok a1 b1 (de + 1) (by omega) (by omega)
      obtain ⟨x, a3, b3, hx, h7⟩ := pick_ok a2 b2 true [.int 0, .int 1, .int v2] (by simp) (by simp) rfl
      have hlf : leaf x = true := by
        simp only [List.mem_cons, List.not_mem_nil, or_false] at hx
        rcases hx with rfl | rfl | rfl <;> rfl
      refine ⟨x, a3, b3, sv a3 b3 st ta de ba x5 (some d) x7 x8 x9 x10, hlf, ?_, rfl⟩
      have hv' : (v == 0) = false := by simpa using hv
      have hxf := frz_of _ (leaf_fz hlf)
      unfold q_21_3
      simp [h3, hv', h6, h7, hxf]) a b
  obtain ⟨a', b', acc, h1, h2, h3⟩ := H
  exact ⟨a', b', acc, by rw [h1, List.length_map, hM], h2, h3⟩
end LW

namespace LW
open PySem PySem.Spec L2 EV
abbrev ltup (ds : List D) : D := .tup ds
theorem costs_step {M : List (List Int)} {st : Nat} {ta de ba : Int} {x6 x8 x9 : Option D} {t : Int} {cs : List (List D)} (hd : 0 ≤ de) (hd2 : de < 1000) (hb : 0 < ba) (hb2 : ba < 1000) (hM : M.length = st) (hst : st < 1000) (hst0 : 0 < st) (hc : cs.length < 1000) (h6 : x6 = none ∨ ∃ i : Int, x6 = some (.int i)) (a b : Int) :
    ∃ (a' b' : Int) (ds : List D) (x9' : Option D), (∀ d ∈ ds, leaf d = true) ∧ s_21_4 (sv a b st ta de ba (some (.lst true (M.map rt))) x6 (some (.lst true (cs.map ltup))) (some (.int t)) x9 none) = .nx (sv a' b' st ta de ba (some (.lst true (M.map rt))) x6 (some (.lst true ((cs ++ [ds]).map ltup))) (some (.int t)) x9' none) := by
  have hz5 := fz_tups M
  obtain ⟨a1, b1, row, h1, h2, h3⟩ := cost_lc (M := M) (st := st) (ta := ta) (de := de) (ba := ba) (x5 := none) (x7 := some (.lst true (cs.map ltup))) (x8 := some (.int t)) (x9 := x9) (x10 := none) hd hd2 hb hb2 hM hst a b
  have rg : rngOk st = true := rngOk_s (by omega) (by omega)
  have hl : cs.length < 1000000 := by omega
  obtain ⟨fl, h4, h5⟩ := filt_lc (e0 := some (bx a1 b1)) (e1 := some (.int st)) (e2 := some (.int ta)) (e3 := some (.int de)) (e4 := some (.int ba)) (e5 := some (.lst true (M.map rt))) (e7 := some (.lst true (cs.map ltup))) (e8 := some (.int t)) (e9 := none) (e10 := none) (ds := row) (acc := []) h2 (by simp; omega) (fun d hd => nomatch hd)
  have hq : eqD (.lst false fl) (.lst false []) = some (.bl (eqvDs fl [])) := by
    unfold eqD
    have : eqOk 60 (.lst false fl) = true := leaf_eqOks h4 58
    rw [this]
    rfl
  have hz := leaf_fzs h2
  have hf := leaf_frzs h2
  have hf2 := leaf_frzs h4
  cases hb2 : eqvDs fl [] with
  | false =>
    refine ⟨a1, b1, row, some (.lst true row), h2, ?_⟩
    rw [hb2] at hq
    unfold s_21_4
    rcases h6 with rfl | ⟨i, rfl⟩ <;> simp [rg, h3, hb, hz, hz5, h5, hf, hf2, hq, hl, tupleD]
  | true =>
    rw [hb2] at hq
    obtain ⟨v, a2, b2, h6', h7, h8⟩ := take_ok a1 b1 2 (by omega) (by omega)
    obtain ⟨w, a3, b3, h9, h10, h11⟩ := take_ok a2 b2 st (by omega) (by omega)
    have hw : w.toNat < row.length := by omega
    have hix : ixN row.length w = some w.toNat := by
      have : w < (row.length : Int) := by omega
      simp [ixN, h9, this]
    have h2' : ∀ d ∈ row.set w.toNat (.int v), leaf d = true := fun d hd => by
      rcases List.mem_or_eq_of_mem_set hd with h | h
      · exact h2 d h
      · rw [h]; rfl
    have hz' := leaf_fzs h2'
    have hf' := leaf_frzs h2'
    refine ⟨a3, b3, row.set w.toNat (.int v), some (.lst true (row.set w.toNat (.int v))), h2', ?_⟩
    unfold s_21_4
    rcases h6 with rfl | ⟨i, rfl⟩ <;> simp [rg, h3, hb, hz, hz5, h5, hf, hf2, hq, h8, h11, hix, hz', hf', hl, tupleD]
theorem ltup_fzs {cs : List (List D)} (h : ∀ ds ∈ cs, ∀ d ∈ ds, leaf d = true) : fzs (cs.map ltup) = true := fzs_of fun d hd => by
  obtain ⟨ds, h1, rfl⟩ := List.mem_map.mp hd
  exact leaf_fzs (h ds h1)
theorem costs_loop {M : List (List Int)} {st tk : Nat} {de ba : Int} {x6 : Option D} (hd : 0 ≤ de) (hd2 : de < 1000) (hb : 0 < ba) (hb2 : ba < 1000) (hM : M.length = st) (hst : st < 1000) (hst0 : 0 < st) (htk : tk < 1000) (h6 : x6 = none ∨ ∃ i : Int, x6 = some (.int i)) (a b : Int) :
    ∃ (a' b' : Int) (cs : List (List D)) (x8' x9' : Option D), (∀ ds ∈ cs, ∀ d ∈ ds, leaf d = true) ∧ forL (.v 8) s_21_4 (rangeD 0 tk) (sv a b st tk de ba (some (.lst true (M.map rt))) x6 (some (.lst true [])) none none none) = .nx (sv a' b' st tk de ba (some (.lst true (M.map rt))) x6 (some (.lst true (cs.map ltup))) x8' x9' none) := by
  refine forL_rule (tg := .v 8) (m := s_21_4) (fun r => ∃ (a' b' : Int) (cs : List (List D)) (x8' x9' : Option D), (∀ ds ∈ cs, ∀ d ∈ ds, leaf d = true) ∧ r = .nx (sv a' b' st tk de ba (some (.lst true (M.map rt))) x6 (some (.lst true (cs.map ltup))) x8' x9' none)) (ds := rangeD 0 tk)
    (fun k e => ∃ (a' b' : Int) (cs : List (List D)) (x8' x9' : Option D), cs.length = k ∧ (∀ ds ∈ cs, ∀ d ∈ ds, leaf d = true) ∧ e = sv a' b' st tk de ba (some (.lst true (M.map rt))) x6 (some (.lst true (cs.map ltup))) x8' x9' none)
    ⟨a, b, [], none, none, rfl, (fun r hr => nomatch hr), rfl⟩ ?_ ?_
  · rintro k d e hk ⟨a1, b1, cs, y8, y9, hc, hr, rfl⟩
    have hk2 := (rg_get hk).2
    have hd' := (rg_get hk).1
    subst hd'
    clear hk
    obtain ⟨a2, b2, ds, z9, h1, h2⟩ := costs_step (M := M) (st := st) (ta := tk) (de := de) (ba := ba) (x6 := x6) (x8 := y8) (x9 := y9) (t := (k : Nat)) (cs := cs) hd hd2 hb hb2 hM hst hst0 (by omega) h6 a1 b1
    simp only [put_v, stO_some, Int.zero_add, List.set_cons_succ, List.set_cons_zero]
    rw [h2]
    refine ⟨a2, b2, cs ++ [ds], _, z9, by simp [hc], fun q hq => ?_, rfl⟩
    rcases List.mem_append.mp hq with hq | hq
    · exact hr q hq
    · rw [List.mem_singleton.mp hq]; exact h1
  · rintro e ⟨a1, b1, cs, y8, y9, hc, hr, rfl⟩
    exact ⟨a1, b1, cs, y8, y9, hr, rfl⟩
theorem service_ok {st tk : Nat} {de ba : Int} (hd : 0 ≤ de) (hd2 : de < 1000) (hb : 0 < ba) (hb2 : ba < 1000) (hst : st < 1000) (hst0 : 0 < st) (htk : tk < 1000) (a b : Int) :
    ∃ (a' b' : Int) (d : D), fz d = true ∧ c_21 [bx a b, .int st, .int tk, .int de, .int ba] = .ok d [bx a' b'] := by
  obtain ⟨a1, b1, M, x6, h6, hM, h1⟩ := rows_loop (st := st) (ta := tk) (ba := ba) hd hd2 hst a b
  obtain ⟨a2, b2, cs, y8, y9, hc, h2⟩ := costs_loop (M := M) (st := st) (tk := tk) (x6 := x6) hd hd2 hb hb2 hM.1 hst hst0 htk h6 a1 b1
  obtain ⟨M', hM', h3⟩ := closed_ok hM hst
  have g1 : rngOk st = true := rngOk_s (by omega) (by omega)
  have g2 : rngOk tk = true := rngOk_s (by omega) (by omega)
  have hz := ltup_fzs hc
  have hf := frzs_of hz
  have hzm := fz_tups M'
  refine ⟨a2, b2, .tup [.tup (M'.map rt), .tup (cs.map ltup)], ?_, ?_⟩
  · simp [hz, hzm]
  · unfold c_21 callF m_21
    simp [g1, g2, h1, h2, h3, hz, hf, hzm, frzs_of hzm, tupleD]
end LW

namespace LW
open PySem PySem.Spec L2 EV
abbrev lv (a b : Int) (m s : Nat) (x5 x6 x7 x8 x9 x10 : Option D) : DEnv := [some (bx a b), some (nD m), some (nD s), some (.int 6), some (.int 9), x5, x6, x7, x8, x9, x10, none]
def goOk (m : Nat) (s : Sg) : Prop := ∀ t w g, s = some (t, w, g) → g < m
theorem goal_md {k m : Nat} (hm : 0 < m) : ((k : Int) + 1) % (m : Int) = (((k + 1) % m : Nat) : Int) := by
  rw [Int.natCast_emod]; rfl
theorem step24 {m s k : Nat} {x5 x9 x10 : Option D} {i : Int} {r : Rm} (hm0 : 0 < m) (hm : m < 1000) (hk : k < m) (hr : r.length < 1000) (a b : Int) :
    ∃ (a' b' : Int) (g : Sg) (x9' x10' : Option D), goOk m g ∧ s_24_3 (lv a b m s x5 (some (nD k)) (some (.lst true (r.map sgD))) (some (.int i)) x9 x10) = .nx (lv a' b' m s x5 (some (nD k)) (some (.lst true ((r ++ [g]).map sgD))) (some (.int i)) x9' x10') := by
  obtain ⟨t, a1, b1, h1, h2, h3⟩ := take_ok a b m (by omega) (by omega)
  obtain ⟨g, a2, b2, hg, h4⟩ := pick_ok a1 b1 true [.int (((k : Int) + 1) % (m : Int)), .int 0, nD k, .int t] (by simp) (by simp) rfl
  obtain ⟨t2, a3, b3, _, _, h5⟩ := take_ok a2 b2 10 (by omega) (by omega)
  obtain ⟨w, a4, b4, hw, h6⟩ := pick_ok a3 b3 true [.int 0, .int 0, .int 0, .int 1, .int t2] (by simp) (by simp) rfl
  obtain ⟨y, a5, b5, _, _, h7⟩ := take_ok a4 b4 8 (by omega) (by omega)
  obtain ⟨z, a6, b6, _, _, h8⟩ := take_ok a5 b5 6 (by omega) (by omega)
  have hgm : ∃ g' : Nat, g' < m ∧ g = nD g' := by
    simp only [List.mem_cons, List.not_mem_nil, or_false] at hg
    rcases hg with rfl | rfl | rfl | rfl
    · exact ⟨(k + 1) % m, Nat.mod_lt _ hm0, by rw [goal_md hm0]⟩
    · exact ⟨0, hm0, rfl⟩
    · exact ⟨k, hk, rfl⟩
    · exact ⟨t.toNat, by omega, by show _ = D.int ((t.toNat : Nat) : Int); rw [Int.toNat_of_nonneg h1]⟩
  obtain ⟨g', hg', rfl⟩ := hgm
  have hwm : ∃ w' : Int, w = .int w' := by
    simp only [List.mem_cons, List.not_mem_nil, or_false] at hw
    rcases hw with rfl | rfl | rfl | rfl | rfl <;> exact ⟨_, rfl⟩
  obtain ⟨w', rfl⟩ := hwm
  have zr := sgs_fz r
  have hl : r.length < 1000000 := by omega
  have hmd := md_int (a := (k : Int) + 1) (b := (m : Int)) (by omega)
  by_cases hy : 0 < y
  · refine ⟨a6, b6, some (z, w', g'), some (nD g'), some (.int w'), fun t w g e => by injection e with e; injection e with e1 e2; injection e2 with e2 e3; omega, ?_⟩
    unfold s_24_3
    simp [hmd, h3, h4, h5, h6, h7, h8, hy, hl, zr, sgD]
  · refine ⟨a5, b5, none, some (nD g'), some (.int w'), (fun t w g e => nomatch e), ?_⟩
    unfold s_24_3
    simp [hmd, h3, h4, h5, h6, h7, hy, hl, zr, sgD]
theorem sg_eqOk (s : Sg) {n : Nat} : eqOk (n + 3) (sgD s) = true := by
  cases s with
  | none => rfl
  | some x => obtain ⟨t, w, g⟩ := x; rfl
def pSg : D → Bool := fun d => !isN d
theorem filt_sg : ∀ (r : Rm), ((r.map sgD).filter pSg).map id = (r.filter Option.isSome).map sgD
  | [] => rfl
  | s :: r => by
    have h : pSg (sgD s) = s.isSome := by
      show (!isN (sgD s)) = _
      rw [isN_sg]; cases s <;> rfl
    rw [List.map_cons]
    by_cases hs : s.isSome = true
    · rw [List.filter_cons_of_pos (by rw [h]; exact hs), List.filter_cons_of_pos (by exact hs), List.map_cons, List.map_cons, filt_sg r]; rfl
    · rw [List.filter_cons_of_neg (by rw [h]; exact hs), List.filter_cons_of_neg (by exact hs), filt_sg r]
theorem eq_sgs {o o2 : Bool} {r : Rm} : eqD (.lst o (r.map sgD)) (.lst o2 []) = some (.bl r.isEmpty) := by
  have h : ∀ r : Rm, eqOks 59 (r.map sgD) = true := fun r => by
    induction r with
    | nil => rfl
    | cons s r ih =>
      show (eqOk 59 (sgD s) && eqOks 59 (r.map sgD)) = true
      rw [ih, sg_eqOk s (n := 56)]; rfl
  show (if eqOks 59 (r.map sgD) && eqOks 59 [] then some (D.bl (eqvDs (r.map sgD) [])) else none) = _
  rw [h]
  cases r <;> rfl
theorem row24 {m s k : Nat} {x5 : Option D} (hm0 : 0 < m) (hm : m < 1000) (hk : k < m) (hs : s < 100) {x8 x9 x10 : Option D} (a b : Int) :
    ∃ (a' b' : Int) (r : Rm) (y8 y9 y10 : Option D), r.length = s ∧ (∀ g ∈ r, goOk m g) ∧ forL (.v 8) s_24_3 (rangeD 0 s) (lv a b m s x5 (some (nD k)) (some (.lst true [])) x8 x9 x10) = .nx (lv a' b' m s x5 (some (nD k)) (some (.lst true (r.map sgD))) y8 y9 y10) := by
  refine forL_rule (tg := .v 8) (m := s_24_3) (fun R => ∃ (a' b' : Int) (r : Rm) (y8 y9 y10 : Option D), r.length = s ∧ (∀ g ∈ r, goOk m g) ∧ R = .nx (lv a' b' m s x5 (some (nD k)) (some (.lst true (r.map sgD))) y8 y9 y10)) (ds := rangeD 0 s)
    (fun j e => ∃ (a' b' : Int) (r : Rm) (y8 y9 y10 : Option D), r.length = j ∧ (∀ g ∈ r, goOk m g) ∧ e = lv a' b' m s x5 (some (nD k)) (some (.lst true (r.map sgD))) y8 y9 y10) ⟨a, b, [], x8, x9, x10, rfl, (fun g hg => nomatch hg), rfl⟩ ?_ ?_
  · rintro j d e hd ⟨a1, b1, r, y8, y9, y10, hr, hg, rfl⟩
    obtain ⟨hd', hlt⟩ := rg_get hd
    subst hd'
    obtain ⟨a2, b2, g, z9, z10, h1, h2⟩ := step24 (s := s) (x5 := x5) (x9 := y9) (x10 := y10) (i := 0 + (j : Nat)) (r := r) hm0 hm hk (by omega) a1 b1
    simp only [put_v, stO_some, List.set_cons_succ, List.set_cons_zero]
    rw [h2]
    refine ⟨a2, b2, r ++ [g], _, z9, z10, by simp [hr], fun q hq => ?_, rfl⟩
    rcases List.mem_append.mp hq with hq | hq
    · exact hg q hq
    · rw [List.mem_singleton.mp hq]; exact h1
  · rintro e ⟨a1, b1, r, y8, y9, y10, hr, hg, rfl⟩
    exact ⟨a1, b1, r, y8, y9, y10, by rw [hr, rg_len]; omega, hg, rfl⟩
def rOk (m s : Nat) (r : Rm) : Prop := r.length = s ∧ (∀ g ∈ r, goOk m g) ∧ ∃ x, some x ∈ r
theorem room24 {m s k : Nat} {B : List Rm} (hm0 : 0 < m) (hm : m < 1000) (hk : k < m) (hs : s < 100) (hs0 : 0 < s) (hB : B.length < 1000) {x7 x8 x9 x10 : Option D} (a b : Int) :
    ∃ (a' b' : Int) (r : Rm) (y7 y8 y9 y10 : Option D), rOk m s r ∧ s_24_4 (lv a b m s (some (.lst true (B.map rmD))) (some (nD k)) x7 x8 x9 x10) = .nx (lv a' b' m s (some (.lst true ((B ++ [r]).map rmD))) (some (nD k)) y7 y8 y9 y10) := by
  obtain ⟨a1, b1, r, y8, y9, y10, h1, h2, h3⟩ := row24 (s := s) (x5 := some (.lst true (B.map rmD))) (x8 := x8) (x9 := x9) (x10 := x10) hm0 hm hk hs a b
  have rg : rngOk (s : Nat) = true := rngOk_s (by omega) (by omega)
  have zr := sgs_fz r
  have fr := frzs_of zr
  have hl : B.length < 1000000 := by omega
  have lc := lc_gen (own := [11]) (tg := .v 11) (cond := t_24_2) (elt := q_24_1) (E := [some (bx a1 b1), some (nD m), some (nD s), some (.int 6), some (.int 9), some (.lst true (B.map rmD)), some (nD k), none, y8, y9, y10, none]) (fun x => [some (bx a1 b1), some (nD m), some (nD s), some (.int 6), some (.int 9), some (.lst true (B.map rmD)), some (nD k), none, y8, y9, y10, some x]) pSg id (r.map sgD) [] (by simp; omega) (fun x hx => by
    obtain ⟨g, _, rfl⟩ := List.mem_map.mp hx
    have zg := sg_fz g
    refine ⟨by simp, ?_, fun _ => ?_, rfl⟩
    · show t_24_2 _ = .ok (.bl (!isN (sgD g))) _
      rw [isN_sg]
      unfold t_24_2
      cases g with
      | none => simp [sgD]
      | some x => obtain ⟨t, w, q⟩ := x; simp [sgD]
    · unfold q_24_1
      simp [zg])
  rw [List.nil_append, filt_sg] at lc
  have zf := sgs_fz (r.filter Option.isSome)
  have ff := frzs_of zf
  have hq := eq_sgs (o := false) (o2 := false) (r := r.filter Option.isSome)
  cases he : (r.filter Option.isSome).isEmpty with
  | false =>
    rw [he] at hq
    have hx : ∃ x, some x ∈ r := by
      cases hf : r.filter Option.isSome with
      | nil => rw [hf] at he; cases he
      | cons x xs =>
        have hm := List.mem_filter.mp (show x ∈ r.filter Option.isSome by rw [hf]; exact List.mem_cons_self ..)
        cases x with
        | none => exact absurd hm.2 (by simp)
        | some x => exact ⟨x, hm.1⟩
    refine ⟨a1, b1, r, some (.lst true (r.map sgD)), y8, y9, y10, ⟨h1, h2, hx⟩, ?_⟩
    generalize r.filter Option.isSome = F at *
    unfold s_24_4
    simp [rg, h3, lc, zr, fr, zf, ff, hq, hl, tupleD, rmD]
  | true =>
    rw [he] at hq
    obtain ⟨t, a2, b2, _, _, t1⟩ := take_ok a1 b1 6 (by omega) (by omega)
    obtain ⟨w, a3, b3, w1, w2, t2⟩ := take_ok a2 b2 (s : Nat) (by omega) (by omega)
    have hmd := md_int (a := (k : Int) + 1) (b := (m : Int)) (by omega)
    have hix : ixN r.length w = some w.toNat := by
      have : w < (r.length : Int) := by omega
      simp [ixN, w1, this]
    let g0 : Sg := some (t, 0, (k + 1) % m)
    have hg0 : D.tup [.int t, .int 0, .int (((k : Int) + 1) % (m : Int))] = sgD g0 := by rw [goal_md hm0]; rfl
    have hset : (r.map sgD).set w.toNat (sgD g0) = (r.set w.toNat g0).map sgD := by rw [List.map_set]
    have zr2 : fzs ((r.map sgD).set w.toNat (sgD g0)) = true := by rw [hset]; exact sgs_fz (r.set w.toNat g0)
    have fr2 := frzs_of zr2
    have zg0 := sg_fz g0
    have hwl : w.toNat < r.length := by omega
    refine ⟨a3, b3, r.set w.toNat g0, some (.lst true ((r.set w.toNat g0).map sgD)), y8, y9, y10, ⟨by rw [List.length_set]; exact h1, fun q hq => ?_, ?_⟩, ?_⟩
    · rcases List.mem_or_eq_of_mem_set hq with hq | rfl
      · exact h2 q hq
      · intro t' w' g' e
        injection e with e; injection e with e1 e2; injection e2 with e2 e3
        rw [← e3]
        exact Nat.mod_lt _ hm0
    · exact ⟨_, List.mem_iff_getElem.mpr ⟨w.toNat, by rw [List.length_set]; exact hwl, List.getElem_set_self _⟩⟩
    · generalize r.filter Option.isSome = F at *
      have hrl : (r.map sgD).length = s := by simp [h1]
      subst h1
      generalize hG : g0 = G at *
      unfold s_24_4
      simp [rg, h3, lc, zr, fr, zf, ff, hq, hl, tupleD, rmD, t1, t2, hmd, hix, hg0, zg0, zr2, fr2]
end LW

namespace LW
open PySem PySem.Spec L2 EV
theorem led_ok {m s : Nat} (hm0 : 0 < m) (hm : m < 100) (hs : s < 100) (hs0 : 0 < s) (a b : Int) :
    ∃ (a' b' : Int) (B : List Rm), B.length = m ∧ (∀ r ∈ B, rOk m s r) ∧ c_24 [bx a b, nD m, nD s, .int 6, .int 9] = .ok (bkD B) [bx a' b'] := by
  have H : ∃ (a' b' : Int) (B : List Rm) (y6 y7 y8 y9 y10 : Option D), B.length = m ∧ (∀ r ∈ B, rOk m s r) ∧ forL (.v 6) s_24_4 (rangeD 0 m) (lv a b m s (some (.lst true [])) none none none none none) = .nx (lv a' b' m s (some (.lst true (B.map rmD))) y6 y7 y8 y9 y10) := by
    refine forL_rule (tg := .v 6) (m := s_24_4) (fun R => ∃ (a' b' : Int) (B : List Rm) (y6 y7 y8 y9 y10 : Option D), B.length = m ∧ (∀ r ∈ B, rOk m s r) ∧ R = .nx (lv a' b' m s (some (.lst true (B.map rmD))) y6 y7 y8 y9 y10)) (ds := rangeD 0 m)
      (fun j e => ∃ (a' b' : Int) (B : List Rm) (y6 y7 y8 y9 y10 : Option D), B.length = j ∧ (∀ r ∈ B, rOk m s r) ∧ e = lv a' b' m s (some (.lst true (B.map rmD))) y6 y7 y8 y9 y10) ⟨a, b, [], none, none, none, none, none, rfl, (fun g hg => nomatch hg), rfl⟩ ?_ ?_
    · rintro j d e hd ⟨a1, b1, B, y6, y7, y8, y9, y10, hB, hg, rfl⟩
      obtain ⟨hd', hlt⟩ := rg_get hd
      subst hd'
      obtain ⟨a2, b2, r, z7, z8, z9, z10, h1, h2⟩ := room24 (m := m) (s := s) (k := j) (B := B) (x7 := y7) (x8 := y8) (x9 := y9) (x10 := y10) hm0 (by omega) (by omega) hs hs0 (by omega) a1 b1
      have e0 : ((0 : Int) + (j : Nat)) = (j : Nat) := by omega
      simp only [put_v, stO_some, List.set_cons_succ, List.set_cons_zero, e0]
      rw [h2]
      refine ⟨a2, b2, B ++ [r], _, z7, z8, z9, z10, by simp [hB], fun q hq => ?_, rfl⟩
      rcases List.mem_append.mp hq with hq | hq
      · exact hg q hq
      · rw [List.mem_singleton.mp hq]; exact h1
    · rintro e ⟨a1, b1, B, y6, y7, y8, y9, y10, hB, hg, rfl⟩
      exact ⟨a1, b1, B, y6, y7, y8, y9, y10, by rw [hB, rg_len]; omega, hg, rfl⟩
  obtain ⟨a1, b1, B, y6, y7, y8, y9, y10, h1, h2, h3⟩ := H
  have rg : rngOk (m : Nat) = true := rngOk_s (by omega) (by omega)
  have zb := rms_fz B
  have fb := frzs_of zb
  refine ⟨a1, b1, B, h1, h2, ?_⟩
  unfold c_24 callF m_24
  simp [rg, h3, zb, fb, tupleD, bkD]
/-- the chances told -/
theorem pl_tup {r : List D} (h : ∀ d ∈ r, ∃ i, d = .int i) : ∃ c : List Int, .tup r = rwI c := by
  obtain ⟨c, rfl⟩ := ints_of h
  exact ⟨c, rfl⟩
theorem sign25 {B : List Rm} {x3 x4 x5 : Option D} {r : Rm} (hr : r.length < 100) (a b : Int) :
    ∃ (a' b' : Int) (c : List Int), c.length = r.length ∧ lcL [6] (.v 6) mTrue q_25_1 (r.map sgD) [] [some (bx a b), some (bkD B), some (.int 60), x3, x4, x5, none] = .ok (c.map D.int) [some (bx a' b'), some (bkD B), some (.int 60), x3, x4, x5, none] := by
  have H := lc_box (i := 6) (ds := r.map sgD) (elt := q_25_1) (E := fun a b => [some (bx a b), some (bkD B), some (.int 60), x3, x4, x5, none]) (fun d => ∃ i, d = .int i) (by rw [List.length_map]; omega) (by
    intro a b d hd
    obtain ⟨g, _, rfl⟩ := List.mem_map.mp hd
    have zg := sg_fz g
    cases g with
    | none =>
      refine ⟨.int 0, a, b, [some (bx a b), some (bkD B), some (.int 60), x3, x4, x5, some .non], ⟨0, rfl⟩, ?_, rfl⟩
      unfold q_25_1
      simp [sgD]
    | some x =>
      obtain ⟨t, w, g⟩ := x
      obtain ⟨v, a1, b1, _, _, h3⟩ := take_ok a b 61 (by omega) (by omega)
      obtain ⟨x, a2, b2, hx, h4⟩ := pick_ok a1 b1 true [.int 0, .int 1, .int 1, .int 2, .int 3, .int v] (by simp) (by simp) rfl
      have hxi : ∃ i : Int, x = .int i := by
        simp only [List.mem_cons, List.not_mem_nil, or_false] at hx
        rcases hx with rfl | rfl | rfl | rfl | rfl | rfl <;> exact ⟨_, rfl⟩
      obtain ⟨i, rfl⟩ := hxi
      refine ⟨.int i, a2, b2, [some (bx a2 b2), some (bkD B), some (.int 60), x3, x4, x5, some (sgD (some (t, w, g)))], ⟨i, rfl⟩, ?_, rfl⟩
      unfold q_25_1
      simp [sgD, h3, h4]) a b
  obtain ⟨a', b', acc, h1, h2, h3⟩ := H
  obtain ⟨c, rfl⟩ := ints_of h2
  exact ⟨a', b', c, by simpa using h1, h3⟩
theorem chances_ok {B : List Rm} {si : Nat} (hB : B.length < 1000) (hr : ∀ r ∈ B, r.length = si) (hsi : si < 100) (a b : Int) : ∃ (a' b' : Int) (S : List (List Int)), S.length = B.length ∧ (∀ c ∈ S, c.length = si) ∧ c_25 [bx a b, bkD B, .int 60] = .ok (srcD S) [bx a' b'] := by
  have H : ∃ (a' b' : Int) (S : List (List Int)) (y4 y5 : Option D), S.length = B.length ∧ (∀ c ∈ S, c.length = si) ∧ forL (.v 4) s_25_2 (B.map rmD) [some (bx a b), some (bkD B), some (.int 60), some (.lst true []), none, none, none] = .nx [some (bx a' b'), some (bkD B), some (.int 60), some (.lst true (S.map rwI)), y4, y5, none] := by
    refine forL_rule (tg := .v 4) (m := s_25_2) (fun R => ∃ (a' b' : Int) (S : List (List Int)) (y4 y5 : Option D), S.length = B.length ∧ (∀ c ∈ S, c.length = si) ∧ R = .nx [some (bx a' b'), some (bkD B), some (.int 60), some (.lst true (S.map rwI)), y4, y5, none]) (ds := B.map rmD)
      (fun j e => ∃ (a' b' : Int) (S : List (List Int)) (y4 y5 : Option D), S.length = j ∧ (∀ c ∈ S, c.length = si) ∧ e = [some (bx a' b'), some (bkD B), some (.int 60), some (.lst true (S.map rwI)), y4, y5, none]) ⟨a, b, [], none, none, rfl, (fun c hc => nomatch hc), rfl⟩ ?_ ?_
    · rintro j d e hd ⟨a1, b1, S, y4, y5, hS, hc, rfl⟩
      have hj := (List.getElem?_eq_some_iff.mp hd).1
      rw [List.length_map] at hj
      obtain ⟨r, hr', rfl⟩ := List.mem_map.mp (List.mem_of_getElem? hd)
      obtain ⟨a2, b2, c, hcl, h2⟩ := sign25 (B := B) (x3 := some (.lst true (S.map rwI))) (x4 := some (rmD r)) (x5 := y5) (by rw [hr r hr']; exact hsi) a1 b1
      have zr := sgs_fz r
      have fr := frzs_of zr
      have zc := rwI_fz c
      have fc := frzs_of zc
      have hl : S.length < 1000000 := by omega
      have st : s_25_2 [some (bx a1 b1), some (bkD B), some (.int 60), some (.lst true (S.map rwI)), some (rmD r), y5, none] = .nx [some (bx a2 b2), some (bkD B), some (.int 60), some (.lst true ((S ++ [c]).map rwI)), some (rmD r), some (.lst true (c.map D.int)), none] := by
        unfold s_25_2
        unfold rmD at h2 ⊢
        simp [zr, fr, h2, zc, fc, hl, tupleD, rwI]
      simp only [put_v, stO_some, List.set_cons_succ, List.set_cons_zero]
      rw [st]
      refine ⟨a2, b2, S ++ [c], _, _, by simp [hS], fun q hq => ?_, rfl⟩
      rcases List.mem_append.mp hq with hq | hq
      · exact hc q hq
      · rw [List.mem_singleton.mp hq, hcl, hr r hr']
    · rintro e ⟨a1, b1, S, y4, y5, hS, hc, rfl⟩
      exact ⟨a1, b1, S, y4, y5, by rw [hS, List.length_map], hc, rfl⟩
  obtain ⟨a1, b1, S, y4, y5, h1, hc, h2⟩ := H
  have zb := rms_fz B
  have fb := frzs_of zb
  have zs := src_fz S
  have fs := frzs_of zs
  refine ⟨a1, b1, S, h1, hc, ?_⟩
  unfold c_25 callF m_25
  unfold bkD at h2 ⊢
  simp [zb, fb, h2, zs, fs, tupleD, srcD]
end LW

namespace LW
open PySem PySem.Spec L2 EV
theorem deep_rw (c : List Int) : deepV (rwI c) := ⟨rfl, rwI_fz c, fun cs h d hd => by
  injection h with h
  subst h
  obtain ⟨i, _, rfl⟩ := List.mem_map.mp hd
  rfl⟩
theorem deep_int (i : Int) : deepV (.int i) := ⟨rfl, rfl, fun cs h => nomatch h⟩
theorem deep_non : deepV .non := ⟨rfl, rfl, fun cs h => nomatch h⟩
theorem deep_str (s : Str) : deepV (.str s) := ⟨rfl, rfl, fun cs h => nomatch h⟩
theorem deep_lst {xs : List D} (h : fzs xs = true) : deepV (.lst false xs) := ⟨rfl, h, fun cs h => nomatch h⟩
theorem deep_tup {xs : List D} (h : fzs xs = true) (ho : ∀ c ∈ xs, okV c = true) : deepV (.tup xs) := ⟨rfl, h, fun cs h => by injection h with h; subst h; exact ho⟩
theorem ask_tup {es : List D} (h : ∀ e ∈ es, deepV e) : askV (.tup es) := ⟨rfl, fzs_of fun d hd => (h d hd).2.1, fun es' h' => by injection h' with h'; subst h'; exact h⟩
theorem ask_of {v : D} (h : okV v = true) (hz : fz v = true) (hn : ∀ es, v ≠ .tup es) : askV v := ⟨h, hz, fun es h => absurd h (hn es)⟩
theorem deep_set {es : List D} {x : D} {k : Nat} (h : ∀ e ∈ es, deepV e) (hx : deepV x) : ∀ e ∈ es.set k x, deepV e := fun e he => by
  rcases List.mem_or_eq_of_mem_set he with he | rfl
  · exact h e he
  · exact hx
theorem src_deep (S : List (List Int)) : ∀ e ∈ S.map rwI, deepV e := fun e he => by
  obtain ⟨c, _, rfl⟩ := List.mem_map.mp he
  exact deep_rw c
/-- a comprehension whose elements need no box -/
theorem lc_map {own : List Nat} {tg : CT} {elt : ME} {E : DEnv} (E1 : D → DEnv) (f : D → D) (ds : List D) (hl : ds.length ≤ 1000)
    (h : ∀ d ∈ ds, put tg d E = some (E1 d) ∧ elt (E1 d) = .ok (f d) (E1 d) ∧ wipeE own (E1 d) = E) : lcL own tg mTrue elt ds [] E = .ok (ds.map f) E := by
  have := lc_gen (own := own) (tg := tg) (cond := mTrue) (elt := elt) (E := E) E1 (fun _ => true) f ds [] (by simpa using hl) fun d hd => ⟨(h d hd).1, rfl, fun _ => (h d hd).2.1, (h d hd).2.2⟩
  rw [List.filter_eq_self.mpr (fun _ _ => rfl)] at this
  exact this
/-- the frame of bent -/
abbrev bf (a b : Int) (B : List Rm) (es : List D) (m si room sign : Nat) (row : List Int) (x8 : Option D) (F : List D) (x10 x11 x12 x13 : Option D) : DEnv := [some (bx a b), some (bkD B), some (.tup es), some (nD m), some (nD si), some (nD room), some (nD sign), some (rwI row), x8, some (.lst true F), x10, x11, x12, x13]
section
variable {B : List Rm} {es : List D} {m si room sign : Nat} {row : List Int} {x8 x10 x11 x12 x13 : Option D} {a b : Int}
theorem putD {k : Nat} {x : D} (hk : k < es.length) (hl : es.length < 1000) (hd : ∀ e ∈ es, deepV e) (hx : fz x = true) : c_31 [.tup es, nD k, x] = .ok (.tup (es.set k x)) [] := set_ok hk hl (fzs_of fun d h => (hd d h).2.1) hx
theorem putR {k : Nat} {x : D} (hk : k < row.length) (hl : row.length < 1000) (hx : fz x = true) : c_31 [rwI row, nD k, x] = .ok (.tup ((row.map D.int).set k x)) [] := set_ok (by simpa using hk) (by simpa using hl) (rwI_fz row) hx
theorem loopE (hr : room < es.length) (hl : es.length < 1000) (hd : ∀ e ∈ es, deepV e) : ∀ (ds : List D) (F : List D) (x10 : Option D), (∀ d ∈ ds, deepV d) → (∀ f ∈ F, askV f) → F.length + ds.length < 1000 →
    ∃ (F' : List D) (y10 : Option D), (∀ f ∈ F', askV f) ∧ F'.length = F.length + ds.length ∧ forL (.v 10) s_32_6 ds (bf a b B es m si room sign row x8 F x10 x11 x12 x13) = .nx (bf a b B es m si room sign row x8 F' y10 x11 x12 x13)
  | [], F, x10, _, hF, _ => ⟨F, x10, hF, rfl, rfl⟩
  | d :: ds, F, x10, hds, hF, hL => by
    have dd := hds d (List.mem_cons_self ..)
    have hz := dd.2.1
    have fz' := frz_of _ hz
    have hes : fzs es = true := fzs_of fun d h => (hd d h).2.1
    have hp := putD hr hl hd hz
    have hask := ask_tup (deep_set (k := room) hd dd)
    have hzs : fzs (es.set room d) = true := hask.2.1
    have hfs := frzs_of hzs
    simp only [List.length_cons] at hL
    have hlt : F.length < 1000000 := by omega
    obtain ⟨F', y10, h1, h2, h3⟩ := loopE hr hl hd ds (F ++ [.tup (es.set room d)]) (some d) (fun x hx => hds x (List.mem_cons_of_mem _ hx)) (fun f hf => by
      rcases List.mem_append.mp hf with hf | hf
      · exact hF f hf
      · rw [List.mem_singleton.mp hf]; exact hask) (by simp; omega)
    refine ⟨F', y10, h1, by rw [h2]; simp; omega, ?_⟩
    have st : s_32_6 (bf a b B es m si room sign row x8 F (some d) x11 x12 x13) = .nx (bf a b B es m si room sign row x8 (F ++ [.tup (es.set room d)]) (some d) x11 x12 x13) := by
      have zl : fz d = true := hz
      generalize es.set room d = T at *
      unfold s_32_6
      simp [hes, hz, fz', hp, hzs, hfs, hlt, frzs_of hes]
    conv => lhs; unfold forL
    simp only [put_v, List.set_cons_succ, List.set_cons_zero]
    rw [st]
    exact h3
theorem loopC (hr : room < es.length) (hl : es.length < 1000) (hs : sign < row.length) (hrl : row.length < 1000) (hd : ∀ e ∈ es, deepV e) : ∀ (ds : List D) (F : List D) (x11 : Option D), (∀ d ∈ ds, okV d = true ∧ fz d = true) → (∀ f ∈ F, askV f) → F.length + ds.length < 1000 →
    ∃ (F' : List D) (y11 : Option D), (∀ f ∈ F', askV f) ∧ F'.length = F.length + ds.length ∧ forL (.v 11) s_32_5 ds (bf a b B es m si room sign row x8 F x10 x11 x12 x13) = .nx (bf a b B es m si room sign row x8 F' x10 y11 x12 x13)
  | [], F, x11, _, hF, _ => ⟨F, x11, hF, rfl, rfl⟩
  | d :: ds, F, x11, hds, hF, hL => by
    obtain ⟨dv, hz⟩ := hds d (List.mem_cons_self ..)
    have fz' := frz_of _ hz
    have hes : fzs es = true := fzs_of fun d h => (hd d h).2.1
    have hp0 := putR (row := row) hs hrl hz
    have zrow := rwI_fz row
    have hdr : ∀ c ∈ (row.map D.int).set sign d, okV c = true ∧ fz c = true := fun c hc => by
      rcases List.mem_or_eq_of_mem_set hc with hc | rfl
      · obtain ⟨i, _, rfl⟩ := List.mem_map.mp hc; exact ⟨rfl, rfl⟩
      · exact ⟨dv, hz⟩
    have dd : deepV (.tup ((row.map D.int).set sign d)) := deep_tup (fzs_of fun c hc => (hdr c hc).2) fun c hc => (hdr c hc).1
    have hp := putD hr hl hd dd.2.1
    have hask := ask_tup (deep_set (k := room) hd dd)
    have hzs : fzs (es.set room (.tup ((row.map D.int).set sign d))) = true := hask.2.1
    have hfs := frzs_of hzs
    have hzr : fzs ((row.map D.int).set sign d) = true := dd.2.1
    have hfr := frzs_of hzr
    simp only [List.length_cons] at hL
    have hlt : F.length < 1000000 := by omega
    obtain ⟨F', y11, h1, h2, h3⟩ := loopC hr hl hs hrl hd ds (F ++ [.tup (es.set room (.tup ((row.map D.int).set sign d)))]) (some d) (fun x hx => hds x (List.mem_cons_of_mem _ hx)) (fun f hf => by
      rcases List.mem_append.mp hf with hf | hf
      · exact hF f hf
      · rw [List.mem_singleton.mp hf]; exact hask) (by simp; omega)
    refine ⟨F', y11, h1, by rw [h2]; simp; omega, ?_⟩
    have st : s_32_5 (bf a b B es m si room sign row x8 F x10 (some d) x12 x13) = .nx (bf a b B es m si room sign row x8 (F ++ [.tup (es.set room (.tup ((row.map D.int).set sign d)))]) x10 (some d) x12 x13) := by
      generalize (row.map D.int).set sign d = R at *
      generalize es.set room (.tup R) = T at *
      unfold s_32_5
      simp [hes, hz, fz', hp0, hp, hzs, hfs, hlt, zrow, hzr, hfr, frzs_of hes, frzs_of zrow]
    conv => lhs; unfold forL
    simp only [put_v, List.set_cons_succ, List.set_cons_zero]
    rw [st]
    exact h3
end
end LW

namespace LW
open PySem PySem.Spec L2 EV
theorem pw30 : powD (.int 10) (.int 30) = some (.int 1000000000000000000000000000000) := rfl
def oddL : List D := [.non, .bl true, .bl false, .int 61, .int (-1), .int 1000000000000000000000000000000, .str "1", .tup [.int 1], .lst false [.int 1], .int 60, .int 0]
theorem oddL_ok : ∀ d ∈ oddL, okV d = true ∧ fz d = true := by
  have h : oddL.all (fun d => okV d && fz d) = true := by decide +kernel
  intro d hd
  have := List.all_eq_true.mp h d hd
  rwa [Bool.and_eq_true] at this
def foundL (es : List D) (row : List Int) (m : Nat) : List D := [.lst false es, .tup (es ++ [rwI row]), .tup (es.take (m - 1)), rwI row, .non, .tup [], .str "source", .tup [.tup es], .int 7]
theorem foundL_ok {es : List D} {row : List Int} {m : Nat} (hd : ∀ e ∈ es, deepV e) (ho : ∀ e ∈ es, okV e = true) : ∀ f ∈ foundL es row m, askV f := by
  have hes : fzs es = true := fzs_of fun d h => (hd d h).2.1
  intro f hf
  simp only [foundL, List.mem_cons, List.not_mem_nil, or_false] at hf
  rcases hf with rfl | rfl | rfl | rfl | rfl | rfl | rfl | rfl | rfl
  · exact ask_of rfl hes fun _ h => nomatch h
  · exact ask_tup fun e he => by
      rcases List.mem_append.mp he with he | he
      · exact hd e he
      · rw [List.mem_singleton.mp he]; exact deep_rw row
  · exact ask_tup fun e he => hd e (List.mem_of_mem_take he)
  · exact ask_tup fun e he => by
      obtain ⟨i, _, rfl⟩ := List.mem_map.mp he
      exact deep_int i
  · exact ask_of rfl rfl fun _ h => nomatch h
  · exact ask_tup fun e he => nomatch he
  · exact ask_of rfl rfl fun _ h => nomatch h
  · exact ask_tup fun e he => by
      rw [List.mem_singleton.mp he]
      exact deep_tup hes ho
  · exact ask_of rfl rfl fun _ h => nomatch h
def entL (row : List Int) (si : Nat) : List D := [.lst false (row.map D.int), .tup (row.map D.int ++ [.int 0]), .tup ((row.map D.int).take (si - 1)), .non, .int 3, .str "row", .tup [rwI row], .tup []]
theorem ints_ok {row : List Int} : ∀ d ∈ row.map D.int, okV d = true ∧ fz d = true := fun d hd => by
  obtain ⟨i, _, rfl⟩ := List.mem_map.mp hd
  exact ⟨rfl, rfl⟩
theorem entL_ok {row : List Int} {si : Nat} : ∀ d ∈ entL row si, deepV d := by
  intro f hf
  simp only [entL, List.mem_cons, List.not_mem_nil, or_false] at hf
  rcases hf with rfl | rfl | rfl | rfl | rfl | rfl | rfl | rfl
  · exact deep_lst (rwI_fz row)
  · have h : ∀ d ∈ row.map D.int ++ [.int 0], okV d = true ∧ fz d = true := fun d hd => by
      rcases List.mem_append.mp hd with hd | hd
      · exact ints_ok d hd
      · rw [List.mem_singleton.mp hd]; exact ⟨rfl, rfl⟩
    exact deep_tup (fzs_of fun d hd => (h d hd).2) fun d hd => (h d hd).1
  · exact deep_tup (fzs_of fun d hd => (ints_ok d (List.mem_of_mem_take hd)).2) fun d hd => (ints_ok d (List.mem_of_mem_take hd)).1
  · exact deep_non
  · exact deep_int 3
  · exact deep_str "row"
  · exact deep_tup (by show (fzs _ && true) = true; rw [rwI_fz]; rfl) fun d hd => by rw [List.mem_singleton.mp hd]; rfl
  · exact deep_tup rfl fun d hd => nomatch hd
section
variable {B : List Rm} {S : List (List Int)} {si : Nat}
theorem lc_zero {E : DEnv} {e0 e1 e2 e3 e4 e5 e6 e7 e8 e9 e10 e11 e12 : Option D} (row : List Int) (hl : row.length < 1000) :
    lcL [13] (.v 13) mTrue q_32_4 (row.map D.int) [] [e0, e1, e2, e3, e4, e5, e6, e7, e8, e9, e10, e11, e12, none] = .ok ((row.map fun _ => (0 : Int)).map D.int) [e0, e1, e2, e3, e4, e5, e6, e7, e8, e9, e10, e11, e12, none] := by
  rw [lc_map (own := [13]) (tg := .v 13) (elt := q_32_4) (fun x => [e0, e1, e2, e3, e4, e5, e6, e7, e8, e9, e10, e11, e12, some x]) (fun _ => .int 0) _ (by simp; omega) (fun x hx => ⟨by simp, by unfold q_32_4; simp, rfl⟩)]
  simp
theorem lc_zero1 {E : DEnv} {e0 e1 e2 e3 e4 e5 e6 e7 e8 e9 e10 e11 e12 : Option D} (row : List Int) (hl : row.length < 1000) :
    lcL [13] (.v 13) mTrue q_32_1 (row.map D.int) [] [e0, e1, e2, e3, e4, e5, e6, e7, e8, e9, e10, e11, e12, none] = .ok ((row.map fun _ => (0 : Int)).map D.int) [e0, e1, e2, e3, e4, e5, e6, e7, e8, e9, e10, e11, e12, none] := by
  rw [lc_map (own := [13]) (tg := .v 13) (elt := q_32_1) (fun x => [e0, e1, e2, e3, e4, e5, e6, e7, e8, e9, e10, e11, e12, some x]) (fun _ => .int 0) _ (by simp; omega) (fun x hx => ⟨by simp, by unfold q_32_1; simp, rfl⟩)]
  simp
def uF (sign : Int) : D → D
  | .int k => .int (if k = sign then 1 else 0)
  | d => d
theorem uF_ints {sign : Int} : ∀ {ds : List D}, (∀ d ∈ ds, ∃ i, d = .int i) → ∃ c : List Int, ds.map (uF sign) = c.map D.int := fun {ds} h => by
  obtain ⟨r, rfl⟩ := ints_of h
  exact ⟨r.map fun k => if k = sign then 1 else 0, by simp [uF]⟩
theorem unit_of (sign : Int) (si : Nat) : ∃ c : List Int, (rangeD 0 (si : Nat)).map (uF sign) = c.map D.int := uF_ints fun d hd => by
  obtain ⟨k, _, rfl⟩ := mem_rg hd
  exact ⟨_, rfl⟩
theorem lc_unit {e0 e1 e2 e3 e4 e5 e7 e8 e9 e10 e11 e12 : Option D} {sign : Int} {elt : ME} (he : elt = q_32_2 ∨ elt = q_32_3) (hl : si < 1000) :
    lcL [13] (.v 13) mTrue elt (rangeD 0 (si : Nat)) [] [e0, e1, e2, e3, e4, e5, some (.int sign), e7, e8, e9, e10, e11, e12, none] = .ok ((rangeD 0 (si : Nat)).map (uF sign)) [e0, e1, e2, e3, e4, e5, some (.int sign), e7, e8, e9, e10, e11, e12, none] :=
  lc_map (own := [13]) (tg := .v 13) (elt := elt) (fun x => [e0, e1, e2, e3, e4, e5, some (.int sign), e7, e8, e9, e10, e11, e12, some x]) (uF sign) _ (by rw [rg_len]; omega) (fun x hx => by
    obtain ⟨k, _, rfl⟩ := mem_rg hx
    refine ⟨by simp, ?_, rfl⟩
    by_cases hk : ((k : Nat) : Int) = sign
    · rcases he with rfl | rfl
      · unfold q_32_2; simp [uF, hk]
      · unfold q_32_3; simp [uF, hk]
    · have hk' : (((k : Nat) : Int) == sign) = false := by simpa using hk
      rcases he with rfl | rfl
      · unfold q_32_2; simp [uF, hk, hk']
      · unfold q_32_3; simp [uF, hk, hk'])
theorem bent_ok (K : Bk B si) (hSl : S.length = B.length) (hSr : ∀ c ∈ S, c.length = si) (a b : Int) : ∃ (a' b' : Int) (F : List D), (∀ f ∈ F, askV f) ∧ c_32 [bx a b, bkD B, srcD S] = .ok (.lst true F) [bx a' b'] := by
  obtain ⟨t1, a1, b1, h1, h2, tk1⟩ := take_ok a b (B.length : Nat) (by have := K.b0; omega) (by have := K.bl; omega)
  obtain ⟨t2, a2, b2, h3, h4, tk2⟩ := take_ok a1 b1 (si : Nat) (by have := K.s0; omega) (by have := K.sl; omega)
  obtain ⟨room, rfl⟩ : ∃ room : Nat, t1 = (room : Nat) := ⟨t1.toNat, by omega⟩
  obtain ⟨sign, rfl⟩ : ∃ sign : Nat, t2 = (sign : Nat) := ⟨t2.toNat, by omega⟩
  have hb0 := K.b0
  have hbl := K.bl
  have hs0 := K.s0
  have hsl := K.sl
  have hrm : room < S.length := by omega
  have hrow : S[room]? = some (S.getD room []) := getD_at hrm
  have hrl := hSr _ (List.mem_of_getElem? hrow)
  have hB0 : B[0]? = some (B.getD 0 []) := getD_at hb0
  have hr0 := K.rl _ (List.mem_of_getElem? hB0)
  have at0' : atI (B.map rmD) 0 = some (.tup ((B.getD 0 []).map sgD)) := atB hB0
  have zr0 := sgs_fz (B.getD 0 [])
  have fr0 := frzs_of zr0
  have atr : atI (S.map rwI) (room : Nat) = some (rwI (S.getD room [])) := atS hrow
  have hla : S[B.length - 1]? = some (S.getD (B.length - 1) []) := getD_at (by omega)
  have hll := hSr _ (List.mem_of_getElem? hla)
  have atl : atI (S.map rwI) (((B.length : Nat) : Int) - 1) = some (rwI (S.getD (B.length - 1) [])) := by
    have e : ((B.length : Nat) : Int) - 1 = ((B.length - 1 : Nat) : Int) := by omega
    rw [e]
    exact atS hla
  have cut1 : cutD (S.map rwI) none (some (((B.length : Nat) : Int) - 1)) = (S.map rwI).take (B.length - 1) := by
    have e : ((B.length : Nat) : Int) - 1 = ((B.length - 1 : Nat) : Int) := by omega
    rw [e]
    exact cut_to (by simp; omega)
  have cut2 : cutD ((S.getD room []).map D.int) none (some (((si : Nat) : Int) - 1)) = ((S.getD room []).map D.int).take (si - 1) := by
    have e : ((si : Nat) : Int) - 1 = ((si - 1 : Nat) : Int) := by omega
    rw [e]
    exact cut_to (by rw [List.length_map, hrl]; omega)
  have hd := src_deep S
  have zb := rms_fz B
  have zs := src_fz S
  have fs := frzs_of zs
  have fb := frzs_of zb
  generalize B.getD 0 [] = r0 at *
  generalize S.getD room [] = row at *
  generalize S.getD (B.length - 1) [] = last at *
  have zr := rwI_fz row
  have fr := frzs_of zr
  have zl := rwI_fz last
  have fl := frzs_of zl
  have ho : ∀ e ∈ S.map rwI, okV e = true := fun e he => (hd e he).1
  obtain ⟨F1, y10, f1, f1l, lE⟩ := loopE (B := B) (es := S.map rwI) (m := B.length) (si := si) (room := room) (sign := sign) (row := row) (x8 := some (.lst true oddL)) (x11 := none) (x12 := none) (x13 := none) (a := a2) (b := b2) (by simpa using hrm) (by simp; omega) hd (entL row si) (foundL (S.map rwI) row B.length) none entL_ok (foundL_ok hd ho) (by simp [foundL, entL])
  obtain ⟨F2, y11, f2, f2l, lC⟩ := loopC (B := B) (es := S.map rwI) (m := B.length) (si := si) (room := room) (sign := sign) (row := row) (x8 := some (.lst false oddL)) (x10 := y10) (x12 := none) (x13 := none) (a := a2) (b := b2) (by simpa using hrm) (by simp; omega) (by omega) (by omega) hd oddL F1 none oddL_ok f1 (by rw [f1l]; simp [foundL, entL, oddL])
  have hF1 : F1.length = 17 := by rw [f1l]; rfl
  have hF2 : F2.length = 28 := by rw [f2l, hF1]; rfl
  have hSl' : (S.map rwI).length < 1000 := by rw [List.length_map]; omega
  have hrm' : room < (S.map rwI).length := by rw [List.length_map]; exact hrm
  have h0' : 0 < (S.map rwI).length := by rw [List.length_map]; omega
  obtain ⟨U, hU⟩ := unit_of (sign : Nat) si
  have lz := fun (e9 e12 : Option D) => lc_zero (E := []) (e0 := some (bx a2 b2)) (e1 := some (bkD B)) (e2 := some (srcD S)) (e3 := some (nD B.length)) (e4 := some (nD si)) (e5 := some (nD room)) (e6 := some (nD sign)) (e7 := some (rwI row)) (e8 := some (.lst false oddL)) (e9 := e9) (e10 := y10) (e11 := y11) (e12 := e12) row (by omega)
  have lz1 := fun (e9 e12 : Option D) => lc_zero1 (E := []) (e0 := some (bx a2 b2)) (e1 := some (bkD B)) (e2 := some (srcD S)) (e3 := some (nD B.length)) (e4 := some (nD si)) (e5 := some (nD room)) (e6 := some (nD sign)) (e7 := some (rwI row)) (e8 := some (.lst false oddL)) (e9 := e9) (e10 := y10) (e11 := y11) (e12 := e12) row (by omega)
  have lu2 := fun (e9 e12 : Option D) => lc_unit (si := si) (e0 := some (bx a2 b2)) (e1 := some (bkD B)) (e2 := some (srcD S)) (e3 := some (nD B.length)) (e4 := some (nD si)) (e5 := some (nD room)) (sign := (sign : Nat)) (e7 := some (rwI row)) (e8 := some (.lst false oddL)) (e9 := e9) (e10 := y10) (e11 := y11) (e12 := e12) (elt := q_32_2) (.inl rfl) (by omega)
  have lu3 := fun (e9 e12 : Option D) => lc_unit (si := si) (e0 := some (bx a2 b2)) (e1 := some (bkD B)) (e2 := some (srcD S)) (e3 := some (nD B.length)) (e4 := some (nD si)) (e5 := some (nD room)) (sign := (sign : Nat)) (e7 := some (rwI row)) (e8 := some (.lst false oddL)) (e9 := e9) (e10 := y10) (e11 := y11) (e12 := e12) (elt := q_32_3) (.inr rfl) (by omega)
  rw [hU] at lu2 lu3
  generalize hZ : (row.map fun _ => (0 : Int)) = Z at *
  have zZ := rwI_fz Z
  have fZ := frzs_of zZ
  have zU := rwI_fz U
  have fU := frzs_of zU
  -- what is put
  have p1 := putD (k := room) (x := rwI Z) hrm' hSl' hd zZ
  have q1 := ask_tup (deep_set (k := room) hd (deep_rw Z))
  have p2 := putD (k := room) (x := rwI U) hrm' hSl' hd zU
  have q2 := ask_tup (deep_set (k := room) hd (deep_rw U))
  have p3 : c_31 [.tup (S.map rwI), .int 0, rwI U] = .ok (.tup ((S.map rwI).set 0 (rwI U))) [] := putD (k := 0) (x := rwI U) h0' hSl' hd zU
  have q3 := ask_tup (deep_set (k := 0) hd (deep_rw U))
  have p4 : c_31 [rwI last, .int 0, .int 61] = .ok (.tup ((last.map D.int).set 0 (.int 61))) [] := putR (row := last) (k := 0) (x := .int 61) (by omega) (by omega) rfl
  have w4 : ∀ c ∈ (last.map D.int).set 0 (.int 61), okV c = true ∧ fz c = true := fun c hc => by
    rcases List.mem_or_eq_of_mem_set hc with hc | rfl
    · exact ints_ok c hc
    · exact ⟨rfl, rfl⟩
  have d4 : deepV (.tup ((last.map D.int).set 0 (.int 61))) := deep_tup (fzs_of fun c hc => (w4 c hc).2) fun c hc => (w4 c hc).1
  have p5 := putD (k := B.length - 1) (by rw [List.length_map]; omega) hSl' hd d4.2.1
  have e5 : nD (B.length - 1) = .int (((B.length : Nat) : Int) - 1) := by
    show D.int ((B.length - 1 : Nat) : Int) = _
    congr 1
    omega
  rw [e5] at p5
  have hd2 := deep_set (k := B.length - 1) hd d4
  have z4 : fzs ((last.map D.int).set 0 (.int 61)) = true := d4.2.1
  have f4 := frzs_of z4
  have l2 : ((S.map rwI).set (B.length - 1) (.tup ((last.map D.int).set 0 (.int 61)))).length = (S.map rwI).length := List.length_set
  generalize (last.map D.int).set 0 (.int 61) = L4 at *
  generalize hT : (S.map rwI).set (B.length - 1) (.tup L4) = T at *
  have zT : fzs T = true := (ask_tup hd2).2.1
  have fT := frzs_of zT
  have p6 := putD (es := T) (k := room) (x := rwI Z) (by rw [l2]; exact hrm') (by rw [l2]; exact hSl') hd2 zZ
  have q6 := ask_tup (deep_set (k := room) hd2 (deep_rw Z))
  have p7 := putR (row := row) (k := sign) (x := .int (-2)) (by omega) (by omega) rfl
  have w7 : ∀ c ∈ (row.map D.int).set sign (.int (-2)), okV c = true ∧ fz c = true := fun c hc => by
    rcases List.mem_or_eq_of_mem_set hc with hc | rfl
    · exact ints_ok c hc
    · exact ⟨rfl, rfl⟩
  have d7 : deepV (.tup ((row.map D.int).set sign (.int (-2)))) := deep_tup (fzs_of fun c hc => (w7 c hc).2) fun c hc => (w7 c hc).1
  have z7 : fzs ((row.map D.int).set sign (.int (-2))) = true := d7.2.1
  have f7 := frzs_of z7
  generalize (row.map D.int).set sign (.int (-2)) = R7 at *
  have p8 := putD (es := T) (k := room) (x := .tup R7) (by rw [l2]; exact hrm') (by rw [l2]; exact hSl') hd2 z7
  have q8 := ask_tup (deep_set (k := room) hd2 d7)
  generalize (S.map rwI).set room (rwI Z) = V1 at *
  generalize (S.map rwI).set room (rwI U) = V2 at *
  generalize (S.map rwI).set 0 (rwI U) = V3 at *
  generalize T.set room (rwI Z) = V6 at *
  generalize T.set room (.tup R7) = V8 at *
  have y1 : fzs V1 = true := q1.2.1
  have y2 : fzs V2 = true := q2.2.1
  have y3 : fzs V3 = true := q3.2.1
  have y6 : fzs V6 = true := q6.2.1
  have y8 : fzs V8 = true := q8.2.1
  have g1 := frzs_of y1
  have g2 := frzs_of y2
  have g3 := frzs_of y3
  have g6 := frzs_of y6
  have g8 := frzs_of y8
  have rg : rngOk (si : Nat) = true := rngOk_s (by omega) (by omega)
  have zo : fzs oddL = true := fzs_of fun d hd => (oddL_ok d hd).2
  refine ⟨a2, b2, F2 ++ [.tup V1] ++ [.tup V2] ++ [.tup V3] ++ [.tup V6] ++ [.tup V8], fun f hf => ?_, ?_⟩
  · simp only [List.mem_append, List.mem_singleton] at hf
    rcases hf with (((((hf | rfl) | rfl) | rfl) | rfl) | rfl)
    · exact f2 f hf
    · exact q1
    · exact q2
    · exact q3
    · exact q6
    · exact q8
  · have hSle : (S.map rwI).length + 1 ≤ 1000000 := by omega
    simp only [foundL, entL, oddL, bf, srcD, bkD, rwI] at lE lC lz lz1 lu2 lu3 tk1 tk2 atr atl p1 p2 p3 p4 p5 p6 p7 p8 zo ⊢
    have m1 : S.length ≤ 999999 := by omega
    have m2 : row.length ≤ 999999 := by omega
    have m3 : frzs (row.map D.int ++ [.int 0]) = row.map D.int ++ [.int 0] := by rw [frzs_app, fr]; rfl
    have m4 : frzs ((row.map D.int).take (si - 1)) = (row.map D.int).take (si - 1) := frzs_of (fzs_of fun d hd => (ints_ok d (List.mem_of_mem_take hd)).2)
    unfold c_32 callF m_32
    simp [zb, fb, zs, fs, at0', zr0, fr0, hr0, tk1, tk2, atr, atl, cut1, cut2, zr, fr, zl, fl, pw30, m1, m2, m3, m4, lE, lC, lz, lz1, lu2, lu3, rg, zo, frzs_of zo, tupleD,
      p1, p2, p3, p4, p5, p6, p7, p8, zZ, fZ, zU, fU, z4, f4, zT, fT, z7, f7, y1, y2, y3, y6, y8, g1, g2, g3, g6, g8, hF1, hF2]
end
end LW

namespace LW
open PySem PySem.Spec L2 EV
/-- chances that all can come -/
def rg1 : Sg → Int → Prop
  | none, x => x = 0
  | some _, x => 1 ≤ x ∧ x ≤ 60
def Rrow : Rm → List Int → Prop
  | [], [] => True
  | s :: r, x :: c => rg1 s x ∧ Rrow r c
  | _, _ => False
theorem Rrow.len : ∀ {r : Rm} {c : List Int}, Rrow r c → c.length = r.length
  | [], [], _ => rfl
  | _ :: r, _ :: c, h => congrArg (· + 1) (Rrow.len h.2)
  | [], _ :: _, h => h.elim
  | _ :: _, [], h => h.elim
theorem rg1_pos : ∀ {s : Sg} {x : Int}, rg1 s x → 0 ≤ x ∧ x ≤ 60
  | none, x, h => by have h : x = 0 := h; omega
  | some _, x, h => by have h : 1 ≤ x ∧ x ≤ 60 := h; omega
theorem Rrow.pos : ∀ {r : Rm} {c : List Int}, Rrow r c → ∀ x ∈ c, 0 ≤ x ∧ x ≤ 60
  | [], [], _ => fun x hx => nomatch hx
  | _ :: r, _ :: c, h => fun x hx => by
    rcases List.mem_cons.mp hx with rfl | hx
    · exact rg1_pos h.1
    · exact Rrow.pos h.2 x hx
  | [], _ :: _, h => h.elim
  | _ :: _, [], h => h.elim
theorem Rrow.nn : ∀ {r : Rm} {c : List Int}, Rrow r c → ∀ j : Nat, r[j]? = some none → c[j]? = some 0
  | [], [], _, j, h => by simp at h
  | s :: r, x :: c, h, 0, hj => by
    injection hj with hj
    subst hj
    have : x = 0 := h.1
    rw [this]; rfl
  | s :: r, x :: c, h, j + 1, hj => Rrow.nn (r := r) h.2 j hj
  | [], _ :: _, h, _, _ => h.elim
  | _ :: _, [], h, _, _ => h.elim
theorem Rrow.vis {t w : Int} : ∀ {r : Rm} {c : List Int} {L : List Nat}, Rrow r c → some (t, w, 0) ∈ r → 0 ∈ vis r c L
  | [], [], _, _, h => nomatch h
  | s :: r, x :: c, L, h, hm => by
    rcases List.mem_cons.mp hm with e | hm2
    · subst e
      have hx : 1 ≤ x ∧ x ≤ 60 := h.1
      unfold LW.vis
      refine (vis_pre r c _).subset ?_
      by_cases h0 : 0 ∈ L
      · rw [if_neg (fun q => q.2 h0)]; exact h0
      · rw [if_pos ⟨by omega, h0⟩]; simp
    · cases s with
      | none => unfold LW.vis; exact Rrow.vis h.2 hm2
      | some y => obtain ⟨t', w', g'⟩ := y; unfold LW.vis; exact Rrow.vis h.2 hm2
  | [], _ :: _, _, h, _ => h.elim
  | _ :: _, [], _, h, _ => h.elim
theorem le_sum : ∀ {c : List Int}, (∀ x ∈ c, 0 ≤ x) → 0 ≤ c.sum ∧ ∀ x ∈ c, x ≤ c.sum
  | [], _ => ⟨by simp, fun x hx => nomatch hx⟩
  | y :: c, h => by
    obtain ⟨h1, h2⟩ := le_sum (c := c) fun x hx => h x (List.mem_cons_of_mem _ hx)
    have h0 := h y (List.mem_cons_self ..)
    rw [List.sum_cons]
    refine ⟨by omega, fun x hx => ?_⟩
    rcases List.mem_cons.mp hx with rfl | hx
    · omega
    · have := h2 x hx; omega
theorem Rrow.sum {t w : Int} {g : Nat} : ∀ {r : Rm} {c : List Int}, Rrow r c → some (t, w, g) ∈ r → ∃ x ∈ c, 1 ≤ x
  | [], [], _, h => nomatch h
  | s :: r, x :: c, h, hm => by
    rcases List.mem_cons.mp hm with e | hm
    · subst e
      exact ⟨x, List.mem_cons_self .., h.1.1⟩
    · obtain ⟨y, h1, h2⟩ := Rrow.sum h.2 hm
      exact ⟨y, List.mem_cons_of_mem _ h1, h2⟩
  | [], _ :: _, h, _ => h.elim
  | _ :: _, [], h, _ => h.elim
theorem Rrow.ch : ∀ {r : Rm} {c : List Int}, Rrow r c → chB r (rwI c) = true := fun {r c} h => by
  have h1 := h.len
  have h2 : (c.map D.int).all num60 = true := by
    rw [List.all_eq_true]
    intro d hd
    obtain ⟨i, hi, rfl⟩ := List.mem_map.mp hd
    have := h.pos i hi
    show (decide (0 ≤ i) && decide (i ≤ 60)) = true
    simp [this]
  have h3 : ∀ {r : Rm} {c : List Int}, Rrow r c → (List.zipWith okC r (c.map D.int)).all id = true := by
    intro r
    induction r with
    | nil => intro c _; rfl
    | cons s r ih =>
      intro c h
      cases c with
      | nil => exact h.elim
      | cons x c =>
        rw [List.map_cons, List.zipWith_cons_cons, List.all_cons, ih h.2]
        have : okC s (.int x) = true := by
          cases s with
          | none => have h0 : x = 0 := h.1; subst h0; rfl
          | some y => rfl
        rw [this]; rfl
  show (((c.map D.int).length == r.length) && ((c.map D.int).all num60 && (List.zipWith okC r (c.map D.int)).all id)) = true
  rw [h2, h3 h, List.length_map, h1]
  simp
def Rrows : List Rm → List (List Int) → Prop
  | [], [] => True
  | r :: B, c :: S => Rrow r c ∧ Rrows B S
  | _, _ => False
theorem Rrows.len : ∀ {B : List Rm} {S : List (List Int)}, Rrows B S → S.length = B.length
  | [], [], _ => rfl
  | _ :: r, _ :: c, h => congrArg (· + 1) (Rrows.len h.2)
  | [], _ :: _, h => h.elim
  | _ :: _, [], h => h.elim
theorem Rrows.at_ : ∀ {B : List Rm} {S : List (List Int)}, Rrows B S → ∀ {k : Nat} {r c}, B[k]? = some r → S[k]? = some c → Rrow r c
  | [], [], _, k, r, c, h, _ => by simp at h
  | r :: B, c :: S, h, 0, r', c', h1, h2 => by
    injection h1 with h1
    injection h2 with h2
    subst h1 h2
    exact h.1
  | r :: B, c :: S, h, k + 1, r', c', h1, h2 => Rrows.at_ (B := B) h.2 h1 h2
  | [], _ :: _, h, _, _, _, _, _ => h.elim
  | _ :: _, [], h, _, _, _, _, _ => h.elim
section
variable {B : List Rm} {S : List (List Int)} {si : Nat} {s0 s1 : D}
theorem mem_row {c : List Int} (h : Rrows B S) (hc : c ∈ S) : ∃ r ∈ B, Rrow r c := by
  obtain ⟨k, hk⟩ := List.getElem?_of_mem hc
  have hlt : k < B.length := by rw [← h.len]; exact (List.getElem?_eq_some_iff.mp hk).1
  exact ⟨B[k], List.getElem_mem hlt, h.at_ (List.getElem?_eq_getElem hlt) hk⟩
theorem mat_R (K : Bk B si) (h : Rrows B S) : Mat B S si :=
  ⟨K.bl, K.b0, K.s0, K.sl, h.len, K.rl, fun c hc => by
    obtain ⟨r, hr, hrc⟩ := mem_row h hc
    rw [hrc.len, K.rl r hr], fun c hc => by
    obtain ⟨r, hr, hrc⟩ := mem_row h hc
    exact hrc.pos, fun i j r c hi hc hj => (h.at_ hi hc).nn j hj, K.go⟩
theorem from0 (K : Bk B si) (h : Rrows B S) (hz : ∀ r ∈ B, ∃ t w, some (t, w, 0) ∈ r) {r : Nat} (hr : r < B.length) : 0 ∈ from_ B S r := by
  have M := mat_R K h
  obtain ⟨h1, h2⟩ := M.at_ hr
  obtain ⟨t, w, hm⟩ := hz _ (List.mem_of_getElem? h1)
  have hv := Rrow.vis (L := [r]) (h.at_ h1 h2) hm
  unfold from_
  cases hB : B.length with
  | zero => omega
  | succ n =>
    unfold walk
    show 0 ∈ walk B S n 1 (vis (B.getD r []) (S.getD r []) [r])
    exact (walk_pre n 1 _).subset hv
theorem goals0 (h0 : ∀ r ∈ R, 0 ∈ from_ B S r) : ∀ (G : List Nat), 0 ∈ G → 0 ∈ goals B S R G := by
  induction R with
  | nil => exact fun G h => h
  | cons r R ih =>
    intro G hG
    show 0 ∈ goals B S R (G.filter fun x => decide (x ∈ from_ B S r))
    refine ih (fun q hq => h0 q (List.mem_cons_of_mem _ hq)) _ ?_
    rw [List.mem_filter]
    exact ⟨hG, by simpa using h0 r (List.mem_cons_self ..)⟩
theorem gflt_R (K : Bk B si) (h : Rrows B S) (hz : ∀ r ∈ B, ∃ t w, some (t, w, 0) ∈ r) : gflt B S = .non := by
  have M := mat_R K h
  have hok := from_ok M M.b0
  have h1 : still S (R0 B S) = [] := by
    unfold still
    rw [List.filter_eq_nil_iff]
    intro r hr
    obtain ⟨b1, b2⟩ := M.at_ (hok.2 r hr)
    obtain ⟨t, w, hm⟩ := hz _ (List.mem_of_getElem? b1)
    have hrr := h.at_ b1 b2
    obtain ⟨x, hx, h1⟩ := hrr.sum hm
    have := (le_sum (c := S.getD r []) fun y hy => (hrr.pos y hy).1).2 x hx
    simp
    rw [← List.getD_eq_getElem?_getD]
    omega
  have h2 : 0 ∈ goals B S (R0 B S) (R0 B S) := goals0 (fun r hr => from0 K h hz (hok.2 r hr)) _ (from0 K h hz M.b0)
  unfold gflt
  rw [h1]
  have h3 : settles B S = true := by
    unfold settles
    cases hg : goals B S (R0 B S) (R0 B S) with
    | nil => rw [hg] at h2; cases h2
    | cons _ _ => rfl
  rw [h3]
  rfl
theorem right_told (K : Bk B si) (h : Rrows B S) (hz : ∀ r ∈ B, ∃ t w, some (t, w, 0) ∈ r) (z0 : fz s0 = true) (z1 : fz s1 = true) :
    c_29 [whD s0 s1 B, srcD S] = .ok (.tup [.str "told", srcD S]) [] := by
  have M := mat_R K h
  have V : Vw B si (S.map rwI) := ⟨K, by rw [List.length_map, h.len], src_fz S, src_deep S⟩
  have hg : ∀ k, k < B.length → gd B (S.map rwI) k = true := fun k hk => by
    obtain ⟨b1, b2⟩ := M.at_ hk
    have e : (S.map rwI).getD k .non = rwI (S.getD k []) := by
      rw [List.getD_eq_getElem?_getD, List.getElem?_map, b2]; rfl
    unfold gd
    rw [e]
    exact (h.at_ b1 b2).ch
  have e1 := c14_good V z0 z1 M rfl hg
  rw [gflt_R K h hz] at e1
  exact c29_told (wh_fz z0 z1) (src_fz S) e1
end
end LW

namespace LW
open PySem PySem.Spec L2 EV
theorem whole_ok {B : List Rm} (a b : Int) : ∃ (a' b' : Int) (s0 s1 : D), fz s0 = true ∧ fz s1 = true ∧ c_33 [bx a b, bkD B] = .ok (whD s0 s1 B) [bx a' b'] := by
  obtain ⟨t1, a1, b1, h1, h2, tk1⟩ := take_ok a b 3 (by omega) (by omega)
  obtain ⟨n1, rfl⟩ : ∃ n : Nat, t1 = (n : Nat) := ⟨t1.toNat, by omega⟩
  obtain ⟨a2, b2, s0, z0, sv0⟩ := service_ok (st := 1 + n1) (tk := 6) (de := 3) (ba := 9) (by omega) (by omega) (by omega) (by omega) (by omega) (by omega) (by omega) a1 b1
  obtain ⟨t2, a3, b3, h3, h4, tk2⟩ := take_ok a2 b2 2 (by omega) (by omega)
  obtain ⟨n2, rfl⟩ : ∃ n : Nat, t2 = (n : Nat) := ⟨t2.toNat, by omega⟩
  obtain ⟨a4, b4, s1, z1, sv1⟩ := service_ok (st := 1 + n2) (tk := 6) (de := 60) (ba := 9) (by omega) (by omega) (by omega) (by omega) (by omega) (by omega) (by omega) a3 b3
  have e1 : ((1 + n1 : Nat) : Int) = 1 + (n1 : Nat) := by omega
  have e2 : ((1 + n2 : Nat) : Int) = 1 + (n2 : Nat) := by omega
  rw [e1] at sv0
  rw [e2] at sv1
  have sv0 : c_21 [bx a1 b1, .int (1 + (n1 : Nat)), .int 6, .int 3, .int 9] = .ok s0 [bx a2 b2] := sv0
  have sv1 : c_21 [bx a3 b3, .int (1 + (n2 : Nat)), .int 6, .int 60, .int 9] = .ok s1 [bx a4 b4] := sv1
  have f0 := frz_of _ z0
  have f1 := frz_of _ z1
  have zb : fz (bkD B) = true := rms_fz B
  have fb := frz_of _ zb
  refine ⟨a4, b4, s0, s1, z0, z1, ?_⟩
  unfold whD
  generalize bkD B = bd at *
  unfold c_33 callF m_33
  simp [tk1, sv0, tk2, sv1, z0, z1, f0, f1, zb, fb]
theorem book_ok (a b : Int) : ∃ (a' b' : Int) (B : List Rm) (si : Nat), Bk B si ∧ (∀ r ∈ B, ∃ x, some x ∈ r) ∧ c_34 [bx a b] = .ok (bkD B) [bx a' b'] := by
  obtain ⟨t1, a1, b1, h1, h2, tk1⟩ := take_ok a b 12 (by omega) (by omega)
  obtain ⟨m, a2, b2, hm, pk⟩ := pick_ok a1 b1 true [.int 1, .int 2, .int 3, .int 3, .int 4, .int (1 + t1)] (by simp) (by simp) rfl
  obtain ⟨m, hm1, hm2, rfl⟩ : ∃ k : Nat, 0 < k ∧ k < 100 ∧ m = nD k := by
    simp only [List.mem_cons, List.not_mem_nil, or_false] at hm
    rcases hm with rfl | rfl | rfl | rfl | rfl | rfl
    · exact ⟨1, by omega, by omega, rfl⟩
    · exact ⟨2, by omega, by omega, rfl⟩
    · exact ⟨3, by omega, by omega, rfl⟩
    · exact ⟨3, by omega, by omega, rfl⟩
    · exact ⟨4, by omega, by omega, rfl⟩
    · exact ⟨(1 + t1).toNat, by omega, by omega, by show _ = D.int (((1 + t1).toNat : Nat) : Int); rw [Int.toNat_of_nonneg (by omega)]⟩
  obtain ⟨t2, a3, b3, h3, h4, tk2⟩ := take_ok a2 b2 6 (by omega) (by omega)
  obtain ⟨n2, rfl⟩ : ∃ n : Nat, t2 = (n : Nat) := ⟨t2.toNat, by omega⟩
  obtain ⟨a4, b4, B, hB, hr, ld⟩ := led_ok (m := m) (s := 1 + n2) hm1 hm2 (by omega) (by omega) a3 b3
  have e2 : nD (1 + n2) = .int (1 + (n2 : Nat)) := by show D.int ((1 + n2 : Nat) : Int) = _; congr 1
  rw [e2] at ld
  have zb : fz (bkD B) = true := rms_fz B
  have fb := frz_of _ zb
  refine ⟨a4, b4, B, 1 + n2, ⟨by omega, by omega, by omega, by omega, fun r h => (hr r h).1, fun r h t w g hg => by rw [hB]; exact (hr r h).2.1 _ hg t w g rfl⟩, fun r h => (hr r h).2.2, ?_⟩
  generalize bkD B = bd at *
  unfold c_34 callF m_34
  simp [tk1, pk, tk2, ld, zb, fb]
/-- the law's frame -/
abbrev lw (sc : D) (k : Nat) (a b : Int) (x3 x4 x5 x6 x7 x8 x9 x10 x11 x12 : Option D) : DEnv := [some sc, some (nD k), some (bx a b), x3, x4, x5, x6, x7, x8, x9, x10, x11, x12]
def pAt (r : Rm) : D → Bool
  | .int k => (r.getD k.toNat none).isSome
  | _ => false
theorem filt_at {r : Rm} {x : Int × Int × Nat} (hx : some x ∈ r) : ∃ (ks : List Int), ((rangeD 0 (r.length : Nat)).filter (pAt r)).map id = ks.map D.int ∧ 0 < ks.length ∧ ks.length ≤ r.length ∧ ∀ k ∈ ks, ∃ (j : Nat) (t w : Int) (g : Nat), k = (j : Nat) ∧ j < r.length ∧ r[j]? = some (some (t, w, g)) := by
  obtain ⟨ks, hk⟩ := ints_of (ds := (rangeD 0 (r.length : Nat)).filter (pAt r)) fun d hd => by
    obtain ⟨k, _, rfl⟩ := mem_rg (List.mem_filter.mp hd).1
    exact ⟨_, rfl⟩
  refine ⟨ks, by rw [← hk]; simp, ?_, ?_, fun k hkm => ?_⟩
  · have hl : ks.length = ((rangeD 0 (r.length : Nat)).filter (pAt r)).length := by rw [hk, List.length_map]
    rw [hl]
    obtain ⟨j, hj⟩ := List.getElem?_of_mem hx
    have hjl := (List.getElem?_eq_some_iff.mp hj).1
    refine List.length_pos_iff.mpr fun he => ?_
    have hm : D.int (j : Nat) ∈ (rangeD 0 (r.length : Nat)).filter (pAt r) := by
      rw [List.mem_filter]
      refine ⟨?_, by show (r.getD (((j : Nat) : Int).toNat) none).isSome = true; rw [Int.toNat_natCast, List.getD_eq_getElem?_getD, hj]; rfl⟩
      have hl2 : j < (rangeD 0 (r.length : Nat)).length := by rw [rg_len]; omega
      have h2 := (rg_get (List.getElem?_eq_getElem hl2)).1
      rw [Int.zero_add] at h2
      rw [← h2]
      exact List.getElem_mem hl2
    rw [he] at hm
    cases hm
  · have hl : ks.length = ((rangeD 0 (r.length : Nat)).filter (pAt r)).length := by rw [hk, List.length_map]
    rw [hl]
    refine Nat.le_trans (List.length_filter_le _ _) ?_
    rw [rg_len]; omega
  · have hm : D.int k ∈ (rangeD 0 (r.length : Nat)).filter (pAt r) := by rw [hk]; exact List.mem_map_of_mem hkm
    obtain ⟨h1, h2⟩ := List.mem_filter.mp hm
    obtain ⟨j, hj, e⟩ := mem_rg h1
    injection e with e
    subst e
    have h2 : (r.getD (((j : Nat) : Int).toNat) none).isSome = true := h2
    rw [Int.toNat_natCast, List.getD_eq_getElem?_getD, List.getElem?_eq_getElem hj] at h2
    cases hq : r[j] with
    | none => rw [hq] at h2; cases h2
    | some y =>
      obtain ⟨t, w, g⟩ := y
      exact ⟨j, t, w, g, rfl, hj, by rw [List.getElem?_eq_getElem hj, hq]⟩
theorem intsD_map : ∀ c : List Int, intsD (c.map D.int) = some c := intsD_rw
def bkOk (si : Nat) (r r' : Rm) : Prop := r'.length = si ∧ (∀ t w g, some (t, w, g) ∈ r' → (g = 0 ∨ some (t, w, g) ∈ r)) ∧ ∃ t w, some (t, w, 0) ∈ r'
theorem back_step {sc : D} {k : Nat} {x3 x4 x7 x8 x9 x10 x11 x12 : Option D} {r : Rm} {x : Int × Int × Nat} {B' : List Rm} (hx : some x ∈ r) (hl : r.length < 100) (hB : B'.length < 100) (a b : Int) :
    ∃ (r' : Rm) (y7 : Option D), bkOk r.length r r' ∧ s_36_8 (lw sc k a b x3 x4 (some (.lst true (B'.map rmD))) (some (rmD r)) x7 x8 x9 x10 x11 none) = .nx (lw sc k a b x3 x4 (some (.lst true ((B' ++ [r']).map rmD))) (some (rmD r)) y7 x8 x9 x10 x11 none) := by
  obtain ⟨ks, hk, hp, hkl, hks⟩ := filt_at hx
  obtain ⟨hm1, hm2⟩ := minL_ok ks hp
  obtain ⟨j, t, w, g, hj, hjl, hjr⟩ := hks _ hm1
  have zr := sgs_fz r
  have fr := frzs_of zr
  have lc := lc_gen (own := [12]) (tg := .v 12) (cond := t_36_7) (elt := q_36_6) (E := lw sc k a b x3 x4 (some (.lst true (B'.map rmD))) (some (rmD r)) x7 x8 x9 x10 x11 none) (fun d => lw sc k a b x3 x4 (some (.lst true (B'.map rmD))) (some (rmD r)) x7 x8 x9 x10 x11 (some d)) (pAt r) id (rangeD 0 (r.length : Nat)) [] (by rw [rg_len]; simp; omega) (fun d hd => by
    obtain ⟨q, hq, rfl⟩ := mem_rg hd
    have hq2 : r[q]? = some (r.getD q none) := getD_at hq
    have ha := atR hq2
    have hpq : pAt r (.int (q : Nat)) = !isN (sgD (r.getD q none)) := by
      show (r.getD (((q : Nat) : Int).toNat) none).isSome = _
      rw [Int.toNat_natCast, isN_sg]
      cases r.getD q none <;> rfl
    have zs := sg_fz (r.getD q none)
    have fs := frz_of _ zs
    refine ⟨by simp, ?_, fun _ => ?_, rfl⟩
    · rw [hpq]
      generalize r.getD q none = s at *
      unfold t_36_7
      unfold rmD
      simp [zr, ha, zs, fs]
    · unfold q_36_6
      simp)
  rw [List.nil_append, hk] at lc
  have rg : rngOk (r.length : Nat) = true := rngOk_s (by omega) (by omega)
  have ii := intsD_rw ks
  have ha := atR hjr
  have hset : c_31 [.tup (r.map sgD), nD j, sgD (some (t, w, 0))] = .ok (.tup ((r.map sgD).set j (sgD (some (t, w, 0))))) [] := set_ok (by rw [List.length_map]; exact hjl) (by rw [List.length_map]; omega) zr (sg_fz _)
  have hse : (r.map sgD).set j (sgD (some (t, w, 0))) = (r.set j (some (t, w, 0))).map sgD := by rw [List.map_set]
  have zs : fzs ((r.map sgD).set j (sgD (some (t, w, 0)))) = true := by rw [hse]; exact sgs_fz _
  have fs := frzs_of zs
  have hBl : B'.length < 1000000 := by omega
  refine ⟨r.set j (some (t, w, 0)), some (nD j), ⟨by rw [List.length_set], fun t' w' g' hm => ?_, t, w, ?_⟩, ?_⟩
  · rcases List.mem_or_eq_of_mem_set hm with hm | e
    · exact .inr hm
    · injection e with e; injection e with e1 e2; injection e2 with e2 e3
      exact .inl e3
  · exact List.mem_iff_getElem.mpr ⟨j, by rw [List.length_set]; exact hjl, List.getElem_set_self _⟩
  · unfold s_36_8
    have c0 : ((0 : Nat) : Int) = 0 := rfl
    have fk := frzs_ints ks
    simp only [lw, rmD, sgD, c0] at lc hset ha zs fs ⊢
    simp [rg, fk, zr, fr, lc, min1A, seqI, ii, hp, hj, ha, hset, zs, fs, hBl, at0, at1, rmD, sgD]
end LW

namespace LW
open PySem PySem.Spec L2 EV
theorem lc_rel {α β : Type} {i : Nat} {elt : ME} {E : Int → Int → DEnv} (P : α → β → Prop) (fa : α → D) (fb : β → D) (al : List α → List β → Prop) (al0 : al [] []) (al1 : ∀ x y xs ys, P x y → al xs ys → al (x :: xs) (y :: ys)) : ∀ (xs : List α) (acc : List D) (a b : Int), acc.length + xs.length < 1000 →
    (∀ x ∈ xs, ∀ a b, ∃ y a' b' e3, P x y ∧ elt ((E a b).set i (some (fa x))) = .ok (fb y) e3 ∧ e3.set i none = E a' b') →
    ∃ (a' b' : Int) (ys : List β), al xs ys ∧ lcL [i] (.v i) mTrue elt (xs.map fa) acc (E a b) = .ok (acc ++ ys.map fb) (E a' b')
  | [], acc, a, b, _, _ => ⟨a, b, [], al0, by simp [lcL]⟩
  | x :: xs, acc, a, b, hl, h => by
    obtain ⟨y, a1, b1, e3, h1, h2, h3⟩ := h x (List.mem_cons_self ..) a b
    simp only [List.length_cons] at hl
    obtain ⟨a2, b2, ys, h4, h5⟩ := lc_rel (i := i) (elt := elt) (E := E) P fa fb al al0 al1 xs (acc ++ [fb y]) a1 b1 (by simp; omega) fun z hz => h z (List.mem_cons_of_mem _ hz)
    refine ⟨a2, b2, y :: ys, al1 _ _ _ _ h1 h4, ?_⟩
    have hlt : acc.length < LIM := by rw [LIM_is]; omega
    rw [List.map_cons]
    unfold lcL
    simp only [put_v, ap_true, h2, hlt, if_true, wipe_cons, wipe_nil, h3, h5]
    simp
section
variable {sc : D} {k : Nat} {x3 x4 x5 x6 x7 x8 x9 x10 x11 x12 : Option D} {B : List Rm} {si : Nat}
theorem right_row {r : Rm} (hl : r.length < 100) (a b : Int) : ∃ (a' b' : Int) (c : List Int), Rrow r c ∧ lcL [12] (.v 12) mTrue q_36_4 (r.map sgD) [] (lw sc k a b x3 x4 x5 x6 x7 x8 x9 x10 x11 none) = .ok (c.map D.int) (lw sc k a' b' x3 x4 x5 x6 x7 x8 x9 x10 x11 none) := by
  obtain ⟨a', b', c, h1, h2⟩ := lc_rel (i := 12) (elt := q_36_4) (E := fun a b => lw sc k a b x3 x4 x5 x6 x7 x8 x9 x10 x11 none) rg1 sgD D.int Rrow trivial (fun _ _ _ _ h1 h2 => ⟨h1, h2⟩) r [] a b (by simp; omega) (by
    intro s _ a b
    cases s with
    | none =>
      refine ⟨0, a, b, lw sc k a b x3 x4 x5 x6 x7 x8 x9 x10 x11 (some .non), rfl, ?_, rfl⟩
      unfold q_36_4
      simp [sgD]
    | some x =>
      obtain ⟨t, w, g⟩ := x
      obtain ⟨v, a1, b1, h1, h2, h3⟩ := take_ok a b 60 (by omega) (by omega)
      refine ⟨1 + v, a1, b1, lw sc k a1 b1 x3 x4 x5 x6 x7 x8 x9 x10 x11 (some (sgD (some (t, w, g)))), ⟨by omega, by omega⟩, ?_, rfl⟩
      unfold q_36_4
      simp [sgD, h3])
  exact ⟨a', b', c, h1, h2⟩
theorem right_rows (hr : ∀ r ∈ B, r.length = si) (hsi : si < 100) (hB : B.length < 100) (a b : Int) : ∃ (a' b' : Int) (S : List (List Int)), Rrows B S ∧ lcL [6] (.v 6) mTrue q_36_5 (B.map rmD) [] (lw sc k a b x3 x4 x5 none x7 x8 x9 x10 x11 none) = .ok (S.map rwI) (lw sc k a' b' x3 x4 x5 none x7 x8 x9 x10 x11 none) := by
  obtain ⟨a', b', S, h1, h2⟩ := lc_rel (i := 6) (elt := q_36_5) (E := fun a b => lw sc k a b x3 x4 x5 none x7 x8 x9 x10 x11 none) Rrow rmD rwI Rrows trivial (fun _ _ _ _ h1 h2 => ⟨h1, h2⟩) B [] a b (by simp; omega) (by
    intro r hm a b
    have zr := sgs_fz r
    have fr := frzs_of zr
    obtain ⟨a1, b1, c, h1, h2⟩ := right_row (sc := sc) (k := k) (x3 := x3) (x4 := x4) (x5 := x5) (x6 := some (rmD r)) (x7 := x7) (x8 := x8) (x9 := x9) (x10 := x10) (x11 := x11) (r := r) (by rw [hr r hm]; exact hsi) a b
    have zc := rwI_fz c
    have fc := frzs_of zc
    refine ⟨c, a1, b1, lw sc k a1 b1 x3 x4 x5 (some (rmD r)) x7 x8 x9 x10 x11 none, h1, ?_, rfl⟩
    unfold q_36_5
    simp only [lw, rmD] at h2 ⊢
    simp [zr, fr, h2, zc, fc, tupleD])
  exact ⟨a', b', S, h1, h2⟩
theorem back_loop (K : Bk B si) (hx : ∀ r ∈ B, ∃ x, some x ∈ r) (a b : Int) : ∃ (B' : List Rm) (y6 y7 : Option D), Bk B' si ∧ (∀ r ∈ B', ∃ t w, some (t, w, 0) ∈ r) ∧ (∃ r, y6 = some (rmD r)) ∧
    forL (.v 6) s_36_8 (B.map rmD) (lw sc k a b x3 x4 (some (.lst true [])) x6 x7 x8 x9 x10 x11 none) = .nx (lw sc k a b x3 x4 (some (.lst true (B'.map rmD))) y6 y7 x8 x9 x10 x11 none) := by
  have H : ∃ (B' : List Rm) (y6 y7 : Option D), B'.length = B.length ∧ (∀ r' ∈ B', ∃ r ∈ B, bkOk si r r') ∧ (0 < B.length → ∃ r, y6 = some (rmD r)) ∧
      forL (.v 6) s_36_8 (B.map rmD) (lw sc k a b x3 x4 (some (.lst true [])) x6 x7 x8 x9 x10 x11 none) = .nx (lw sc k a b x3 x4 (some (.lst true (B'.map rmD))) y6 y7 x8 x9 x10 x11 none) := by
    refine forL_rule (tg := .v 6) (m := s_36_8) (fun R => ∃ (B' : List Rm) (y6 y7 : Option D), B'.length = B.length ∧ (∀ r' ∈ B', ∃ r ∈ B, bkOk si r r') ∧ (0 < B.length → ∃ r, y6 = some (rmD r)) ∧ R = .nx (lw sc k a b x3 x4 (some (.lst true (B'.map rmD))) y6 y7 x8 x9 x10 x11 none)) (ds := B.map rmD)
      (fun j e => ∃ (B' : List Rm) (y6 y7 : Option D), B'.length = j ∧ (∀ r' ∈ B', ∃ r ∈ B, bkOk si r r') ∧ (0 < j → ∃ r, y6 = some (rmD r)) ∧ e = lw sc k a b x3 x4 (some (.lst true (B'.map rmD))) y6 y7 x8 x9 x10 x11 none) ⟨[], x6, x7, rfl, (fun r hr => nomatch hr), (fun h => absurd h (Nat.lt_irrefl 0)), rfl⟩ ?_ ?_
    · rintro j d e hd ⟨B', y6, y7, h1, h2, h3, rfl⟩
      have hj := (List.getElem?_eq_some_iff.mp hd).1
      rw [List.length_map] at hj
      obtain ⟨r, hr, rfl⟩ := List.mem_map.mp (List.mem_of_getElem? hd)
      obtain ⟨x, hx⟩ := hx r hr
      have hrl := K.rl r hr
      obtain ⟨r', z7, h4, h5⟩ := back_step (sc := sc) (k := k) (x3 := x3) (x4 := x4) (x7 := y7) (x8 := x8) (x9 := x9) (x10 := x10) (x11 := x11) (x12 := none) (r := r) (B' := B') hx (by rw [hrl]; exact K.sl) (by have := K.bl; omega) a b
      rw [hrl] at h4
      simp only [put_v, stO_some, List.set_cons_succ, List.set_cons_zero]
      rw [h5]
      refine ⟨B' ++ [r'], _, z7, by simp [h1], fun q hq => ?_, fun _ => ⟨r, rfl⟩, rfl⟩
      rcases List.mem_append.mp hq with hq | hq
      · exact h2 q hq
      · rw [List.mem_singleton.mp hq]; exact ⟨r, hr, h4⟩
    · rintro e ⟨B', y6, y7, h1, h2, h3, rfl⟩
      rw [List.length_map] at h1 h3
      exact ⟨B', y6, y7, h1, h2, h3, rfl⟩
  obtain ⟨B', y6, y7, h1, h2, h3, h4⟩ := H
  refine ⟨B', y6, y7, ⟨by rw [h1]; exact K.bl, by rw [h1]; exact K.b0, K.s0, K.sl, fun r' h => ?_, fun r' h t w g hg => ?_⟩, fun r' h => ?_, h3 K.b0, h4⟩
  · obtain ⟨r, _, h5⟩ := h2 r' h
    exact h5.1
  · obtain ⟨r, hr, h5⟩ := h2 r' h
    rw [h1]
    rcases h5.2.1 t w g hg with rfl | h6
    · exact K.b0
    · exact K.go r hr t w g h6
  · obtain ⟨r, _, h5⟩ := h2 r' h
    exact h5.2.2
theorem chk1 {s0 s1 v : D} {a b : Int} (K : Bk B si) (z0 : fz s0 = true) (z1 : fz s1 = true) (hv : askV v) :
    s_36_1 (lw sc k a b (some (bkD B)) (some (whD s0 s1 B)) x5 x6 x7 x8 x9 (some v) x11 x12) = .nx (lw sc k a b (some (bkD B)) (some (whD s0 s1 B)) x5 x6 x7 x8 x9 (some v) x11 x12) := by
  obtain ⟨r, h1, h2, h3, h4⟩ := asked K z0 z1 hv
  have zb : fz (bkD B) = true := rms_fz B
  have fb := frz_of _ zb
  have zw := wh_fz (B := B) z0 z1
  have fw := frz_of _ zw
  have zv := hv.2.1
  have fv := frz_of _ zv
  have fr := frz_of _ h3
  generalize whD s0 s1 B = W at *
  generalize bkD B = bd at *
  unfold s_36_1
  simp [zb, fb, zw, fw, zv, fv, h1, h2, h3, fr, h4]
theorem chk3 {s0 s1 v : D} {a b : Int} (K : Bk B si) (z0 : fz s0 = true) (z1 : fz s1 = true) (hv : askV v) :
    s_36_3 (lw sc k a b x3 x4 x5 x6 x7 (some (whD s0 s1 B)) x9 (some v) x11 x12) = .nx (lw sc k a b x3 x4 x5 x6 x7 (some (whD s0 s1 B)) x9 (some v) x11 x12) := by
  obtain ⟨r, h1, h2, h3, h4⟩ := asked K z0 z1 hv
  have zb : fz (bkD B) = true := rms_fz B
  have fb := frz_of _ zb
  have zv := hv.2.1
  have fv := frz_of _ zv
  have fr := frz_of _ h3
  have f0 := frz_of _ z0
  have f1 := frz_of _ z1
  unfold whD at *
  generalize bkD B = bd at *
  unfold s_36_3
  simp [zb, fb, z0, z1, f0, f1, zv, fv, h1, h2, h3, fr, h4, at2]
theorem chk2 {s0 s1 : D} {a b : Int} (K : Bk B si) (z0 : fz s0 = true) (z1 : fz s1 = true) :
    ∃ (a' b' : Int) (S : List (List Int)), S.length = B.length ∧ (∀ c ∈ S, c.length = si) ∧ s_36_2 (lw sc k a b (some (bkD B)) (some (whD s0 s1 B)) x5 x6 x7 x8 x9 x10 x11 x12) = .nx (lw sc k a' b' (some (bkD B)) (some (whD s0 s1 B)) x5 x6 x7 x8 x9 (some (srcD S)) x11 x12) := by
  obtain ⟨a1, b1, S, c1, c2, c3⟩ := chances_ok (B := B) (si := si) (by have := K.bl; omega) K.rl K.sl a b
  have hv := ask_tup (src_deep S)
  obtain ⟨r, h1, h2, h3, h4⟩ := asked K z0 z1 hv
  have zb : fz (bkD B) = true := rms_fz B
  have fb := frz_of _ zb
  have zw := wh_fz (B := B) z0 z1
  have fw := frz_of _ zw
  have zv := src_fz S
  have fv := frzs_of zv
  have fr := frz_of _ h3
  refine ⟨a1, b1, S, c1, c2, ?_⟩
  generalize whD s0 s1 B = W at *
  generalize bkD B = bd at *
  unfold s_36_2
  simp [zb, fb, zw, fw, zv, fv, h1, h2, h3, fr, h4, c3]
end
end LW

set_option exponentiation.threshold 2000
namespace LW
open PySem PySem.Spec L2 EV
/-- a loop over a list whose body only reads -/
theorem loopR {j : Nat} {ms : MS} {E : Option D → DEnv} {ds : List D} (hE : ∀ x d, (E x).set j (some d) = E (some d)) (hs : ∀ d ∈ ds, ms (E (some d)) = .nx (E (some d))) : ∀ (x : Option D), ∃ y, forL (.v j) ms ds (E x) = .nx (E y) := by
  induction ds with
  | nil => exact fun x => ⟨x, rfl⟩
  | cons d ds ih =>
    intro x
    obtain ⟨y, h⟩ := ih (fun z hz => hs z (List.mem_cons_of_mem _ hz)) (some d)
    refine ⟨y, ?_⟩
    unfold forL
    simp only [put_v, hE, hs d (List.mem_cons_self ..)]
    exact h
section
variable {ns : List Int} {k : Nat}
theorem turns {B : List Rm} {si : Nat} {s0 s1 : D} {x5 x6 x7 x8 x9 x10 : Option D} (K : Bk B si) (z0 : fz s0 = true) (z1 : fz s1 = true) (sc : D) (x11 : Option D) (a b : Int) :
    ∃ (a' b' : Int) (S : List (List Int)) (y11 : Option D), S.length = B.length ∧ (∀ c ∈ S, c.length = si) ∧ forL (.v 11) s_36_2 (rangeD 0 6) (lw sc k a b (some (bkD B)) (some (whD s0 s1 B)) x5 x6 x7 x8 x9 x10 x11 none) = .nx (lw sc k a' b' (some (bkD B)) (some (whD s0 s1 B)) x5 x6 x7 x8 x9 (some (srcD S)) y11 none) := by
  refine forL_rule (tg := .v 11) (m := s_36_2) (fun R => ∃ (a' b' : Int) (S : List (List Int)) (y11 : Option D), S.length = B.length ∧ (∀ c ∈ S, c.length = si) ∧ R = .nx (lw sc k a' b' (some (bkD B)) (some (whD s0 s1 B)) x5 x6 x7 x8 x9 (some (srcD S)) y11 none)) (ds := rangeD 0 6)
    (fun j e => ∃ (a' b' : Int) (y10 y11 : Option D), (0 < j → ∃ S : List (List Int), y10 = some (srcD S) ∧ S.length = B.length ∧ (∀ c ∈ S, c.length = si)) ∧ e = lw sc k a' b' (some (bkD B)) (some (whD s0 s1 B)) x5 x6 x7 x8 x9 y10 y11 none) ⟨a, b, x10, x11, (fun h => absurd h (Nat.lt_irrefl 0)), rfl⟩ ?_ ?_
  · rintro j d e hd ⟨a1, b1, y10, y11, _, rfl⟩
    obtain ⟨a2, b2, S, h1, h2, h3⟩ := chk2 (k := k) (sc := sc) (x5 := x5) (x6 := x6) (x7 := x7) (x8 := x8) (x9 := x9) (x10 := y10) (x11 := some d) (x12 := none) (a := a1) (b := b1) K z0 z1
    simp only [put_v, stO_some, List.set_cons_succ, List.set_cons_zero]
    rw [h3]
    exact ⟨a2, b2, _, _, fun _ => ⟨S, rfl, h1, h2⟩, rfl⟩
  · rintro e ⟨a1, b1, y10, y11, h, rfl⟩
    obtain ⟨S, rfl, h1, h2⟩ := h (by rw [rg_len]; decide)
    exact ⟨a1, b1, S, y11, h1, h2, rfl⟩
theorem round_ok {x2 x3 x4 x5 x6 x7 x8 x9 x10 x11 : Option D} : ∃ y2 y3 y4 y5 y6 y7 y8 y9 y10 y11, s_36_9 [some (.scr ns), some (nD k), x2, x3, x4, x5, x6, x7, x8, x9, x10, x11, none] = .nx [some (.scr ns), some (nD k), y2, y3, y4, y5, y6, y7, y8, y9, y10, y11, none] := by
  obtain ⟨a1, b1, bx1⟩ := box_ok ns (k : Int) (by omega)
  obtain ⟨a2, b2, B, si, K, hx, bk⟩ := book_ok a1 b1
  obtain ⟨a3, b3, s0, s1, z0, z1, wh⟩ := whole_ok (B := B) a2 b2
  obtain ⟨B', y6, y7, K', hz, ⟨r6, rfl⟩, bl⟩ := back_loop (sc := .scr ns) (k := k) (x3 := some (bkD B)) (x4 := some (whD s0 s1 B)) (x6 := x6) (x7 := x7) (x8 := x8) (x9 := x9) (x10 := x10) (x11 := x11) K hx a3 b3
  obtain ⟨a4, b4, S, hR, rl⟩ := right_rows (sc := .scr ns) (k := k) (x3 := some (bkD B)) (x4 := some (whD s0 s1 B)) (x5 := none) (x7 := y7) (x8 := some (whD s0 s1 B')) (x9 := x9) (x10 := x10) (x11 := x11) (B := B') (si := si) K'.rl K.sl K'.bl a3 b3
  have rt := right_told K' hR hz z0 z1
  have al := alike_told (pl_src S)
  have M := mat_R K' hR
  obtain ⟨a5, b5, F, hF, bn⟩ := bent_ok K' hR.len M.cl a4 b4
  obtain ⟨y10, l3⟩ := loopR (j := 10) (ms := s_36_3) (ds := F) (E := fun x => lw (.scr ns) k a5 b5 (some (bkD B)) (some (whD s0 s1 B)) (some (.lst true (B'.map rmD))) (some (rmD r6)) y7 (some (whD s0 s1 B')) (some (srcD S)) x x11 none) (fun _ _ => rfl) (fun d hd => chk3 K' z0 z1 (hF d hd)) x10
  obtain ⟨a6, b6, S2, y11, q1, q2, l2⟩ := turns (k := k) (x5 := some (.lst true (B'.map rmD))) (x6 := some (rmD r6)) (x7 := y7) (x8 := some (whD s0 s1 B')) (x9 := some (srcD S)) (x10 := y10) K z0 z1 (.scr ns) x11 a5 b5
  obtain ⟨a7, b7, F2, hF2, bn2⟩ := bent_ok K q1 q2 a6 b6
  obtain ⟨z10, l1⟩ := loopR (j := 10) (ms := s_36_1) (ds := F2) (E := fun x => lw (.scr ns) k a7 b7 (some (bkD B)) (some (whD s0 s1 B)) (some (.lst true (B'.map rmD))) (some (rmD r6)) y7 (some (whD s0 s1 B')) (some (srcD S)) x y11 none) (fun _ _ => rfl) (fun d hd => chk1 K z0 z1 (hF2 d hd)) (some (srcD S2))
  refine ⟨some (bx a7 b7), some (bkD B), some (whD s0 s1 B), some (.lst true (B'.map rmD)), some (rmD r6), y7, some (whD s0 s1 B'), some (srcD S), z10, y11, ?_⟩
  have f0 := frz_of _ z0
  have f1 := frz_of _ z1
  have zB := rms_fz B
  have fB := frzs_of zB
  have zB' := rms_fz B'
  have fB' := frzs_of zB'
  have zr6 : fz (rmD r6) = true := rm_fz
  have zS := src_fz S
  have fS := frzs_of zS
  have zS2 := src_fz S2
  have fS2 := frzs_of zS2
  have zF : fzs F = true := fzs_of fun d hd => (hF d hd).2.1
  have fF := frzs_of zF
  have zF2 : fzs F2 = true := fzs_of fun d hd => (hF2 d hd).2.1
  have fF2 := frzs_of zF2
  have rg : rngOk 6 = true := rfl
  simp only [lw, whD, bkD, srcD] at bk wh bl rl rt al bn l3 l2 bn2 l1 ⊢
  unfold s_36_9
  simp [bx1, bk, wh, bl, rl, rt, al, bn, l3, l2, bn2, l1, z0, z1, f0, f1, zB, fB, zB', fB', zr6, zS, fS, zS2, fS2, zF, fF, zF2, fF2, rg, at0, at1, at2, tupleD]
end
end LW

set_option exponentiation.threshold 2000
namespace LW
open PySem PySem.Spec L2 EV
theorem ends_ok : c_35 [] = .ok (.bl true) [] := by kernel_rfl
theorem rounds (ns : List Int) (j : Int) : ∃ e, forL (.v 1) s_36_9 (rangeD 0 j) [some (.scr ns), none, none, none, none, none, none, none, none, none, none, none, none] = .nx e := by
  refine forL_rule (tg := .v 1) (m := s_36_9) (fun r => ∃ e, r = .nx e) (ds := rangeD 0 j)
    (fun _ e => ∃ x1 x2 x3 x4 x5 x6 x7 x8 x9 x10 x11, e = [some (.scr ns), x1, x2, x3, x4, x5, x6, x7, x8, x9, x10, x11, none]) ⟨_, _, _, _, _, _, _, _, _, _, _, rfl⟩ ?_ ?_
  · rintro k d e hk ⟨x1, x2, x3, x4, x5, x6, x7, x8, x9, x10, x11, rfl⟩
    obtain ⟨rfl, _⟩ := rg_get hk
    obtain ⟨y2, y3, y4, y5, y6, y7, y8, y9, y10, y11, h⟩ := round_ok (ns := ns) (k := k) (x2 := x2) (x3 := x3) (x4 := x4) (x5 := x5) (x6 := x6) (x7 := x7) (x8 := x8) (x9 := x9) (x10 := x10) (x11 := x11)
    simp only [put_v, stO_some, List.set_cons_succ, List.set_cons_zero]
    have e0 : ((0 : Int) + (k : Nat)) = (k : Nat) := by omega
    rw [e0, h]
    exact ⟨_, _, _, _, _, _, _, _, _, _, _, rfl⟩
  · rintro e ⟨x1, x2, x3, x4, x5, x6, x7, x8, x9, x10, x11, rfl⟩
    exact ⟨_, rfl⟩
theorem plain0 (ns : List Int) (h : ns.length ≤ 63) : ∃ e, m_36 [some (.scr ns), none, none, none, none, none, none, none, none, none, none, none, none] = .rt (.bl true) e := by
  obtain ⟨j, hj1, hj2, hj⟩ : ∃ j : Int, -1000 < j ∧ j < 1000 ∧ (mOp2 max2D (.e (mC (.int 2))) (.e (mOp2 min2D (.e (mOp1 lenD (.v 0))) (.e (mC (.int 4)))))) [some (.scr ns), none, none, none, none, none, none, none, none, none, none, none, none] = .ok (.int j) [some (.scr ns), none, none, none, none, none, none, none, none, none, none, none, none] := by
    by_cases h1 : (4 : Int) < (ns.length : Int)
    · exact ⟨4, by omega, by omega, by simp [h1, lenD]⟩
    · by_cases h2 : (ns.length : Int) > 2
      · exact ⟨ns.length, by omega, by omega, by simp [h1, h2, lenD]⟩
      · exact ⟨2, by omega, by omega, by simp [h1, h2, lenD]⟩
  obtain ⟨e, he⟩ := rounds ns j
  have rg : rngOk j = true := rngOk_s (by omega) (by omega)
  refine ⟨e, ?_⟩
  unfold m_36
  simp [ends_ok, hj, rg, he, -ap_op2]
theorem plain (ns : List Int) (h : ns.length ≤ 63) : ∃ fin, c_36 [.scr ns] = .ok (.bl true) fin := by
  obtain ⟨e, he⟩ := plain0 ns h
  unfold c_36 callF
  simp [he]
end LW

namespace LW
open PySem PySem.Spec PyProof.Rows L2 EV
def fn : List He.DefD := [d4, d5, d6, d7, d10, d11, d12, d13, d14, d15, d17, d18, d19, d20, d21, d22, d23, d24, d25, d26, d27, d28, d29, d30, d31, d32, d33, d34, d35, d36]
def fa : List He.Fa := [.glo "is_int", .glo "is_number", .glo "is_tuple", .glo "is_numbers", .glo "drawn_signs", .glo "drawn_rooms", .glo "does_settle", .glo "are_chances", .glo "source_fault", .glo "check_source", .glo "_law_take", .glo "_law_pick", .glo "_law_same", .glo "_law_closed", .glo "_law_service", .glo "_law_is_number", .glo "_law_box", .glo "_law_led", .glo "_law_chances", .glo "_law_rooms_from", .glo "_law_fault", .glo "_law_due", .glo "_law_asked", .glo "_law_alike", .glo "_law_put", .glo "_law_bent", .glo "_law_whole", .glo "_law_book_of", .glo "_law_ends", .glo "law"] ++ [.free "super", .free "len", .free "abs", .free "int", .free "tuple", .free "list", .free "sum", .free "max", .free "min", .free "isinstance", .free "range", .free "zip", .free "enumerate", .free "bool", .glo "OwnError", .glo "BadSource", .exm "BadSource" "BadSource" true, .exm "BadSource" "OwnError" true, .int "MOST_CHANCE" 60]
abbrev theRow : PySem.W.OpenRow := PySem.W.OpenLaw.row PySem.Challenge.rw_fairanyprice_k71_what_is_a_source
def cs : List ClD := [k1]
def kx : List (Str × Str × Bool) := []
abbrev theFile : Str := PySem.Challenge.pw_fairanyprice_k71_what_is_a_source.main.file
abbrev theHook : PySem.W.Hook := hookC theFile 4 fa fn cs kx
def seen (s : PySem.W.SharedT) : AlC :=
  obsCG theFile 4 fa fn cs kx (HandSHeadRun.getT s)
theorem seen_eq (s : PySem.W.SharedT) : seen s = theHook.obs s.abs := obsCG_eq (HandSHeadRun.getT_eq s)
theorem runs (w : World) : HandSHeadRun.RunEq theRow (PySem.W.view theRow.prog [36]) theHook seen 8000
    ((["OwnError", "BadSource", "is_int", "is_number", "is_tuple", "is_numbers", "MOST_CHANCE", "drawn_signs", "drawn_rooms", "does_settle", "are_chances", "source_fault", "check_source", "_law_take", "_law_pick", "_law_same", "_law_closed", "_law_service", "_law_is_number", "_law_box", "_law_led", "_law_chances", "_law_rooms_from", "_law_fault", "_law_due", "_law_asked", "_law_alike", "_law_put", "_law_bent", "_law_whole"] : List Str) ++ (["_law_book_of", "_law_ends"] : List Str)) w := by
  intro os
  kernel_rfl
theorem dn {w : World} {K : PySem.W.Frag} {h : Heap} {mg : Str → Option Value} (X : K.In h) (G : h.Ns mainGlobals mg) (cc : SaysC theFile fa fn cs kx K) : ∃ fd, Dn theRow.prog w K mg fd := by
  have c := cc.d
  obtain ⟨e4, F4⟩ := c.def_ 0 (d := d4) rfl
  obtain ⟨e5, F5⟩ := c.def_ 1 (d := d5) rfl
  obtain ⟨e6, F6⟩ := c.def_ 2 (d := d6) rfl
  obtain ⟨e7, F7⟩ := c.def_ 3 (d := d7) rfl
  obtain ⟨e10, F10⟩ := c.def_ 4 (d := d10) rfl
  obtain ⟨e11, F11⟩ := c.def_ 5 (d := d11) rfl
  obtain ⟨e12, F12⟩ := c.def_ 6 (d := d12) rfl
  obtain ⟨e13, F13⟩ := c.def_ 7 (d := d13) rfl
  obtain ⟨e14, F14⟩ := c.def_ 8 (d := d14) rfl
  obtain ⟨e15, F15⟩ := c.def_ 9 (d := d15) rfl
  obtain ⟨e17, F17⟩ := c.def_ 10 (d := d17) rfl
  obtain ⟨e18, F18⟩ := c.def_ 11 (d := d18) rfl
  obtain ⟨e19, F19⟩ := c.def_ 12 (d := d19) rfl
  obtain ⟨e20, F20⟩ := c.def_ 13 (d := d20) rfl
  obtain ⟨e21, F21⟩ := c.def_ 14 (d := d21) rfl
  obtain ⟨e22, F22⟩ := c.def_ 15 (d := d22) rfl
  obtain ⟨e23, F23⟩ := c.def_ 16 (d := d23) rfl
  obtain ⟨e24, F24⟩ := c.def_ 17 (d := d24) rfl
  obtain ⟨e25, F25⟩ := c.def_ 18 (d := d25) rfl
  obtain ⟨e26, F26⟩ := c.def_ 19 (d := d26) rfl
  obtain ⟨e27, F27⟩ := c.def_ 20 (d := d27) rfl
  obtain ⟨e28, F28⟩ := c.def_ 21 (d := d28) rfl
  obtain ⟨e29, F29⟩ := c.def_ 22 (d := d29) rfl
  obtain ⟨e30, F30⟩ := c.def_ 23 (d := d30) rfl
  obtain ⟨e31, F31⟩ := c.def_ 24 (d := d31) rfl
  obtain ⟨e32, F32⟩ := c.def_ 25 (d := d32) rfl
  obtain ⟨e33, F33⟩ := c.def_ 26 (d := d33) rfl
  obtain ⟨e34, F34⟩ := c.def_ 27 (d := d34) rfl
  obtain ⟨e35, F35⟩ := c.def_ 28 (d := d35) rfl
  obtain ⟨e36, F36⟩ := c.def_ 29 (d := d36) rfl
  refine ⟨fun n => match n with
    | 4 => e4
    | 5 => e5
    | 6 => e6
    | 7 => e7
    | 10 => e10
    | 11 => e11
    | 12 => e12
    | 13 => e13
    | 14 => e14
    | 15 => e15
    | 17 => e17
    | 18 => e18
    | 19 => e19
    | 20 => e20
    | 21 => e21
    | 22 => e22
    | 23 => e23
    | 24 => e24
    | 25 => e25
    | 26 => e26
    | 27 => e27
    | 28 => e28
    | 29 => e29
    | 30 => e30
    | 31 => e31
    | 32 => e32
    | 33 => e33
    | 34 => e34
    | 35 => e35
    | 36 => e36
    | _ => e4, ?_⟩
  exact {
    f4 := F4
    m4 := He.glo_ok X G (c.fact 0 (f := .glo "is_int") rfl)
    f5 := F5
    m5 := He.glo_ok X G (c.fact 1 (f := .glo "is_number") rfl)
    f6 := F6
    m6 := He.glo_ok X G (c.fact 2 (f := .glo "is_tuple") rfl)
    f7 := F7
    m7 := He.glo_ok X G (c.fact 3 (f := .glo "is_numbers") rfl)
    f10 := F10
    m10 := He.glo_ok X G (c.fact 4 (f := .glo "drawn_signs") rfl)
    f11 := F11
    m11 := He.glo_ok X G (c.fact 5 (f := .glo "drawn_rooms") rfl)
    f12 := F12
    m12 := He.glo_ok X G (c.fact 6 (f := .glo "does_settle") rfl)
    f13 := F13
    m13 := He.glo_ok X G (c.fact 7 (f := .glo "are_chances") rfl)
    f14 := F14
    m14 := He.glo_ok X G (c.fact 8 (f := .glo "source_fault") rfl)
    f15 := F15
    m15 := He.glo_ok X G (c.fact 9 (f := .glo "check_source") rfl)
    f17 := F17
    m17 := He.glo_ok X G (c.fact 10 (f := .glo "_law_take") rfl)
    f18 := F18
    m18 := He.glo_ok X G (c.fact 11 (f := .glo "_law_pick") rfl)
    f19 := F19
    m19 := He.glo_ok X G (c.fact 12 (f := .glo "_law_same") rfl)
    f20 := F20
    m20 := He.glo_ok X G (c.fact 13 (f := .glo "_law_closed") rfl)
    f21 := F21
    m21 := He.glo_ok X G (c.fact 14 (f := .glo "_law_service") rfl)
    f22 := F22
    m22 := He.glo_ok X G (c.fact 15 (f := .glo "_law_is_number") rfl)
    f23 := F23
    m23 := He.glo_ok X G (c.fact 16 (f := .glo "_law_box") rfl)
    f24 := F24
    m24 := He.glo_ok X G (c.fact 17 (f := .glo "_law_led") rfl)
    f25 := F25
    m25 := He.glo_ok X G (c.fact 18 (f := .glo "_law_chances") rfl)
    f26 := F26
    m26 := He.glo_ok X G (c.fact 19 (f := .glo "_law_rooms_from") rfl)
    f27 := F27
    m27 := He.glo_ok X G (c.fact 20 (f := .glo "_law_fault") rfl)
    f28 := F28
    m28 := He.glo_ok X G (c.fact 21 (f := .glo "_law_due") rfl)
    f29 := F29
    m29 := He.glo_ok X G (c.fact 22 (f := .glo "_law_asked") rfl)
    f30 := F30
    m30 := He.glo_ok X G (c.fact 23 (f := .glo "_law_alike") rfl)
    f31 := F31
    m31 := He.glo_ok X G (c.fact 24 (f := .glo "_law_put") rfl)
    f32 := F32
    m32 := He.glo_ok X G (c.fact 25 (f := .glo "_law_bent") rfl)
    f33 := F33
    m33 := He.glo_ok X G (c.fact 26 (f := .glo "_law_whole") rfl)
    f34 := F34
    m34 := He.glo_ok X G (c.fact 27 (f := .glo "_law_book_of") rfl)
    f35 := F35
    m35 := He.glo_ok X G (c.fact 28 (f := .glo "_law_ends") rfl)
    f36 := F36
    m36 := He.glo_ok X G (c.fact 29 (f := .glo "law") rfl)
    fr := fun x hx => by
      rcases List.mem_cons.mp hx with hx | hx
      · subst hx; exact He.free_ok X G (c.fact 30 (f := .free "super") rfl)
      rcases List.mem_cons.mp hx with hx | hx
      · subst hx; exact He.free_ok X G (c.fact 31 (f := .free "len") rfl)
      rcases List.mem_cons.mp hx with hx | hx
      · subst hx; exact He.free_ok X G (c.fact 32 (f := .free "abs") rfl)
      rcases List.mem_cons.mp hx with hx | hx
      · subst hx; exact He.free_ok X G (c.fact 33 (f := .free "int") rfl)
      rcases List.mem_cons.mp hx with hx | hx
      · subst hx; exact He.free_ok X G (c.fact 34 (f := .free "tuple") rfl)
      rcases List.mem_cons.mp hx with hx | hx
      · subst hx; exact He.free_ok X G (c.fact 35 (f := .free "list") rfl)
      rcases List.mem_cons.mp hx with hx | hx
      · subst hx; exact He.free_ok X G (c.fact 36 (f := .free "sum") rfl)
      rcases List.mem_cons.mp hx with hx | hx
      · subst hx; exact He.free_ok X G (c.fact 37 (f := .free "max") rfl)
      rcases List.mem_cons.mp hx with hx | hx
      · subst hx; exact He.free_ok X G (c.fact 38 (f := .free "min") rfl)
      rcases List.mem_cons.mp hx with hx | hx
      · subst hx; exact He.free_ok X G (c.fact 39 (f := .free "isinstance") rfl)
      rcases List.mem_cons.mp hx with hx | hx
      · subst hx; exact He.free_ok X G (c.fact 40 (f := .free "range") rfl)
      rcases List.mem_cons.mp hx with hx | hx
      · subst hx; exact He.free_ok X G (c.fact 41 (f := .free "zip") rfl)
      rcases List.mem_cons.mp hx with hx | hx
      · subst hx; exact He.free_ok X G (c.fact 42 (f := .free "enumerate") rfl)
      rcases List.mem_cons.mp hx with hx | hx
      · subst hx; exact He.free_ok X G (c.fact 43 (f := .free "bool") rfl)
      cases hx
    mx0 := He.glo_ok X G (c.fact 44 (f := .glo "OwnError") rfl)
    mx1 := He.glo_ok X G (c.fact 45 (f := .glo "BadSource") rfl)
    x1 := cl_ok (n := 1) (c := k1) kok1 (cc.cl 0 (d := k1) rfl).1 (cc.cl 0 (d := k1) rfl).2 (by decide +kernel) (He.glo_ok X G (c.fact 45 (f := .glo "BadSource") rfl)) rfl rfl
    xf1 := (cl_ok (prog := theRow.prog) (w := w) (mg := mg) (g := g0 K) (n := 1) (c := k1) kok1 (cc.cl 0 (d := k1) rfl).1 (cc.cl 0 (d := k1) rfl).2 (by decide +kernel) (He.glo_ok X G (c.fact 45 (f := .glo "BadSource") rfl)) rfl rfl).xf
    xe1 := exc_of (cc.cl 0 (d := k1) rfl).2
    xo1 := (cl_ok (prog := theRow.prog) (w := w) (mg := mg) (g := g0 K) (n := 1) (c := k1) kok1 (cc.cl 0 (d := k1) rfl).1 (cc.cl 0 (d := k1) rfl).2 (by decide +kernel) (He.glo_ok X G (c.fact 45 (f := .glo "BadSource") rfl)) rfl rfl).no
    em1_1 := He.exm_ok (c.fact 46 (f := .exm "BadSource" "BadSource" true) rfl)
    em1_0 := He.exm_ok (c.fact 47 (f := .exm "BadSource" "OwnError" true) rfl)
    gi_MOST_CHANCE := He.int_ok X G (c.fact 48 (f := .int "MOST_CHANCE" 60) rfl)
  }
end LW
open PySem PySem.W PySem.Calls PyProof.Rows
theorem PySem.Challenge.cw_fairanyprice_k71_what_is_a_source_holds : PySem.Challenge.rw_fairanyprice_k71_what_is_a_source.Holds := by
  w_on; o_law
  refine HandSHeadRun.head_any (r := LW.theRow) (q := view LW.theRow.prog [36]) (H := LW.theHook) (ob := LW.seen)
    (M := 8000) (loose := ((["OwnError", "BadSource", "is_int", "is_number", "is_tuple", "is_numbers", "MOST_CHANCE", "drawn_signs", "drawn_rooms", "does_settle", "are_chances", "source_fault", "check_source", "_law_take", "_law_pick", "_law_same", "_law_closed", "_law_service", "_law_is_number", "_law_box", "_law_led", "_law_chances", "_law_rooms_from", "_law_fault", "_law_due", "_law_asked", "_law_alike", "_law_put", "_law_bent", "_law_whole"] : List PySem.Str) ++ (["_law_book_of", "_law_ends"] : List PySem.Str)))
    (d := HandSHeadRun.topDef LW.theRow.prog 36) (kwd := []) LW.seen_eq
    (by kernel_rfl) (fun s => by kernel_rfl) LW.runs (by kernel_rfl) (by kernel_rfl) (by kernel_rfl)
    (by rfl) (by first | assumption | decide +kernel) (by decide +kernel)
    ⟨rfl, rfl, rfl, rfl, rfl, by decide +kernel⟩ ?hw ?hc
  case hw => w_witness2
  case hc =>
    refine L2.walk_ofE (l := PySem.Challenge.rw_fairanyprice_k71_what_is_a_source) (n := 63) (k := 43) (x := "script")
      (CX := fun o H s E u s' => ∃ w, L2.CX PySem.Challenge.rw_fairanyprice_k71_what_is_a_source.prog w o H s E u s')
      rfl (by decide) (by kernel_rfl) ⟨rfl, by decide, by decide⟩ ?F (fun _ _ _ _ ⟨_, _, _, _, _, _, _, _, _, _, _, _, _, z⟩ => z)
    intro w mg fa h Y G hmg0
    obtain ⟨K, KX, c⟩ := Y
    obtain ⟨fd, T⟩ := LW.dn (w := w) KX G c
    have hmg : mg ("law" : PySem.Str) = some (.ref fa) := by
      have e : (HandSHeadRun.topDef LW.theRow.prog 36).name = ("law" : PySem.Str) := by kernel_rfl
      rw [← e]; exact hmg0
    have e := hmg.symm.trans T.m36
    injection e with e
    injection e with e
    subst e
    refine ⟨K, fd 36, EV.Prom ⟨LW.g0 K, K⟩ LW.mask_36 LW.c_36, KX, fun s u => ?_, fun H a ns hl _ hS => ?_, fun base _ _ => ?_⟩
    · exact L2.FunD.bindsA (ps := ["script"]) T.f36 (fun _ _ _ _ _ _ us hl => match us, hl with | [_], _ => rfl) s [u] rfl
    · obtain ⟨fin, hp⟩ := LW.plain ns hl
      refine ⟨rfl, H, [], [.scr ns], EV.ROs.consZ (.scr hS) .nil, List.nodup_nil, (fun _ z => nomatch z), (fun _ _ z => z), ?_⟩
      rw [hp]
      exact fun v F' H' q r ro _ _ _ _ _ => ro.bl_inv
    · exact EV.weakCX (fun o H s E u s' z => ⟨w, z⟩) (LW.ok_36 T)
